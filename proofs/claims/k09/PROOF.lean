import PyProof.Rows.All
import Wide.All
import OpenK.AllK
import Wide.FinOn
import KE.KStateDown
import HandS.Ends
import HandS.Defaults
import HandS.Head0
import HandS.Head1
import HandS.Head2
import HandS.HeadEnd
import HandS.HeadHook1
import HandS.HeadHook2
import HandS.HeadHook3
import HandS.HeadHook4
import HandS.Exc
import HandS.ForMost
import HandS.ForExc
import HandS.TryMany
import HandS.CallSlots
import HandS.Wide
import HandS.TupAny
import HandS.IsInst
import HandS.Style
import HandS.Zip
import HandS.Small
import HandS.More
import HandS.Deep
import HandS.ExcInit
import HandS.ExcField
import HandS.ExcIs
import KE.GoesEnum
import KE.GoesMore
import KE.KDictKeyed
import KE.KDictDisplayH
import HandS.DictComp
import HandS.Replace
import HandS.Conv
import HandS.Text
import HandS.Dict
import HandS.ClsMeth
import PyProof.StrLawsTight
import HandS.SetTxt0
import HandS.Set
import HandS.SetFor
import HandS.Strs
import PyProof.Rows.SortStr
import HandS.StrMore
import PyProof.Rows.StrCut
import HandS.ListEq
import HandS.FStr
import KE.KEqNest
import HandS.ExcOwn
import KE.KIsAll
import HandS.TupSets
import KE.KSortTupG
import KE.KDictWalk
import KE.KDictZip
import KE.KDictItemsList
import HandS.ListItems
import KE.KTupSum
import PyProof.LongRange
import PyProof.ListRange
import KE.SortData
import KE.DataCmp
import HandS.WordsExc
import KE.KExcIs
import PySem.Challenge.RW_nearerwork_k09_refusals_by_hand
set_option Elab.async false
set_option linter.all false
set_option maxRecDepth 100000
set_option maxHeartbeats 4000000
namespace VI
open PySem PySem.Spec PyProof.Rows L2
/-! ### what the top has left, by one look -/
/-- facts of the written part; an owner `o` says in which class a method stands -/
inductive FX where
  | glo (x : Str) | fre (x : Str) | cls (c : Str) | noat (c f : Str) | met (c m o : Str) | mak (c o : Str) | mk0 (c : Str)
  | isi (c d : Str) (b : Bool) | inst (c : Str) | gst | cin (c m o : Str) | st (x z : Str) | it (x : Str) (i : Int) | tu (x : Str) (l : List Str)
  | exr (x : Str) | exm (x y : Str) (b : Bool) | exc (x : Str) | kve (x : Str)
  | oex (c : Str) | xin (c o : Str) | nof (c f : Str) | vei (c : Str)
def clsAt (K : PySem.W.Frag) (c : Str) : Addr := He.ga K c
def metAt (K : PySem.W.Frag) (o m : Str) : Addr := He.ma K (He.ga K o) m
def valIs (f : Option PySem.W.CFound) (u : Value) : Bool := match f with
  | some (.val v) => decide (v = u)
  | _ => false
def oexB (K : PySem.W.Frag) (C : Addr) : Bool := match K.lookup C with
  | some ⟨.type "type", _, .cls cd, sl⟩ => (match cd.mro, sl.toList with
    | .ref C' :: bm, [_, _, _, _, some (.builtin n), _] => C' == C && (n == "ValueError.__new__" && (!cd.hasDel && (cd.hasDict && PySem.HandSPX.refsVE bm)))
    | _, _ => false)
  | _ => false
def FX.ok (K : PySem.W.Frag) : FX → Bool
  | .glo x => (He.Fa.glo x).ok K
  | .fre x => (He.Fa.free x).ok K
  | .cls c => (He.Fa.cls c).ok K
  | .noat c f => (He.Fa.noat c f).ok K
  | .met c m o => He.eqO (PySem.W.findIn K (.ref (clsAt K c)) m) (some (some (.ref (metAt K o m)))) && (PySem.W.isFn K (.ref (metAt K o m)) && PySem.W.keepIn K (.ref (metAt K o m)))
  | .mak c o => PySem.W.makesIn K (clsAt K c) && (He.eqO (PySem.W.findIn K (.ref (clsAt K c)) "__init__") (some (some (.ref (metAt K o "__init__")))) && (PySem.W.isFn K (.ref (metAt K o "__init__")) && PySem.W.keepIn K (.ref (clsAt K c))))
  | .mk0 c => PySem.W.makesIn K (clsAt K c) && (He.eqO (PySem.W.findIn K (.ref (clsAt K c)) "__init__") (some (some (.builtin "object.__init__"))) && PySem.W.keepIn K (.ref (clsAt K c)))
  | .isi c d b => decide (PySem.W.kitOne K (.ref (clsAt K c)) (.ref (clsAt K d)) = some b)
  | .inst c => He.eqO (PySem.W.findIn K (.ref (clsAt K c)) "__class__") (some (some (.builtin "object.__class__"))) && decide (PySem.W.mroIn K (clsAt K c) (.type "object") = some true)
  | .gst => He.eqO (PySem.W.specialIn K (.builtin "object.__class__") "__get__") (some (some (.builtin "getset_descriptor.__get__"))) && decide (PySem.W.takesIn K (.builtin "object.__class__") = some true)
  | .cin c m o => PySem.W.readsIn K (clsAt K c) (.type "type") && (He.eqO (PySem.W.specialIn K (.ref (clsAt K c)) "__getattribute__") (some (some (.builtin "type.__getattribute__"))) && valIs (PySem.W.findCls K (.ref (clsAt K c)) (.type "type") m) (.ref (metAt K o m)))
  | .st x z => (He.Fa.str x z).ok K
  | .it x i => (He.Fa.int x i).ok K
  | .tu x l => (He.Fa.glo x).ok K && He.tupB K x (l.map He.Dv.str)
  | .exr x => (He.Fa.exc x).ok K
  | .exm x y b => (He.Fa.exm x y b).ok K
  | .exc x => He.eqO (PySem.W.findIn K (.ref (clsAt K x)) "__getattribute__") (some (some (.builtin "BaseException.__getattribute__"))) && (He.eqO (PySem.W.findIn K (.ref (clsAt K x)) "__getattr__") (some none) &&
      (decide (PySem.W.subIn K (.ref (clsAt K x)) (.type "BaseException") = some true) && PySem.W.hasDictIn K (clsAt K x)))
  | .kve x => decide (PySem.W.kitOne K (.ref (clsAt K x)) (.type "ValueError") = some true)
  | .oex x => oexB K (clsAt K x) && (He.eqO (PySem.W.findIn K (.ref (clsAt K x)) "__setattr__") (some (some (.builtin "object.__setattr__"))) && (decide (PySem.W.subIn K (.ref (clsAt K x)) (.type "BaseException") = some true) &&
      (decide (PySem.W.typeIn K (.ref (clsAt K x)) = some (.type "type")) && PySem.W.keepIn K (.ref (clsAt K x)))))
  | .xin c o => He.eqO (PySem.W.findIn K (.ref (clsAt K c)) "__init__") (some (some (.ref (metAt K o "__init__")))) && decide (PySem.W.typeIn K (.ref (metAt K o "__init__")) = some (.type "function"))
  | .nof c f => He.eqO (PySem.W.findIn K (.ref (clsAt K c)) f) (some none)
  | .vei c => PySem.W.readsIn K (clsAt K c) (.type "type") && (He.eqO (PySem.W.specialIn K (.ref (clsAt K c)) "__getattribute__") (some (some (.builtin "type.__getattribute__"))) && valIs (PySem.W.findCls K (.ref (clsAt K c)) (.type "type") "__init__") (.builtin "ValueError.__init__"))
def fxs (l : List FX) (K : PySem.W.Frag) : Bool := l.all fun f => f.ok K
/-! ### the look at what stands at given addresses -/
abbrev LookT : Type := He.AlD × Bool
def lookL (as : List Addr) (fn : List He.DefD) (ex : PySem.W.Frag → Bool) (g : Addr → Option Obj) : LookT := (He.obsD [] fn (He.frG g as), ex (He.frG g as))
structure SeenV (fn : List He.DefD) (ex : PySem.W.Frag → Bool) (K : PySem.W.Frag) : Prop where
  d : He.SaysD [] fn K
  more : ex K = true
def hookL (as : List Addr) (fn : List He.DefD) (ex : PySem.W.Frag → Bool) : PySem.W.Hook where
  α := LookT
  obs := fun s => lookL as fn ex s.heap.get?
  val := fun _ => (He.valD fn, true)
  says := fun _ h => ∃ K : PySem.W.Frag, K.In h ∧ SeenV fn ex K
  of := fun _ s e => ⟨He.frG s.heap.get? as, He.frG_in, ⟨congrArg Prod.fst e, congrArg Prod.snd e⟩⟩
  keeps := fun _ _ _ ⟨K, hK, c⟩ k => ⟨K, PySem.W.Frag.In.keeps hK k, c⟩
theorem lookL_eq {as : List Addr} {fn : List He.DefD} {ex : PySem.W.Frag → Bool} {g : Addr → Option Obj} {s : Shared} (h : ∀ a, g a = s.heap.get? a) : lookL as fn ex g = (hookL as fn ex).obs s := by
  have e : g = s.heap.get? := funext h
  subst e
  rfl
end VI
namespace VI
open PySem PySem.Spec PyProof.Rows L2
def topS (i : Nat) : Stmt := PySem.Challenge.pw_nearerwork_k09_refusals_by_hand.main.body.getD i (.Pass ⟨0, 0, 0, 0⟩)
abbrev st__law_draw : Stmt := topS 16
abbrev st__law_room : Stmt := topS 17
abbrev st__law_run : Stmt := topS 18
abbrev st__law_kinds : Stmt := topS 19
abbrev st__law_alone : Stmt := topS 20
abbrev st_law_k09 : Stmt := topS 21
abbrev st_NoAnswer___init__ : Stmt := inClass (topS 11) 0
abbrev st_Unkept___init__ : Stmt := inClass (topS 12) 0
abbrev st_NotNearer___init__ : Stmt := inClass (topS 13) 0
abbrev st_NotFalling___init__ : Stmt := inClass (topS 14) 0
/-! ## what the top has left -/
def fxl0 : List FX := [.fre "ValueError", .fre "enumerate", .fre "isinstance", .fre "range", .fre "tuple", .glo "_law_draw", .glo "_law_room", .glo "_law_run", .glo "_law_kinds", .glo "_law_alone", .glo "law", .glo "NoAnswer", .glo "NoMachine", .glo "NoName", .glo "NoRange", .glo "NoRun", .glo "NoStep", .glo "NoText", .glo "NoTie", .glo "NotFalling", .glo "NotNearer", .glo "TooMany", .glo "Twice", .glo "Unkept", .glo "WorkError", .isi "Unkept" "WorkError" true, .exc "Unkept", .inst "Unkept", .gst, .isi "Unkept" "Unkept" true]
def fxl1 : List FX := [.isi "Unkept" "Twice" false, .isi "Unkept" "TooMany" false, .isi "Unkept" "NotNearer" false, .isi "Unkept" "NotFalling" false, .isi "Unkept" "NoTie" false, .isi "Unkept" "NoText" false, .isi "Unkept" "NoStep" false, .isi "Unkept" "NoRun" false, .isi "Unkept" "NoRange" false, .isi "Unkept" "NoName" false, .isi "Unkept" "NoMachine" false, .isi "Unkept" "NoAnswer" false, .isi "NotNearer" "WorkError" true, .exc "NotNearer", .inst "NotNearer", .isi "NotNearer" "Unkept" false, .isi "NotNearer" "Twice" false, .isi "NotNearer" "TooMany" false, .isi "NotNearer" "NotNearer" true, .isi "NotNearer" "NotFalling" false, .isi "NotNearer" "NoTie" false, .isi "NotNearer" "NoText" false, .isi "NotNearer" "NoStep" false, .isi "NotNearer" "NoRun" false, .isi "NotNearer" "NoRange" false, .isi "NotNearer" "NoName" false, .isi "NotNearer" "NoMachine" false, .isi "NotNearer" "NoAnswer" false, .isi "NotFalling" "WorkError" true, .exc "NotFalling"]
def fxl2 : List FX := [.inst "NotFalling", .isi "NotFalling" "Unkept" false, .isi "NotFalling" "Twice" false, .isi "NotFalling" "TooMany" false, .isi "NotFalling" "NotNearer" false, .isi "NotFalling" "NotFalling" true, .isi "NotFalling" "NoTie" false, .isi "NotFalling" "NoText" false, .isi "NotFalling" "NoStep" false, .isi "NotFalling" "NoRun" false, .isi "NotFalling" "NoRange" false, .isi "NotFalling" "NoName" false, .isi "NotFalling" "NoMachine" false, .isi "NotFalling" "NoAnswer" false, .isi "NoAnswer" "WorkError" true, .exc "NoAnswer", .inst "NoAnswer", .isi "NoAnswer" "Unkept" false, .isi "NoAnswer" "Twice" false, .isi "NoAnswer" "TooMany" false, .isi "NoAnswer" "NotNearer" false, .isi "NoAnswer" "NotFalling" false, .isi "NoAnswer" "NoTie" false, .isi "NoAnswer" "NoText" false, .isi "NoAnswer" "NoStep" false, .isi "NoAnswer" "NoRun" false, .isi "NoAnswer" "NoRange" false, .isi "NoAnswer" "NoName" false, .isi "NoAnswer" "NoMachine" false, .isi "NoAnswer" "NoAnswer" true]
def fxl3 : List FX := [.kve "Unkept", .kve "NotNearer", .kve "NotFalling", .kve "NoAnswer", .nof "Unkept" "run", .nof "Unkept" "number", .nof "NotNearer" "verdict", .nof "NotFalling" "room", .nof "NotFalling" "called", .nof "NotFalling" "run", .nof "NoAnswer" "step", .xin "NoAnswer" "NoAnswer", .vei "WorkError", .oex "NoAnswer", .xin "NotFalling" "NotFalling", .oex "NotFalling", .xin "NotNearer" "NotNearer", .oex "NotNearer", .xin "Unkept" "Unkept", .oex "Unkept"]
def fxl : List FX := fxl0 ++ (fxl1 ++ (fxl2 ++ (fxl3)))
def dd0 : He.DefD := ⟨("_law_draw", none), "_law_draw", "_law_draw", defArgs st__law_draw, defBody st__law_draw, defScope st__law_draw, [], []⟩
def dd1 : He.DefD := ⟨("_law_room", none), "_law_room", "_law_room", defArgs st__law_room, defBody st__law_room, defScope st__law_room, [], []⟩
def dd2 : He.DefD := ⟨("_law_run", none), "_law_run", "_law_run", defArgs st__law_run, defBody st__law_run, defScope st__law_run, [], []⟩
def dd3 : He.DefD := ⟨("_law_kinds", none), "_law_kinds", "_law_kinds", defArgs st__law_kinds, defBody st__law_kinds, defScope st__law_kinds, [], []⟩
def dd4 : He.DefD := ⟨("_law_alone", none), "_law_alone", "_law_alone", defArgs st__law_alone, defBody st__law_alone, defScope st__law_alone, [], []⟩
def dd5 : He.DefD := ⟨("law", none), "law", "law", defArgs st_law_k09, defBody st_law_k09, defScope st_law_k09, [], []⟩
def dd6 : He.DefD := ⟨("NoAnswer", some "__init__"), "__init__", "NoAnswer.__init__", defArgs st_NoAnswer___init__, defBody st_NoAnswer___init__, defScope st_NoAnswer___init__, [], []⟩
def dd7 : He.DefD := ⟨("NotFalling", some "__init__"), "__init__", "NotFalling.__init__", defArgs st_NotFalling___init__, defBody st_NotFalling___init__, defScope st_NotFalling___init__, [], []⟩
def dd8 : He.DefD := ⟨("NotNearer", some "__init__"), "__init__", "NotNearer.__init__", defArgs st_NotNearer___init__, defBody st_NotNearer___init__, defScope st_NotNearer___init__, [], []⟩
def dd9 : He.DefD := ⟨("Unkept", some "__init__"), "__init__", "Unkept.__init__", defArgs st_Unkept___init__, defBody st_Unkept___init__, defScope st_Unkept___init__, [], []⟩
def fnl0 : List He.DefD := [dd0, dd1, dd2, dd3, dd4, dd5, dd6, dd7, dd8, dd9]
def fnl : List He.DefD := fnl0
def asl : List Addr := [2, 3, 24, 37, 49, 61, 73, 85, 97, 109, 121, 133, 152, 171, 190, 209, 218, 223, 228, 235, 240, 245, 149, 168,
  187, 206, 216, 221, 226, 233, 238, 243, 23, 36, 48, 60, 72, 84, 96, 108, 120, 132, 151, 170, 189, 208, 217, 222,
  227, 234, 239, 244, 148, 167, 186, 205]
def loo0 : List PySem.Str := ["WorkError", "NoText", "TooMany", "NoRange", "Twice", "NoName", "NoStep", "NoRun", "NoTie", "NoMachine", "NoAnswer", "Unkept", "NotNearer", "NotFalling", "_law_draw", "_law_room", "_law_run", "_law_kinds", "_law_alone"]
def loo : List PySem.Str := loo0
abbrev RR : PySem.W.OpenRow := PySem.W.OpenLaw.row PySem.Challenge.rw_nearerwork_k09_refusals_by_hand
abbrev hk : PySem.W.Hook := hookL asl fnl (fxs fxl)
def obT (s : PySem.W.SharedT) : LookT := lookL asl fnl (fxs fxl) (HandSHeadRun.getT s)
theorem obT_eq (s : PySem.W.SharedT) : obT s = hk.obs s.abs := lookL_eq (HandSHeadRun.getT_eq s)
theorem run_two {α β γ δ : Type} {o : Option α} {a : α → β} {b : α → γ} {c : α → δ} {t : β} {g : γ} {v : δ} (h1 : o.map (fun s => (a s, b s)) = some (t, g)) (h2 : o.map c = some v) : o.map (fun s => (a s, b s, c s)) = some (t, g, v) := by
  cases o with
  | none => cases h1
  | some x =>
    simp only [Option.map_some, Option.some.injEq, Prod.mk.injEq] at h1 h2 ⊢
    exact ⟨h1.1, h1.2, h2⟩
section
open PySem.W PySem.Calls HandSHeadRun
abbrev qq : Program := view RR.prog [21]
theorem topA (w : World) (os : OsState) : (endF (stepQ (denQ tabQ) RR.prog w) 40000 RR.prog w os).map (fun s => (looksF RR.prog (boot_heap w.params) s.abs, seenQ qq loo (importedModules RR.prog.main.body) (fun s => xlAt qq [] s && recOk RR.toRowW.records s) s.abs)) = some (true, openGood qq loo) := by
  kernel_rfl
theorem topB (w : World) (os : OsState) : (endF (stepQ (denQ tabQ) RR.prog w) 40000 RR.prog w os).map obT = some (hk.val w) := by
  kernel_rfl
theorem run (w : World) : RunEq RR qq hk obT 40000 loo w := fun os => run_two (topA w os) (topB w os)
end
end VI
namespace VI
open PySem PySem.Spec PyProof.Rows L2
/-! ### data -/
inductive D where
  | non | bl (b : Bool) | int (i : Int) | str (s : Str) | tup (l : List D) | lst (l : List D)
  | dic (l : List (D × D)) | set (l : List D) | ins (c : Str) (fs : List (Str × D)) | ty (t : String) | cls (c : Str)
  deriving Inhabited
inductive O where
  | pure (d : D) | lst (l : List D) | dic (l : List (D × D)) | ins (c : Str) (fs : List (Str × O)) | hole | lls (l : List (List D)) | dct (l : List (D × D)) | tpl (os : List O)
  deriving Inhabited
mutual
def O.er : O → D
  | .pure d => d
  | .lst l => .lst l
  | .dic l => .dic l
  | .ins c fs => .ins c (O.erF fs)
  | .hole => .non
  | .lls l => .lst (l.map D.lst)
  | .dct _ => .non
  | .tpl os => .tup (O.erL os)
def O.erF : List (Str × O) → List (Str × D)
  | [] => []
  | (f, o) :: r => (f, o.er) :: O.erF r
def O.erL : List O → List D
  | [] => []
  | o :: r => o.er :: O.erL r
end
inductive Slot where
  | un | par (o : O) | loc (o : O)
  deriving Inhabited
def Slot.obj : Slot → Option O
  | .un => none | .par o => some o | .loc o => some o
def Slot.wth : Slot → O → Slot
  | .un, _ => .un | .par _, o => .par o | .loc _, o => .loc o
abbrev G := List Slot
inductive R where
  | val (o : O) | slot (i : Nat) | sub (i k : Nat)
inductive Res (α : Type) where
  | ok (a : α) (g : G) | exc (x : D) (g : G) | stuck
def Res.bind {α β : Type} : Res α → (α → G → Res β) → Res β
  | .ok a g, k => k a g
  | .exc x g, _ => .exc x g
  | .stuck, _ => .stuck
abbrev E := G → Res R
structure Wd where
  K : PySem.W.Frag
  cl : Str → Option Addr
def kD : Key → D
  | .inl i => .int i
  | .inr s => .str s
/-! ### heaps -/
def Ex (H H' : Hp) : Prop := ∀ a o, H a = some o → H' a = some o
theorem Ex.refl (H : Hp) : Ex H H := fun _ _ h => h
theorem Ex.trans {H H1 H2 : Hp} (a : Ex H H1) (b : Ex H1 H2) : Ex H H2 := fun x o h => b x o (a x o h)
theorem Ex.new {H : Hp} {p : Addr} {o : HO} (h : H p = none) : Ex H (upd H p o) := fun a u e => by
  rw [upd_ne (ne_of_none e h)]; exact e
theorem ex_rd {H H' : Hp} {a : Addr} {u : HO} (e : Ex H H') (h : Rd H a u) : Rd H' a u := by
  rcases h with h | ⟨o, h⟩
  · exact Or.inl (e a _ h)
  · exact Or.inr ⟨o, e a _ h⟩
theorem ex_l {K : PySem.W.Frag} {H H' : Hp} {a : Addr} {xs : List V} (e : Ex H H') (h : SqL K H a xs) : SqL K H' a xs := by
  rcases h with h | h
  · exact Or.inl (ex_rd e h)
  · exact Or.inr h
theorem ex_t {K : PySem.W.Frag} {H H' : Hp} {a : Addr} {xs : List V} (e : Ex H H') (h : SqT K H a xs) : SqT K H' a xs := by
  rcases h with h | h
  · exact Or.inl (ex_rd e h)
  · exact Or.inr h
mutual
inductive RepF (W : Wd) (H : Hp) : V → D → Prop
  | non : RepF W H .non .non
  | bl (b : Bool) : RepF W H (.bl b) (.bl b)
  | int (i : Int) : RepF W H (.int i) (.int i)
  | str (s : Str) : RepF W H (.str s) (.str s)
  | ty (t : String) : RepF W H (.ty t) (.ty t)
  | cls {c : Str} {C : Addr} : W.cl c = some C → RepF W H (.ref C) (.cls c)
  | tup {p : Addr} {vs : List V} {ds : List D} : SqT W.K H p vs → RepFs W H vs ds → RepF W H (.ref p) (.tup ds)
  | lst {p : Addr} {vs : List V} {ds : List D} : SqL W.K H p vs → RepFs W H vs ds → RepF W H (.ref p) (.lst ds)
  | dic {p : Addr} {kvs : List (Key × V)} {l : List (D × D)} : H p = some (.dK kvs) → RepFk W H kvs l → RepF W H (.ref p) (.dic l)
  | ins {p : Addr} {c : Str} {C dx : Addr} {fs : List (Str × V)} {ds : List (Str × D)} : H p = some (.ins C dx fs) → W.cl c = some C → RepFf W H fs ds → RepF W H (.ref p) (.ins c ds)
  | exi {p : Addr} {c : Str} {C dx : Addr} {fs : List (Str × V)} {ds : List (Str × D)} : H p = some (exo p C (some dx)) → H dx = some (exd dx fs) → W.cl c = some C → XfC W.K C → RepFf W H fs ds → RepF W H (.ref p) (.ins c ds)
  | set {p : Addr} {od : Obj} {kvs : List (Key × V)} {l : List (D × D)} : H p = some (.frz od (.dK kvs)) → RepFk W H kvs l → RepF W H (.ref p) (.set (l.map fun q => .tup [q.1, q.2]))
inductive RepFs (W : Wd) (H : Hp) : List V → List D → Prop
  | nil : RepFs W H [] []
  | cons {v : V} {d : D} {vs : List V} {ds : List D} : RepF W H v d → RepFs W H vs ds → RepFs W H (v :: vs) (d :: ds)
inductive RepFk (W : Wd) (H : Hp) : List (Key × V) → List (D × D) → Prop
  | nil : RepFk W H [] []
  | cons {k : Key} {v : V} {d : D} {vs : List (Key × V)} {ds : List (D × D)} : RepF W H v d → RepFk W H vs ds → RepFk W H ((k, v) :: vs) ((kD k, d) :: ds)
inductive RepFf (W : Wd) (H : Hp) : List (Str × V) → List (Str × D) → Prop
  | nil : RepFf W H [] []
  | cons {f : Str} {v : V} {d : D} {vs : List (Str × V)} {ds : List (Str × D)} : RepF W H v d → RepFf W H vs ds → RepFf W H ((f, v) :: vs) ((f, d) :: ds)
end
mutual
theorem RepF.mono {W : Wd} {H H' : Hp} (e : Ex H H') : ∀ {v : V} {d : D}, RepF W H v d → RepF W H' v d
  | _, _, .non => .non
  | _, _, .bl b => .bl b
  | _, _, .int i => .int i
  | _, _, .str s => .str s
  | _, _, .ty t => .ty t
  | _, _, .cls h => .cls h
  | _, _, .tup h r => .tup (ex_t e h) (RepFs.mono e r)
  | _, _, .lst h r => .lst (ex_l e h) (RepFs.mono e r)
  | _, _, .dic h r => .dic (e _ _ h) (RepFk.mono e r)
  | _, _, .ins h c r => .ins (e _ _ h) c (RepFf.mono e r)
  | _, _, .exi h h2 c x r => .exi (e _ _ h) (e _ _ h2) c x (RepFf.mono e r)
  | _, _, .set h r => .set (e _ _ h) (RepFk.mono e r)
theorem RepFs.mono {W : Wd} {H H' : Hp} (e : Ex H H') : ∀ {v : List V} {d : List D}, RepFs W H v d → RepFs W H' v d
  | _, _, .nil => .nil
  | _, _, .cons h r => .cons (RepF.mono e h) (RepFs.mono e r)
theorem RepFk.mono {W : Wd} {H H' : Hp} (e : Ex H H') : ∀ {v : List (Key × V)} {d : List (D × D)}, RepFk W H v d → RepFk W H' v d
  | _, _, .nil => .nil
  | _, _, .cons h r => .cons (RepF.mono e h) (RepFk.mono e r)
theorem RepFf.mono {W : Wd} {H H' : Hp} (e : Ex H H') : ∀ {v : List (Str × V)} {d : List (Str × D)}, RepFf W H v d → RepFf W H' v d
  | _, _, .nil => .nil
  | _, _, .cons h r => .cons (RepF.mono e h) (RepFf.mono e r)
end
section
variable {W : Wd} {H : Hp}
theorem RepFs.len : ∀ {vs : List V} {ds : List D}, RepFs W H vs ds → vs.length = ds.length
  | _, _, .nil => rfl
  | _, _, .cons _ r => by simp [RepFs.len r]
theorem RepFs.append : ∀ {vs : List V} {ds : List D} {vs' : List V} {ds' : List D}, RepFs W H vs ds → RepFs W H vs' ds' → RepFs W H (vs ++ vs') (ds ++ ds')
  | _, _, _, _, .nil, h => h
  | _, _, _, _, .cons a r, h => .cons a (RepFs.append r h)
theorem RepFs.get : ∀ {vs : List V} {ds : List D} {i : Nat} {d : D}, RepFs W H vs ds → ds[i]? = some d → ∃ v, vs[i]? = some v ∧ RepF W H v d
  | _, _, i, d, .nil, h => by simp at h
  | _, _, 0, d, .cons a r, h => by
    simp at h; subst h; exact ⟨_, by simp, a⟩
  | _, _, i + 1, d, .cons a r, h => by
    obtain ⟨v, h1, h2⟩ := RepFs.get r (show _ = some d by simpa using h)
    exact ⟨v, by simpa using h1, h2⟩
theorem RepFs.get' : ∀ {vs : List V} {ds : List D} {i : Nat} {v : V}, RepFs W H vs ds → vs[i]? = some v → ∃ d, ds[i]? = some d ∧ RepF W H v d
  | _, _, i, d, .nil, h => by simp at h
  | _, _, 0, d, .cons a r, h => by
    simp at h; subst h; exact ⟨_, by simp, a⟩
  | _, _, i + 1, d, .cons a r, h => by
    obtain ⟨v, h1, h2⟩ := RepFs.get' r (show _ = some d by simpa using h)
    exact ⟨v, by simpa using h1, h2⟩
theorem RepFs.take : ∀ {vs : List V} {ds : List D} (n : Nat), RepFs W H vs ds → RepFs W H (vs.take n) (ds.take n)
  | _, _, n, .nil => by simp; exact .nil
  | _, _, 0, .cons a r => by simp; exact .nil
  | _, _, n + 1, .cons a r => by simp; exact .cons a (RepFs.take n r)
theorem RepFs.drop : ∀ {vs : List V} {ds : List D} (n : Nat), RepFs W H vs ds → RepFs W H (vs.drop n) (ds.drop n)
  | _, _, n, .nil => by simp; exact .nil
  | _, _, 0, .cons a r => by simp; exact .cons a r
  | _, _, n + 1, .cons a r => by simp; exact RepFs.drop n r
theorem RepFs.set : ∀ {vs : List V} {ds : List D} (n : Nat) {v : V} {d : D}, RepFs W H vs ds → RepF W H v d → RepFs W H (vs.set n v) (ds.set n d)
  | _, _, n, _, _, .nil, _ => by simp; exact .nil
  | _, _, 0, _, _, .cons a r, h => by simp; exact .cons h r
  | _, _, n + 1, _, _, .cons a r, h => by simp; exact .cons a (RepFs.set n r h)
theorem RepFs.eraseIdx : ∀ {vs : List V} {ds : List D} (n : Nat), RepFs W H vs ds → RepFs W H (vs.eraseIdx n) (ds.eraseIdx n)
  | _, _, n, .nil => by simp; exact .nil
  | _, _, 0, .cons a r => by simp; exact r
  | _, _, n + 1, .cons a r => by simp; exact .cons a (RepFs.eraseIdx n r)
theorem RepFs.reverse : ∀ {vs : List V} {ds : List D}, RepFs W H vs ds → RepFs W H vs.reverse ds.reverse
  | _, _, .nil => by simp; exact .nil
  | _, _, .cons a r => by
    simp only [List.reverse_cons]
    exact RepFs.append (RepFs.reverse r) (.cons a .nil)
end
/-! ### what is owned -/
/-- own lists in an own list -/
inductive RepLL (W : Wd) (H0 H : Hp) : List Addr → List (List D) → Prop
  | nil : RepLL W H0 H [] []
  | cons {q : Addr} {us : List V} {ds : List D} {qs : List Addr} {ls : List (List D)} : H q = some (.lst us) → RepFs W H0 us ds → RepLL W H0 H qs ls → RepLL W H0 H (q :: qs) (ds :: ls)
theorem RepLL.mono {W : Wd} {H0 H H0' H' : Hp} (e : Ex H0 H0') : ∀ {qs : List Addr} {ls : List (List D)}, RepLL W H0 H qs ls → (∀ a ∈ qs, ∀ u, H a = some u → H' a = some u) → RepLL W H0' H' qs ls
  | _, _, .nil, _ => .nil
  | _, _, .cons h r t, k => .cons (k _ (by simp) _ h) (r.mono e) (RepLL.mono e t fun a ha => k a (List.mem_cons_of_mem _ ha))
theorem RepLL.toF {W : Wd} {H0 H H' : Hp} (e : Ex H0 H') : ∀ {qs : List Addr} {ls : List (List D)}, RepLL W H0 H qs ls → (∀ a ∈ qs, ∀ u, H a = some u → H' a = some u) → RepFs W H' (qs.map .ref) (ls.map D.lst)
  | _, _, .nil, _ => .nil
  | _, _, .cons h r t, k => .cons (.lst (SqL.of (k _ (by simp) _ h)) (r.mono e)) (RepLL.toF e t fun a ha => k a (List.mem_cons_of_mem _ ha))
/-! dicts whose keys are tuples of numbers, tuples of such .. -/
mutual
def kN : D → Option NestedKey
  | .int i => some (.num i)
  | .tup ds => (kNs ds).map NestedKey.tup
  | _ => none
def kNs : List D → Option (List NestedKey)
  | [] => some []
  | d :: ds => match kN d, kNs ds with
    | some k, some ks => some (k :: ks)
    | _, _ => none
end
def isT : D → Bool
  | .tup _ => true
  | _ => false
/-- a key of such a dict -/
def kD1 (d : D) : Option NestedKey := if isT d then (kN d).bind fun k => if k.depth ≤ 8 then some k else none else none
/-- what stands at a dict's address -/
def DctAt (a : Addr) (o : Obj) (xs : List (NestedKey × Addr × V)) (h : Heap) : Prop := (a == sysModules) = false ∧ xs.length ≤ sizeLine ∧ ∃ (w : World) (vs : List (NestedKey × Addr × Value)),
  Paired (fun p q => p.1 = q.1 ∧ p.2.1 = q.2.1 ∧ RelV p.2.2 q.2.2) xs vs ∧ ∃ es ep, h.get? a = some o ∧ o.ExactDict ∧ o.data = .dict es ep ∧ es.toList = vs.map (fun x => (⟨x.1.hash w, .ref x.2.1, x.2.2⟩ : DictEntry)) ∧ (vs.map (·.1)).Nodup
inductive RepKs (W : Wd) (H0 : Hp) : List (NestedKey × Addr × V) → List (D × D) → Prop
  | nil : RepKs W H0 [] []
  | cons {k : NestedKey} {q : Addr} {v : V} {dk d : D} {xs : List (NestedKey × Addr × V)} {l : List (D × D)} : kD1 dk = some k → RepF W H0 (.ref q) dk → RepF W H0 v d → RepKs W H0 xs l → RepKs W H0 ((k, q, v) :: xs) ((dk, d) :: l)
theorem RepKs.mono {W : Wd} {H0 H0' : Hp} (e : Ex H0 H0') : ∀ {xs : List (NestedKey × Addr × V)} {l : List (D × D)}, RepKs W H0 xs l → RepKs W H0' xs l
  | _, _, .nil => .nil
  | _, _, .cons a b c r => .cons a (b.mono e) (c.mono e) (RepKs.mono e r)
mutual
inductive RepO (W : Wd) (H0 H : Hp) : V → O → List Addr → Prop
  | pure {v : V} {d : D} : RepF W H0 v d → RepO W H0 H v (.pure d) []
  | lst {p : Addr} {vs : List V} {ds : List D} : H p = some (.lst vs) → RepFs W H0 vs ds → RepO W H0 H (.ref p) (.lst ds) [p]
  | dic {p : Addr} {kvs : List (Key × V)} {l : List (D × D)} : H p = some (.dK kvs) → RepFk W H0 kvs l → RepO W H0 H (.ref p) (.dic l) [p]
  | ins {p : Addr} {c : Str} {C dx : Addr} {fs : List (Str × V)} {os : List (Str × O)} {L : List Addr} : H p = some (.ins C dx fs) → W.cl c = some C → RepOf W H0 H fs os L → RepO W H0 H (.ref p) (.ins c os) (p :: L)
  | hole {v : V} : RepO W H0 H v .hole []
  | lls {p : Addr} {qs : List Addr} {ls : List (List D)} : H p = some (.lst (qs.map .ref)) → RepLL W H0 H qs ls → RepO W H0 H (.ref p) (.lls ls) (p :: qs)
  | dct {p : Addr} {ob : Obj} {xs : List (NestedKey × Addr × V)} {l : List (D × D)} : H p = some (.ext (DctAt p ob xs)) → RepKs W H0 xs l → RepO W H0 H (.ref p) (.dct l) [p]
  | tpl {p : Addr} {us : List V} {os : List O} {L : List Addr} : H0 p = some (.tup us) → RepOs W H0 H us os L → RepO W H0 H (.ref p) (.tpl os) L
inductive RepOf (W : Wd) (H0 H : Hp) : List (Str × V) → List (Str × O) → List Addr → Prop
  | nil : RepOf W H0 H [] [] []
  | cons {f : Str} {v : V} {o : O} {vs : List (Str × V)} {os : List (Str × O)} {Lo L : List Addr} : RepO W H0 H v o Lo → RepOf W H0 H vs os L → RepOf W H0 H ((f, v) :: vs) ((f, o) :: os) (Lo ++ L)
inductive RepOs (W : Wd) (H0 H : Hp) : List V → List O → List Addr → Prop
  | nil : RepOs W H0 H [] [] []
  | cons {v : V} {o : O} {vs : List V} {os : List O} {Lo L : List Addr} : RepO W H0 H v o Lo → RepOs W H0 H vs os L → RepOs W H0 H (v :: vs) (o :: os) (Lo ++ L)
end
mutual
theorem RepO.mono {W : Wd} {H0 H H0' H' : Hp} (e : Ex H0 H0') : ∀ {v : V} {o : O} {L : List Addr}, RepO W H0 H v o L → (∀ a ∈ L, ∀ u, H a = some u → H' a = some u) → RepO W H0' H' v o L
  | _, _, _, .pure h, _ => .pure (h.mono e)
  | _, _, _, .lst h r, k => .lst (k _ (by simp) _ h) (r.mono e)
  | _, _, _, .dic h r, k => .dic (k _ (by simp) _ h) (r.mono e)
  | _, _, _, .ins h c r, k => .ins (k _ (by simp) _ h) c (RepOf.mono e r fun a ha => k a (List.mem_cons_of_mem _ ha))
  | _, _, _, .hole, _ => .hole
  | _, _, _, .lls h r, k => .lls (k _ (by simp) _ h) (r.mono e fun a ha => k a (List.mem_cons_of_mem _ ha))
  | _, _, _, .dct h r, k => .dct (k _ (by simp) _ h) (r.mono e)
  | _, _, _, .tpl h r, k => .tpl (e _ _ h) (RepOs.mono e r k)
theorem RepOf.mono {W : Wd} {H0 H H0' H' : Hp} (e : Ex H0 H0') : ∀ {v : List (Str × V)} {o : List (Str × O)} {L : List Addr}, RepOf W H0 H v o L → (∀ a ∈ L, ∀ u, H a = some u → H' a = some u) → RepOf W H0' H' v o L
  | _, _, _, .nil, _ => .nil
  | _, _, _, .cons h r, k => .cons (RepO.mono e h fun a ha => k a (List.mem_append_left _ ha)) (RepOf.mono e r fun a ha => k a (List.mem_append_right _ ha))
theorem RepOs.mono {W : Wd} {H0 H H0' H' : Hp} (e : Ex H0 H0') : ∀ {v : List V} {o : List O} {L : List Addr}, RepOs W H0 H v o L → (∀ a ∈ L, ∀ u, H a = some u → H' a = some u) → RepOs W H0' H' v o L
  | _, _, _, .nil, _ => .nil
  | _, _, _, .cons h r, k => .cons (RepO.mono e h fun a ha => k a (List.mem_append_left _ ha)) (RepOs.mono e r fun a ha => k a (List.mem_append_right _ ha))
end
structure Sep (H0 H : Hp) (L : List Addr) : Prop where
  ex : Ex H0 H
  nd : L.Nodup
  own : ∀ p ∈ L, H0 p = none ∧ ∃ o, H p = some o
structure Step (H0 H : Hp) (L : List Addr) (H0' H' : Hp) (L' : List Addr) : Prop where
  ex0 : Ex H0 H0'
  keep : ∀ a o, H a = some o → a ∉ L → H' a = some o
  new0 : ∀ a, H0' a ≠ none → H0 a ≠ none ∨ H a = none ∨ a ∈ L
  newL : ∀ a ∈ L', a ∈ L ∨ H a = none
  sep : Sep H0' H' L'
theorem Sep.sub {H0 H : Hp} {L L' : List Addr} (s : Sep H0 H L) (h : ∀ a ∈ L', a ∈ L) (nd : L'.Nodup) : Sep H0 H L' := ⟨s.ex, nd, fun p hp => s.own p (h p hp)⟩
theorem Sep.right {H0 H : Hp} {L L' : List Addr} (s : Sep H0 H (L ++ L')) : Sep H0 H L' := s.sub (fun _ h => List.mem_append_right _ h) (List.nodup_append.mp s.nd).2.1
theorem Sep.left {H0 H : Hp} {L L' : List Addr} (s : Sep H0 H (L ++ L')) : Sep H0 H L := s.sub (fun _ h => List.mem_append_left _ h) (List.nodup_append.mp s.nd).1
theorem Sep.perm {H0 H : Hp} {L L' : List Addr} (s : Sep H0 H L) (p : L.Perm L') : Sep H0 H L' := s.sub (fun _ h => p.mem_iff.mpr h) (p.nodup_iff.mp s.nd)
theorem Sep.nil {H0 H : Hp} (e : Ex H0 H) : Sep H0 H [] := ⟨e, List.nodup_nil, fun _ h => by cases h⟩
theorem Step.refl {H0 H : Hp} {L : List Addr} (s : Sep H0 H L) : Step H0 H L H0 H L := ⟨Ex.refl _, fun _ _ h _ => h, fun _ h => .inl h, fun _ h => .inl h, s⟩
theorem Step.sub {H0 H H0' H' : Hp} {L L1 L2 : List Addr} (s : Step H0 H L H0' H' L1) (h : ∀ a ∈ L2, a ∈ L1) (nd : L2.Nodup) : Step H0 H L H0' H' L2 := ⟨s.ex0, s.keep, s.new0, fun a ha => s.newL a (h a ha), s.sep.sub h nd⟩
theorem Step.perm {H0 H H0' H' : Hp} {L L1 L2 : List Addr} (s : Step H0 H L H0' H' L1) (p : L1.Perm L2) : Step H0 H L H0' H' L2 := s.sub (fun _ h => p.mem_iff.mpr h) (p.nodup_iff.mp s.sep.nd)
theorem Step.right {H0 H H0' H' : Hp} {L L1 L2 : List Addr} (s : Step H0 H L H0' H' (L1 ++ L2)) : Step H0 H L H0' H' L2 := s.sub (fun _ h => List.mem_append_right _ h) (List.nodup_append.mp s.sep.nd).2.1
theorem Step.trans {H0 H H1 H01 H02 H2 : Hp} {L L1 L2 : List Addr} (a : Step H0 H L H01 H1 L1) (b : Step H01 H1 L1 H02 H2 L2) : Step H0 H L H02 H2 L2 where
  ex0 := a.ex0.trans b.ex0
  keep := fun x o h hx => b.keep x o (a.keep x o h hx) fun z => by
    rcases a.newL x z with q | q
    · exact hx q
    · rw [h] at q; cases q
  new0 := fun x h => by
    have key : H1 x = none → H x = none ∨ x ∈ L := fun q => by
      by_cases hx : x ∈ L
      · exact .inr hx
      · cases e : H x with
        | none => exact .inl rfl
        | some o => rw [a.keep x o e hx] at q; cases q
    rcases b.new0 x h with q | q | q
    · exact a.new0 x q
    · exact .inr (key q)
    · rcases a.newL x q with z | z
      · exact .inr (.inr z)
      · exact .inr (.inl z)
  newL := fun x h => by
    rcases b.newL x h with q | q
    · exact a.newL x q
    · by_cases hx : x ∈ L
      · exact .inl hx
      · cases e : H x with
        | none => exact .inr rfl
        | some o => rw [a.keep x o e hx] at q; cases q
  sep := b.sep
/-- what the rest owns stays -/
theorem Step.frame {H0 H H0' H' : Hp} {La Lb Lb' : List Addr} (s : Sep H0 H (La ++ Lb)) (b : Step H0 H Lb H0' H' Lb') : Step H0 H (La ++ Lb) H0' H' (La ++ Lb') where
  ex0 := b.ex0
  keep := fun x o h hx => b.keep x o h fun z => hx (List.mem_append_right _ z)
  new0 := fun x h => by
    rcases b.new0 x h with q | q | q
    · exact .inl q
    · exact .inr (.inl q)
    · exact .inr (.inr (List.mem_append_right _ q))
  newL := fun x h => by
    rcases List.mem_append.mp h with q | q
    · exact .inl (List.mem_append_left _ q)
    · rcases b.newL x q with z | z
      · exact .inl (List.mem_append_right _ z)
      · exact .inr z
  sep := by
    have nd := List.nodup_append.mp s.nd
    have dis : ∀ p ∈ La, p ∉ Lb := fun p h1 h2 => nd.2.2 p h1 p h2 rfl
    refine ⟨b.sep.ex, List.nodup_append.mpr ⟨nd.1, b.sep.nd, fun p h1 q h2 e => ?_⟩, fun p h => ?_⟩
    · subst e
      rcases b.newL p h2 with z | z
      · exact dis p h1 z
      · obtain ⟨o, e⟩ := (s.own p (List.mem_append_left _ h1)).2
        rw [e] at z; cases z
    · rcases List.mem_append.mp h with q | q
      · obtain ⟨h0, o, e⟩ := s.own p (List.mem_append_left _ q)
        refine ⟨?_, o, b.keep p o e (dis p q)⟩
        cases z : H0' p with
        | none => rfl
        | some u =>
          exfalso
          rcases b.new0 p (by rw [z]; simp) with y | y | y
          · exact y h0
          · rw [e] at y; cases y
          · exact dis p q y
      · exact b.sep.own p q
theorem Step.then {H0 H H1 H01 H02 H2 : Hp} {L La L1 L2 : List Addr} (a : Step H0 H L H01 H1 (La ++ L1)) (b : Step H01 H1 L1 H02 H2 L2) : Step H0 H L H02 H2 (La ++ L2) := a.trans (Step.frame a.sep b)
theorem Step.keepL {H0 H H0' H' : Hp} {La Lb Lb' : List Addr} (s : Sep H0 H (La ++ Lb)) (b : Step H0 H Lb H0' H' Lb') : ∀ a ∈ La, ∀ u, H a = some u → H' a = some u := fun a ha u h =>
  b.keep a u h fun z => (List.nodup_append.mp s.nd).2.2 a ha a z rfl
/-- frozen -/
theorem Step.freeze {H0 H : Hp} {Lf L : List Addr} (s : Sep H0 H (Lf ++ L)) : Step H0 H (Lf ++ L) (fun a => if a ∈ Lf then H a else H0 a) H L where
  ex0 := fun a o h => by
    by_cases q : a ∈ Lf
    · rw [(s.own a (List.mem_append_left _ q)).1] at h; cases h
    · simp [q, h]
  keep := fun _ _ h _ => h
  new0 := fun a h => by
    by_cases q : a ∈ Lf
    · exact .inr (.inr (List.mem_append_left _ q))
    · simp [q] at h; exact .inl h
  newL := fun a h => .inl (List.mem_append_right _ h)
  sep := by
    refine ⟨fun a o h => ?_, s.right.nd, fun p hp => ⟨?_, (s.own p (List.mem_append_right _ hp)).2⟩⟩
    · by_cases q : a ∈ Lf
      · simpa [q] using h
      · simp [q] at h; exact s.ex a o h
    · have q : p ∉ Lf := fun z => (List.nodup_append.mp s.nd).2.2 p z p hp rfl
      simp [q, (s.own p (List.mem_append_right _ hp)).1]
mutual
def O.full : O → Bool
  | .hole => false
  | .dct _ => false
  | .ins _ fs => O.fullF fs
  | .tpl os => O.fullL os
  | _ => true
def O.fullF : List (Str × O) → Bool
  | [] => true
  | (_, o) :: r => o.full && O.fullF r
def O.fullL : List O → Bool
  | [] => true
  | o :: r => o.full && O.fullL r
end
mutual
theorem RepO.toF {W : Wd} {H0 H H' : Hp} (e : Ex H0 H') : ∀ {v : V} {o : O} {L : List Addr}, RepO W H0 H v o L → o.full = true → (∀ a ∈ L, ∀ u, H a = some u → H' a = some u) → RepF W H' v o.er
  | _, _, _, .pure h, _, _ => by simpa [O.er] using h.mono e
  | _, _, _, .lst h r, _, k => by simpa [O.er] using RepF.lst (SqL.of (k _ (by simp) _ h)) (r.mono e)
  | _, _, _, .dic h r, _, k => by simpa [O.er] using RepF.dic (k _ (by simp) _ h) (r.mono e)
  | _, _, _, .ins h c r, f, k => by simpa [O.er] using RepF.ins (k _ (by simp) _ h) c (RepOf.toF e r (by simpa [O.full] using f) fun a ha => k a (List.mem_cons_of_mem _ ha))
  | _, _, _, .hole, f, _ => by simp [O.full] at f
  | _, _, _, .dct _ _, f, _ => by simp [O.full] at f
  | _, _, _, .tpl h r, f, k => by simpa [O.er] using RepF.tup (SqT.of (e _ _ h)) (RepOs.toF e r (by simpa [O.full] using f) k)
  | _, _, _, .lls h r, _, k => by simpa [O.er] using RepF.lst (SqL.of (k _ (by simp) _ h)) (r.toF e fun a ha => k a (List.mem_cons_of_mem _ ha))
theorem RepOf.toF {W : Wd} {H0 H H' : Hp} (e : Ex H0 H') : ∀ {v : List (Str × V)} {o : List (Str × O)} {L : List Addr}, RepOf W H0 H v o L → O.fullF o = true → (∀ a ∈ L, ∀ u, H a = some u → H' a = some u) → RepFf W H' v (O.erF o)
  | _, _, _, .nil, _, _ => by simpa [O.erF] using RepFf.nil
  | _, _, _, .cons h r, f, k => by
    simp only [O.fullF, Bool.and_eq_true] at f
    simpa [O.erF] using RepFf.cons (RepO.toF e h f.1 fun a ha => k a (List.mem_append_left _ ha)) (RepOf.toF e r f.2 fun a ha => k a (List.mem_append_right _ ha))
theorem RepOs.toF {W : Wd} {H0 H H' : Hp} (e : Ex H0 H') : ∀ {v : List V} {o : List O} {L : List Addr}, RepOs W H0 H v o L → O.fullL o = true → (∀ a ∈ L, ∀ u, H a = some u → H' a = some u) → RepFs W H' v (O.erL o)
  | _, _, _, .nil, _, _ => by simpa [O.erL] using RepFs.nil
  | _, _, _, .cons h r, f, k => by
    simp only [O.fullL, Bool.and_eq_true] at f
    simpa [O.erL] using RepFs.cons (RepO.toF e h f.1 fun a ha => k a (List.mem_append_left _ ha)) (RepOs.toF e r f.2 fun a ha => k a (List.mem_append_right _ ha))
end
end VI
namespace VI
open PySem PySem.Spec PyProof.Rows L2
/-! ### the frame's slots -/
inductive EnvR (W : Wd) (H0 H : Hp) : List (Option V) → L2.St → G → List Addr → Prop
  | nil : EnvR W H0 H [] [] [] []
  | un {a s : Option V} {vs : List (Option V)} {σ : L2.St} {g : G} {L : List Addr} : EnvR W H0 H vs σ g L → EnvR W H0 H (a :: vs) (s :: σ) (.un :: g) L
  | loc {a : Option V} {v : V} {o : O} {vs : List (Option V)} {σ : L2.St} {g : G} {Lo L : List Addr} : RepO W H0 H v o Lo → EnvR W H0 H vs σ g L → EnvR W H0 H (a :: vs) (some v :: σ) (.loc o :: g) (Lo ++ L)
  | par {v : V} {o : O} {vs : List (Option V)} {σ : L2.St} {g : G} {Lo L : List Addr} : RepO W H0 H v o Lo → EnvR W H0 H vs σ g L → EnvR W H0 H (some v :: vs) (some v :: σ) (.par o :: g) (Lo ++ L)
theorem EnvR.mono {W : Wd} {H0 H H0' H' : Hp} (e : Ex H0 H0') : ∀ {vs : List (Option V)} {σ : L2.St} {g : G} {L : List Addr}, EnvR W H0 H vs σ g L → (∀ a ∈ L, ∀ u, H a = some u → H' a = some u) → EnvR W H0' H' vs σ g L
  | _, _, _, _, .nil, _ => .nil
  | _, _, _, _, .un r, k => .un (r.mono e k)
  | _, _, _, _, .loc h r, k => .loc (h.mono e fun a ha => k a (List.mem_append_left _ ha)) (r.mono e fun a ha => k a (List.mem_append_right _ ha))
  | _, _, _, _, .par h r, k => .par (h.mono e fun a ha => k a (List.mem_append_left _ ha)) (r.mono e fun a ha => k a (List.mem_append_right _ ha))
/-- a slot's own part, and how another object comes in its place -/
theorem EnvR.at {W : Wd} {H0 H : Hp} : ∀ {vs : List (Option V)} {σ : L2.St} {g : G} {L : List Addr} {i : Nat} {sl : Slot} {o : O}, EnvR W H0 H vs σ g L → g[i]? = some sl → sl.obj = some o →
    ∃ (v : V) (La Lo Lb : List Addr), σ[i]? = some (some v) ∧ RepO W H0 H v o Lo ∧ L = La ++ (Lo ++ Lb) ∧
      ∀ (H0' H' : Hp), Ex H0 H0' → (∀ a ∈ La ++ Lb, ∀ u, H a = some u → H' a = some u) → ∀ (o' : O) (Lo' : List Addr), RepO W H0' H' v o' Lo' → EnvR W H0' H' vs σ (g.set i (sl.wth o')) (La ++ (Lo' ++ Lb))
  | _, _, _, _, i, sl, o, .nil, h, _ => by simp at h
  | _, _, _, _, 0, sl, o, .un r, h, ho => by simp at h; subst h; cases ho
  | _, _, _, _, 0, sl, o, .loc (Lo := Lo) (L := L) q r, h, ho => by
    simp at h; subst h
    cases ho
    refine ⟨_, [], Lo, L, by simp, q, by simp, fun H0' H' e k o' Lo' q' => ?_⟩
    simpa [Slot.wth] using EnvR.loc q' (r.mono e (by simpa using k))
  | _, _, _, _, 0, sl, o, .par (Lo := Lo) (L := L) q r, h, ho => by
    simp at h; subst h
    cases ho
    refine ⟨_, [], Lo, L, by simp, q, by simp, fun H0' H' e k o' Lo' q' => ?_⟩
    simpa [Slot.wth] using EnvR.par q' (r.mono e (by simpa using k))
  | _, _, _, _, i + 1, sl, o, .un r, h, ho => by
    obtain ⟨v, La, Lo, Lb, h1, h2, h3, h4⟩ := EnvR.at r (by simpa using h) ho
    refine ⟨v, La, Lo, Lb, by simpa using h1, h2, h3, fun H0' H' e k o' Lo' q' => ?_⟩
    simpa using EnvR.un (h4 H0' H' e k o' Lo' q')
  | _, _, _, _, i + 1, sl, o, .loc (Lo := L1) q r, h, ho => by
    obtain ⟨v, La, Lo, Lb, h1, h2, h3, h4⟩ := EnvR.at r (by simpa using h) ho
    subst h3
    refine ⟨v, L1 ++ La, Lo, Lb, by simpa using h1, h2, by simp [List.append_assoc], fun H0' H' e k o' Lo' q' => ?_⟩
    have k1 : ∀ a ∈ L1, ∀ u, H a = some u → H' a = some u := fun a ha => k a (by simp [ha])
    have k2 : ∀ a ∈ La ++ Lb, ∀ u, H a = some u → H' a = some u := fun a ha => k a (by simp at ha ⊢; rcases ha with z | z <;> simp [z])
    simpa [List.append_assoc] using EnvR.loc (q.mono e k1) (h4 H0' H' e k2 o' Lo' q')
  | _, _, _, _, i + 1, sl, o, .par (Lo := L1) q r, h, ho => by
    obtain ⟨v, La, Lo, Lb, h1, h2, h3, h4⟩ := EnvR.at r (by simpa using h) ho
    subst h3
    refine ⟨v, L1 ++ La, Lo, Lb, by simpa using h1, h2, by simp [List.append_assoc], fun H0' H' e k o' Lo' q' => ?_⟩
    have k1 : ∀ a ∈ L1, ∀ u, H a = some u → H' a = some u := fun a ha => k a (by simp [ha])
    have k2 : ∀ a ∈ La ++ Lb, ∀ u, H a = some u → H' a = some u := fun a ha => k a (by simp at ha ⊢; rcases ha with z | z <;> simp [z])
    simpa [List.append_assoc] using EnvR.par (q.mono e k1) (h4 H0' H' e k2 o' Lo' q')
theorem RepOs.at {W : Wd} {H0 H : Hp} : ∀ {us : List V} {os : List O} {L : List Addr} {k : Nat} {o : O}, RepOs W H0 H us os L → os[k]? = some o →
    ∃ (v : V) (La Lo Lb : List Addr), us[k]? = some v ∧ RepO W H0 H v o Lo ∧ L = La ++ (Lo ++ Lb) ∧
      ∀ (H0' H' : Hp), Ex H0 H0' → (∀ a ∈ La ++ Lb, ∀ u, H a = some u → H' a = some u) → ∀ (o' : O) (Lo' : List Addr), RepO W H0' H' v o' Lo' → RepOs W H0' H' us (os.set k o') (La ++ (Lo' ++ Lb))
  | _, _, _, k, o, .nil, h => by simp at h
  | _, _, _, 0, o, .cons (Lo := Lo) (L := L) q r, h => by
    simp at h; subst h
    exact ⟨_, [], Lo, L, by simp, q, by simp, fun H0' H' e k o' Lo' q' => by simpa using RepOs.cons q' (r.mono e (by simpa using k))⟩
  | _, _, _, k + 1, o, .cons (Lo := L1) q r, h => by
    obtain ⟨v, La, Lo, Lb, h1, h2, h3, h4⟩ := RepOs.at r (by simpa using h)
    subst h3
    refine ⟨v, L1 ++ La, Lo, Lb, by simpa using h1, h2, by simp [List.append_assoc], fun H0' H' e k o' Lo' q' => ?_⟩
    have k1 : ∀ a ∈ L1, ∀ u, H a = some u → H' a = some u := fun a ha => k a (by simp [ha])
    have k2 : ∀ a ∈ La ++ Lb, ∀ u, H a = some u → H' a = some u := fun a ha => k a (by simp at ha ⊢; rcases ha with z | z <;> simp [z])
    simpa [List.append_assoc] using RepOs.cons (q.mono e k1) (h4 H0' H' e k2 o' Lo' q')
/-- a part of an own tuple -/
theorem EnvR.sub {W : Wd} {H0 H : Hp} {vs : List (Option V)} {σ : L2.St} {g : G} {L : List Addr} {i k : Nat} {sl : Slot} {os : List O} {o : O} (en : EnvR W H0 H vs σ g L) (h : g[i]? = some sl) (ho : sl.obj = some (.tpl os)) (hk : os[k]? = some o) :
    ∃ (p : Addr) (us : List V) (v : V) (La Lo Lb : List Addr), σ[i]? = some (some (.ref p)) ∧ H0 p = some (.tup us) ∧ us[k]? = some v ∧ RepO W H0 H v o Lo ∧ L = La ++ (Lo ++ Lb) ∧
      ∀ (H0' H' : Hp), Ex H0 H0' → (∀ a ∈ La ++ Lb, ∀ u, H a = some u → H' a = some u) → ∀ (o' : O) (Lo' : List Addr), RepO W H0' H' v o' Lo' → EnvR W H0' H' vs σ (g.set i (sl.wth (.tpl (os.set k o')))) (La ++ (Lo' ++ Lb)) := by
  obtain ⟨v0, La, Lo, Lb, h1, h2, h3, h4⟩ := en.at h ho
  cases h2 with
  | @tpl p us _ _ hp rs =>
    obtain ⟨v, Ma, Mo, Mb, g1, g2, g3, g4⟩ := rs.at hk
    subst g3 h3
    refine ⟨p, us, v, La ++ Ma, Mo, Mb ++ Lb, h1, hp, g1, g2, by simp [List.append_assoc], fun H0' H' e kp o' Lo' q' => ?_⟩
    have k1 : ∀ a ∈ La ++ Lb, ∀ u, H a = some u → H' a = some u := fun a ha => kp a (by simp at ha ⊢; rcases ha with z | z <;> simp [z])
    have k2 : ∀ a ∈ Ma ++ Mb, ∀ u, H a = some u → H' a = some u := fun a ha => kp a (by simp at ha ⊢; rcases ha with z | z <;> simp [z])
    have := h4 H0' H' e k1 _ _ (.tpl (e _ _ hp) (g4 H0' H' e k2 o' Lo' q'))
    simpa [List.append_assoc] using this
/-- a store -/
theorem EnvR.store {W : Wd} {H0 H : Hp} : ∀ {vs : List (Option V)} {σ : L2.St} {g : G} {L : List Addr} (i : Nat), EnvR W H0 H vs σ g L →
    ∃ (La Lo Lb : List Addr), L = La ++ (Lo ++ Lb) ∧
      ∀ (H0' H' : Hp), Ex H0 H0' → (∀ a ∈ La ++ Lb, ∀ u, H a = some u → H' a = some u) → ∀ (v' : V) (o' : O) (Lo' : List Addr), RepO W H0' H' v' o' Lo' → ∃ Lo'', (Lo'' = Lo' ∨ Lo'' = []) ∧ EnvR W H0' H' vs (σ.set i (some v')) (g.set i (.loc o')) (La ++ (Lo'' ++ Lb))
  | _, _, _, _, i, .nil => ⟨[], [], [], rfl, fun _ _ _ _ _ _ _ _ => ⟨[], .inr rfl, by simpa using EnvR.nil⟩⟩
  | _, _, _, _, 0, .un (L := L) r => ⟨[], [], L, by simp, fun _ _ e k _ _ Lo' q => ⟨Lo', .inl rfl, by simpa using EnvR.loc q (r.mono e (by simpa using k))⟩⟩
  | _, _, _, _, 0, .loc (Lo := Lo) (L := L) _ r => ⟨[], Lo, L, by simp, fun _ _ e k _ _ Lo' q => ⟨Lo', .inl rfl, by simpa using EnvR.loc q (r.mono e (by simpa using k))⟩⟩
  | _, _, _, _, 0, .par (Lo := Lo) (L := L) _ r => ⟨[], Lo, L, by simp, fun _ _ e k _ _ Lo' q => ⟨Lo', .inl rfl, by simpa using EnvR.loc q (r.mono e (by simpa using k))⟩⟩
  | _, _, _, _, i + 1, .un r => by
    obtain ⟨La, Lo, Lb, h3, h4⟩ := EnvR.store i r
    refine ⟨La, Lo, Lb, h3, fun H0' H' e k v' o' Lo' q' => ?_⟩
    obtain ⟨L2, c, h5⟩ := h4 H0' H' e k v' o' Lo' q'
    exact ⟨L2, c, by simpa using EnvR.un h5⟩
  | _, _, _, _, i + 1, .loc (Lo := L1) q r => by
    obtain ⟨La, Lo, Lb, h3, h4⟩ := EnvR.store i r
    subst h3
    refine ⟨L1 ++ La, Lo, Lb, by simp [List.append_assoc], fun H0' H' e k v' o' Lo' q' => ?_⟩
    have k1 : ∀ a ∈ L1, ∀ u, H a = some u → H' a = some u := fun a ha => k a (by simp [ha])
    have k2 : ∀ a ∈ La ++ Lb, ∀ u, H a = some u → H' a = some u := fun a ha => k a (by simp at ha ⊢; rcases ha with z | z <;> simp [z])
    obtain ⟨L2, c, h5⟩ := h4 H0' H' e k2 v' o' Lo' q'
    exact ⟨L2, c, by simpa [List.append_assoc] using EnvR.loc (q.mono e k1) h5⟩
  | _, _, _, _, i + 1, .par (Lo := L1) q r => by
    obtain ⟨La, Lo, Lb, h3, h4⟩ := EnvR.store i r
    subst h3
    refine ⟨L1 ++ La, Lo, Lb, by simp [List.append_assoc], fun H0' H' e k v' o' Lo' q' => ?_⟩
    have k1 : ∀ a ∈ L1, ∀ u, H a = some u → H' a = some u := fun a ha => k a (by simp [ha])
    have k2 : ∀ a ∈ La ++ Lb, ∀ u, H a = some u → H' a = some u := fun a ha => k a (by simp at ha ⊢; rcases ha with z | z <;> simp [z])
    obtain ⟨L2, c, h5⟩ := h4 H0' H' e k2 v' o' Lo' q'
    exact ⟨L2, c, by simpa [List.append_assoc] using EnvR.par (q.mono e k1) h5⟩
/-! ### results -/
def RepR (W : Wd) (H0 H : Hp) (σ : L2.St) (v : V) (r : R) (Lr : List Addr) : Prop := match r with
  | .val o => RepO W H0 H v o Lr
  | .slot i => σ[i]? = some (some v) ∧ Lr = []
  | .sub i k => (∃ p us, σ[i]? = some (some (.ref p)) ∧ H0 p = some (.tup us) ∧ us[k]? = some v) ∧ Lr = []
theorem RepR.mono {W : Wd} {H0 H H0' H' : Hp} {σ : L2.St} {v : V} {r : R} {L : List Addr} (h : RepR W H0 H σ v r L) (e : Ex H0 H0') (k : ∀ a ∈ L, ∀ u, H a = some u → H' a = some u) : RepR W H0' H' σ v r L := by
  cases r with
  | val o => exact RepO.mono e h k
  | slot i => exact h
  | sub i j =>
    obtain ⟨⟨p, us, a, b, c⟩, d⟩ := h
    exact ⟨⟨p, us, a, e _ _ b, c⟩, d⟩
/-- an exception: its class, its own dict -/
def RepX (W : Wd) (H0 H : Hp) (x : D) (c : Value) (d : Option Addr) : Prop := ∃ nm fs C, x = .ins nm fs ∧ W.cl nm = some C ∧ c = .ref C ∧ ((d = none ∧ fs = []) ∨ ∃ dd fvs, d = some dd ∧ fs ≠ [] ∧ H0 dd = some (.xd fvs) ∧ RepFf W H0 fvs fs)
def PostE (W : Wd) (vs : List (Option V)) (Wx : WX) (σ : L2.St) (H0 H : Hp) (L : List Addr) : Res R → VK → Prop
  | .ok r g', Q => ∀ v H' H0' Lr L', Step H0 H L H0' H' (Lr ++ L') → RepR W H0' H' σ v r Lr → EnvR W H0' H' vs σ g' L' → Q v H'
  | .exc x g', _ => ∀ c d H' H0' L', Step H0 H L H0' H' L' → RepX W H0' H' x c d → EnvR W H0' H' vs σ g' L' → Wx c d σ H'
  | .stuck, _ => False
def tE (W : Wd) (vs : List (Option V)) (Wx : WX) (A : E) : TE := fun σ H Q => ∃ H0 L g, Sep H0 H L ∧ EnvR W H0 H vs σ g L ∧ PostE W vs Wx σ H0 H L (A g) Q
def PostT (W : Wd) (vs : List (Option V)) (Wx : WX) (σ : L2.St) (H0 H : Hp) (L : List Addr) : Res Bool → (Bool → Hp → Prop) → Prop
  | .ok b g', Q => ∀ H' H0' L', Step H0 H L H0' H' L' → EnvR W H0' H' vs σ g' L' → Q b H'
  | .exc x g', _ => ∀ c d H' H0' L', Step H0 H L H0' H' L' → RepX W H0' H' x c d → EnvR W H0' H' vs σ g' L' → Wx c d σ H'
  | .stuck, _ => False
def tT (W : Wd) (vs : List (Option V)) (Wx : WX) (A : G → Res Bool) : TT := fun σ H Q => ∃ H0 L g, Sep H0 H L ∧ EnvR W H0 H vs σ g L ∧ PostT W vs Wx σ H0 H L (A g) Q
inductive RepRs (W : Wd) (H0 H : Hp) (σ : L2.St) : List V → List R → List Addr → Prop
  | nil : RepRs W H0 H σ [] [] []
  | cons {v : V} {r : R} {vs : List V} {rs : List R} {Lr L : List Addr} : RepR W H0 H σ v r Lr → RepRs W H0 H σ vs rs L → RepRs W H0 H σ (v :: vs) (r :: rs) (Lr ++ L)
theorem RepRs.mono {W : Wd} {H0 H H0' H' : Hp} {σ : L2.St} (e : Ex H0 H0') : ∀ {v : List V} {r : List R} {L : List Addr}, RepRs W H0 H σ v r L → (∀ a ∈ L, ∀ u, H a = some u → H' a = some u) → RepRs W H0' H' σ v r L
  | _, _, _, .nil, _ => .nil
  | _, _, _, .cons h r, k => .cons (h.mono e fun a ha => k a (List.mem_append_left _ ha)) (RepRs.mono e r fun a ha => k a (List.mem_append_right _ ha))
def PostA (W : Wd) (vs : List (Option V)) (Wx : WX) (σ : L2.St) (H0 H : Hp) (L : List Addr) : Res (List R) → (List V → Hp → Prop) → Prop
  | .ok r g', Q => ∀ v H' H0' Lr L', Step H0 H L H0' H' (Lr ++ L') → RepRs W H0' H' σ v r Lr → EnvR W H0' H' vs σ g' L' → Q v H'
  | .exc x g', _ => ∀ c d H' H0' L', Step H0 H L H0' H' L' → RepX W H0' H' x c d → EnvR W H0' H' vs σ g' L' → Wx c d σ H'
  | .stuck, _ => False
def tA (W : Wd) (vs : List (Option V)) (Wx : WX) (A : G → Res (List R)) : TA := fun σ H Q => ∃ H0 L g, Sep H0 H L ∧ EnvR W H0 H vs σ g L ∧ PostA W vs Wx σ H0 H L (A g) Q
inductive Fl where
  | next | brk | cont | ret (o : O)
abbrev S := G → Res Fl
def PostS (W : Wd) (vs : List (Option V)) (Wx : WX) (H0 H : Hp) (L : List Addr) : Res Fl → Ends → Prop
  | .ok .next g', De => ∀ σ' H' H0' L', Step H0 H L H0' H' L' → EnvR W H0' H' vs σ' g' L' → De.nx σ' H'
  | .ok .brk g', De => ∀ σ' H' H0' L', Step H0 H L H0' H' L' → EnvR W H0' H' vs σ' g' L' → De.bk σ' H'
  | .ok .cont g', De => ∀ σ' H' H0' L', Step H0 H L H0' H' L' → EnvR W H0' H' vs σ' g' L' → De.ct σ' H'
  | .ok (.ret o) g', De => ∀ v σ' H' H0' Lo L', Step H0 H L H0' H' (Lo ++ L') → RepO W H0' H' v o Lo → EnvR W H0' H' vs σ' g' L' → De.rt v H'
  | .exc x g', _ => ∀ c d σ' H' H0' L', Step H0 H L H0' H' L' → RepX W H0' H' x c d → EnvR W H0' H' vs σ' g' L' → Wx c d σ' H'
  | .stuck, _ => False
def tS (W : Wd) (vs : List (Option V)) (Wx : WX) (B : S) : TS := fun De σ H => ∃ H0 L g, Sep H0 H L ∧ EnvR W H0 H vs σ g L ∧ PostS W vs Wx H0 H L (B g) De
/-- the context: what is said of it once -/
structure Ctx (W : Wd) (n : Nat) (Wx : WX) (X : Cx) : Prop where
  K : X.K = W.K
  calm : X.calm = true
  nd : X.N.Nodup
  tk : Takes X Wx
  room : Room n X.A
def SE (W : Wd) (vs : List (Option V)) (Wx : WX) (X : Cx) (e : Expr) (A : E) : Prop := PE X e (tE W vs Wx A)
def ST (W : Wd) (vs : List (Option V)) (Wx : WX) (X : Cx) (e : Expr) (A : G → Res Bool) : Prop := PT X e (tT W vs Wx A)
def SA (W : Wd) (vs : List (Option V)) (Wx : WX) (X : Cx) (e : List Expr) (A : G → Res (List R)) : Prop := PA X e (tA W vs Wx A)
def SS (W : Wd) (vs : List (Option V)) (Wx : WX) (X : Cx) (e : Stmt) (A : S) : Prop := PS X e (tS W vs Wx A)
def SB (W : Wd) (vs : List (Option V)) (Wx : WX) (X : Cx) (e : List Stmt) (A : S) : Prop := PSs X e (tS W vs Wx A)
theorem pe_weak {X : Cx} {e : Expr} {t t' : TE} (h : PE X e t) (i : ∀ σ H Q, t' σ H Q → t σ H Q) : PE X e t' := ⟨fun pins s σ H Q I q => h.run pins s σ H Q I (i _ _ _ q)⟩
theorem pt_weak {X : Cx} {e : Expr} {t t' : TT} (h : PT X e t) (i : ∀ σ H Q, t' σ H Q → t σ H Q) : PT X e t' := ⟨fun pins s σ H Q I q => h.run pins s σ H Q I (i _ _ _ q)⟩
theorem pw_weak {X : Cx} {e : Expr} {t t' : TT} (h : PW X e t) (i : ∀ σ H Q, t' σ H Q → t σ H Q) : PW X e t' := ⟨fun wh pins s σ H Q I q => h.run wh pins s σ H Q I (i _ _ _ q)⟩
theorem pa_weak {X : Cx} {e : List Expr} {t t' : TA} (h : PA X e t) (i : ∀ σ H Q, t' σ H Q → t σ H Q) : PA X e t' := ⟨fun pos pins s σ H Q I q => h.run pos pins s σ H Q I (i _ _ _ q)⟩
theorem ps_weak {X : Cx} {e : Stmt} {t t' : TS} (h : PS X e t) (i : ∀ De σ H, t' De σ H → t De σ H) : PS X e t' := ⟨fun pins s σ H De I q => h.run pins s σ H De I (i _ _ _ q)⟩
theorem pss_weak {X : Cx} {e : List Stmt} {t t' : TS} (h : PSs X e t) (i : ∀ De σ H, t' De σ H → t De σ H) : PSs X e t' := ⟨fun pins s σ H De I q => h.run pins s σ H De I (i _ _ _ q)⟩
/-- what stands for a result now -/
def subK (k : Nat) : O → Option O
  | .tpl os => os[k]?
  | _ => none
def ob (g : G) : R → Option O
  | .val o => some o
  | .slot i => (g[i]?).bind Slot.obj
  | .sub i k => ((g[i]?).bind Slot.obj).bind (subK k)
theorem ob_sub {g : G} {i k : Nat} {o : O} (h : ob g (.sub i k) = some o) : ∃ sl os, g[i]? = some sl ∧ sl.obj = some (.tpl os) ∧ os[k]? = some o := by
  simp only [ob, Option.bind_eq_some_iff] at h
  obtain ⟨o1, ⟨sl, h1, h2⟩, h3⟩ := h
  cases o1 with
  | tpl os => exact ⟨sl, os, h1, h2, h3⟩
  | _ => cases h3
theorem ob_rep {W : Wd} {H0 H : Hp} {vs : List (Option V)} {σ : L2.St} {g : G} {L Lr : List Addr} {v : V} {r : R} {o : O} (en : EnvR W H0 H vs σ g L) (h : RepR W H0 H σ v r Lr) (e : ob g r = some o) : ∃ Lo, RepO W H0 H v o Lo ∧ ∀ a ∈ Lo, a ∈ Lr ++ L := by
  cases r with
  | val o' => cases e; exact ⟨Lr, h, fun a ha => List.mem_append_left _ ha⟩
  | slot i =>
    simp only [ob, Option.bind_eq_some_iff] at e
    obtain ⟨sl, e1, e2⟩ := e
    obtain ⟨v', La, Lo, Lb, h1, h2, h3, _⟩ := en.at e1 e2
    obtain ⟨h4, h5⟩ := h
    rw [h1] at h4
    cases h4
    exact ⟨Lo, h2, fun a ha => by subst h3; simp [ha]⟩
  | sub i k =>
    obtain ⟨sl, os, e1, e2, e3⟩ := ob_sub e
    obtain ⟨p, us, v', La, Lo, Lb, h1, h2, h3, h4, h5, _⟩ := en.sub e1 e2 e3
    obtain ⟨⟨p', us', g1, g2, g3⟩, g4⟩ := h
    rw [h1] at g1; cases g1
    rw [h2] at g2; cases g2
    rw [h3] at g3; cases g3
    exact ⟨Lo, h4, fun a ha => by subst h5; simp [ha]⟩
/-- values from what was known to an end -/
def Gives (W : Wd) (H0 H : Hp) (o : O) (Q : VK) : Prop := ∀ v H' H0' Lo, Step H0 H [] H0' H' Lo → RepO W H0' H' v o Lo → Q v H'
theorem gives_of {W : Wd} {vs : List (Option V)} {Wx : WX} {σ : L2.St} {H0 H H01 H1 : Hp} {L Lt L1 : List Addr} {g1 : G} {o : O} {Q : VK} (st : Step H0 H L H01 H1 (Lt ++ L1)) (en : EnvR W H01 H1 vs σ g1 L1) (post : PostE W vs Wx σ H0 H L (.ok (.val o) g1) Q) : Gives W H01 H1 o Q := by
  intro v H' H0' Lo s2 ro
  have sp : Sep H01 H1 (L1 ++ []) := by simpa using st.sep.right
  have s3 : Step H01 H1 (L1 ++ []) H0' H' (L1 ++ Lo) := Step.frame sp s2
  have s4 : Step H01 H1 L1 H0' H' (L1 ++ Lo) := by simpa using s3
  have s5 : Step H0 H L H0' H' (Lt ++ (L1 ++ Lo)) := st.then s4
  refine post v H' H0' Lo L1 (s5.right.perm List.perm_append_comm) ro (en.mono s2.ex0 (Step.keepL sp s2))
theorem Gives.atom {W : Wd} {H0 H : Hp} {d : D} {v : V} {Q : VK} (g : Gives W H0 H (.pure d) Q) (e : Ex H0 H) (h : RepF W H0 v d) : Q v H := g v H H0 [] (Step.refl (Sep.nil e)) (.pure h)
theorem step_new0 {H0 H : Hp} {p : Addr} {o : HO} (e : Ex H0 H) (hp : H p = none) : Step H0 H [] (upd H0 p o) (upd H p o) [] := by
  have h0 : H0 p = none := by
    cases z : H0 p with
    | none => rfl
    | some u => rw [e p u z] at hp; cases hp
  refine ⟨Ex.new h0, fun a u h _ => Ex.new hp a u h, fun a h => ?_, fun a h => (by cases h), Sep.nil fun a u h => ?_⟩
  · by_cases q : a = p
    · exact .inr (.inl (by rw [q]; exact hp))
    · rw [upd_ne q] at h; exact .inl h
  · by_cases q : a = p
    · subst q; rw [upd_same] at h ⊢; exact h
    · rw [upd_ne q] at h ⊢; exact e a u h
theorem step_newL {H0 H : Hp} {p : Addr} {o : HO} (e : Ex H0 H) (hp : H p = none) : Step H0 H [] H0 (upd H p o) [p] := by
  have h0 : H0 p = none := by
    cases z : H0 p with
    | none => rfl
    | some u => rw [e p u z] at hp; cases hp
  refine ⟨Ex.refl _, fun a u h _ => Ex.new hp a u h, fun a h => .inl h, fun a h => ?_, ⟨e.trans (Ex.new hp), by simp, fun q hq => ?_⟩⟩
  · have : a = p := by simpa using h
    exact .inr (by rw [this]; exact hp)
  · have : q = p := by simpa using hq
    subst this
    exact ⟨h0, o, upd_same⟩
/-- a new list of known things -/
theorem Gives.newL {W : Wd} {H0 H : Hp} {ds : List D} {us : List V} {Q : VK} (g : Gives W H0 H (.lst ds) Q) (e : Ex H0 H) (h : RepFs W H0 us ds) {p : Addr} (hp : H p = none) : Q (.ref p) (upd H p (.lst us)) :=
  g _ _ H0 [p] (step_newL e hp) (.lst upd_same h)
theorem Gives.newT {W : Wd} {H0 H : Hp} {ds : List D} {us : List V} {Q : VK} (g : Gives W H0 H (.pure (.tup ds)) Q) (e : Ex H0 H) (h : RepFs W H0 us ds) {p : Addr} (hp : H p = none) : Q (.ref p) (upd H p (.tup us)) := by
  have st := step_new0 (o := .tup us) e hp
  exact g _ _ _ [] st (.pure (.tup (SqT.of upd_same) (h.mono st.ex0)))
/-! ### expressions -/
section
variable {W : Wd} {vs : List (Option V)} {Wx : WX} {X : Cx} {n : Nat}
def cst (d : D) : E := fun g => .ok (.val (.pure d)) g
theorem se_tC {e : Expr} {v : V} {d : D} (h : PE X e (tC v)) (r : ∀ H, RepF W H v d) : SE W vs Wx X e (cst d) := by
  refine pe_weak h fun σ H Q ⟨H0, L, g, sp, en, post⟩ => ?_
  exact post v H H0 [] L (Step.refl sp) (.pure (r H0)) en
theorem se_int {i j pos} : SE W vs Wx X (.Constant (.int i) j pos) (cst (.int i)) := se_tC pe_int fun _ => .int _
theorem se_bl {i j pos} : SE W vs Wx X (.Constant (.bool i) j pos) (cst (.bl i)) := se_tC pe_bl fun _ => .bl _
theorem se_non {j pos} : SE W vs Wx X (.Constant .none j pos) (cst .non) := se_tC pe_non fun _ => .non
theorem se_str {i j pos} : SE W vs Wx X (.Constant (.str i) j pos) (cst (.str i)) := se_tC pe_str fun _ => .str _
def nm (i : Nat) : E := fun g => match g[i]? with
  | some (.par (.pure d)) => .ok (.val (.pure d)) g
  | some (.loc (.pure d)) => .ok (.val (.pure d)) g
  | some (.par .hole) => .stuck
  | some (.loc .hole) => .stuck
  | some (.par _) => .ok (.slot i) g
  | some (.loc _) => .ok (.slot i) g
  | _ => .stuck
theorem se_nm (i : Nat) {x : Str} {pos : Pos} (h : PE X (.Name x pos) (tVar i)) : SE W vs Wx X (.Name x pos) (nm i) := by
  refine pe_weak h fun σ H Q ⟨H0, L, g, sp, en, post⟩ => ?_
  unfold nm at post
  have key : ∀ {sl : Slot} {o : O}, g[i]? = some sl → sl.obj = some o → (∀ d, o = .pure d → PostE W vs Wx σ H0 H L (.ok (.val (.pure d)) g) Q) → ((∀ d, o ≠ .pure d) → PostE W vs Wx σ H0 H L (.ok (.slot i) g) Q) → tVar i σ H Q := by
    intro sl o h1 h2 k1 k2
    obtain ⟨v, La, Lo, Lb, e1, e2, e3, e4⟩ := en.at h1 h2
    refine ⟨v, e1, ?_⟩
    cases o with
    | pure d =>
      cases e2 with
      | pure f => exact k1 d rfl v H H0 [] L (Step.refl sp) (.pure f) en
    | _ => exact k2 (fun _ q => by cases q) v H H0 [] L (Step.refl sp) ⟨e1, rfl⟩ en
  split at post
  · rename_i d hg; exact key hg rfl (fun d' q => by cases q; exact post) (fun q => (q _ rfl).elim)
  · rename_i d hg; exact key hg rfl (fun d' q => by cases q; exact post) (fun q => (q _ rfl).elim)
  · exact post.elim
  · exact post.elim
  · rename_i o h1 _ hg; exact key hg rfl (fun d' q => (h1 d' q).elim) (fun _ => post)
  · rename_i o h1 _ hg; exact key hg rfl (fun d' q => (h1 d' q).elim) (fun _ => post)
  · exact post.elim
/-- a binary operation on what stands for both -/
def bin (f : O → O → Option O) (a b : E) : E := fun g => (a g).bind fun r g1 => (b g1).bind fun s g2 =>
  match ob g2 r, ob g2 s with
  | some x, some y => match f x y with
    | some o => .ok (.val o) g2
    | none => .stuck
  | _, _ => .stuck
def rO (W : Wd) (f : O → O → Option O) : R2 := fun x y H Q => ∃ H0 ox oy Lx Ly o, Ex H0 H ∧ RepO W H0 H x ox Lx ∧ RepO W H0 H y oy Ly ∧ f ox oy = some o ∧ Gives W H0 H o Q
theorem tO_bin {f : O → O → Option O} {A B : E} : ∀ σ H Q, tE W vs Wx (bin f A B) σ H Q → tOp (rO W f) (tE W vs Wx A) (tE W vs Wx B) σ H Q := fun σ H Q ⟨H0, L, g, sp, en, post⟩ => by
  refine ⟨H0, L, g, sp, en, ?_⟩
  unfold bin at post
  cases ea : A g with
  | stuck => rw [ea] at post; exact post.elim
  | exc x g' => rw [ea] at post; exact post
  | ok r g1 =>
    rw [ea] at post
    intro v H1 H01 Lr L1 st1 rr en1
    refine ⟨H01, L1, g1, st1.sep.right, en1, ?_⟩
    simp only [Res.bind] at post
    cases eb : B g1 with
    | stuck => rw [eb] at post; exact post.elim
    | exc x g' =>
      rw [eb] at post
      intro c d H' H0' L' st2 rx en2
      exact post c d H' H0' L' (st1.then st2).right rx en2
    | ok s g2 =>
      rw [eb] at post
      intro w H2 H02 Ls L2 st2 rs en2
      simp only at post
      have st := st1.then st2
      have rr2 : RepR W H02 H2 σ v r Lr := rr.mono st2.ex0 (Step.keepL st1.sep st2)
      cases e1 : ob g2 r with
      | none => rw [e1] at post; exact post.elim
      | some x =>
        cases e2 : ob g2 s with
        | none => rw [e1, e2] at post; exact post.elim
        | some y =>
          rw [e1, e2] at post
          simp only at post
          cases e3 : f x y with
          | none => rw [e3] at post; exact post.elim
          | some o =>
            rw [e3] at post
            obtain ⟨Lx, hx, _⟩ := ob_rep en2 rr2 e1
            obtain ⟨Ly, hy, _⟩ := ob_rep en2 rs e2
            exact ⟨H02, x, y, Lx, Ly, o, st2.sep.ex, hx, hy, e3, gives_of (Lt := Lr ++ Ls) (by simpa [List.append_assoc] using st) en2 post⟩
theorem se_bin {op : Operator} {a b : Expr} {pos : Pos} {A B : E} {f : O → O → Option O} (ho : OpR X (binaryOp op) (rO W f)) (ha : SE W vs Wx X a A) (hb : SE W vs Wx X b B) : SE W vs Wx X (.BinOp a op b pos) (bin f A B) :=
  pe_weak (pe_op ho ha hb) tO_bin
theorem se_cmp {op : CmpOp} {a b : Expr} {pos : Pos} {A B : E} {f : O → O → Option O} (ho : OpR X (compareOp op) (rO W f)) (ha : SE W vs Wx X a A) (hb : SE W vs Wx X b B) (hm : behindInMarks op b = false) : SE W vs Wx X (.Compare a [op] [b] pos) (bin f A B) :=
  pe_weak (pe_cmpR ho ha hb hm) tO_bin
/-- a one-place operation -/
def una (f : O → Option O) (a : E) : E := fun g => (a g).bind fun r g1 => match ob g1 r with
  | some x => match f x with
    | some o => .ok (.val o) g1
    | none => .stuck
  | _ => .stuck
def uO (W : Wd) (f : O → Option O) : V → Hp → VK → Prop := fun x H Q => ∃ H0 ox Lx o, Ex H0 H ∧ RepO W H0 H x ox Lx ∧ f ox = some o ∧ Gives W H0 H o Q
theorem tO_una {f : O → Option O} {A : E} : ∀ σ H Q, tE W vs Wx (una f A) σ H Q → tE W vs Wx A σ H (fun x H1 => uO W f x H1 Q) := fun σ H Q ⟨H0, L, g, sp, en, post⟩ => by
  refine ⟨H0, L, g, sp, en, ?_⟩
  unfold una at post
  cases ea : A g with
  | stuck => rw [ea] at post; exact post.elim
  | exc x g' => rw [ea] at post; exact post
  | ok r g1 =>
    rw [ea] at post
    intro v H1 H01 Lr L1 st1 rr en1
    simp only [Res.bind] at post
    cases e1 : ob g1 r with
    | none => rw [e1] at post; exact post.elim
    | some x =>
      rw [e1] at post
      simp only at post
      cases e3 : f x with
      | none => rw [e3] at post; exact post.elim
      | some o =>
        rw [e3] at post
        obtain ⟨Lx, hx, _⟩ := ob_rep en1 rr e1
        exact ⟨H01, x, Lx, o, st1.sep.ex, hx, e3, gives_of st1 en1 post⟩
theorem se_una {op : UnaryOp} {a : Expr} {pos : Pos} {A : E} {f : O → Option O} (ho : UnR X (unaryOp op) (uO W f)) (ha : SE W vs Wx X a A) : SE W vs Wx X (.UnaryOp op a pos) (una f A) :=
  pe_weak (pe_un ho ha) tO_una
end
end VI
namespace VI
open PySem PySem.Spec PyProof.Rows L2
/-! ### argument lists -/
section
variable {W : Wd} {vs : List (Option V)} {Wx : WX} {X : Cx} {n : Nat}
def evs : List E → G → Res (List R)
  | [], g => .ok [] g
  | a :: as, g => (a g).bind fun r g1 => (evs as g1).bind fun rs g2 => .ok (r :: rs) g2
theorem sa_nil : SA W vs Wx X [] (evs []) := by
  refine pa_weak pa_nil fun σ H Q ⟨H0, L, g, sp, en, post⟩ => ?_
  exact post [] H H0 [] L (Step.refl sp) .nil en
theorem sa_cons {e : Expr} {es : List Expr} {A : E} {As : List E} (ha : SE W vs Wx X e A) (hr : SA W vs Wx X es (evs As)) (hs : starEach (e :: es) X.env = (false, eval e X.env) :: starEach es X.env := by rfl) : SA W vs Wx X (e :: es) (evs (A :: As)) := by
  refine pa_weak (pa_cons ha hr hs) fun σ H Q ⟨H0, L, g, sp, en, post⟩ => ?_
  refine ⟨H0, L, g, sp, en, ?_⟩
  rw [evs] at post
  cases ea : A g with
  | stuck => rw [ea] at post; exact post.elim
  | exc x g' => rw [ea] at post; exact post
  | ok r g1 =>
    rw [ea] at post
    intro v H1 H01 Lr L1 st1 rr en1
    refine ⟨H01, L1, g1, st1.sep.right, en1, ?_⟩
    simp only [Res.bind] at post
    cases eb : evs As g1 with
    | stuck => rw [eb] at post; exact post.elim
    | exc x g' =>
      rw [eb] at post
      intro c d H' H0' L' st2 rx en2
      exact post c d H' H0' L' (st1.then st2).right rx en2
    | ok s g2 =>
      rw [eb] at post
      intro w H2 H02 Ls L2 st2 rs en2
      have st := st1.then st2
      have rr2 : RepR W H02 H2 σ v r Lr := rr.mono st2.ex0 (Step.keepL st1.sep st2)
      exact post (v :: w) H2 H02 (Lr ++ Ls) L2 (by simpa [List.append_assoc] using st) (.cons rr2 rs) en2
def setO (g : G) (i : Nat) (o : O) : G := match g[i]? with
  | some sl => g.set i (sl.wth o)
  | none => g
/-- a part of an own tuple put otherwise -/
def setS1 (g : G) (i k : Nat) (o : O) : G := match (g[i]?).bind Slot.obj with
  | some (.tpl os) => setO g i (.tpl (os.set k o))
  | _ => g
theorem setS1_of {g : G} {i k : Nat} {sl : Slot} {os : List O} (o : O) (h : g[i]? = some sl) (ho : sl.obj = some (.tpl os)) : setS1 g i k o = g.set i (sl.wth (.tpl (os.set k o))) := by
  simp only [setS1, h, Option.bind_some, ho, setO]
/-- results that go into other things: frozen -/
def frzs : List R → G → Option (List D × G)
  | [], g => some ([], g)
  | .val o :: rs, g => if o.full then (frzs rs g).map fun p => (o.er :: p.1, p.2) else none
  | .slot i :: rs, g => match ob g (.slot i) with
    | some o => if o.full then (frzs rs (setO g i (.pure o.er))).map fun p => (o.er :: p.1, p.2) else none
    | none => none
  | .sub _ _ :: _, _ => none
theorem perm_mid {α : Type} (A B C : List α) : (A ++ (B ++ C)).Perm (B ++ (A ++ C)) := by
  rw [← List.append_assoc, ← List.append_assoc]
  exact List.Perm.append_right C List.perm_append_comm
theorem perm_mid4 {α : Type} (A B C D' : List α) : (A ++ (B ++ (C ++ D'))).Perm (C ++ (A ++ (B ++ D'))) := by
  have h1 : (A ++ (B ++ (C ++ D'))).Perm (A ++ (C ++ (B ++ D'))) := (perm_mid B C D').append_left A
  exact h1.trans (perm_mid A C (B ++ D'))
theorem frzs_ok {σ : L2.St} {H1 : Hp} : ∀ {rs : List R} {us : List V} {Lr : List Addr} {g1 : G} {L1 : List Addr} {H01 : Hp} {ds : List D} {g2 : G}, RepRs W H01 H1 σ us rs Lr → Sep H01 H1 (Lr ++ L1) → EnvR W H01 H1 vs σ g1 L1 → frzs rs g1 = some (ds, g2) →
    ∃ H02 L2, Step H01 H1 (Lr ++ L1) H02 H1 L2 ∧ RepFs W H02 us ds ∧ EnvR W H02 H1 vs σ g2 L2
  | [], _, _, g1, L1, H01, ds, g2, .nil, sp, en, e => by
    cases e
    exact ⟨H01, L1, by simpa using Step.refl (by simpa using sp), .nil, en⟩
  | .val o :: rs, _, _, g1, L1, H01, ds, g2, .cons (v := u) (Lr := Lo) (L := Lt) h r, sp, en, e => by
    have hf : o.full = true := by
      rw [frzs] at e; split at e
      · assumption
      · cases e
    rw [frzs, if_pos hf] at e
    obtain ⟨p, e1, e2⟩ := Option.map_eq_some_iff.mp e
    obtain ⟨ds', g'⟩ := p
    cases e2
    have sp' : Sep H01 H1 (Lo ++ (Lt ++ L1)) := by simpa [List.append_assoc] using sp
    have s1 := Step.freeze sp'
    have hsub : Ex H01 (fun a => if a ∈ Lo then H1 a else H01 a) := s1.ex0
    have ru : RepF W (fun a => if a ∈ Lo then H1 a else H01 a) u o.er := RepO.toF hsub h hf fun a ha w hw => by simp [ha, hw]
    obtain ⟨H02, L2, s2, rf, en2⟩ := frzs_ok (rs := rs) (r.mono hsub fun _ _ _ q => q) s1.sep (en.mono hsub fun _ _ _ q => q) e1
    exact ⟨H02, L2, by simpa [List.append_assoc] using s1.trans s2, .cons (ru.mono s2.ex0) rf, en2⟩
  | .sub i k :: rs, _, _, g1, L1, H01, ds, g2, .cons (v := u) (Lr := L0) (L := Lt) h r, sp, en, e => by
    rw [frzs] at e; cases e
  | .slot i :: rs, _, _, g1, L1, H01, ds, g2, .cons (v := u) (Lr := L0) (L := Lt) h r, sp, en, e => by
    obtain ⟨hu, rfl⟩ := h
    cases eo : ob g1 (.slot i) with
    | none => rw [frzs, eo] at e; cases e
    | some o =>
      rw [frzs, eo] at e
      simp only at e
      have hf : o.full = true := by
        split at e
        · assumption
        · cases e
      rw [if_pos hf] at e
      obtain ⟨p, e1, e2⟩ := Option.map_eq_some_iff.mp e
      obtain ⟨ds', g'⟩ := p
      cases e2
      simp only [ob, Option.bind_eq_some_iff] at eo
      obtain ⟨sl, eo1, eo2⟩ := eo
      obtain ⟨v', La, Lo, Lb, h1, h2, h3, h4⟩ := en.at eo1 eo2
      rw [h1] at hu; cases hu
      subst h3
      have sp' : Sep H01 H1 (Lo ++ (Lt ++ (La ++ Lb))) := by
        refine sp.perm ?_
        simpa [List.append_assoc] using perm_mid4 Lt La Lo Lb
      have s1 := Step.freeze sp'
      have hsub : Ex H01 (fun a => if a ∈ Lo then H1 a else H01 a) := s1.ex0
      have ru : RepF W (fun a => if a ∈ Lo then H1 a else H01 a) u o.er := RepO.toF hsub h2 hf fun a ha w hw => by simp [ha, hw]
      have en1 := h4 (fun a => if a ∈ Lo then H1 a else H01 a) H1 hsub (fun _ _ _ q => q) (.pure o.er) [] (.pure ru)
      have eset : setO g1 i (.pure o.er) = g1.set i (sl.wth (.pure o.er)) := by simp only [setO, eo1]
      rw [eset] at e1
      obtain ⟨H02, L2, s2, rf, en2⟩ := frzs_ok (rs := rs) (L1 := La ++ ([] ++ Lb)) (r.mono hsub fun _ _ _ q => q) (by simpa using s1.sep) en1 e1
      refine ⟨H02, L2, ?_, .cons (ru.mono s2.ex0) rf, en2⟩
      have s3 : Step H01 H1 (Lo ++ (Lt ++ (La ++ Lb))) H02 H1 L2 := by
        refine s1.trans ?_
        simpa using s2
      have hm : ∀ a, a ∈ ([] ++ Lt ++ (La ++ (Lo ++ Lb))) ↔ a ∈ Lo ++ (Lt ++ (La ++ Lb)) := fun a => by
        have := (perm_mid4 Lt La Lo Lb).mem_iff (a := a)
        simpa [List.append_assoc] using this
      exact ⟨s3.ex0, fun a o h hn => s3.keep a o h fun z => hn ((hm a).mpr z), fun a h => (s3.new0 a h).imp_right fun z => z.imp_right (hm a).mpr, fun a h => (s3.newL a h).imp_left (hm a).mpr, s3.sep⟩
theorem Step.from {H0 H H0' H' : Hp} {L L1 L2 : List Addr} (s : Step H0 H L1 H0' H' L2) (h : ∀ a, a ∈ L1 ↔ a ∈ L) : Step H0 H L H0' H' L2 :=
  ⟨s.ex0, fun a o e hn => s.keep a o e fun z => hn ((h a).mp z), fun a e => (s.new0 a e).imp_right fun z => z.imp_right (h a).mp, fun a e => (s.newL a e).imp_left (h a).mp, s.sep⟩
/-- an end by a list of frozen things -/
def PostF (W : Wd) (vs : List (Option V)) (σ : L2.St) (H0 H : Hp) (L : List Addr) (ds : List D) (g' : G) (Q : List V → Hp → Prop) : Prop :=
  ∀ us H' H0' L', Step H0 H L H0' H' L' → RepFs W H0' us ds → EnvR W H0' H' vs σ g' L' → Q us H'
def tupE (A : G → Res (List R)) : E := fun g => (A g).bind fun rs g1 => match frzs rs g1 with
  | some (ds, g2) => if ds.length ≤ 1000 then .ok (.val (.pure (.tup ds))) g2 else .stuck
  | none => .stuck
def lstE (A : G → Res (List R)) : E := fun g => (A g).bind fun rs g1 => match frzs rs g1 with
  | some (ds, g2) => if ds.length ≤ 1000 then .ok (.val (.lst ds)) g2 else .stuck
  | none => .stuck
theorem size1000 {m : Nat} (h : m ≤ 1000) : m ≤ sizeLine := Nat.le_of_lt (small1000 h)
theorem tA_frz {A : G → Res (List R)} {k : List D → O} {σ : L2.St} {H : Hp} {Q : VK} {R' : List V → Hp → Prop} (hk : ∀ H0 H us ds, Ex H0 H → RepFs W H0 us ds → ds.length ≤ 1000 → Gives W H0 H (k ds) Q → R' us H)
    (h : tE W vs Wx (fun g => (A g).bind fun rs g1 => match frzs rs g1 with
      | some (ds, g2) => if ds.length ≤ 1000 then .ok (.val (k ds)) g2 else .stuck
      | none => .stuck) σ H Q) : tA W vs Wx A σ H R' := by
  obtain ⟨H0, L, g, sp, en, post⟩ := h
  refine ⟨H0, L, g, sp, en, ?_⟩
  cases ea : A g with
  | stuck => simp only [ea, Res.bind] at post; exact post.elim
  | exc x g' => simp only [ea, Res.bind] at post; exact post
  | ok rs g1 =>
    simp only [ea, Res.bind] at post
    intro us H1 H01 Lr L1 st1 rr en1
    cases ef : frzs rs g1 with
    | none => simp only [ef] at post; exact post.elim
    | some p =>
      obtain ⟨ds, g2⟩ := p
      simp only [ef] at post
      by_cases hl : ds.length ≤ 1000
      · rw [if_pos hl] at post
        obtain ⟨H02, L2, s2, rf, en2⟩ := frzs_ok rr st1.sep en1 ef
        exact hk H02 H1 us ds s2.sep.ex rf hl (gives_of (Lt := []) (by simpa using st1.trans s2) en2 post)
      · rw [if_neg hl] at post; exact post.elim
theorem se_tup {es : List Expr} {x1 : _} {pos : Pos} {A : G → Res (List R)} (h : SA W vs Wx X es A) : SE W vs Wx X (.Tuple es x1 pos) (tupE A) :=
  pe_weak (pe_tup h) fun σ H Q q => tA_frz (k := fun ds => .pure (.tup ds)) (fun H0 H us ds ex rf hl g => ⟨by rw [rf.len]; exact size1000 hl, fun p hp => g.newT ex rf hp⟩) q
theorem se_lst {es : List Expr} {pos : Pos} {A : G → Res (List R)} (h : SA W vs Wx X es A) : SE W vs Wx X (.List es pos) (lstE A) :=
  pe_weak (pe_lst h) fun σ H Q q => tA_frz (k := fun ds => .lst ds) (fun H0 H us ds ex rf hl g => ⟨by rw [rf.len]; exact size1000 hl, fun p hp => g.newL ex rf hp⟩) q
/-! ### calls -/
inductive CRes where
  | ok (o : O) (os : List O) | exc (x : D) (os : List O) | stuck
abbrev Callee := Nat → List O → CRes
def PostC (W : Wd) (us : List V) (H0 H : Hp) (L : List Addr) : CRes → VK → XK → Prop
  | .ok o os', Q, _ => ∀ v H' H0' Lo La, Step H0 H L H0' H' (Lo ++ La) → RepO W H0' H' v o Lo → RepOs W H0' H' us os' La → Q v H'
  | .exc x os', _, Ek => ∀ c d H' H0' La, Step H0 H L H0' H' La → RepX W H0' H' x c d → RepOs W H0' H' us os' La → Ek c d H'
  | .stuck, _, _ => False
def spD (W : Wd) (C : Callee) (f : Nat) (m : Nat) : Sp := fun us H Q Ek => us.length = m ∧ ∃ H0 L os, Sep H0 H L ∧ RepOs W H0 H us os L ∧ PostC W us H0 H L (C f os) Q Ek
def takes : List R → G → Option (List O × G)
  | [], g => some ([], g)
  | .val o :: rs, g => (takes rs g).map fun p => (o :: p.1, p.2)
  | .slot i :: rs, g => match ob g (.slot i) with
    | some .hole => none
    | some o => (takes rs (setO g i .hole)).map fun p => (o :: p.1, p.2)
    | none => none
  | .sub i k :: rs, g => match ob g (.sub i k) with
    | some .hole => none
    | some o => (takes rs (setS1 g i k .hole)).map fun p => (o :: p.1, p.2)
    | none => none
def puts : List R → List O → G → G
  | .val _ :: rs, _ :: os, g => puts rs os g
  | .slot i :: rs, o :: os, g => puts rs os (setO g i o)
  | .sub i k :: rs, o :: os, g => puts rs os (setS1 g i k o)
  | _, _, g => g
theorem takes_ok {σ : L2.St} {H01 H1 : Hp} : ∀ {rs : List R} {us : List V} {Lr : List Addr} {g1 : G} {L1 : List Addr} {os : List O} {g2 : G}, RepRs W H01 H1 σ us rs Lr → EnvR W H01 H1 vs σ g1 L1 → takes rs g1 = some (os, g2) →
    ∃ La L2, RepOs W H01 H1 us os La ∧ EnvR W H01 H1 vs σ g2 L2 ∧ (Lr ++ L1).Perm (La ++ L2)
  | [], _, _, g1, L1, os, g2, .nil, en, e => by
    cases e
    exact ⟨[], L1, .nil, en, .refl _⟩
  | .val o :: rs, _, _, g1, L1, os, g2, .cons (Lr := Lo) (L := Lt) h r, en, e => by
    rw [takes] at e
    obtain ⟨⟨os', g'⟩, e1, e2⟩ := Option.map_eq_some_iff.mp e
    cases e2
    obtain ⟨La, L2, ro, en2, pm⟩ := takes_ok r en e1
    refine ⟨Lo ++ La, L2, .cons h ro, en2, ?_⟩
    simpa [List.append_assoc] using pm.append_left Lo
  | .slot i :: rs, _, _, g1, L1, os, g2, .cons (v := u) (Lr := L0) (L := Lt) h r, en, e => by
    obtain ⟨hu, rfl⟩ := h
    cases eo : ob g1 (.slot i) with
    | none => rw [takes, eo] at e; cases e
    | some o =>
      have e' : (takes rs (setO g1 i .hole)).map (fun p => (o :: p.1, p.2)) = some (os, g2) := by
        rw [takes, eo] at e
        cases o <;> first | exact e | cases e
      obtain ⟨⟨os', g'⟩, e1, e2⟩ := Option.map_eq_some_iff.mp e'
      cases e2
      simp only [ob, Option.bind_eq_some_iff] at eo
      obtain ⟨sl, eo1, eo2⟩ := eo
      obtain ⟨v', La, Lo, Lb, h1, h2, h3, h4⟩ := en.at eo1 eo2
      rw [h1] at hu; cases hu
      subst h3
      have en1 := h4 H01 H1 (Ex.refl _) (fun _ _ _ q => q) .hole [] .hole
      have eset : setO g1 i .hole = g1.set i (sl.wth .hole) := by simp only [setO, eo1]
      rw [eset] at e1
      obtain ⟨Lc, L2, ro, en2, pm⟩ := takes_ok r en1 e1
      refine ⟨Lo ++ Lc, L2, .cons h2 ro, en2, ?_⟩
      have p1 : ([] ++ Lt ++ (La ++ (Lo ++ Lb))).Perm (Lo ++ (Lt ++ (La ++ Lb))) := by simpa [List.append_assoc] using perm_mid4 Lt La Lo Lb
      refine p1.trans ?_
      rw [List.append_assoc]
      exact List.Perm.append_left Lo (by simpa using pm)
  | .sub i k :: rs, _, _, g1, L1, os, g2, .cons (v := u) (Lr := L0) (L := Lt) h r, en, e => by
    obtain ⟨⟨p0, us0, hu1, hu2, hu3⟩, rfl⟩ := h
    cases eo : ob g1 (.sub i k) with
    | none => rw [takes, eo] at e; cases e
    | some o =>
      have e' : (takes rs (setS1 g1 i k .hole)).map (fun p => (o :: p.1, p.2)) = some (os, g2) := by
        rw [takes, eo] at e
        cases o <;> first | exact e | cases e
      obtain ⟨⟨os', g'⟩, e1, e2⟩ := Option.map_eq_some_iff.mp e'
      cases e2
      obtain ⟨sl, ss, x1, x2, x3⟩ := ob_sub eo
      obtain ⟨p, us, v', La, Lo, Lb, h1, h2, h3, h4, h5, h6⟩ := en.sub x1 x2 x3
      rw [h1] at hu1; cases hu1
      rw [h2] at hu2; cases hu2
      rw [h3] at hu3; cases hu3
      subst h5
      have en1 := h6 H01 H1 (Ex.refl _) (fun _ _ _ q => q) .hole [] .hole
      rw [setS1_of _ x1 x2] at e1
      obtain ⟨Lc, L2, ro, en2, pm⟩ := takes_ok r en1 e1
      refine ⟨Lo ++ Lc, L2, .cons h4 ro, en2, ?_⟩
      have p1 : ([] ++ Lt ++ (La ++ (Lo ++ Lb))).Perm (Lo ++ (Lt ++ (La ++ Lb))) := by simpa [List.append_assoc] using perm_mid4 Lt La Lo Lb
      refine p1.trans ?_
      rw [List.append_assoc]
      exact List.Perm.append_left Lo (by simpa using pm)
inductive Toks (H0 : Hp) (σ : L2.St) : List V → List R → Prop
  | nil : Toks H0 σ [] []
  | val {v : V} {o : O} {vs : List V} {rs : List R} : Toks H0 σ vs rs → Toks H0 σ (v :: vs) (.val o :: rs)
  | slot {v : V} {i : Nat} {vs : List V} {rs : List R} : σ[i]? = some (some v) → Toks H0 σ vs rs → Toks H0 σ (v :: vs) (.slot i :: rs)
  | sub {p : Addr} {us : List V} {v : V} {i k : Nat} {vs : List V} {rs : List R} : σ[i]? = some (some (.ref p)) → H0 p = some (.tup us) → us[k]? = some v → Toks H0 σ vs rs → Toks H0 σ (v :: vs) (.sub i k :: rs)
theorem Toks.mono {H0 H0' : Hp} {σ : L2.St} (e : Ex H0 H0') : ∀ {us : List V} {rs : List R}, Toks H0 σ us rs → Toks H0' σ us rs
  | _, _, .nil => .nil
  | _, _, .val t => .val (t.mono e)
  | _, _, .slot h t => .slot h (t.mono e)
  | _, _, .sub a b c t => .sub a (e _ _ b) c (t.mono e)
theorem RepRs.toks {H0 H : Hp} {σ : L2.St} : ∀ {us : List V} {rs : List R} {L : List Addr}, RepRs W H0 H σ us rs L → Toks H0 σ us rs
  | _, _, _, .nil => .nil
  | _, .val o :: _, _, .cons _ r => .val r.toks
  | _, .slot i :: _, _, .cons h r => .slot h.1 r.toks
  | _, .sub i k :: _, _, .cons h r => by
    obtain ⟨⟨p, us, a, b, c⟩, _⟩ := h
    exact .sub a b c r.toks
theorem puts_ok {σ : L2.St} {H0' H' : Hp} : ∀ {rs : List R} {us : List V} {os : List O} {La : List Addr} {g : G} {L2 : List Addr}, Toks H0' σ us rs → RepOs W H0' H' us os La → EnvR W H0' H' vs σ g L2 →
    ∃ Lx L3, EnvR W H0' H' vs σ (puts rs os g) L3 ∧ (La ++ L2).Perm (Lx ++ L3)
  | _, _, _, _, g, L2, .nil, .nil, en => ⟨[], L2, by simpa [puts] using en, .refl _⟩
  | _, _, _, _, g, L2, .val t, .cons (Lo := Lo) (L := Lt) h r, en => by
    obtain ⟨Lx, L3, en3, pm⟩ := puts_ok t r en
    refine ⟨Lo ++ Lx, L3, by simpa [puts] using en3, ?_⟩
    simpa [List.append_assoc] using pm.append_left Lo
  | .slot i :: _, _, _, _, g, L2, .slot hu t, .cons (o := o) (Lo := Lo) (L := Lt) h r, en => by
    cases eg : g[i]? with
    | none =>
      obtain ⟨Lx, L3, en3, pm⟩ := puts_ok t r en
      refine ⟨Lo ++ Lx, L3, by simpa [puts, setO, eg] using en3, ?_⟩
      simpa [List.append_assoc] using pm.append_left Lo
    | some sl =>
      cases es : sl.obj with
      | none =>
        have : sl = .un := by cases sl <;> first | rfl | cases es
        subst this
        obtain ⟨Lx, L3, en3, pm⟩ := puts_ok t r en
        have e2 : setO g i o = g := by
          simp only [setO, eg, Slot.wth]
          exact List.ext_getElem? fun j => by
            by_cases hj : j = i
            · subst hj; rw [List.getElem?_set_self']; simp [eg]
            · rw [List.getElem?_set_ne (Ne.symm hj)]
        refine ⟨Lo ++ Lx, L3, by simpa [puts, e2] using en3, ?_⟩
        simpa [List.append_assoc] using pm.append_left Lo
      | some o1 =>
        obtain ⟨v', La, L1, Lb, h1, h2, h3, h4⟩ := en.at eg es
        rw [h1] at hu; cases hu
        subst h3
        have en1 := h4 H0' H' (Ex.refl _) (fun _ _ _ q => q) o Lo h
        have e2 : setO g i o = g.set i (sl.wth o) := by simp only [setO, eg]
        obtain ⟨Lx, L3, en3, pm⟩ := puts_ok t r en1
        refine ⟨L1 ++ Lx, L3, by simpa [puts, e2] using en3, ?_⟩
        have p1 : (Lo ++ Lt ++ (La ++ (L1 ++ Lb))).Perm (L1 ++ (Lt ++ (La ++ (Lo ++ Lb)))) := by
          have a1 : (Lo ++ Lt ++ (La ++ (L1 ++ Lb))).Perm (L1 ++ (Lo ++ Lt ++ (La ++ Lb))) := by
            simpa [List.append_assoc] using perm_mid4 (Lo ++ Lt) La L1 Lb
          refine a1.trans (List.Perm.append_left L1 ?_)
          have a2 : (Lt ++ (La ++ (Lo ++ Lb))).Perm (Lo ++ (Lt ++ (La ++ Lb))) := perm_mid4 Lt La Lo Lb
          simpa [List.append_assoc] using a2.symm
        refine p1.trans ?_
        rw [List.append_assoc]
        exact List.Perm.append_left L1 (by simpa [List.append_assoc] using pm)
  | .sub i k :: _, _, _, _, g, L2, .sub hu1 hu2 hu3 t, .cons (o := o) (Lo := Lo) (L := Lt) h r, en => by
    have dropped : setS1 g i k o = g → ∃ Lx L3, EnvR W H0' H' vs σ (puts (.sub i k :: _) (o :: _) g) L3 ∧ (Lo ++ Lt ++ L2).Perm (Lx ++ L3) := fun e2 => by
      obtain ⟨Lx, L3, en3, pm⟩ := puts_ok t r en
      refine ⟨Lo ++ Lx, L3, by simpa [puts, e2] using en3, ?_⟩
      simpa [List.append_assoc] using pm.append_left Lo
    cases eg : g[i]? with
    | none => exact dropped (by simp [setS1, eg])
    | some sl =>
      cases es : sl.obj with
      | none => exact dropped (by simp [setS1, eg, es])
      | some o1 =>
        cases o1 with
        | tpl ss =>
          cases ek : ss[k]? with
          | none =>
            refine dropped ?_
            rw [setS1_of o eg es, List.set_eq_of_length_le (List.getElem?_eq_none_iff.mp ek)]
            have : sl.wth (.tpl ss) = sl := by cases sl with
              | un => cases es
              | par o2 => cases es; rfl
              | loc o2 => cases es; rfl
            rw [this]
            exact List.ext_getElem? fun j => by
              by_cases hj : j = i
              · subst hj; rw [List.getElem?_set_self']; simp [eg]
              · rw [List.getElem?_set_ne (Ne.symm hj)]
          | some o2 =>
            obtain ⟨p, us, v', La, L1, Lb, h1, h2, h3, h4, h5, h6⟩ := en.sub eg es ek
            rw [h1] at hu1; cases hu1
            rw [h2] at hu2; cases hu2
            rw [h3] at hu3; cases hu3
            subst h5
            have en1 := h6 H0' H' (Ex.refl _) (fun _ _ _ q => q) o Lo h
            have e2 := setS1_of (k := k) o eg es
            obtain ⟨Lx, L3, en3, pm⟩ := puts_ok t r en1
            refine ⟨L1 ++ Lx, L3, by simpa [puts, e2] using en3, ?_⟩
            have p1 : (Lo ++ Lt ++ (La ++ (L1 ++ Lb))).Perm (L1 ++ (Lt ++ (La ++ (Lo ++ Lb)))) := by
              have a1 : (Lo ++ Lt ++ (La ++ (L1 ++ Lb))).Perm (L1 ++ (Lo ++ Lt ++ (La ++ Lb))) := by
                simpa [List.append_assoc] using perm_mid4 (Lo ++ Lt) La L1 Lb
              refine a1.trans (List.Perm.append_left L1 ?_)
              have a2 : (Lt ++ (La ++ (Lo ++ Lb))).Perm (Lo ++ (Lt ++ (La ++ Lb))) := perm_mid4 Lt La Lo Lb
              simpa [List.append_assoc] using a2.symm
            refine p1.trans ?_
            rw [List.append_assoc]
            exact List.Perm.append_left L1 (by simpa [List.append_assoc] using pm)
        | _ => exact dropped (by simp [setS1, eg, es])
/-- what is known once the arguments stand: the call itself -/
def callR (C : Callee) (f : Nat) (rs : List R) (g1 : G) : Res R := match takes rs g1 with
  | some (os, g2) => match C f os with
    | .ok o os' => .ok (.val o) (puts rs os' g2)
    | .exc x os' => .exc x (puts rs os' g2)
    | .stuck => .stuck
  | none => .stuck
theorem callR_ok {C : Callee} {f : Nat} {m : Nat} {σ : L2.St} {H0 H H01 H1 : Hp} {L Lr L1 : List Addr} {g1 : G} {us : List V} {rs : List R} {Q : VK} (st1 : Step H0 H L H01 H1 (Lr ++ L1)) (rr : RepRs W H01 H1 σ us rs Lr) (en1 : EnvR W H01 H1 vs σ g1 L1)
    (hm : us.length = m) (post : PostE W vs Wx σ H0 H L (callR C f rs g1) Q) : spD W C f m us H1 Q (WE Wx σ) := by
  unfold callR at post
  cases et : takes rs g1 with
  | none => rw [et] at post; exact post.elim
  | some p =>
    obtain ⟨os, g2⟩ := p
    rw [et] at post
    simp only at post
    obtain ⟨La, L2, ro, en2, pm⟩ := takes_ok rr en1 et
    have sp1 : Sep H01 H1 (L2 ++ La) := st1.sep.perm (pm.trans List.perm_append_comm)
    refine ⟨hm, H01, La, os, sp1.right, ro, ?_⟩
    have fr : ∀ {H0' H' : Hp} {La' : List Addr}, Step H01 H1 La H0' H' La' → Step H0 H L H0' H' (L2 ++ La') := fun b =>
      st1.trans ((Step.frame sp1 b).from fun a => (pm.trans List.perm_append_comm).mem_iff.symm)
    cases ec : C f os with
    | stuck => rw [ec] at post; exact post.elim
    | ok o os' =>
      rw [ec] at post
      intro v H' H0' Lo La' b rv ro'
      have st := fr b
      have en3 := en2.mono b.ex0 (Step.keepL sp1 b)
      obtain ⟨Lx, L3, en4, pm2⟩ := puts_ok (rr.toks.mono b.ex0) ro' en3
      have st2 : Step H0 H L H0' H' (Lx ++ (Lo ++ L3)) := by
        refine st.perm ?_
        have a1 : (L2 ++ (Lo ++ La')).Perm (Lo ++ (La' ++ L2)) := by
          have := List.perm_append_comm (l₁ := L2) (l₂ := Lo ++ La')
          simpa [List.append_assoc] using this
        exact (a1.trans (List.Perm.append_left Lo pm2)).trans (perm_mid Lo Lx L3)
      exact post v H' H0' Lo L3 st2.right rv en4
    | exc x os' =>
      rw [ec] at post
      intro c d H' H0' La' b rx ro'
      have st := fr b
      have en3 := en2.mono b.ex0 (Step.keepL sp1 b)
      obtain ⟨Lx, L3, en4, pm2⟩ := puts_ok (rr.toks.mono b.ex0) ro' en3
      have st2 : Step H0 H L H0' H' (Lx ++ L3) := st.perm (List.perm_append_comm.trans pm2)
      exact post c d H' H0' L3 st2.right rx en4
theorem RepRs.len {H0 H : Hp} {σ : L2.St} : ∀ {us : List V} {rs : List R} {L : List Addr}, RepRs W H0 H σ us rs L → us.length = rs.length
  | _, _, _, .nil => rfl
  | _, _, _, .cons _ r => by simp [r.len]
theorem tA_call {C : Callee} {f : Nat} {m : Nat} {A : G → Res (List R)} {σ : L2.St} {H : Hp} {Q : VK} (h : tE W vs Wx (fun g => (A g).bind fun rs g1 => if rs.length = m then callR C f rs g1 else .stuck) σ H Q) : tA W vs Wx A σ H (fun us H1 => spD W C f m us H1 Q (WE Wx σ)) := by
  obtain ⟨H0, L, g, sp, en, post⟩ := h
  refine ⟨H0, L, g, sp, en, ?_⟩
  cases ea : A g with
  | stuck => simp only [ea, Res.bind] at post; exact post.elim
  | exc x g' => simp only [ea, Res.bind] at post; exact post
  | ok rs g1 =>
    simp only [ea, Res.bind] at post
    intro us H1 H01 Lr L1 st1 rr en1
    by_cases hl : rs.length = m
    · rw [if_pos hl] at post
      exact callR_ok st1 rr en1 (by rw [rr.len]; exact hl) post
    · rw [if_neg hl] at post; exact post.elim
end
end VI
namespace L2
open PySem PySem.Spec PyProof.Rows
section
variable {X : Cx} {CX : CXT} {k : Nat} {f C : Addr} {fd : FuncData} {ps : List Str} {sp : Sp} {E : St → XK} {x m : Str} {p pos apos : Pos} {e o : Expr} {es : List Expr} {ta : TE} {t : TA}
theorem pe_callS0 (F : FnOk X.prog X.w X.K X.mg X.base CX k f fd ps sp) (hr : Room k X.A) (hg : Gl X x) (hm : X.mg x = some (.ref f)) (hk : PySem.W.keepIn X.K (.ref f) = true) (hb : Binds X.K fd ps []) (hx : ∀ σ, PassesAt CX X σ (E σ))
    (hdb : (x == ("__debug__" : Str)) = false := by decide) : PE X (.Call (.Name x p) [] [] pos) (tCallS sp E tNil) := by
  refine ⟨fun pins s σ H Q I h => ?_⟩
  refine wpAny_Call_Name_kw (ld_glob I hg hm ?_ hdb)
  exact PySem.W.callWith_K0 I.kIn hk (run_fnS (us := []) F hr hb (hx σ) I .nil h)
/-- o.m(..), the class by the receiver -/
def tMethD (X : Cx) (CX : CXT) (k : Nat) (m : Str) (E : St → XK) (ta : TE) (t : TA) : TE := fun σ H Q => ta σ H fun x H1 => ∃ (C f : Addr) (fd : FuncData) (ps : List Str) (sp : Sp) (a dx : Addr) (fs : List (Str × V)), Cls X.K C ∧ Meth X.K C m f ∧
  FnOk X.prog X.w X.K X.mg X.base CX k f fd ps sp ∧ Binds X.K fd ps [] ∧ x = .ref a ∧ H1 a = some (.ins C dx fs) ∧ fs.lookup m = none ∧ t σ H1 fun vs H2 => sp (x :: vs) H2 Q (E σ)
theorem pe_methD {pl : Sem Bool} (he : PE X o ta) (hr : Room k X.A) (hx : ∀ σ, PassesAt CX X σ (E σ)) (ha : PA X (e :: es) t)
    (hst : starEach (e :: es) X.env = (false, eval e X.env) :: starEach es X.env := by rfl) (hpl : (backTo pos (starEach es X.env)).any (·.1) = false := by rfl)
    (ht : eval (.Call (.Attribute o m apos) (e :: es) [] pos) X.env = (do
      let ov ← eval o X.env
      standAt apos.atName
      let (f, first) ← holding [ov] (getMethod ov m pl)
      callWith pos f first (backTo pos (starEach (e :: es) X.env)) (backToKw pos (keywordEach [] X.env))) := by rfl) :
    PE X (.Call (.Attribute o m apos) (e :: es) [] pos) (tMethD X CX k m E ta t) := by
  refine ⟨fun pins s σ H Q I h => ?_⟩
  refine PySem.W.methodCall_KW (pl := pl) (thn (he.run pins s σ H _ I h) fun u s1 ⟨x, H1, I1, rx, C, f, fd, ps, sp, a, dx, fs, c, hm, F, hb, ex, ea, l, q⟩ => ?_) ht
  subst ex
  obtain rfl : u = Value.ref a := rx
  refine getmeth_ok I1 ea c hm l ?_
  refine PySem.W.callWith_K (first := [.ref a]) (h₀ := X.base) I.ok.mod.kin hm.kp (thn (ha.run pos pins s1 σ H1 _ I1 q) fun us s2 ⟨vs, H2, I2, r, q2⟩ => ⟨I2.kIn, ?_⟩) hst hpl
  exact run_fnS (us := .ref a :: us) (vs := .ref a :: vs) F hr hb (hx σ) I2 (.cons rfl r) q2
theorem pe_methD0 {pl : Sem Bool} (he : PE X o ta) (hr : Room k X.A) (hx : ∀ σ, PassesAt CX X σ (E σ))
    (ht : eval (.Call (.Attribute o m apos) [] [] pos) X.env = (do
      let ov ← eval o X.env
      standAt apos.atName
      let (f, first) ← holding [ov] (getMethod ov m pl)
      callWith pos f first (backTo pos (starEach [] X.env)) (backToKw pos (keywordEach [] X.env))) := by rfl) :
    PE X (.Call (.Attribute o m apos) [] [] pos) (tMethD X CX k m E ta tNil) := by
  refine ⟨fun pins s σ H Q I h => ?_⟩
  refine PySem.W.methodCall_KW (pl := pl) (thn (he.run pins s σ H _ I h) fun u s1 ⟨x, H1, I1, rx, C, f, fd, ps, sp, a, dx, fs, c, hm, F, hb, ex, ea, l, q⟩ => ?_) ht
  subst ex
  obtain rfl : u = Value.ref a := rx
  refine getmeth_ok I1 ea c hm l ?_
  exact PySem.W.callWith_K0 (first := [.ref a]) I1.kIn hm.kp (run_fnS (us := [.ref a]) (vs := [.ref a]) F hr hb (hx σ) I1 (.cons rfl .nil) q)
def tMakeS (C : Addr) (sp : Sp) (E : St → XK) (t : TA) : TE := fun σ H Q => t σ H fun vs H1 => ∀ x dx, H1 x = none → H1 dx = none → dx ≠ x →
  sp (.ref x :: vs) (upd (upd H1 dx (.own x)) x (.ins C dx [])) (fun v H2 => v = .non ∧ Q (.ref x) H2) (E σ)
theorem run_makeS {pins : List (Addr × Obj)} {σ : St} {H : Hp} {s : Shared} {Q : VK} {us : List Value} {vs : List V} (M : Mk X.K C f) (F : FnOk X.prog X.w X.K X.mg X.base CX k f fd ps sp) (hr : Room (k + 1) X.A) (hb : Binds X.K fd ps [])
    (hx : PassesAt CX X σ (E σ)) (I : Inv X pins σ H s) (r : Vals vs us)
    (h : ∀ x dx, H x = none → H dx = none → dx ≠ x → sp (.ref x :: vs) (upd (upd H dx (.own x)) x (.ins C dx [])) (fun v H2 => v = .non ∧ Q (.ref x) H2) (E σ)) :
    wpAny (model X.prog X.w) X.A (call (.ref C) us) (EP X pins σ Q) X.xe s := by
  have hq := h (s.heap.objs.size + 1) s.heap.objs.size (I.hok.fresh (Nat.le_succ _)) (I.hok.fresh (Nat.le_refl _)) (Nat.ne_of_lt (Nat.lt_succ_self _))
  have I2 := Inv.made (C := C) I
  have r2 : Vals (V.ref (s.heap.objs.size + 1) :: vs) (Value.ref (s.heap.objs.size + 1) :: us) := .cons rfl r
  have hl : (Value.ref (s.heap.objs.size + 1) :: us).length = ps.length := by
    have e := r2.length
    rw [F.len _ _ _ _ hq] at e
    exact e.symm
  have b := hb _ (Value.ref (s.heap.objs.size + 1) :: us) I2.kIn (by rw [List.append_nil]; exact hl)
  rw [List.append_nil] at b
  refine wpAny_call (make_map (f := f) I.kIn M.makes M.init (beq_iff_eq.mp M.fn) (codeAny_mono (F.run _ X.stack _ _ ⟨Value.ref (s.heap.objs.size + 1) :: us, []⟩ (Value.ref (s.heap.objs.size + 1) :: us) _ _ (E σ) (hr.make C us [])
    (I2.env0.make C us []) b r2 hq) fun r s' hq' => ?_))
  cases r with
  | error e => exact hx pins _ _ e s' I2 hq'
  | ok fl =>
    cases fl with
    | ret u =>
      obtain ⟨v, H', I3, rv, ev, q3⟩ := I2.after hq'
      subst ev
      exact ⟨rv, ⟨V.ref (s.heap.objs.size + 1), H', I3, rfl, q3⟩⟩
    | next => exact False.elim hq'
    | brk => exact False.elim hq'
    | cont => exact False.elim hq'
theorem pe_makeS (M : Mk X.K C f) (F : FnOk X.prog X.w X.K X.mg X.base CX k f fd ps sp) (hr : Room (k + 1) X.A) (hg : Gl X x) (hm : X.mg x = some (.ref C)) (hb : Binds X.K fd ps []) (hx : ∀ σ, PassesAt CX X σ (E σ))
    (ha : PA X (e :: es) t) (hdb : (x == ("__debug__" : Str)) = false := by decide) (he : starEach (e :: es) X.env = (false, eval e X.env) :: starEach es X.env := by rfl) (hpl : (backTo pos (starEach es X.env)).any (·.1) = false := by rfl) :
    PE X (.Call (.Name x p) (e :: es) [] pos) (tMakeS C sp E t) := by
  refine ⟨fun pins s σ H Q I h => ?_⟩
  refine wpAny_Call_Name_kw (ld_glob I hg hm ?_ hdb)
  refine PySem.W.callWith_K (h₀ := X.base) I.ok.mod.kin M.kp (thn (ha.run pos pins s σ H _ I h) fun us s1 ⟨vs, H1, I1, r, q⟩ => ⟨I1.kIn, ?_⟩) he hpl
  exact run_makeS M F hr hb (hx σ) I1 r q
end
end L2
namespace VI
open PySem PySem.Spec PyProof.Rows L2
section
variable {W : Wd} {vs : List (Option V)} {Wx : WX} {X : Cx} {n : Nat}
def FnAt (W : Wd) (C : Callee) (P : Program) (w : World) (mg : Str → Option Value) (base : Heap) (k : Nat) (x : Str) (fn : Nat) (m : Nat) : Prop :=
  ∃ (f : Addr) (fd : FuncData) (ps : List Str), mg x = some (.ref f) ∧ PySem.W.keepIn W.K (.ref f) = true ∧ FnOk P w W.K mg base (L2.CX P w) k f fd ps (spD W C fn m) ∧ Binds W.K fd ps []
theorem evs_len : ∀ {As : List E} {g : G} {rs : List R} {g' : G}, evs As g = .ok rs g' → rs.length = As.length
  | [], g, rs, g', e => by cases e; rfl
  | A :: As, g, rs, g', e => by
    rw [evs] at e
    cases ea : A g with
    | stuck => rw [ea] at e; cases e
    | exc x g1 => rw [ea] at e; cases e
    | ok r g1 =>
      rw [ea] at e
      simp only [Res.bind] at e
      cases eb : evs As g1 with
      | stuck => rw [eb] at e; cases e
      | exc x g1 => rw [eb] at e; cases e
      | ok rs' g2 =>
        rw [eb] at e
        cases e
        simp [evs_len eb]
def callA (C : Callee) (fn : Nat) (As : List E) : E := fun g => (evs As g).bind fun rs g1 => callR C fn rs g1
theorem tA_callA {C : Callee} {fn : Nat} {As : List E} {σ : L2.St} {H : Hp} {Q : VK} (h : tE W vs Wx (callA C fn As) σ H Q) : tA W vs Wx (evs As) σ H (fun us H1 => spD W C fn As.length us H1 Q (WE Wx σ)) := by
  refine tA_call ?_
  obtain ⟨H0, L, g, sp, en, post⟩ := h
  refine ⟨H0, L, g, sp, en, ?_⟩
  unfold callA at post
  cases ea : evs As g with
  | stuck => rw [ea] at post; exact post.elim
  | exc x g' => rw [ea] at post; simp only [ea]; exact post
  | ok rs g1 =>
    rw [ea] at post
    simp only [ea, Res.bind] at post ⊢
    rw [if_pos (evs_len ea)]
    exact post
theorem se_call {C : Callee} {k m fn : Nat} {x : Str} {p pos : Pos} {e : Expr} {es : List Expr} {As : List E} (cx : Ctx W k Wx X) (hf : FnAt W C X.prog X.w X.mg X.base k x fn m) (ha : SA W vs Wx X (e :: es) (evs As)) (hm : As.length = m) (hg : Gl X x)
    (hdb : (x == ("__debug__" : Str)) = false := by decide) (he : starEach (e :: es) X.env = (false, eval e X.env) :: starEach es X.env := by rfl) (hpl : (backTo pos (starEach es X.env)).any (·.1) = false := by rfl) :
    SE W vs Wx X (.Call (.Name x p) (e :: es) [] pos) (callA C fn As) := by
  obtain ⟨f, fd, ps, h1, h2, F, b⟩ := hf
  subst hm
  rw [← cx.K] at h2 F b
  exact pe_weak (pe_callS F cx.room hg h1 h2 b (fun σ => passAt cx.tk σ) ha hdb he hpl) fun σ H Q q => tA_callA q
theorem se_call0 {C : Callee} {k fn : Nat} {x : Str} {p pos : Pos} (cx : Ctx W k Wx X) (hf : FnAt W C X.prog X.w X.mg X.base k x fn 0) (hg : Gl X x)
    (hdb : (x == ("__debug__" : Str)) = false := by decide) : SE W vs Wx X (.Call (.Name x p) [] [] pos) (callA C fn []) := by
  obtain ⟨f, fd, ps, h1, h2, F, b⟩ := hf
  rw [← cx.K] at h2 F b
  refine pe_weak (pe_callS0 F cx.room hg h1 h2 b (fun σ => passAt cx.tk σ) hdb) fun σ H Q q => ?_
  obtain ⟨H0, L, g, sp, en, post⟩ := tA_callA (As := []) q
  exact post [] H H0 [] L (Step.refl sp) .nil en
/-! ### methods -/
def clsO : O → Option Str
  | .pure (.ins c _) => some c
  | .ins c _ => some c
  | _ => none
def fldO : O → Str → Option O
  | .pure (.ins _ fs), f => (fs.lookup f).map .pure
  | .ins _ fs, f => fs.lookup f
  | _, _ => none
theorem RepFf.lookup {H : Hp} : ∀ {fs : List (Str × V)} {ds : List (Str × D)} {f : Str}, RepFf W H fs ds → (∀ d, ds.lookup f = some d → ∃ v, fs.lookup f = some v ∧ RepF W H v d) ∧ (ds.lookup f = none → fs.lookup f = none)
  | _, _, f, .nil => ⟨fun d h => by simp at h, fun _ => rfl⟩
  | _, _, f, .cons (f := f') (v := v') (d := d') h r => by
    obtain ⟨a, b⟩ := RepFf.lookup (f := f) r
    cases e : f == f' with
    | true =>
      simp only [List.lookup, e]
      exact ⟨fun d q => by cases q; exact ⟨_, rfl, h⟩, fun q => by cases q⟩
    | false => simpa only [List.lookup, e] using ⟨a, b⟩
theorem RepOf.lookup {H0 H : Hp} : ∀ {fs : List (Str × V)} {os : List (Str × O)} {L : List Addr} {f : Str}, RepOf W H0 H fs os L → (∀ o, os.lookup f = some o → ∃ v Lo, fs.lookup f = some v ∧ RepO W H0 H v o Lo ∧ ∀ a ∈ Lo, a ∈ L) ∧ (os.lookup f = none → fs.lookup f = none)
  | _, _, _, f, .nil => ⟨fun d h => by simp at h, fun _ => rfl⟩
  | _, _, _, f, .cons (f := f') (Lo := Lo) h r => by
    obtain ⟨a, b⟩ := RepOf.lookup (f := f) r
    cases e : f == f' with
    | true =>
      simp only [List.lookup, e]
      exact ⟨fun d q => by cases q; exact ⟨_, Lo, rfl, h, fun a ha => List.mem_append_left _ ha⟩, fun q => by cases q⟩
    | false =>
      simp only [List.lookup, e]
      exact ⟨fun o q => (by
        obtain ⟨v, Lo', h1, h2, h3⟩ := a o q
        exact ⟨v, Lo', h1, h2, fun a ha => List.mem_append_right _ (h3 a ha)⟩), b⟩
theorem cls_xf {K : PySem.W.Frag} {C : Addr} (c : Cls K C) (x : XfC K C) : False := by
  have h := c.pg
  unfold PySem.W.plainGet at h
  rw [Bool.and_eq_true] at h
  have h1 := h.1
  rw [x.ga] at h1
  exact absurd h1 (by decide +kernel)
theorem cls_at {H0 H : Hp} {v : V} {o : O} {c : Str} {L : List Addr} (e : Ex H0 H) (h : RepO W H0 H v o L) (hc : clsO o = some c) (hC : ∀ C, W.cl c = some C → Cls W.K C) : ∃ a C dx fs, v = .ref a ∧ H a = some (.ins C dx fs) ∧ W.cl c = some C ∧ ∀ f, fldO o f = none → fs.lookup f = none := by
  cases h with
  | pure f =>
    cases f with
    | ins h1 h2 h3 =>
      cases hc
      exact ⟨_, _, _, _, rfl, e _ _ h1, h2, fun f q => (RepFf.lookup h3).2 (by simpa [fldO] using q)⟩
    | exi h1 h2 h3 h4 h5 =>
      cases hc
      exact (cls_xf (hC _ h3) h4).elim
    | _ => cases hc
  | ins h1 h2 h3 =>
    cases hc
    exact ⟨_, _, _, _, rfl, h1, h2, fun f q => (RepOf.lookup h3).2 (by simpa [fldO] using q)⟩
  | _ => cases hc
def MethAt (W : Wd) (C : Callee) (P : Program) (w : World) (mg : Str → Option Value) (base : Heap) (k : Nat) (c m : Str) (fn : Nat) (ar : Nat) : Prop :=
  ∃ (Ca f : Addr) (fd : FuncData) (ps : List Str), W.cl c = some Ca ∧ Cls W.K Ca ∧ Meth W.K Ca m f ∧ FnOk P w W.K mg base (L2.CX P w) k f fd ps (spD W C fn ar) ∧ Binds W.K fd ps []
def methE (MT : Str → Str → Option Nat) (C : Callee) (m : Str) (A : E) (As : List E) : E := fun g => (A g).bind fun r g1 =>
  match ((ob g1 r).bind fun o => if (fldO o m).isNone then clsO o else none).bind fun c => MT c m with
  | some fn => (evs As g1).bind fun rs g2 => callR C fn (r :: rs) g2
  | none => .stuck
theorem tE_meth {MT : Str → Str → Option Nat} {C : Callee} {k : Nat} {m : Str} {A : E} {As : List E} (cx : Ctx W k Wx X) (hM : ∀ c fn, MT c m = some fn → MethAt W C X.prog X.w X.mg X.base k c m fn (As.length + 1)) {σ : L2.St} {H : Hp} {Q : VK} (q : tE W vs Wx (methE MT C m A As) σ H Q) :
    tMethD X (L2.CX X.prog X.w) k m (WE Wx) (tE W vs Wx A) (tA W vs Wx (evs As)) σ H Q := by
  obtain ⟨H0, L, g, sp, en, post⟩ := q
  refine ⟨H0, L, g, sp, en, ?_⟩
  unfold methE at post
  cases ea : A g with
  | stuck => rw [ea] at post; exact post.elim
  | exc x g' => rw [ea] at post; exact post
  | ok r g1 =>
    rw [ea] at post
    intro v H1 H01 Lr L1 st1 rr en1
    simp only [Res.bind] at post
    cases ed : ((ob g1 r).bind fun o => if (fldO o m).isNone then clsO o else none).bind fun c => MT c m with
    | none => rw [ed] at post; exact post.elim
    | some fn =>
      rw [ed] at post
      simp only at post
      obtain ⟨c, e1, e2⟩ := Option.bind_eq_some_iff.mp ed
      obtain ⟨o, e3, e4⟩ := Option.bind_eq_some_iff.mp e1
      have e5 : fldO o m = none := by
        by_cases z : (fldO o m).isNone
        · exact Option.isNone_iff_eq_none.mp z
        · rw [if_neg z] at e4; cases e4
      rw [if_pos (Option.isNone_iff_eq_none.mpr e5)] at e4
      obtain ⟨Lo, ro, _⟩ := ob_rep en1 rr e3
      obtain ⟨Cb, f, fd, ps, m1, m2, m3, m4, m5⟩ := hM c fn e2
      obtain ⟨a, Ca, dx, fs, h1, h2, h3, h4⟩ := cls_at st1.sep.ex ro e4 fun C hC => by rw [m1] at hC; cases hC; exact m2
      rw [h3] at m1; cases m1
      rw [← cx.K] at m2 m3 m4 m5
      refine ⟨Cb, f, fd, ps, _, a, dx, fs, m2, m3, m4, m5, h1, h2, h4 m e5, ?_⟩
      refine ⟨H01, L1, g1, st1.sep.right, en1, ?_⟩
      cases eb : evs As g1 with
      | stuck => rw [eb] at post; exact post.elim
      | exc x g' =>
        rw [eb] at post
        intro c d H' H0' L' st2 rx en2
        exact post c d H' H0' L' (st1.then st2).right rx en2
      | ok rs g2 =>
        rw [eb] at post
        intro us H2 H02 Ls L2 st2 rs2 en2
        have rr2 : RepR W H02 H2 σ v r Lr := rr.mono st2.ex0 (Step.keepL st1.sep st2)
        refine callR_ok (Lr := Lr ++ Ls) (rs := r :: rs) (by simpa [List.append_assoc] using st1.then st2) (.cons rr2 rs2) en2 ?_ post
        simp [rs2.len, evs_len eb]
theorem se_meth {MT : Str → Str → Option Nat} {C : Callee} {k : Nat} {m : Str} {apos pos : Pos} {o e : Expr} {es : List Expr} {A : E} {As : List E} {pl : Sem Bool} (cx : Ctx W k Wx X) (hM : ∀ c fn, MT c m = some fn → MethAt W C X.prog X.w X.mg X.base k c m fn (As.length + 1))
    (ho : SE W vs Wx X o A) (ha : SA W vs Wx X (e :: es) (evs As))
    (hst : starEach (e :: es) X.env = (false, eval e X.env) :: starEach es X.env := by rfl) (hpl : (backTo pos (starEach es X.env)).any (·.1) = false := by rfl)
    (ht : eval (.Call (.Attribute o m apos) (e :: es) [] pos) X.env = (do
      let ov ← eval o X.env
      standAt apos.atName
      let (f, first) ← holding [ov] (getMethod ov m pl)
      callWith pos f first (backTo pos (starEach (e :: es) X.env)) (backToKw pos (keywordEach [] X.env))) := by rfl) :
    SE W vs Wx X (.Call (.Attribute o m apos) (e :: es) [] pos) (methE MT C m A As) :=
  pe_weak (pe_methD ho cx.room (fun σ => passAt cx.tk σ) ha hst hpl ht) fun σ H Q q => tE_meth cx hM q
theorem se_meth0 {MT : Str → Str → Option Nat} {C : Callee} {k : Nat} {m : Str} {apos pos : Pos} {o : Expr} {A : E} {pl : Sem Bool} (cx : Ctx W k Wx X) (hM : ∀ c fn, MT c m = some fn → MethAt W C X.prog X.w X.mg X.base k c m fn 1)
    (ho : SE W vs Wx X o A)
    (ht : eval (.Call (.Attribute o m apos) [] [] pos) X.env = (do
      let ov ← eval o X.env
      standAt apos.atName
      let (f, first) ← holding [ov] (getMethod ov m pl)
      callWith pos f first (backTo pos (starEach [] X.env)) (backToKw pos (keywordEach [] X.env))) := by rfl) :
    SE W vs Wx X (.Call (.Attribute o m apos) [] [] pos) (methE MT C m A []) := by
  refine pe_weak (pe_methD0 ho cx.room (fun σ => passAt cx.tk σ) ht) fun σ H Q q => ?_
  have q2 := tE_meth (As := []) cx hM q
  obtain ⟨H0, L, g, sp, en, post⟩ := q2
  refine ⟨H0, L, g, sp, en, ?_⟩
  cases ea : A g with
  | stuck => rw [ea] at post; exact post.elim
  | exc x g' => rw [ea] at post; exact post
  | ok r g1 =>
    rw [ea] at post
    intro v H1 H01 Lr L1 st1 rr en1
    obtain ⟨Ca, f, fd, ps, sp, a, dx, fs, m2, m3, m4, m5, h1, h2, h4, H0', L', g', sp', en', post'⟩ := post v H1 H01 Lr L1 st1 rr en1
    exact ⟨Ca, f, fd, ps, sp, a, dx, fs, m2, m3, m4, m5, h1, h2, h4, post' [] H1 H0' [] L' (Step.refl sp') .nil en'⟩
/-! ### a new instance -/
def makeA (C : Callee) (c : Str) (fn : Nat) (As : List E) : E := fun g => (evs As g).bind fun rs g1 => match takes rs g1 with
  | some (os, g2) => match C fn (.ins c [] :: os) with
    | .ok (.pure .non) (self :: os') => .ok (.val self) (puts rs os' g2)
    | .exc x (_ :: os') => .exc x (puts rs os' g2)
    | _ => .stuck
  | none => .stuck
def MakeAt (W : Wd) (C : Callee) (P : Program) (w : World) (mg : Str → Option Value) (base : Heap) (k : Nat) (x c : Str) (fn : Nat) (ar : Nat) : Prop :=
  ∃ (Ca f : Addr) (fd : FuncData) (ps : List Str), W.cl c = some Ca ∧ Mk W.K Ca f ∧ mg x = some (.ref Ca) ∧ FnOk P w W.K mg base (L2.CX P w) k f fd ps (spD W C fn ar) ∧ Binds W.K fd ps []
theorem own_new {H0 H : Hp} {p dx Ca : Addr} {c : Str} (e : Ex H0 H) (hp : H p = none) (hd : H dx = none) (hne : dx ≠ p) (hc : W.cl c = some Ca) :
    Step H0 H [] H0 (upd (upd H dx (.own p)) p (.ins Ca dx [])) [p] ∧ RepO W H0 (upd (upd H dx (.own p)) p (.ins Ca dx [])) (.ref p) (.ins c []) [p] := by
  have h0 : H0 p = none := by
    cases z : H0 p with
    | none => rfl
    | some u => rw [e p u z] at hp; cases hp
  have e1 : Ex H (upd (upd H dx (.own p)) p (.ins Ca dx [])) := fun a u h => by
    rw [upd_ne (ne_of_none h hp), upd_ne (ne_of_none h hd)]; exact h
  refine ⟨⟨Ex.refl _, fun a u h _ => e1 a u h, fun a h => .inl h, fun a h => ?_, ⟨e.trans e1, by simp, fun q hq => ?_⟩⟩, ?_⟩
  · have : a = p := by simpa using h
    exact .inr (by rw [this]; exact hp)
  · have : q = p := by simpa using hq
    subst this
    exact ⟨h0, _, upd_same⟩
  · exact .ins (L := []) upd_same hc .nil
theorem se_make {C : Callee} {k fn : Nat} {x c : Str} {p pos : Pos} {e : Expr} {es : List Expr} {As : List E} (cx : Ctx W (k + 1) Wx X) (hf : MakeAt W C X.prog X.w X.mg X.base k x c fn (As.length + 1)) (ha : SA W vs Wx X (e :: es) (evs As)) (hg : Gl X x)
    (hdb : (x == ("__debug__" : Str)) = false := by decide) (he : starEach (e :: es) X.env = (false, eval e X.env) :: starEach es X.env := by rfl) (hpl : (backTo pos (starEach es X.env)).any (·.1) = false := by rfl) :
    SE W vs Wx X (.Call (.Name x p) (e :: es) [] pos) (makeA C c fn As) := by
  obtain ⟨Ca, f, fd, ps, h1, h2, h3, F, b⟩ := hf
  rw [← cx.K] at h2 F b
  refine pe_weak (pe_makeS h2 F cx.room hg h3 b (fun σ => passAt cx.tk σ) ha hdb he hpl) fun σ H Q q => ?_
  obtain ⟨H0, L, g, sp, en, post⟩ := q
  refine ⟨H0, L, g, sp, en, ?_⟩
  unfold makeA at post
  cases ea : evs As g with
  | stuck => rw [ea] at post; exact post.elim
  | exc x g' => rw [ea] at post; exact post
  | ok rs g1 =>
    rw [ea] at post
    intro us H1 H01 Lr L1 st1 rr en1
    simp only [Res.bind] at post
    cases et : takes rs g1 with
    | none => rw [et] at post; exact post.elim
    | some pr =>
      obtain ⟨os, g2⟩ := pr
      rw [et] at post
      simp only at post
      obtain ⟨La, L2, ro, en2, pm⟩ := takes_ok rr en1 et
      intro p dx hp hd hne
      obtain ⟨sn, rn⟩ := own_new (W := W) st1.sep.ex hp hd hne h1
      generalize hH2 : upd (upd H1 dx (.own p)) p (.ins Ca dx []) = H2 at *
      have sp1 : Sep H01 H1 ((L2 ++ La) ++ []) := by simpa using st1.sep.perm (pm.trans List.perm_append_comm)
      have s2 : Step H01 H1 ((L2 ++ La) ++ []) H01 H2 ((L2 ++ La) ++ [p]) := Step.frame sp1 sn
      have s2' : Step H01 H1 (Lr ++ L1) H01 H2 (L2 ++ ([p] ++ La)) := by
        refine (s2.from fun a => ?_).perm ?_
        · simpa using (pm.trans List.perm_append_comm).mem_iff.symm
        · rw [List.append_assoc]; exact List.Perm.append_left L2 List.perm_append_comm
      have ro2 : RepOs W H01 H2 us os La := ro.mono (Ex.refl _) fun a ha u hu => Step.keepL (Lb := []) (Lb' := [p]) (La := La) (by simpa using (st1.sep.perm pm).left) sn a ha u hu
      have en3 : EnvR W H01 H2 vs σ g2 L2 := en2.mono (Ex.refl _) fun a ha u hu => Step.keepL (Lb := []) (Lb' := [p]) (La := L2) (by simpa using (st1.sep.perm pm).right) sn a ha u hu
      refine ⟨by simp [rr.len, evs_len ea], H01, [p] ++ La, .ins c [] :: os, s2'.sep.right, .cons rn ro2, ?_⟩
      have fr : ∀ {H0' H' : Hp} {La' : List Addr}, Step H01 H2 ([p] ++ La) H0' H' La' → Step H0 H L H0' H' (L2 ++ La') := fun b => (st1.trans s2').trans (Step.frame s2'.sep b)
      cases ec : C fn (.ins c [] :: os) with
      | stuck => rw [ec] at post; exact post.elim
      | ok o os1 =>
        rw [ec] at post
        cases os1 with
        | nil =>
          exfalso
          revert post; cases o <;> try (intro z; exact z)
          rename_i d; cases d <;> intro z <;> exact z
        | cons self os' =>
          have ho : o = .pure .non := by
            cases o with
            | pure d => cases d <;> first | rfl | exact post.elim
            | _ => exact post.elim
          subst ho
          simp only at post
          intro v H' H0' Lo La' b rv ro'
          have st := fr b
          cases rv with
          | pure rv =>
            cases rv
            cases ro' with
            | @cons _ _ _ _ Ls Lt rself ro'' =>
              refine ⟨rfl, ?_⟩
              have en4 := en3.mono b.ex0 (Step.keepL s2'.sep b)
              obtain ⟨Lx, L3, en5, pm2⟩ := puts_ok (rr.toks.mono b.ex0) ro'' en4
              have st2 : Step H0 H L H0' H' (Lx ++ (Ls ++ L3)) := by
                refine st.perm ?_
                have a1 : (L2 ++ ([] ++ (Ls ++ Lt))).Perm (Ls ++ (Lt ++ L2)) := by
                  have := List.perm_append_comm (l₁ := L2) (l₂ := Ls ++ Lt)
                  simpa [List.append_assoc] using this
                exact (a1.trans (List.Perm.append_left Ls pm2)).trans (perm_mid Ls Lx L3)
              exact post (.ref p) H' H0' Ls L3 st2.right rself en5
      | exc x os1 =>
        rw [ec] at post
        cases os1 with
        | nil => exact post.elim
        | cons self os' =>
          simp only at post
          intro cc d H' H0' La' b rx ro'
          have st := fr b
          cases ro' with
          | @cons _ _ _ _ Ls Lt rself ro'' =>
            have en4 := en3.mono b.ex0 (Step.keepL s2'.sep b)
            obtain ⟨Lx, L3, en5, pm2⟩ := puts_ok (rr.toks.mono b.ex0) ro'' en4
            have st2 : Step H0 H L H0' H' ((Ls ++ Lx) ++ L3) := by
              refine st.perm ?_
              have a1 : (L2 ++ (Ls ++ Lt)).Perm (Ls ++ (Lt ++ L2)) := by
                have := List.perm_append_comm (l₁ := L2) (l₂ := Ls ++ Lt)
                simpa [List.append_assoc] using this
              have a2 := a1.trans (List.Perm.append_left Ls pm2)
              simpa [List.append_assoc] using a2
            exact post cc d H' H0' L3 st2.right rx en5
/-! ### attributes -/
def attrF (f : Str) : O → Option O
  | .pure (.ins _ fs) => (fs.lookup f).map .pure
  | .ins _ fs => match fs.lookup f with
    | some (.pure d) => some (.pure d)
    | _ => none
  | _ => none
/-- f is a field of c's instances: no class of it has the name -/
def FldAt (W : Wd) (c f : Str) : Prop := ∃ Ca, W.cl c = some Ca ∧ Cls W.K Ca ∧ NoAttr W.K Ca f
def attrE (FT : Str → Str → Bool) (f : Str) (A : E) : E := una (fun o => match clsO o with
  | some c => if FT c f then attrF f o else none
  | none => none) A
theorem se_attr {FT : Str → Str → Bool} {f : Str} {pos : Pos} {e : Expr} {A : E} {k : Nat} (cx : Ctx W k Wx X) (hF : ∀ c f, FT c f = true → FldAt W c f) (h : SE W vs Wx X e A) (hb : attributeBase e f X.env (eval e X.env) = eval e X.env := by rfl) : SE W vs Wx X (.Attribute e f pos) (attrE FT f A) := by
  refine pe_weak (pe_fld h hb) fun σ H Q q => ?_
  obtain ⟨H0, L, g, sp, en, post⟩ := tO_una σ H Q q
  refine ⟨H0, L, g, sp, en, ?_⟩
  cases ea : A g with
  | stuck => rw [ea] at post; exact post.elim
  | exc x g' => rw [ea] at post; exact post
  | ok r g1 =>
    rw [ea] at post
    intro v H1 H01 Lr L1 st1 rr en1
    obtain ⟨H02, ox, Lx, o, ex, ro, ef, gv⟩ := post v H1 H01 Lr L1 st1 rr en1
    cases ec : clsO ox with
    | none => simp only [ec] at ef; cases ef
    | some c =>
      simp only [ec] at ef
      by_cases hft : FT c f = true
      · rw [if_pos hft] at ef
        obtain ⟨Ca, f1, f2, f3⟩ := hF c f hft
        rw [← cx.K] at f2 f3
        cases ro with
        | pure rf =>
          cases rf with
          | ins h1 h2 h3 =>
            cases ec
            rw [f1] at h2; cases h2
            simp only [attrF] at ef
            obtain ⟨d, e1, e2⟩ := Option.map_eq_some_iff.mp ef
            subst e2
            obtain ⟨v', l1, l2⟩ := (RepFf.lookup h3).1 d e1
            exact ⟨_, _, _, _, v', rfl, ex _ _ h1, f2, f3, l1, gv.atom ex l2⟩
          | exi h1 h2 h3 h4 h5 =>
            cases ec
            rw [f1] at h3; cases h3
            rw [cx.K] at f2
            exact (cls_xf f2 h4).elim
          | _ => cases ec
        | ins h1 h2 h3 =>
          cases ec
          rw [f1] at h2; cases h2
          simp only [attrF] at ef
          split at ef
          · rename_i d e1
            cases ef
            obtain ⟨v', Lo, l1, l2, _⟩ := (RepOf.lookup h3).1 _ e1
            cases l2 with
            | pure l2 => exact ⟨_, _, _, _, v', rfl, h1, f2, f3, l1, gv.atom ex l2⟩
          · cases ef
        | _ => cases ec
      · rw [if_neg hft] at ef; cases ef
end
end VI
namespace VI
open PySem PySem.Spec PyProof.Rows L2
section
variable {W : Wd} {vs : List (Option V)} {Wx : WX} {X : Cx} {n : Nat}
/-! ### tests -/
def truO : O → Option Bool
  | .pure .non => some false
  | .pure (.bl b) => some b
  | .pure (.int i) => some (i != 0)
  | .pure (.str s) => if s.length ≤ sizeLine then some ((s.length : Int) != 0) else none
  | .pure (.tup l) => some (!l.isEmpty)
  | .pure (.lst l) => some (!l.isEmpty)
  | .lst l => some (!l.isEmpty)
  | _ => none
theorem RepFs.isEmpty {H : Hp} {us : List V} {ds : List D} (h : RepFs W H us ds) : us.isEmpty = ds.isEmpty := by cases h <;> rfl
theorem truV_of {H0 H : Hp} {v : V} {o : O} {L : List Addr} {b : Bool} (e : Ex H0 H) (h : RepO W H0 H v o L) (hb : truO o = some b) : TruV W.K v H b := by
  cases h with
  | pure f =>
    cases f with
    | non => cases hb; rfl
    | bl b' => cases hb; rfl
    | int i => cases hb; rfl
    | str s =>
      simp only [truO] at hb
      split at hb
      · rename_i hs; cases hb; exact ⟨hs, rfl⟩
      · cases hb
    | tup h1 h2 => cases hb; exact .inr (.inl ⟨_, ex_t e h1, by rw [h2.isEmpty]⟩)
    | lst h1 h2 => cases hb; exact .inl ⟨_, ex_l e h1, by rw [h2.isEmpty]⟩
    | _ => cases hb
  | lst h1 h2 => cases hb; exact .inl ⟨_, SqL.of h1, by rw [h2.isEmpty]⟩
  | _ => cases hb
def truT (A : E) : G → Res Bool := fun g => (A g).bind fun r g1 => match (ob g1 r).bind truO with
  | some b => .ok b g1
  | none => .stuck
theorem tT_drop {σ : L2.St} {H0 H H01 H1 : Hp} {L Lr L1 : List Addr} {g1 : G} {b : Bool} {Q : Bool → Hp → Prop} (st : Step H0 H L H01 H1 (Lr ++ L1)) (en : EnvR W H01 H1 vs σ g1 L1) (post : PostT W vs Wx σ H0 H L (.ok b g1) Q) : Q b H1 := post H1 H01 L1 st.right en
theorem st_tru {k : Nat} {e : Expr} {A : E} (cx : Ctx W k Wx X) (h : SE W vs Wx X e A) (he : ∀ whole, isTrue e X.env whole = (do let v ← whole; standAt e.pos; holding [v] (truthy v)) := by intro _; rfl) : ST W vs Wx X e (truT A) := by
  refine pt_weak (pt_truth h he) fun σ H Q ⟨H0, L, g, sp, en, post⟩ => ?_
  refine ⟨H0, L, g, sp, en, ?_⟩
  unfold truT at post
  cases ea : A g with
  | stuck => rw [ea] at post; exact post.elim
  | exc x g' => rw [ea] at post; exact post
  | ok r g1 =>
    rw [ea] at post
    intro v H1 H01 Lr L1 st1 rr en1
    simp only [Res.bind] at post
    cases eb : (ob g1 r).bind truO with
    | none => rw [eb] at post; exact post.elim
    | some b =>
      rw [eb] at post
      obtain ⟨o, e1, e2⟩ := Option.bind_eq_some_iff.mp eb
      obtain ⟨Lo, ro, _⟩ := ob_rep en1 rr e1
      exact ⟨b, by rw [cx.K]; exact truV_of st1.sep.ex ro e2, tT_drop st1 en1 post⟩
/-- a comparison as a test: its value is a truth value -/
def blT (A : E) : G → Res Bool := fun g => (A g).bind fun r g1 => match r with
  | .val (.pure (.bl b)) => .ok b g1
  | _ => .stuck
theorem tT_bl {A : E} : ∀ σ H Q, tT W vs Wx (blT A) σ H Q → tE W vs Wx A σ H (fun x H' => ∃ k, x = .bl k ∧ Q k H') := fun σ H Q ⟨H0, L, g, sp, en, post⟩ => by
  refine ⟨H0, L, g, sp, en, ?_⟩
  unfold blT at post
  cases ea : A g with
  | stuck => rw [ea] at post; exact post.elim
  | exc x g' => rw [ea] at post; exact post
  | ok r g1 =>
    rw [ea] at post
    intro v H1 H01 Lr L1 st1 rr en1
    simp only [Res.bind] at post
    split at post
    · rename_i b
      cases rr with
      | pure f =>
        cases f
        exact ⟨b, rfl, post H1 H01 L1 st1.right en1⟩
    · exact post.elim
theorem st_cmp {op : CmpOp} {a b : Expr} {pos : Pos} {A B : E} {f : O → O → Option O} (ho : OpR X (compareOp op) (rO W f)) (ha : SE W vs Wx X a A) (hb : SE W vs Wx X b B) (hm : behindInMarks op b = false) : ST W vs Wx X (.Compare a [op] [b] pos) (blT (bin f A B)) :=
  pt_weak (pt_cmpR ho ha hb hm) fun σ H Q q => by
    have h := tT_bl σ H Q q
    exact tO_bin σ H _ h
theorem st_val {e : Expr} {A : E} (h : SE W vs Wx X e A) (he : ∀ whole, isTrue e X.env whole = (do let v ← whole; standAt e.pos; holding [v] (truthy v)) := by intro _; rfl) : ST W vs Wx X e (blT A) :=
  pt_weak (pt_val h he) fun σ H Q q => tT_bl σ H Q q
def SW (W : Wd) (vs : List (Option V)) (Wx : WX) (X : Cx) (e : Expr) (A : G → Res Bool) : Prop := PW X e (tT W vs Wx A)
def andT (a b : G → Res Bool) : G → Res Bool := fun g => (a g).bind fun c g1 => if c then b g1 else .ok false g1
def orT (a b : G → Res Bool) : G → Res Bool := fun g => (a g).bind fun c g1 => if c then .ok true g1 else b g1
def notT (a : G → Res Bool) : G → Res Bool := fun g => (a g).bind fun c g1 => .ok (!c) g1
theorem tT_bind {a : G → Res Bool} {f : Bool → G → Res Bool} {σ : L2.St} {H : Hp} {Q : Bool → Hp → Prop} {R' : Bool → Hp → Prop} (h : tT W vs Wx (fun g => (a g).bind f) σ H Q)
    (k : ∀ c H1, tT W vs Wx (f c) σ H1 Q → R' c H1) : tT W vs Wx a σ H R' := by
  obtain ⟨H0, L, g, sp, en, post⟩ := h
  refine ⟨H0, L, g, sp, en, ?_⟩
  dsimp only at post
  cases ea : a g with
  | stuck => rw [ea] at post; exact post.elim
  | exc x g' => rw [ea] at post; exact post
  | ok c g1 =>
    rw [ea] at post
    intro H1 H01 L1 st1 en1
    refine k c H1 ⟨H01, L1, g1, st1.sep, en1, ?_⟩
    simp only [Res.bind] at post
    cases eb : f c g1 with
    | stuck => rw [eb] at post; exact post.elim
    | exc x g' => rw [eb] at post; intro cc d H' H0' L' st2 rx en2; exact post cc d H' H0' L' (st1.trans st2) rx en2
    | ok b g2 => rw [eb] at post; intro H' H0' L' st2 en2; exact post H' H0' L' (st1.trans st2) en2
theorem sw_and1 {a : Expr} {pos : Pos} {A : G → Res Bool} (h : ST W vs Wx X a A) : SW W vs Wx X (.BoolOp .And [a] pos) A := pw_and1 h
theorem sw_or1 {a : Expr} {pos : Pos} {A : G → Res Bool} (h : ST W vs Wx X a A) : SW W vs Wx X (.BoolOp .Or [a] pos) A := pw_or1 h
theorem sw_and {a b : Expr} {rest : List Expr} {pos : Pos} {A B : G → Res Bool} (h : ST W vs Wx X a A) (h2 : SW W vs Wx X (.BoolOp .And (b :: rest) pos) B) : SW W vs Wx X (.BoolOp .And (a :: b :: rest) pos) (andT A B) :=
  pw_weak (pw_and h h2) fun σ H Q q => tT_bind q fun c H1 z => by
    cases c with
    | true => exact z
    | false =>
      obtain ⟨H0, L, g, sp, en, post⟩ := z
      exact post H1 H0 L (Step.refl sp) en
theorem sw_or {a b : Expr} {rest : List Expr} {pos : Pos} {A B : G → Res Bool} (h : ST W vs Wx X a A) (h2 : SW W vs Wx X (.BoolOp .Or (b :: rest) pos) B) : SW W vs Wx X (.BoolOp .Or (a :: b :: rest) pos) (orT A B) :=
  pw_weak (pw_or h h2) fun σ H Q q => tT_bind q fun c H1 z => by
    cases c with
    | false => exact z
    | true =>
      obtain ⟨H0, L, g, sp, en, post⟩ := z
      exact post H1 H0 L (Step.refl sp) en
theorem st_sw {e : Expr} {A : G → Res Bool} (h : SW W vs Wx X e A) : ST W vs Wx X e A := PW.pt h
theorem st_not {a : Expr} {pos : Pos} {A : G → Res Bool} (h : ST W vs Wx X a A) : ST W vs Wx X (.UnaryOp .Not a pos) (notT A) :=
  pt_weak (pt_not h) fun σ H Q q => tT_bind q fun c H1 z => by
    obtain ⟨H0, L, g, sp, en, post⟩ := z
    exact post H1 H0 L (Step.refl sp) en
/-! ### values of and, or, not, if else -/
def andE (a b : E) : E := fun g => (blT a g).bind fun c g1 => if c then (blT b g1).bind fun c2 g2 => .ok (.val (.pure (.bl c2))) g2 else .ok (.val (.pure (.bl false))) g1
def orE (a b : E) : E := fun g => (blT a g).bind fun c g1 => if c then .ok (.val (.pure (.bl true))) g1 else (blT b g1).bind fun c2 g2 => .ok (.val (.pure (.bl c2))) g2
def notE (a : E) : E := fun g => (blT a g).bind fun c g1 => .ok (.val (.pure (.bl (!c)))) g1
def ifE (t : G → Res Bool) (a b : E) : E := fun g => (t g).bind fun c g1 => if c then a g1 else b g1
theorem tE_test {t : G → Res Bool} {f : Bool → E} {σ : L2.St} {H : Hp} {Q : VK} {R' : Bool → Hp → Prop} (h : tE W vs Wx (fun g => (t g).bind f) σ H Q)
    (k : ∀ c H1, tE W vs Wx (f c) σ H1 Q → R' c H1) : tT W vs Wx t σ H R' := by
  obtain ⟨H0, L, g, sp, en, post⟩ := h
  refine ⟨H0, L, g, sp, en, ?_⟩
  dsimp only at post
  cases ea : t g with
  | stuck => rw [ea] at post; exact post.elim
  | exc x g' => rw [ea] at post; exact post
  | ok c g1 =>
    rw [ea] at post
    intro H1 H01 L1 st1 en1
    refine k c H1 ⟨H01, L1, g1, st1.sep, en1, ?_⟩
    simp only [Res.bind] at post
    cases eb : f c g1 with
    | stuck => rw [eb] at post; exact post.elim
    | exc x g' => rw [eb] at post; intro cc d H' H0' L' st2 rx en2; exact post cc d H' H0' L' (st1.trans st2) rx en2
    | ok b g2 => rw [eb] at post; intro v H' H0' Lr L' st2 rr en2; exact post v H' H0' Lr L' (st1.trans st2) rr en2
theorem tE_ret {g0 : Bool} {σ : L2.St} {H : Hp} {Q : VK} (h : tE W vs Wx (fun g => .ok (.val (.pure (.bl g0))) g) σ H Q) : Q (.bl g0) H := by
  obtain ⟨H0, L, g, sp, en, post⟩ := h
  exact post _ H H0 [] L (Step.refl sp) (.pure (.bl _)) en
theorem se_and {a b : Expr} {rest : List Expr} {pos : Pos} {A B : E} (ha : SE W vs Wx X a A) (hb : SE W vs Wx X (.BoolOp .And (b :: rest) pos) B) : SE W vs Wx X (.BoolOp .And (a :: b :: rest) pos) (andE A B) :=
  pe_weak (pe_and ha hb) fun σ H Q q => tT_bl σ H _ (tE_test q fun c H1 z => by
    cases c with
    | true =>
      rw [if_pos rfl]
      have z2 : tE W vs Wx (fun g => (blT B g).bind fun c2 g2 => .ok (.val (.pure (.bl c2))) g2) σ H1 Q := z
      have h1 := tT_bl σ H1 (fun k H' => Q (.bl k) H') (tE_test z2 fun c H1 z => tE_ret (g0 := c) z)
      exact h1.elim fun H0 ⟨L, g, sp, en, post⟩ => ⟨H0, L, g, sp, en, by
        cases eb : B g with
        | stuck => rw [eb] at post; exact post
        | exc x g' => rw [eb] at post; exact post
        | ok r g1 =>
          rw [eb] at post
          intro v H' H0' Lr L' st rr en'
          obtain ⟨k, e1, e2⟩ := post v H' H0' Lr L' st rr en'
          rw [e1]; exact e2⟩
    | false => rw [if_neg Bool.false_ne_true]; exact tE_ret (g0 := false) z)
theorem se_or {a b : Expr} {rest : List Expr} {pos : Pos} {A B : E} (ha : SE W vs Wx X a A) (hb : SE W vs Wx X (.BoolOp .Or (b :: rest) pos) B) : SE W vs Wx X (.BoolOp .Or (a :: b :: rest) pos) (orE A B) :=
  pe_weak (pe_or ha hb) fun σ H Q q => tT_bl σ H _ (tE_test q fun c H1 z => by
    cases c with
    | false =>
      rw [if_neg Bool.false_ne_true]
      have z2 : tE W vs Wx (fun g => (blT B g).bind fun c2 g2 => .ok (.val (.pure (.bl c2))) g2) σ H1 Q := z
      have h1 := tT_bl σ H1 (fun k H' => Q (.bl k) H') (tE_test z2 fun c H1 z => tE_ret (g0 := c) z)
      exact h1.elim fun H0 ⟨L, g, sp, en, post⟩ => ⟨H0, L, g, sp, en, by
        cases eb : B g with
        | stuck => rw [eb] at post; exact post
        | exc x g' => rw [eb] at post; exact post
        | ok r g1 =>
          rw [eb] at post
          intro v H' H0' Lr L' st rr en'
          obtain ⟨k, e1, e2⟩ := post v H' H0' Lr L' st rr en'
          rw [e1]; exact e2⟩
    | true => rw [if_pos rfl]; exact tE_ret (g0 := true) z)
theorem se_one {op : BoolOp} {a : Expr} {pos : Pos} {A : E} (h : SE W vs Wx X a A) : SE W vs Wx X (.BoolOp op [a] pos) A := pe_one h
theorem se_not {a : Expr} {pos : Pos} {A : E} (ha : SE W vs Wx X a A) : SE W vs Wx X (.UnaryOp .Not a pos) (notE A) :=
  pe_weak (pe_not ha) fun σ H Q q => tT_bl σ H _ (tE_test q fun c H1 z => tE_ret (g0 := !c) z)
theorem se_if {c a b : Expr} {pos : Pos} {T : G → Res Bool} {A B : E} (hc : ST W vs Wx X c T) (ha : SE W vs Wx X a A) (hb : SE W vs Wx X b B) : SE W vs Wx X (.IfExp c a b pos) (ifE T A B) :=
  pe_weak (pe_ifExp hc ha hb) fun σ H Q q => tE_test q fun c H1 z => by
    cases c with
    | true => rw [if_pos rfl]; exact z
    | false => rw [if_neg Bool.false_ne_true]; exact z
/-! ### statements -/
def nextS : S := fun g => .ok .next g
def seqS (a b : S) : S := fun g => (a g).bind fun f g1 => match f with
  | .next => b g1
  | f => .ok f g1
theorem ss_nil : SB W vs Wx X [] nextS := pss_weak pss_nil fun De σ H ⟨H0, L, g, sp, en, post⟩ => post σ H H0 L (Step.refl sp) en
theorem PostS.step {H0 H H01 H1 : Hp} {L L1 : List Addr} {r : Res Fl} {De : Ends} (st : Step H0 H L H01 H1 L1) (h : PostS W vs Wx H0 H L r De) : PostS W vs Wx H01 H1 L1 r De := by
  cases r with
  | stuck => exact h
  | exc x g => exact fun c d σ' H' H0' L' s2 rx en => h c d σ' H' H0' L' (st.trans s2) rx en
  | ok f g =>
    cases f with
    | next => exact fun σ' H' H0' L' s2 en => h σ' H' H0' L' (st.trans s2) en
    | brk => exact fun σ' H' H0' L' s2 en => h σ' H' H0' L' (st.trans s2) en
    | cont => exact fun σ' H' H0' L' s2 en => h σ' H' H0' L' (st.trans s2) en
    | ret o => exact fun v σ' H' H0' Lo L' s2 ro en => h v σ' H' H0' Lo L' (st.trans s2) ro en
theorem sb_cons {st : Stmt} {rest : List Stmt} {A B : S} (h1 : SS W vs Wx X st A) (h2 : SB W vs Wx X rest B) : SB W vs Wx X (st :: rest) (seqS A B) := by
  refine pss_weak (pss_cons h1 h2) fun De σ H ⟨H0, L, g, sp, en, post⟩ => ?_
  refine ⟨H0, L, g, sp, en, ?_⟩
  unfold seqS at post
  cases ea : A g with
  | stuck => rw [ea] at post; exact post.elim
  | exc x g' => rw [ea] at post; exact post
  | ok f g1 =>
    rw [ea] at post
    simp only [Res.bind] at post
    cases f with
    | next => exact fun σ' H' H0' L' s2 en2 => ⟨H0', L', g1, s2.sep, en2, PostS.step s2 post⟩
    | brk => exact post
    | cont => exact post
    | ret o => exact post
theorem sb_one {st : Stmt} {A : S} (h1 : SS W vs Wx X st A) : SB W vs Wx X [st] A := pss_one h1
def dropS (A : E) : S := fun g => (A g).bind fun _ g1 => .ok .next g1
theorem ss_expr {e : Expr} {pos : Pos} {A : E} (h : SE W vs Wx X e A) (hs : swapsWith e none pos.line X.env = pure false := by rfl) : SS W vs Wx X (.Expr e pos) (dropS A) := by
  refine ps_weak (ps_expr h hs) fun De σ H ⟨H0, L, g, sp, en, post⟩ => ?_
  refine ⟨H0, L, g, sp, en, ?_⟩
  unfold dropS at post
  cases ea : A g with
  | stuck => rw [ea] at post; exact post.elim
  | exc x g' => rw [ea] at post; exact fun c d H' H0' L' s2 rx en2 => post c d σ H' H0' L' s2 rx en2
  | ok r g1 =>
    rw [ea] at post
    exact fun v H' H0' Lr L' s2 rr en2 => post σ H' H0' L' s2.right en2
theorem ss_doc {x j pos pos'} : SS W vs Wx X (.Expr (.Constant (.str x) j pos) pos') nextS := ps_weak ps_doc fun De σ H ⟨H0, L, g, sp, en, post⟩ => post σ H H0 L (Step.refl sp) en
theorem ss_pass {pos} : SS W vs Wx X (.Pass pos) nextS := ps_weak ps_pass fun De σ H ⟨H0, L, g, sp, en, post⟩ => post σ H H0 L (Step.refl sp) en
def stuckS : S := fun _ => .stuck
theorem ss_never {st : Stmt} : SS W vs Wx X st stuckS := ps_weak ps_never fun De σ H ⟨H0, L, g, sp, en, post⟩ => post
theorem ss_break {pos} : SS W vs Wx X (.Break pos) (fun g => .ok .brk g) := ps_weak ps_break fun De σ H ⟨H0, L, g, sp, en, post⟩ => post σ H H0 L (Step.refl sp) en
theorem ss_continue {pos} : SS W vs Wx X (.Continue pos) (fun g => .ok .cont g) := ps_weak ps_continue fun De σ H ⟨H0, L, g, sp, en, post⟩ => post σ H H0 L (Step.refl sp) en
/-- return: a name of the frame hands its object on -/
def retR (r : R) (g : G) : Res Fl := match r with
  | .val o => .ok (.ret o) g
  | .slot i => match g[i]? with
    | some (.loc o) => .ok (.ret o) (g.set i (.loc .hole))
    | _ => match frzs [.slot i] g with
      | some ([d], g2) => .ok (.ret (.pure d)) g2
      | _ => .stuck
  | .sub _ _ => .stuck
def retS (A : E) : S := fun g => (A g).bind retR
theorem ss_ret {e : Expr} {pos : Pos} {A : E} (h : SE W vs Wx X e A) : SS W vs Wx X (.Return (some e) pos) (retS A) := by
  refine ps_weak (ps_ret h) fun De σ H ⟨H0, L, g, sp, en, post⟩ => ?_
  refine ⟨H0, L, g, sp, en, ?_⟩
  unfold retS at post
  cases ea : A g with
  | stuck => rw [ea] at post; exact post.elim
  | exc x g' => rw [ea] at post; exact fun c d H' H0' L' s2 rx en2 => post c d σ H' H0' L' s2 rx en2
  | ok r g1 =>
    rw [ea] at post
    intro v H1 H01 Lr L1 st rr en1
    simp only [Res.bind] at post
    cases r with
    | val o => exact post v σ H1 H01 Lr L1 st rr en1
    | sub i j => exact post.elim
    | slot i =>
      obtain ⟨hv, rfl⟩ := id rr
      simp only [retR] at post
      split at post
      · rename_i o eg
        obtain ⟨v', La, Lo, Lb, h1, h2, h3, h4⟩ := en1.at eg rfl
        rw [hv] at h1; cases h1
        subst h3
        have en2 := h4 H01 H1 (Ex.refl _) (fun _ _ _ q => q) .hole [] .hole
        refine post v σ H1 H01 Lo (La ++ ([] ++ Lb)) ?_ h2 en2
        refine st.perm ?_
        simpa using perm_mid La Lo Lb
      · split at post
        · rename_i d g2 ef
          obtain ⟨H02, L2, s2, rf, en2⟩ := frzs_ok (us := [v]) (Lr := [] ++ []) (.cons rr .nil) (by simpa using st.sep) en1 ef
          cases rf with
          | cons rf _ =>
            exact post v σ H1 H02 [] L2 (by simpa using st.trans (by simpa using s2)) (.pure rf) en2
        · exact post.elim
theorem ss_retN {pos} : SS W vs Wx X (.Return none pos) (fun g => .ok (.ret (.pure .non)) g) := ps_weak ps_retN fun De σ H ⟨H0, L, g, sp, en, post⟩ => post _ σ H H0 [] L (Step.refl sp) (.pure .non) en
def ifS (t : G → Res Bool) (a b : S) : S := fun g => (t g).bind fun c g1 => if c then a g1 else b g1
theorem ss_if {c : Expr} {a b : List Stmt} {pos : Pos} {T : G → Res Bool} {A B : S} (hc : ST W vs Wx X c T) (ha : SB W vs Wx X a A) (hb : SB W vs Wx X b B) : SS W vs Wx X (.If c a b pos) (ifS T A B) := by
  refine ps_weak (ps_if hc ha hb) fun De σ H ⟨H0, L, g, sp, en, post⟩ => ?_
  refine ⟨H0, L, g, sp, en, ?_⟩
  unfold ifS at post
  cases ea : T g with
  | stuck => rw [ea] at post; exact post.elim
  | exc x g' => rw [ea] at post; exact fun c d H' H0' L' s2 rx en2 => post c d σ H' H0' L' s2 rx en2
  | ok r g1 =>
    rw [ea] at post
    intro H1 H01 L1 st en1
    simp only [Res.bind] at post
    cases r with
    | true => rw [if_pos rfl] at post ⊢; exact ⟨H01, L1, g1, st.sep, en1, post.step st⟩
    | false => rw [if_neg Bool.false_ne_true] at post ⊢; exact ⟨H01, L1, g1, st.sep, en1, post.step st⟩
/-! ### targets -/
def storeS (i : Nat) (o : O) (g : G) : Option G := match g[i]? with
  | some .un => some (g.set i (.loc o))
  | some (.par (.pure _)) => some (g.set i (.loc o))
  | some (.loc _) => some (g.set i (.loc o))
  | _ => none
theorem storeS_eq {i : Nat} {o : O} {g g' : G} (h : storeS i o g = some g') : g' = g.set i (.loc o) := by
  unfold storeS at h
  split at h <;> first | (cases h; rfl) | cases h
theorem store_ok' {σ : L2.St} {H0 H : Hp} {L1 Lr : List Addr} {g1 g2 : G} {i : Nat} {v : V} {o : O} (sp : Sep H0 H (Lr ++ L1)) (en : EnvR W H0 H vs σ g1 L1) (ro : RepO W H0 H v o Lr) (e : storeS i o g1 = some g2) :
    ∃ L2, Step H0 H (Lr ++ L1) H0 H L2 ∧ EnvR W H0 H vs (σ.set i (some v)) g2 L2 := by
  have eg := storeS_eq e
  subst eg
  obtain ⟨La, Lo, Lb, h3, h4⟩ := en.store i
  subst h3
  obtain ⟨Ln, hn, en2⟩ := h4 H0 H (Ex.refl _) (fun _ _ _ q => q) v o Lr ro
  refine ⟨_, ?_, en2⟩
  have s0 := (Step.refl sp).perm (L2 := Lo ++ (La ++ (Lr ++ Lb))) (by
    have a1 : (Lr ++ (La ++ (Lo ++ Lb))).Perm (Lo ++ (Lr ++ (La ++ Lb))) := perm_mid4 Lr La Lo Lb
    exact a1.trans (List.Perm.append_left Lo (perm_mid Lr La Lb)))
  rcases hn with rfl | rfl
  · exact s0.right
  · have s1 := s0.right.perm (perm_mid La Lr Lb)
    simpa using s1.right
abbrev T := D → G → Option G
theorem wipe_get (σ : L2.St) (j : Nat) : ∀ own : List Nat, (wipe σ own)[j]? = if j ∈ own then (σ[j]?).map (fun _ => none) else σ[j]?
  | [] => by simp [wipe]
  | i :: own => by
    unfold wipe
    by_cases h : i = j
    · subst h
      simp only [List.getElem?_set_self', List.mem_cons, true_or, if_true]
      rw [wipe_get σ i own]
      split <;> cases σ[i]? <;> rfl
    · rw [List.getElem?_set_ne h, wipe_get σ j own]
      simp [Ne.symm h]
theorem wipe_set {σ : L2.St} {i : Nat} {s : Option V} {own : List Nat} (h : i ∈ own) : wipe (σ.set i s) own = wipe σ own := by
  refine List.ext_getElem? fun j => ?_
  rw [wipe_get, wipe_get]
  by_cases hj : j ∈ own
  · rw [if_pos hj, if_pos hj]
    by_cases e : i = j
    · subst e; rw [List.getElem?_set_self']; cases σ[i]? <;> rfl
    · rw [List.getElem?_set_ne e]
  · rw [if_neg hj, if_neg hj]
    have e : i ≠ j := fun z => hj (z ▸ h)
    rw [List.getElem?_set_ne e]
def tG (W : Wd) (vs : List (Option V)) (own : List Nat) (t : T) : TG := fun v σ H Q => ∃ H0 L g d, Sep H0 H L ∧ EnvR W H0 H vs σ g L ∧ RepF W H0 v d ∧ ∃ g', t d g = some g' ∧ ∀ σ' H' H0' L', Step H0 H L H0' H' L' → EnvR W H0' H' vs σ' g' L' → wipe σ' own = wipe σ own → Q σ' H'
def SG (W : Wd) (vs : List (Option V)) (own : List Nat) (X : Cx) (e : Expr) (t : T) : Prop := PG X e (tG W vs own t)
theorem pg_weak {e : Expr} {t t' : TG} (h : PG X e t) (i : ∀ v σ H Q, t' v σ H Q → t v σ H Q) : PG X e t' := ⟨fun pins s σ H v u Q I r q => h.run pins s σ H v u Q I r (i _ _ _ _ q)⟩
theorem pgs_weak {e : List Expr} {t t' : TGs} (h : PGs X e t) (i : ∀ v σ H Q, t' v σ H Q → t v σ H Q) : PGs X e t' := ⟨fun pins s σ H v u Q I r q => h.run pins s σ H v u Q I r (i _ _ _ _ q)⟩
def nmT (i : Nat) : T := fun d g => storeS i (.pure d) g
theorem sg_name {own : List Nat} {x : Str} {pos : Pos} (i : Nat) (h : PG X (.Name x pos) (gName i)) (hi : i ∈ own) : SG W vs own X (.Name x pos) (nmT i) := by
  refine pg_weak h fun v σ H Q ⟨H0, L, g, d, sp, en, rf, g', e, k⟩ => ?_
  obtain ⟨L2, s2, en2⟩ := store_ok' (Lr := []) (by simpa using sp) en (.pure rf) e
  exact k _ H H0 L2 (by simpa using s2) en2 (wipe_set hi)
def foldT : List D → List T → G → Option G
  | d :: ds, t :: ts, g => (t d g).bind (foldT ds ts)
  | [], [], g => some g
  | _, _, _ => none
def tGs (W : Wd) (vs : List (Option V)) (own : List Nat) (ts : List T) : TGs := fun us σ H Q => ∃ H0 L g ds, Sep H0 H L ∧ EnvR W H0 H vs σ g L ∧ RepFs W H0 us ds ∧ ∃ g', foldT ds ts g = some g' ∧ ∀ σ' H' H0' L', Step H0 H L H0' H' L' → EnvR W H0' H' vs σ' g' L' → wipe σ' own = wipe σ own → Q σ' H'
def SGs (W : Wd) (vs : List (Option V)) (own : List Nat) (X : Cx) (e : List Expr) (ts : List T) : Prop := PGs X e (tGs W vs own ts)
theorem sgs_nil {own : List Nat} : SGs W vs own X [] [] := by
  refine pgs_weak pgs_nil fun us σ H Q ⟨H0, L, g, ds, sp, en, rf, g', e, k⟩ => ?_
  cases rf with
  | nil => cases e; exact ⟨rfl, k σ H H0 L (Step.refl sp) en rfl⟩
  | cons _ _ => cases e
theorem sgs_cons {own : List Nat} {e : Expr} {es : List Expr} {t : T} {ts : List T} (h1 : SG W vs own X e t) (h2 : SGs W vs own X es ts) (hs : (assignEach (e :: es) X.env).map (·.2) = assign e X.env :: (assignEach es X.env).map (·.2) := by rfl) : SGs W vs own X (e :: es) (t :: ts) := by
  refine pgs_weak (pgs_cons h1 h2 hs) fun us σ H Q ⟨H0, L, g, ds, sp, en, rf, g', e, k⟩ => ?_
  cases rf with
  | nil => cases e
  | cons r rs =>
    obtain ⟨g1, e1, e2⟩ := Option.bind_eq_some_iff.mp e
    refine ⟨_, _, rfl, H0, L, g, _, sp, en, r, g1, e1, fun σ' H' H0' L' st en1 w1 => ?_⟩
    exact ⟨H0', L', g1, _, st.sep, en1, rs.mono st.ex0, g', e2, fun σ2 H2 H02 L2 s2 en2 w2 => k σ2 H2 H02 L2 (st.trans s2) en2 (w2.trans w1)⟩
theorem foldT_len : ∀ {ds : List D} {ts : List T} {g g' : G}, foldT ds ts g = some g' → ds.length = ts.length
  | [], [], _, _, _ => rfl
  | d :: ds, t :: ts, g, g', e => by
    obtain ⟨g1, e1, e2⟩ := Option.bind_eq_some_iff.mp e
    simp [foldT_len e2]
  | [], _ :: _, _, _, e => by cases e
  | _ :: _, [], _, _, e => by cases e
def tupT (ts : List T) : T := fun d g => match d with
  | .tup ds => foldT ds ts g
  | _ => none
theorem sg_tup {own : List Nat} {k n : Nat} {es : List Expr} {pos : Pos} {ts : List T} (cx : Ctx W n Wx X) (h : SGs W vs own X es ts) (hn : (assignEach es X.env).length = ts.length := by rfl) (hst : (assignEach es X.env).findIdx? (·.1) = none := by rfl) : SG W vs own X (.Tuple es k pos) (tupT ts) := by
  refine pg_weak (pg_tup cx.calm h hn hst) fun v σ H Q ⟨H0, L, g, d, sp, en, rf, g', e, kk⟩ => ?_
  unfold tupT at e
  split at e
  · cases rf with
    | tup h1 h2 => exact ⟨_, _, rfl, by rw [cx.K]; exact ex_t sp.ex h1, by rw [h2.len, foldT_len e], H0, L, g, _, sp, en, h2, g', e, kk⟩
  · cases e
/-- a target of what is frozen -/
def setS (t : T) (A : E) : S := fun g => (A g).bind fun r g1 => match frzs [r] g1 with
  | some ([d], g2) => match t d g2 with
    | some g3 => .ok .next g3
    | none => .stuck
  | _ => .stuck
theorem ss_asg {own : List Nat} {tg e : Expr} {pos : Pos} {A : E} {t : T} (h : SE W vs Wx X e A) (ht : SG W vs own X tg t) (hs : swapsWithSole [tg] e pos.line X.env = pure false := by rfl) (hw : swappedStores [tg] e X.env = pure none := by rfl)
    (h1 : (assignEach [tg] X.env).map (·.2) = [assign tg X.env] := by rfl) : SS W vs Wx X (.Assign [tg] e pos) (setS t A) := by
  refine ps_weak (ps_asg h ht hs hw h1) fun De σ H ⟨H0, L, g, sp, en, post⟩ => ?_
  refine ⟨H0, L, g, sp, en, ?_⟩
  unfold setS at post
  cases ea : A g with
  | stuck => rw [ea] at post; exact post.elim
  | exc x g' => rw [ea] at post; exact fun c d H' H0' L' s2 rx en2 => post c d σ H' H0' L' s2 rx en2
  | ok r g1 =>
    rw [ea] at post
    intro v H1 H01 Lr L1 st rr en1
    simp only [Res.bind] at post
    split at post
    · rename_i d g2 ef
      obtain ⟨H02, L2, s2, rf, en2⟩ := frzs_ok (us := [v]) (Lr := Lr ++ []) (.cons rr .nil) (by simpa using st.sep) en1 ef
      cases rf with
      | cons rf _ =>
        split at post
        · rename_i g3 et
          exact ⟨H02, L2, g2, d, s2.sep, en2, rf, g3, et, fun σ' H' H0' L' s3 en3 _ => post σ' H' H0' L' ((st.trans (by simpa using s2)).trans s3) en3⟩
        · exact post.elim
    · exact post.elim
/-- name = value: what is one's own stays so -/
def asgR (i : Nat) (r : R) (g : G) : Res Fl := match r with
  | .val o => match storeS i o g with
    | some g3 => .ok .next g3
    | none => .stuck
  | .slot j => match frzs [.slot j] g with
    | some ([d], g2) => match storeS i (.pure d) g2 with
      | some g3 => .ok .next g3
      | none => .stuck
    | _ => .stuck
  | .sub _ _ => .stuck
def asgS (i : Nat) (A : E) : S := fun g => (A g).bind (asgR i)
theorem asgR_ok {i : Nat} {r : R} {v : V} {σ : L2.St} {H0 H H01 H1 : Hp} {L Lr L1 : List Addr} {g1 : G} {De : Ends} (st : Step H0 H L H01 H1 (Lr ++ L1)) (rr : RepR W H01 H1 σ v r Lr) (en1 : EnvR W H01 H1 vs σ g1 L1)
    (post : PostS W vs Wx H0 H L (asgR i r g1) De) : De.nx (σ.set i (some v)) H1 := by
  cases r with
  | val o =>
    simp only [asgR] at post
    split at post
    · rename_i g3 es
      obtain ⟨L2, s2, en2⟩ := store_ok' st.sep en1 rr es
      exact post _ H1 H01 L2 (st.trans s2) en2
    · exact post.elim
  | sub i j => exact post.elim
  | slot j =>
    simp only [asgR] at post
    split at post
    · rename_i d g2 ef
      obtain ⟨H02, L2, s2, rf, en2⟩ := frzs_ok (us := [v]) (Lr := Lr ++ []) (.cons rr .nil) (by simpa using st.sep) en1 ef
      cases rf with
      | cons rf _ =>
        split at post
        · rename_i g3 es
          obtain ⟨L3, s3, en3⟩ := store_ok' (Lr := []) (by simpa using s2.sep) en2 (.pure rf) es
          exact post _ H1 H02 L3 ((st.trans (by simpa using s2)).trans (by simpa using s3)) en3
        · exact post.elim
    · exact post.elim
theorem ss_set {i : Nat} {x : Str} {e : Expr} {pos pos' : Pos} {A : E} (h : SE W vs Wx X e A) (hp : ∀ {te : TE}, PE X e te → PS X (.Assign [.Name x pos'] e pos) (tAsg te (gName i))) : SS W vs Wx X (.Assign [.Name x pos'] e pos) (asgS i A) := by
  refine ps_weak (hp h) fun De σ H ⟨H0, L, g, sp, en, post⟩ => ?_
  refine ⟨H0, L, g, sp, en, ?_⟩
  unfold asgS at post
  cases ea : A g with
  | stuck => rw [ea] at post; exact post.elim
  | exc x g' => rw [ea] at post; exact fun c d H' H0' L' s2 rx en2 => post c d σ H' H0' L' s2 rx en2
  | ok r g1 =>
    rw [ea] at post
    exact fun v H1 H01 Lr L1 st rr en1 => asgR_ok st rr en1 post
end
end VI
namespace VI
open PySem PySem.Spec PyProof.Rows L2
section
variable {W : Wd} {vs : List (Option V)} {Wx : WX} {X : Cx} {n : Nat}
/-! ### what is walked -/
def Feeds (W : Wd) (Hb Hm : Hp) (Lm : List Addr) (J : It) (us : List V) (os : List O) (ds : List D) : Prop := ∀ (i : Nat) (H0 H : Hp) (La : List Addr), Ex Hb H0 → Ex H0 H → RepOs W H0 H us os La → (∀ a ∈ Lm, ∀ u, Hm a = some u → H a = some u) →
  (∀ d, ds[i]? = some d → J.go i H ∧ ∀ x H', J.yld i H x H' → ∃ H0', Step H0 H [] H0' H' [] ∧ RepF W H0' x d) ∧ (i = ds.length → J.stop i H)
def PostI (W : Wd) (vs : List (Option V)) (Wx : WX) (σ : L2.St) (H0 H : Hp) (L : List Addr) (items : List O → Option (List D)) : Res (List R) → (It → Hp → Prop) → Prop
  | .ok rs g1, Q => ∃ os g2 ds, takes rs g1 = some (os, g2) ∧ items os = some ds ∧ ∀ J us H' H0' La L', Step H0 H L H0' H' (La ++ L') → RepOs W H0' H' us os La → EnvR W H0' H' vs σ g2 L' → Toks H0' σ us rs → Feeds W H0' H' La J us os ds → Q J H'
  | .exc x g', _ => ∀ c d H' H0' L', Step H0 H L H0' H' L' → RepX W H0' H' x c d → EnvR W H0' H' vs σ g' L' → Wx c d σ H'
  | .stuck, _ => False
def tI (W : Wd) (vs : List (Option V)) (Wx : WX) (A : G → Res (List R)) (items : List O → Option (List D)) : TI := fun σ H Q => ∃ H0 L g, Sep H0 H L ∧ EnvR W H0 H vs σ g L ∧ PostI W vs Wx σ H0 H L items (A g) Q
def SI (W : Wd) (vs : List (Option V)) (Wx : WX) (X : Cx) (tg e : Expr) (A : G → Res (List R)) (items : List O → Option (List D)) : Prop := PI X tg e (tI W vs Wx A items)
theorem pi_weak {tg e : Expr} {t t' : TI} (h : PI X tg e t) (i : ∀ σ H Q, t' σ H Q → t σ H Q) : PI X tg e t' := ⟨fun pins s σ H Q I q => h.run pins s σ H Q I (i _ _ _ q)⟩
theorem pi_or {tg e : Expr} {t t' : TI} (h : PI X tg e t) (h' : PI X tg e t') : PI X tg e (fun σ H Q => t σ H Q ∨ t' σ H Q) := ⟨fun pins s σ H Q I q => q.elim (h.run pins s σ H Q I) (h'.run pins s σ H Q I)⟩
/-- from the arguments' end to the walk's beginning -/
theorem tI_args {A : G → Res (List R)} {items : List O → Option (List D)} {σ : L2.St} {H : Hp} {Q : It → Hp → Prop} {R' : List V → Hp → Prop} (h : tI W vs Wx A items σ H Q)
    (k : ∀ us os ds H1 H01 La, RepOs W H01 H1 us os La → Ex H01 H1 → items os = some ds → (∀ J, Feeds W H01 H1 La J us os ds → Q J H1) → R' us H1) : tA W vs Wx A σ H R' := by
  obtain ⟨H0, L, g, sp, en, post⟩ := h
  refine ⟨H0, L, g, sp, en, ?_⟩
  cases ea : A g with
  | stuck => rw [ea] at post; exact post.elim
  | exc x g' => rw [ea] at post; exact post
  | ok rs g1 =>
    rw [ea] at post
    obtain ⟨os, g2, ds, e1, e2, kk⟩ := post
    intro us H1 H01 Lr L1 st rr en1
    obtain ⟨La, L2, ro, en2, pm⟩ := takes_ok rr en1 e1
    exact k us os ds H1 H01 La ro st.sep.ex e2 fun J f => kk J us H1 H01 La L2 (st.perm pm) ro en2 rr.toks f
theorem tA_one {A : E} {σ : L2.St} {H : Hp} {R' : V → Hp → Prop} (h : tA W vs Wx (evs [A]) σ H fun us H1 => ∀ v, us = [v] → R' v H1) : tE W vs Wx A σ H R' := by
  obtain ⟨H0, L, g, sp, en, post⟩ := h
  refine ⟨H0, L, g, sp, en, ?_⟩
  rw [evs] at post
  cases ea : A g with
  | stuck => rw [ea] at post; exact post.elim
  | exc x g' => rw [ea] at post; exact post
  | ok r g1 =>
    rw [ea] at post
    intro v H1 H01 Lr L1 st rr en1
    exact post [v] H1 H01 (Lr ++ []) L1 (by simpa using st) (.cons rr .nil) en1 v rfl
theorem RepOs.one {H0 H : Hp} {us : List V} {o : O} {L : List Addr} (h : RepOs W H0 H us [o] L) : ∃ v, us = [v] ∧ RepO W H0 H v o L := by
  cases h with
  | cons h r => cases r; exact ⟨_, rfl, by simpa using h⟩
theorem RepOs.len {H0 H : Hp} : ∀ {us : List V} {os : List O} {L : List Addr}, RepOs W H0 H us os L → us.length = os.length
  | _, _, _, .nil => rfl
  | _, _, _, .cons _ r => by simp [r.len]
def seqO : O → Option (List D)
  | .pure (.lst l) => some l
  | .pure (.tup l) => some l
  | .lst l => some l
  | _ => none
def sgnD (s : Str) : List D := s.cps.toList.map fun c => .str ⟨#[c]⟩
def itemsO : List O → Option (List D)
  | [.pure (.lst l)] => some l
  | [.pure (.tup l)] => some l
  | [.lst l] => some l
  | _ => none
theorem sql_of {H0 H : Hp} {v : V} {o : O} {l : List D} {L : List Addr} (e : Ex H0 H) (h : RepO W H0 H v o L) (ho : o = .pure (.lst l) ∨ o = .lst l) : ∃ p us, v = .ref p ∧ SqL W.K H p us ∧ RepFs W H0 us l := by
  rcases ho with rfl | rfl
  · cases h with
    | pure f => cases f with
      | lst h1 h2 => exact ⟨_, _, rfl, ex_l e h1, h2⟩
  · cases h with
    | lst h1 h2 => exact ⟨_, _, rfl, SqL.of h1, h2⟩
theorem sqt_of {H0 H : Hp} {v : V} {l : List D} {L : List Addr} (e : Ex H0 H) (h : RepO W H0 H v (.pure (.tup l)) L) : ∃ p us, v = .ref p ∧ SqT W.K H p us ∧ RepFs W H0 us l := by
  cases h with
  | pure f => cases f with
    | tup h1 h2 => exact ⟨_, _, rfl, ex_t e h1, h2⟩
theorem feeds_list {Hb Hm : Hp} {Lm : List Addr} {p : Addr} {o : O} {l : List D} (ho : o = .pure (.lst l) ∨ o = .lst l) : Feeds W Hb Hm Lm (Itl W.K p) [.ref p] [o] l := by
  intro i H0 H La _ ex ro _
  obtain ⟨v, e1, ro⟩ := ro.one
  cases e1
  obtain ⟨p', us, e2, hs, rf⟩ := sql_of ex ro ho
  cases e2
  refine ⟨fun d hd => ?_, fun hl => ⟨us, hs, by rw [rf.len, hl]; exact Nat.le_refl _⟩⟩
  obtain ⟨v, hv, rv⟩ := rf.get hd
  exact ⟨⟨us, v, hs, hv⟩, fun x H' ⟨e3, hx⟩ => by
    subst e3
    have := hx us hs
    rw [hv] at this; cases this
    exact ⟨H0, Step.refl (Sep.nil ex), rv⟩⟩
theorem feeds_tup {Hb Hm : Hp} {Lm : List Addr} {p : Addr} {l : List D} : Feeds W Hb Hm Lm (Itt W.K p) [.ref p] [.pure (.tup l)] l := by
  intro i H0 H La _ ex ro _
  obtain ⟨v, e1, ro⟩ := ro.one
  cases e1
  obtain ⟨p', us, e2, hs, rf⟩ := sqt_of ex ro
  cases e2
  refine ⟨fun d hd => ?_, fun hl => ⟨us, hs, by rw [rf.len, hl]; exact Nat.le_refl _⟩⟩
  obtain ⟨v, hv, rv⟩ := rf.get hd
  exact ⟨⟨us, v, hs, hv⟩, fun x H' ⟨e3, hx⟩ => by
    subst e3
    have := hx us hs
    rw [hv] at this; cases this
    exact ⟨H0, Step.refl (Sep.nil ex), rv⟩⟩
theorem tI_pick {A : G → Res (List R)} {items : List O → Option (List D)} {σ : L2.St} {H : Hp} {Q : It → Hp → Prop} (h : tI W vs Wx A items σ H Q) {P1 P2 : Prop} (h1 : (∀ os, (∃ ds, items os = some ds ∧ ∃ l, os = [O.pure (.tup l)]) → True) → P1) : True := trivial
theorem si_seq {k : Nat} {tg e : Expr} {A : E} (cx : Ctx W k Wx X) (h : SE W vs Wx X e A) : SI W vs Wx X tg e (evs [A]) itemsO := by
  refine pi_weak (pi_or (pi_list h) (pi_tup h)) fun σ H Q q => ?_
  obtain ⟨H0, L, g, sp, en, post⟩ := id q
  -- by what the object is
  by_cases ht : ∃ rs g1 l g2, evs [A] g = .ok rs g1 ∧ takes rs g1 = some ([O.pure (.tup l)], g2)
  · right
    obtain ⟨rs, g1, l, g2, ea, et⟩ := ht
    refine tA_one (R' := fun x H1 => ∃ a, x = .ref a ∧ (∃ xs, SqT X.K H1 a xs) ∧ Q (Itt X.K a) H1) ⟨H0, L, g, sp, en, ?_⟩
    rw [ea] at post ⊢
    obtain ⟨os, g2', ds, e1, e2, kk⟩ := post
    rw [et] at e1; cases e1
    cases e2
    intro us H1 H01 Lr L1 st rr en1 v hv
    subst hv
    obtain ⟨La, L2, ro, en2, pm⟩ := takes_ok rr en1 et
    obtain ⟨v', e3, ro1⟩ := ro.one
    cases e3
    obtain ⟨p, us, e4, hs, rf⟩ := sqt_of st.sep.ex ro1
    subst e4
    rw [cx.K]
    exact ⟨p, rfl, ⟨us, hs⟩, kk _ _ H1 H01 La L2 (st.perm pm) ro en2 rr.toks feeds_tup⟩
  · left
    refine tA_one (R' := fun x H1 => ∃ a, x = .ref a ∧ (∃ xs, SqL X.K H1 a xs) ∧ Q (Itl X.K a) H1) ⟨H0, L, g, sp, en, ?_⟩
    cases ea : evs [A] g with
    | stuck => rw [ea] at post; exact post.elim
    | exc x g' => rw [ea] at post; exact post
    | ok rs g1 =>
      rw [ea] at post
      obtain ⟨os, g2', ds, e1, e2, kk⟩ := post
      intro us H1 H01 Lr L1 st rr en1 v hv
      subst hv
      obtain ⟨La, L2, ro, en2, pm⟩ := takes_ok rr en1 e1
      have hl := ro.len
      obtain ⟨o, rfl⟩ : ∃ o, os = [o] := by
        cases os with
        | nil => simp at hl
        | cons o r => cases r with
          | nil => exact ⟨o, rfl⟩
          | cons _ _ => simp at hl
      have ho : o = .pure (.lst ds) ∨ o = .lst ds := by
        unfold itemsO at e2
        split at e2
        · rename_i l hh; cases hh; cases e2; exact .inl rfl
        · rename_i l hh; cases hh; exact (ht ⟨rs, g1, l, g2', ea, e1⟩).elim
        · rename_i l hh; cases hh; cases e2; exact .inr rfl
        · cases e2
      obtain ⟨v', e3, ro1⟩ := ro.one
      cases e3
      obtain ⟨p, us, e4, hs, rf⟩ := sql_of st.sep.ex ro1 ho
      subst e4
      rw [cx.K]
      exact ⟨p, rfl, ⟨us, hs⟩, kk _ _ H1 H01 La L2 (st.perm pm) ro en2 rr.toks (feeds_list ho)⟩
def rng1 : List O → Option (List D)
  | [.pure (.int j)] => if -(2 ^ 62) ≤ j ∧ j < 2 ^ 62 then some ((List.range j.toNat).map fun (k : Nat) => D.int (k : Int)) else none
  | _ => none
def rng2 : List O → Option (List D)
  | [.pure (.int i), .pure (.int j)] => if -(2 ^ 62) ≤ i ∧ i < 2 ^ 62 ∧ -(2 ^ 62) ≤ j ∧ j < 2 ^ 62 then some ((List.range (j - i).toNat).map fun (k : Nat) => D.int (i + (k : Int))) else none
  | _ => none
theorem feeds_range {Hb Hm : Hp} {Lm : List Addr} {us : List V} {os : List O} {lo : Int} {m : Nat} : Feeds W Hb Hm Lm (Itr lo m) us os ((List.range m).map fun (k : Nat) => D.int (lo + (k : Int))) := by
  intro i H0 H La _ ex ro _
  refine ⟨fun d hd => ?_, fun hl => (show m ≤ i by rw [hl]; simp)⟩
  rw [List.getElem?_map] at hd
  obtain ⟨k, hk, e⟩ := Option.map_eq_some_iff.mp hd
  have hi : i < m := by
    have := (List.getElem?_eq_some_iff.mp hk).1
    simpa using this
  have hki : k = i := by
    rw [List.getElem?_range hi] at hk; cases hk; rfl
  subst hki
  exact ⟨hi, fun x H' ⟨e1, e2⟩ => by subst e1; subst e2; subst e; exact ⟨H0, Step.refl (Sep.nil ex), .int _⟩⟩
theorem RepOs.int1 {H0 H : Hp} {us : List V} {j : Int} {L : List Addr} (h : RepOs W H0 H us [.pure (.int j)] L) : us = [.int j] := by
  obtain ⟨v, e, h⟩ := h.one
  cases h with
  | pure f => cases f; exact e
theorem RepOs.int2 {H0 H : Hp} {us : List V} {i j : Int} {L : List Addr} (h : RepOs W H0 H us [.pure (.int i), .pure (.int j)] L) : us = [.int i, .int j] := by
  cases h with
  | cons h r =>
    have := r.int1
    subst this
    cases h with
    | pure f => cases f; rfl
theorem si_range1 {tg a : Expr} {A : E} {p pos : Pos} (hg : Gl X "range") (hm : X.mg "range" = none) (ha : SA W vs Wx X [a] (evs [A])) (hs : starEach [a] X.env = [(false, eval a X.env)] := by rfl) : SI W vs Wx X tg (.Call (.Name "range" p) [a] [] pos) (evs [A]) rng1 := by
  refine pi_weak (pi_range1 hg hm ha hs) fun σ H Q q => tI_args q fun us os ds H1 H01 La ro ex e k => ?_
  unfold rng1 at e
  split at e
  · rename_i j
    split at e
    · rename_i hb
      cases e
      exact ⟨j, ro.int1, hb.1, hb.2, k _ (by simpa using feeds_range (lo := 0))⟩
    · cases e
  · cases e
theorem si_range2 {tg a b : Expr} {A B : E} {p pos : Pos} (hg : Gl X "range") (hm : X.mg "range" = none) (ha : SA W vs Wx X [a, b] (evs [A, B])) (hs : starEach [a, b] X.env = [(false, eval a X.env), (false, eval b X.env)] := by rfl) (hs2 : starEach [b] X.env = [(false, eval b X.env)] := by rfl) :
    SI W vs Wx X tg (.Call (.Name "range" p) [a, b] [] pos) (evs [A, B]) rng2 := by
  refine pi_weak (pi_range2 hg hm ha hs hs2) fun σ H Q q => tI_args q fun us os ds H1 H01 La ro ex e k => ?_
  unfold rng2 at e
  split at e
  · rename_i i j
    split at e
    · rename_i hb
      cases e
      exact ⟨i, j, ro.int2, hb, k _ feeds_range⟩
    · cases e
  · cases e
/-! ### for -/
def loopS (t : T) (body : S) : List D → S
  | [], g => .ok .next g
  | d :: ds, g => match t d g with
    | none => .stuck
    | some g1 => (body g1).bind fun f g2 => match f with
      | .next => loopS t body ds g2
      | .cont => loopS t body ds g2
      | .brk => .ok .next g2
      | .ret o => .ok (.ret o) g2
def isHole : O → Bool
  | .hole => true
  | _ => false
def lockG (g : G) : G := g.map fun s => match s with
  | .loc .hole => .par .hole
  | .loc (.tpl os) => if os.any isHole then .par (.tpl os) else .loc (.tpl os)
  | s => s
def unlkG : G → G → G
  | .par _ :: r0, .par o :: r => .par o :: unlkG r0 r
  | _ :: r0, .par o :: r => .loc o :: unlkG r0 r
  | _ :: r0, s :: r => s :: unlkG r0 r
  | [], .par o :: r => .loc o :: unlkG [] r
  | [], s :: r => s :: unlkG [] r
  | _, [] => []
def hasSlot : List R → Bool
  | [] => false
  | .slot _ :: _ => true
  | .sub _ _ :: _ => true
  | _ :: r => hasSlot r
def Res.mapG {α : Type} (f : G → Option G) : Res α → Res α
  | .ok a g => match f g with
    | some g' => .ok a g'
    | none => .stuck
  | .exc x g => match f g with
    | some g' => .exc x g'
    | none => .stuck
  | .stuck => .stuck
def isPar (g : G) : R → Bool
  | .slot i => match g[i]? with
    | some (.par _) => true
    | _ => false
  | .sub i _ => match g[i]? with
    | some (.par _) => true
    | _ => false
  | _ => true
def forR (t : T) (body : S) (rs : List R) (os : List O) (ds : List D) (g2 : G) : Res Fl :=
  if hasSlot rs then (loopS t body ds (lockG g2)).mapG fun g' => if rs.all (isPar g') then some (puts rs os (unlkG g2 g')) else none else loopS t body ds g2
def forS (A : G → Res (List R)) (items : List O → Option (List D)) (t : T) (body : S) : S := fun g => (A g).bind fun rs g1 => match takes rs g1 with
  | some (os, g2) => match items os with
    | some ds => forR t body rs os ds g2
    | none => .stuck
  | none => .stuck
theorem lock_tpl (os : List O) (g : G) : lockG (Slot.loc (.tpl os) :: g) = (if os.any isHole then Slot.par (.tpl os) else .loc (.tpl os)) :: lockG g := rfl
theorem env_lock {H0 H : Hp} : ∀ {vs : List (Option V)} {σ : L2.St} {g : G} {L : List Addr}, EnvR W H0 H vs σ g L → EnvR W H0 H σ σ (lockG g) L
  | _, _, _, _, .nil => .nil
  | _, _, _, _, .un r => .un (env_lock r)
  | _, _, _, _, .loc (o := o) h r => by
    cases o with
    | hole =>
      cases h
      exact .par .hole (env_lock r)
    | tpl os =>
      rw [lock_tpl]
      split
      · exact .par h (env_lock r)
      · exact .loc h (env_lock r)
    | _ => exact .loc h (env_lock r)
  | _, _, _, _, .par h r => .par h (env_lock r)
theorem env_self {H0 H : Hp} : ∀ {vs : List (Option V)} {σ : L2.St} {g : G} {L : List Addr}, EnvR W H0 H vs σ g L → EnvR W H0 H σ σ g L
  | _, _, _, _, .nil => .nil
  | _, _, _, _, .un r => .un (env_self r)
  | _, _, _, _, .loc h r => .loc h (env_self r)
  | _, _, _, _, .par h r => .par h (env_self r)
theorem env_unlk {H0 H H0' H' : Hp} : ∀ {vs : List (Option V)} {σ0 σ : L2.St} {g0 g : G} {L0 L : List Addr}, EnvR W H0 H vs σ0 g0 L0 → EnvR W H0' H' σ0 σ g L → EnvR W H0' H' vs σ (unlkG g0 g) L
  | _, _, _, _, _, _, _, .nil, .nil => by simpa [unlkG] using EnvR.nil
  | _, _, _, _, _, _, _, .un r0, .un r => by simpa [unlkG] using EnvR.un (env_unlk r0 r)
  | _, _, _, _, _, _, _, .un r0, .loc h r => by simpa [unlkG] using EnvR.loc h (env_unlk r0 r)
  | _, _, _, _, _, _, _, .un r0, .par h r => by simpa [unlkG] using EnvR.loc h (env_unlk r0 r)
  | _, _, _, _, _, _, _, .loc _ r0, .un r => by simpa [unlkG] using EnvR.un (env_unlk r0 r)
  | _, _, _, _, _, _, _, .loc _ r0, .loc h r => by simpa [unlkG] using EnvR.loc h (env_unlk r0 r)
  | _, _, _, _, _, _, _, .loc _ r0, .par h r => by simpa [unlkG] using EnvR.loc h (env_unlk r0 r)
  | _, _, _, _, _, _, _, .par _ r0, .un r => by simpa [unlkG] using EnvR.un (env_unlk r0 r)
  | _, _, _, _, _, _, _, .par _ r0, .loc h r => by simpa [unlkG] using EnvR.loc h (env_unlk r0 r)
  | _, _, _, _, _, _, _, .par _ r0, .par h r => by simpa [unlkG] using EnvR.par h (env_unlk r0 r)
/-- a slot that holds a hole as a parameter keeps its value -/
theorem env_par_val {H0 H : Hp} : ∀ {vs : List (Option V)} {σ : L2.St} {g : G} {L : List Addr} {i : Nat} {o : O}, EnvR W H0 H vs σ g L → g[i]? = some (.par o) → σ[i]? = vs[i]?
  | _, _, _, _, i, o, .nil, h => by simp at h
  | _, _, _, _, 0, o, .un r, h => by simp at h
  | _, _, _, _, 0, o, .loc q r, h => by simp at h
  | _, _, _, _, 0, o, .par q r, h => by simp
  | _, _, _, _, i + 1, o, .un r, h => by simpa using env_par_val r (by simpa using h)
  | _, _, _, _, i + 1, o, .loc q r, h => by simpa using env_par_val r (by simpa using h)
  | _, _, _, _, i + 1, o, .par q r, h => by simpa using env_par_val r (by simpa using h)
/-- the loop's own part: vs' is what the body is told of its slots' first values, F what is done to the slots at the end -/
theorem for_core {t : T} {own : List Nat} {B : S} {ds : List D} {J : It} {us : List V} {os : List O} {vs' : List (Option V)} {F : G → Option G} {σ : L2.St} {H0 H H01 H1 : Hp} {L La L1 : List Addr} {g2 : G} {De : Ends}
    (st1 : Step H0 H L H01 H1 (La ++ L1)) (ro : RepOs W H01 H1 us os La) (en : EnvR W H01 H1 vs' σ g2 L1) (fd : Feeds W H01 H1 La J us os ds)
    (hF : ∀ σ' H0' H' g' g3 L', Ex H01 H0' → EnvR W H0' H' vs' σ' g' L' → RepOs W H0' H' us os La → F g' = some g3 → ∃ Lx L3, EnvR W H0' H' vs σ' g3 L3 ∧ (La ++ L').Perm (Lx ++ L3))
    (post : PostS W vs Wx H0 H L ((loopS t B ds g2).mapG F) De) :
    ∃ Wv : Nat → Nat → L2.St → Hp → Prop, (∃ m, Wv 0 m σ H1) ∧ ∀ i m σ H, Wv i m σ H →
      (J.stop i H ∧ De.nx σ H) ∨ (J.go i H ∧ ∃ N : L2.St → Hp → Prop, (∀ σ' H', N σ' H' → ∃ m', m' < m ∧ Wv (i + 1) m' σ' H') ∧ ∀ x H', J.yld i H x H' → tG W vs' own t x σ H' fun σ2 H2 => tS W vs' Wx B { De with nx := N, ct := N, bk := De.nx } σ2 H2) := by
  let Pv : Nat → L2.St → Hp → Prop := fun i σ' H' => ∃ H0' L' g', (∀ a ∈ La, ∀ u, H1 a = some u → H' a = some u) ∧ Ex H01 H0' ∧ Step H0 H L H0' H' (La ++ L') ∧ RepOs W H0' H' us os La ∧ EnvR W H0' H' vs' σ' g' L' ∧ PostS W vs Wx H0 H L ((loopS t B (ds.drop i) g').mapG F) De
  refine ⟨fun i m σ' H' => m = ds.length - i ∧ i ≤ ds.length ∧ Pv i σ' H', ⟨ds.length, by simp, Nat.zero_le _, H01, L1, g2, fun _ _ _ h => h, Ex.refl _, st1, ro, en, by simpa using post⟩, ?_⟩
  rintro i m σ2 H2 ⟨rfl, hi, H02, L2, g', kpl, exb, st2, ro2, en2, post2⟩
  obtain ⟨f1, f2⟩ := fd i H02 H2 La exb st2.sep.ex ro2 kpl
  by_cases hlt : i < ds.length
  · right
    obtain ⟨d, hd⟩ : ∃ d, ds[i]? = some d := ⟨ds[i], List.getElem?_eq_getElem hlt⟩
    obtain ⟨go, yl⟩ := f1 d hd
    have edrop : ds.drop i = d :: ds.drop (i + 1) := by
      have := List.drop_eq_getElem_cons hlt
      rw [this]
      congr 1
      rw [List.getElem?_eq_getElem hlt] at hd
      exact Option.some.inj hd
    rw [edrop, loopS] at post2
    refine ⟨go, Pv (i + 1), fun σ' H' p' => ⟨ds.length - (i + 1), by omega, rfl, hlt, p'⟩, fun x H3 hy => ?_⟩
    obtain ⟨H03, s3, rx⟩ := yl x H3 hy
    -- the item stands
    have sp2 : Sep H02 H2 ((La ++ L2) ++ []) := by simpa using st2.sep
    have s3' : Step H02 H2 (La ++ L2) H03 H3 (La ++ L2) := by simpa using Step.frame sp2 s3
    have kp : ∀ a ∈ La ++ L2, ∀ u, H2 a = some u → H3 a = some u := Step.keepL sp2 s3
    have ro3 := ro2.mono s3.ex0 fun a ha => kp a (List.mem_append_left _ ha)
    have en3 := en2.mono s3.ex0 fun a ha => kp a (List.mem_append_right _ ha)
    have st3 := st2.trans s3'
    cases et : t d g' with
    | none => rw [et] at post2; exact post2.elim
    | some g1 =>
      rw [et] at post2
      simp only at post2
      refine ⟨H03, L2, g', d, st3.sep.right, en3, rx, g1, et, fun σ4 H4 H04 L4 s4 en4 _ => ?_⟩
      have st4 : Step H0 H L H04 H4 (La ++ L4) := st3.then s4
      have ro4 := ro3.mono s4.ex0 (Step.keepL st3.sep s4)
      refine ⟨H04, L4, g1, st4.sep.right, en4, ?_⟩
      cases eb : B g1 with
      | stuck => rw [eb] at post2; exact post2.elim
      | exc x5 g5 =>
        rw [eb] at post2
        intro c dd σ5 H5 H05 L5 s5 rx5 en5
        have st5 : Step H0 H L H05 H5 (La ++ L5) := st4.then s5
        simp only [Res.bind, Res.mapG] at post2
        cases ef : F g5 with
        | none => rw [ef] at post2; exact post2.elim
        | some g6 =>
          rw [ef] at post2
          obtain ⟨Lx, L6, en6, pm⟩ := hF σ5 H05 H5 g5 g6 L5 (exb.trans (s3.ex0.trans (s4.ex0.trans s5.ex0))) en5 (ro4.mono s5.ex0 (Step.keepL st4.sep s5)) ef
          exact post2 c dd σ5 H5 H05 L6 ((st5.perm pm).right) rx5 en6
      | ok f g5 =>
        rw [eb] at post2
        simp only [Res.bind] at post2
        cases f with
        | next => exact fun σ5 H5 H05 L5 s5 en5 => ⟨H05, L5, g5, fun a ha u hu => Step.keepL st4.sep s5 a ha u (Step.keepL st3.sep s4 a ha u (kp a (List.mem_append_left _ ha) u (kpl a ha u hu))), exb.trans (s3.ex0.trans (s4.ex0.trans s5.ex0)), st4.then s5, ro4.mono s5.ex0 (Step.keepL st4.sep s5), en5, post2⟩
        | cont => exact fun σ5 H5 H05 L5 s5 en5 => ⟨H05, L5, g5, fun a ha u hu => Step.keepL st4.sep s5 a ha u (Step.keepL st3.sep s4 a ha u (kp a (List.mem_append_left _ ha) u (kpl a ha u hu))), exb.trans (s3.ex0.trans (s4.ex0.trans s5.ex0)), st4.then s5, ro4.mono s5.ex0 (Step.keepL st4.sep s5), en5, post2⟩
        | brk =>
          intro σ5 H5 H05 L5 s5 en5
          have st5 : Step H0 H L H05 H5 (La ++ L5) := st4.then s5
          simp only [Res.mapG] at post2
          cases ef : F g5 with
          | none => rw [ef] at post2; exact post2.elim
          | some g6 =>
            rw [ef] at post2
            obtain ⟨Lx, L6, en6, pm⟩ := hF σ5 H05 H5 g5 g6 L5 (exb.trans (s3.ex0.trans (s4.ex0.trans s5.ex0))) en5 (ro4.mono s5.ex0 (Step.keepL st4.sep s5)) ef
            exact post2 σ5 H5 H05 L6 ((st5.perm pm).right) en6
        | ret o =>
          intro v σ5 H5 H05 Lo L5 s5 rv en5
          have st5 : Step H0 H L H05 H5 (La ++ (Lo ++ L5)) := st4.then s5
          simp only [Res.mapG] at post2
          cases ef : F g5 with
          | none => rw [ef] at post2; exact post2.elim
          | some g6 =>
            rw [ef] at post2
            obtain ⟨Lx, L6, en6, pm⟩ := hF σ5 H05 H5 g5 g6 L5 (exb.trans (s3.ex0.trans (s4.ex0.trans s5.ex0))) en5 (ro4.mono s5.ex0 (Step.keepL st4.sep s5)) ef
            have st6 : Step H0 H L H05 H5 (Lx ++ (Lo ++ L6)) := by
              refine st5.perm ?_
              exact ((perm_mid La Lo L5).trans (List.Perm.append_left Lo pm)).trans (perm_mid Lo Lx L6)
            exact post2 v σ5 H5 H05 Lo L6 st6.right rv en6
  · left
    have e : i = ds.length := by omega
    subst e
    refine ⟨f2 rfl, ?_⟩
    rw [List.drop_length, loopS] at post2
    simp only [Res.mapG] at post2
    cases ef : F g' with
    | none => rw [ef] at post2; exact post2.elim
    | some g6 =>
      rw [ef] at post2
      obtain ⟨Lx, L6, en6, pm⟩ := hF σ2 H02 H2 g' g6 L2 exb en2 ro2 ef
      exact post2 σ2 H2 H02 L6 ((st2.perm pm).right) en6
theorem toks_keep {H0 : Hp} {σ σ' : L2.St} : ∀ {us : List V} {rs : List R}, Toks H0 σ us rs → (∀ i, R.slot i ∈ rs → σ'[i]? = σ[i]?) → (∀ i k, R.sub i k ∈ rs → σ'[i]? = σ[i]?) → Toks H0 σ' us rs
  | _, _, .nil, _, _ => .nil
  | _, _, .val t, h, h' => .val (toks_keep t (fun i hi => h i (by simp [hi])) fun i k hi => h' i k (by simp [hi]))
  | _, _, .slot e t, h, h' => .slot (by rw [h _ (by simp)]; exact e) (toks_keep t (fun i hi => h i (by simp [hi])) fun i k hi => h' i k (by simp [hi]))
  | _, _, .sub (i := i) (k := k) a b c t, h, h' => .sub (by rw [h' i k (by simp)]; exact a) b c (toks_keep t (fun i hi => h i (by simp [hi])) fun i k hi => h' i k (by simp [hi]))
theorem ss_for {own : List Nat} {tg iter : Expr} {body : List Stmt} {pos : Pos} {A : G → Res (List R)} {items : List O → Option (List D)} {t : T} {B : S} {k : Nat} (cx : Ctx W k Wx X) (po : PassesOwn (model X.prog X.w) X.A X.env X.xe)
    (hi : SI W vs Wx X tg iter A items) (hg : ∀ vs', SG W vs' own X tg t) (hb : ∀ vs', SB W vs' Wx X body B) (hs : ∀ x, foldedSetIterable iter X.env x = pure x := by intro _; rfl) : SS W vs Wx X (.For tg iter body [] pos) (forS A items t B) := by
  refine ⟨fun pins s σ H De I h => ?_⟩
  by_cases hh : ∃ H0 L g rs g1, Sep H0 H L ∧ EnvR W H0 H vs σ g L ∧ PostS W vs Wx H0 H L (forS A items t B g) De ∧ A g = .ok rs g1 ∧ hasSlot rs = true
  · refine (ps_for po cx.calm hi (hg σ) (hb σ) hs).run pins s σ H De I ?_
    obtain ⟨H0, L, g, rs, g1, sp, en, post, ea, hsl⟩ := hh
    refine ⟨H0, L, g, sp, en, ?_⟩
    unfold forS at post
    rw [ea] at post ⊢
    simp only [Res.bind] at post
    cases et : takes rs g1 with
    | none => rw [et] at post; exact post.elim
    | some p =>
      obtain ⟨os, g2⟩ := p
      rw [et] at post
      simp only at post
      cases ei : items os with
      | none => rw [ei] at post; exact post.elim
      | some ds =>
        rw [ei] at post
        simp only [forR] at post
        rw [if_pos hsl] at post
        refine ⟨os, g2, ds, et, ei, fun J us H1 H01 La L1 st ro en1 tk fd => ?_⟩
        refine for_core st ro (env_lock en1) fd (fun σ' H0' H' g' g3 L' exF en' ro' hf => ?_) post
        have hall : rs.all (isPar g') = true := by
          by_cases q : rs.all (isPar g') = true
          · exact q
          · rw [if_neg q] at hf; cases hf
        rw [if_pos hall] at hf; cases hf
        have en2 := env_unlk en1 en'
        have tk' : Toks H01 σ' us rs := toks_keep tk (fun i hi => by
          have := List.all_eq_true.mp hall _ hi
          simp only [isPar] at this
          split at this
          · rename_i o e; exact env_par_val en' e
          · cases this) fun i k hi => by
          have := List.all_eq_true.mp hall _ hi
          simp only [isPar] at this
          split at this
          · rename_i o e; exact env_par_val en' e
          · cases this
        exact puts_ok (tk'.mono exF) ro' en2
  · refine (ps_for po cx.calm hi (hg vs) (hb vs) hs).run pins s σ H De I ?_
    obtain ⟨H0, L, g, sp, en, post⟩ := h
    refine ⟨H0, L, g, sp, en, ?_⟩
    cases ea : A g with
    | stuck => unfold forS at post; rw [ea] at post; exact post.elim
    | exc x g' => unfold forS at post; rw [ea] at post; exact fun c d H' H0' L' s2 rx en2 => post c d σ H' H0' L' s2 rx en2
    | ok rs g1 =>
      have hsl : hasSlot rs = false := by
        cases q : hasSlot rs with
        | false => rfl
        | true => exact (hh ⟨H0, L, g, rs, g1, sp, en, post, ea, q⟩).elim
      unfold forS at post
      rw [ea] at post
      simp only [Res.bind] at post
      cases et : takes rs g1 with
      | none => rw [et] at post; exact post.elim
      | some p =>
        obtain ⟨os, g2⟩ := p
        rw [et] at post
        simp only at post
        cases ei : items os with
        | none => rw [ei] at post; exact post.elim
        | some ds =>
          rw [ei] at post
          simp only [forR] at post
          rw [if_neg (by rw [hsl]; simp)] at post
          refine ⟨os, g2, ds, et, ei, fun J us H1 H01 La L1 st ro en1 tk fd => ?_⟩
          refine for_core (vs := vs) (F := some) st ro en1 fd (fun σ' H0' H' g' g3 L' exF en' ro' hf => ?_) ?_
          · cases hf; exact ⟨La, L', en', .refl _⟩
          · have : ∀ r : Res Fl, r.mapG some = r := fun r => by cases r <;> rfl
            rw [this]; exact post
/-- while: by fuel -/
def whileS (t : G → Res Bool) (body : S) : Nat → S
  | 0, _ => .stuck
  | n + 1, g => (t g).bind fun c g1 => if c then (body g1).bind fun f g2 => match f with
      | .next => whileS t body n g2
      | .cont => whileS t body n g2
      | .brk => .ok .next g2
      | .ret o => .ok (.ret o) g2
    else .ok .next g1
theorem ss_while {c : Expr} {body : List Stmt} {pos : Pos} {t : G → Res Bool} {B : S} (fuel : Nat) (po : PassesOwn (model X.prog X.w) X.A X.env X.xe) (hc : ST W vs Wx X c t) (hb : SB W vs Wx X body B) : SS W vs Wx X (.While c body [] pos) (whileS t B fuel) := by
  refine ps_weak (ps_while po hc hb) fun De σ H ⟨H0, L, g, sp, en, post⟩ => ?_
  refine ⟨fun m σ' H' => ∃ H0' L' g', Step H0 H L H0' H' L' ∧ EnvR W H0' H' vs σ' g' L' ∧ PostS W vs Wx H0 H L (whileS t B m g') De, ⟨fuel, H0, L, g, Step.refl sp, en, post⟩, ?_⟩
  rintro m σ1 H1 ⟨H01, L1, g1, st1, en1, post1⟩
  refine ⟨H01, L1, g1, st1.sep, en1, ?_⟩
  cases m with
  | zero => exact post1.elim
  | succ m =>
    rw [whileS] at post1
    cases et : t g1 with
    | stuck => rw [et] at post1; exact post1.elim
    | exc x g' => rw [et] at post1; exact fun cc d H' H0' L' s2 rx en2 => post1 cc d σ1 H' H0' L' (st1.trans s2) rx en2
    | ok b g2 =>
      rw [et] at post1
      simp only [Res.bind] at post1
      intro H2 H02 L2 s2 en2
      have st2 := st1.trans s2
      cases b with
      | false => rw [if_neg Bool.false_ne_true] at post1 ⊢; exact post1 σ1 H2 H02 L2 st2 en2
      | true =>
        rw [if_pos rfl] at post1 ⊢
        refine ⟨fun σ' H' => ∃ H0' L' g', Step H0 H L H0' H' L' ∧ EnvR W H0' H' vs σ' g' L' ∧ PostS W vs Wx H0 H L (whileS t B m g') De, fun σ' H' p => ⟨m, Nat.lt_succ_self m, p⟩, H02, L2, g2, st2.sep, en2, ?_⟩
        cases eb : B g2 with
        | stuck => rw [eb] at post1; exact post1.elim
        | exc x5 g5 => rw [eb] at post1; exact fun cc dd σ5 H5 H05 L5 s5 rx5 en5 => post1 cc dd σ5 H5 H05 L5 (st2.trans s5) rx5 en5
        | ok f g5 =>
          rw [eb] at post1
          simp only at post1
          cases f with
          | next => exact fun σ5 H5 H05 L5 s5 en5 => ⟨H05, L5, g5, st2.trans s5, en5, post1⟩
          | cont => exact fun σ5 H5 H05 L5 s5 en5 => ⟨H05, L5, g5, st2.trans s5, en5, post1⟩
          | brk => exact fun σ5 H5 H05 L5 s5 en5 => post1 σ5 H5 H05 L5 (st2.trans s5) en5
          | ret o => exact fun v σ5 H5 H05 Lo L5 s5 rv en5 => post1 v σ5 H5 H05 Lo L5 (st2.trans s5) rv en5
end
end VI
namespace VI
open PySem PySem.Spec PyProof.Rows L2
section
variable {W : Wd} {vs : List (Option V)} {Wx : WX} {X : Cx} {n : Nat}
/-! ### list comprehensions -/
abbrev Wx0 : WX := fun _ _ _ _ => False
theorem Ctx.blk {k : Nat} (cx : Ctx W k Wx X) (s : Shared) (H : Hp) (scope : Scope) (cenv : PySem.Env) (fp : List Addr) : Ctx W k Wx0 (X.blk s H scope cenv fp) := ⟨cx.K, cx.calm, cx.nd, takes0, cx.room⟩
def isPure (g : G) (i : Nat) : Bool := match g[i]? with
  | some .un => true
  | some (.loc (.pure _)) => true
  | some (.par (.pure _)) => true
  | _ => false
def wipeG : List Nat → G → G
  | [], g => g
  | i :: own, g => (wipeG own g).set i .un
def restG : List Nat → G → G → G
  | [], _, g => g
  | i :: own, g0, g => restG own g0 (match g0[i]? with
    | some s => g.set i s
    | none => g)
def compL (own : List Nat) (t : T) (cond : G → Res Bool) (elt : E) : List D → G → List D → Option (List D × G)
  | [], g, acc => some (acc, g)
  | d :: ds, g, acc => match t d (wipeG own g) with
    | none => none
    | some g1 => match cond g1 with
      | .ok true g2 => match elt g2 with
        | .ok r g3 => match frzs [r] g3 with
          | some ([y], g4) => if acc.length < 16777216 ∧ own.all (isPure g4) then compL own t cond elt ds g4 (acc ++ [y]) else none
          | _ => none
        | _ => none
      | .ok false g2 => if own.all (isPure g2) then compL own t cond elt ds g2 acc else none
      | _ => none
def compE (A : G → Res (List R)) (items : List O → Option (List D)) (own : List Nat) (t : T) (cond : G → Res Bool) (elt : E) : E := fun g => (A g).bind fun rs g1 => match takes rs g1 with
  | some (os, g2) => match items os with
    | some ds => if own.all (isPure g2) && own.all (fun i => !rs.any fun r => match r with | .slot j => j == i | .sub j _ => j == i | _ => false) then match compL own t cond elt ds g2 [] with
        | some (acc, g3) => .ok (.val (.lst acc)) (puts rs os (restG own g2 g3))
        | none => .stuck
      else .stuck
    | none => .stuck
  | none => .stuck
theorem env_un {H0 H : Hp} : ∀ {vs : List (Option V)} {σ : L2.St} {g : G} {L : List Addr} (i : Nat) (s : Option V), EnvR W H0 H vs σ g L → isPure g i = true → EnvR W H0 H vs (σ.set i s) (g.set i .un) L
  | _, _, _, _, i, s, .nil, h => by simp [isPure] at h
  | _, _, _, _, 0, s, .un r, h => by simpa using EnvR.un r
  | _, _, _, _, 0, s, .loc (o := o) q r, h => by
    cases q with
    | pure f => simpa using EnvR.un r
    | _ => simp [isPure] at h
  | _, _, _, _, 0, s, .par (o := o) q r, h => by
    cases q with
    | pure f => simpa using EnvR.un r
    | _ => simp [isPure] at h
  | _, _, _, _, i + 1, s, .un r, h => by simpa using EnvR.un (env_un i s r (by simpa [isPure] using h))
  | _, _, _, _, i + 1, s, .loc q r, h => by simpa using EnvR.loc q (env_un i s r (by simpa [isPure] using h))
  | _, _, _, _, i + 1, s, .par q r, h => by simpa using EnvR.par q (env_un i s r (by simpa [isPure] using h))
theorem wipeG_get (g : G) (j : Nat) : ∀ own : List Nat, (wipeG own g)[j]? = if j ∈ own then (g[j]?).map (fun _ => Slot.un) else g[j]?
  | [] => by simp [wipeG]
  | i :: own => by
    unfold wipeG
    by_cases h : i = j
    · subst h
      simp only [List.getElem?_set_self', List.mem_cons, true_or, if_true]
      rw [wipeG_get g i own]
      split <;> cases g[i]? <;> rfl
    · rw [List.getElem?_set_ne h, wipeG_get g j own]
      simp [Ne.symm h]
theorem env_wipe {H0 H : Hp} {vs : List (Option V)} {σ : L2.St} {g : G} {L : List Addr} (en : EnvR W H0 H vs σ g L) : ∀ {own : List Nat}, (∀ i ∈ own, isPure g i = true) → EnvR W H0 H vs (wipe σ own) (wipeG own g) L
  | [], _ => en
  | i :: own, h => by
    refine env_un i none (env_wipe en fun j hj => h j (by simp [hj])) ?_
    have := h i (by simp)
    unfold isPure at this ⊢
    rw [wipeG_get]
    split at this
    · rename_i e; by_cases q : i ∈ own <;> simp [q, e]
    · rename_i e; by_cases q : i ∈ own <;> simp [q, e]
    · rename_i e; by_cases q : i ∈ own <;> simp [q, e]
    · cases this
/-- a pure slot is put back -/
theorem env_back {H0 H H0' H' : Hp} (e : Ex H0 H0') : ∀ {vs : List (Option V)} {σ0 σ : L2.St} {g0 g : G} {L0 L : List Addr} (i : Nat) {s : Slot}, EnvR W H0 H vs σ0 g0 L0 → EnvR W H0' H' vs σ g L → isPure g i = true → g0[i]? = some s → isPure g0 i = true → ∃ x, σ0[i]? = some x ∧ EnvR W H0' H' vs (σ.set i x) (g.set i s) L
  | _, _, _, _, _, _, _, i, s, .nil, _, _, h, _ => by simp at h
  | _, _, _, _, _, _, _, 0, s, .un (s := x) r0, en, hp, h, _ => by
    simp at h; subst h
    cases en with
    | un r => exact ⟨x, by simp, by simpa using EnvR.un r⟩
    | loc q r => cases q with
      | pure _ => exact ⟨x, by simp, by simpa using EnvR.un r⟩
      | _ => simp [isPure] at hp
    | par q r => cases q with
      | pure _ => exact ⟨x, by simp, by simpa using EnvR.un r⟩
      | _ => simp [isPure] at hp
  | _, _, _, _, _, _, _, 0, s, .loc (v := v) q0 r0, en, hp, h, hq => by
    simp at h; subst h
    cases q0 with
    | pure f0 =>
      have z : ∀ {L : List Addr}, RepO W H0' H' v (.pure _) [] := fun {_} => .pure (f0.mono e)
      cases en with
      | un r => exact ⟨some v, by simp, by simpa using EnvR.loc (RepO.pure (H := H') (f0.mono e)) r⟩
      | loc q r => cases q with
        | pure _ => exact ⟨some v, by simp, by simpa using EnvR.loc (RepO.pure (H := H') (f0.mono e)) r⟩
        | _ => simp [isPure] at hp
      | par q r => cases q with
        | pure _ => exact ⟨some v, by simp, by simpa using EnvR.loc (RepO.pure (H := H') (f0.mono e)) r⟩
        | _ => simp [isPure] at hp
    | _ => simp [isPure] at hq
  | _, _, _, _, _, _, _, 0, s, .par (v := v) q0 r0, en, hp, h, hq => by
    simp at h; subst h
    cases q0 with
    | pure f0 =>
      cases en with
      | un r => exact ⟨some v, by simp, by simpa using EnvR.par (RepO.pure (H := H') (f0.mono e)) r⟩
      | loc q r => cases q with
        | pure _ => exact ⟨some v, by simp, by simpa using EnvR.par (RepO.pure (H := H') (f0.mono e)) r⟩
        | _ => simp [isPure] at hp
      | par q r => cases q with
        | pure _ => exact ⟨some v, by simp, by simpa using EnvR.par (RepO.pure (H := H') (f0.mono e)) r⟩
        | _ => simp [isPure] at hp
    | _ => simp [isPure] at hq
  | _, _, _, _, _, _, _, i + 1, s, en0, en, hp, h, hq => by
    have tail0 : ∃ (vs0 : List (Option V)) (σt : L2.St) (gt : G) (Lt : List Addr), True := ⟨[], [], [], [], trivial⟩
    cases en0 with
    | nil => simp at h
    | un r0 =>
      cases en with
      | un r => obtain ⟨x, h1, h2⟩ := env_back e i r0 r (by simpa [isPure] using hp) (by simpa using h) (by simpa [isPure] using hq); exact ⟨x, by simpa using h1, by simpa using EnvR.un h2⟩
      | loc q r => obtain ⟨x, h1, h2⟩ := env_back e i r0 r (by simpa [isPure] using hp) (by simpa using h) (by simpa [isPure] using hq); exact ⟨x, by simpa using h1, by simpa using EnvR.loc q h2⟩
      | par q r => obtain ⟨x, h1, h2⟩ := env_back e i r0 r (by simpa [isPure] using hp) (by simpa using h) (by simpa [isPure] using hq); exact ⟨x, by simpa using h1, by simpa using EnvR.par q h2⟩
    | loc q0 r0 =>
      cases en with
      | un r => obtain ⟨x, h1, h2⟩ := env_back e i r0 r (by simpa [isPure] using hp) (by simpa using h) (by simpa [isPure] using hq); exact ⟨x, by simpa using h1, by simpa using EnvR.un h2⟩
      | loc q r => obtain ⟨x, h1, h2⟩ := env_back e i r0 r (by simpa [isPure] using hp) (by simpa using h) (by simpa [isPure] using hq); exact ⟨x, by simpa using h1, by simpa using EnvR.loc q h2⟩
      | par q r => obtain ⟨x, h1, h2⟩ := env_back e i r0 r (by simpa [isPure] using hp) (by simpa using h) (by simpa [isPure] using hq); exact ⟨x, by simpa using h1, by simpa using EnvR.par q h2⟩
    | par q0 r0 =>
      cases en with
      | un r => obtain ⟨x, h1, h2⟩ := env_back e i r0 r (by simpa [isPure] using hp) (by simpa using h) (by simpa [isPure] using hq); exact ⟨x, by simpa using h1, by simpa using EnvR.un h2⟩
      | loc q r => obtain ⟨x, h1, h2⟩ := env_back e i r0 r (by simpa [isPure] using hp) (by simpa using h) (by simpa [isPure] using hq); exact ⟨x, by simpa using h1, by simpa using EnvR.loc q h2⟩
      | par q r => obtain ⟨x, h1, h2⟩ := env_back e i r0 r (by simpa [isPure] using hp) (by simpa using h) (by simpa [isPure] using hq); exact ⟨x, by simpa using h1, by simpa using EnvR.par q h2⟩
theorem isPure_some {g : G} {i : Nat} (h : isPure g i = true) : ∃ s, g[i]? = some s := by
  unfold isPure at h
  cases e : g[i]? with
  | none => rw [e] at h; cases h
  | some s => exact ⟨s, rfl⟩
theorem isPure_set {g : G} {i j : Nat} {s : Slot} (h : isPure g j = true) (hs : isPure [s] 0 = true) : isPure (g.set i s) j = true := by
  unfold isPure at h hs ⊢
  by_cases e : i = j
  · subst e
    obtain ⟨s', e'⟩ := isPure_some (g := g) (i := i) h
    rw [List.getElem?_set_self (List.getElem?_eq_some_iff.mp e').1]
    simpa using hs
  · rw [List.getElem?_set_ne e]; exact h
theorem env_rest {H0 H H0' H' : Hp} (e : Ex H0 H0') {vs : List (Option V)} {σ0 : L2.St} {g0 : G} {L0 : List Addr} (en0 : EnvR W H0 H vs σ0 g0 L0) : ∀ {own : List Nat} {σ : L2.St} {g : G} {L : List Addr}, EnvR W H0' H' vs σ g L → (∀ i ∈ own, isPure g i = true) → (∀ i ∈ own, isPure g0 i = true) → (∀ j, j ∉ own → σ[j]? = σ0[j]?) → EnvR W H0' H' vs σ0 (restG own g0 g) L
  | [], σ, g, L, en, _, _, hj => by
    have : σ = σ0 := List.ext_getElem? fun j => hj j (by simp)
    subst this; exact en
  | i :: own, σ, g, L, en, hp, hq, hj => by
    obtain ⟨s, hs⟩ := isPure_some (hq i (by simp))
    obtain ⟨x, h1, h2⟩ := env_back e i en0 en (hp i (by simp)) hs (hq i (by simp))
    have h3 : restG (i :: own) g0 g = restG own g0 (g.set i s) := by rw [restG, hs]
    rw [h3]
    have hs1 : isPure [s] 0 = true := by
      have := hq i (by simp)
      unfold isPure at this ⊢
      rw [hs] at this; simpa using this
    refine env_rest e en0 h2 (fun k hk => isPure_set (hp k (by simp [hk])) hs1) (fun k hk => hq k (by simp [hk])) fun j hjn => ?_
    by_cases q : i = j
    · subst q
      by_cases hlt : i < σ.length
      · rw [List.getElem?_set_self hlt, h1]
      · -- the slots are as many
        exfalso
        have l1 := (List.getElem?_eq_some_iff.mp h1).1
        have : ∀ {vs : List (Option V)} {σ : L2.St} {g : G} {L : List Addr} {H0 H : Hp}, EnvR W H0 H vs σ g L → σ.length = g.length ∧ vs.length = g.length := by
          intro vs σ g L H0 H en
          induction en with
          | nil => exact ⟨rfl, rfl⟩
          | un _ ih => simp [ih.1, ih.2]
          | loc _ _ ih => simp [ih.1, ih.2]
          | par _ _ ih => simp [ih.1, ih.2]
        have a := this en0
        have b := this en
        omega
    · rw [List.getElem?_set_ne q]
      exact hj j (by simp [hjn, Ne.symm q])
theorem lcsize {m : Nat} (h : m < 16777216) : m < sizeLine := by rw [sizeLine_eq]; exact h
/-- from A's end to a comprehension's list -/
theorem tLc_ok {own : List Nat} {A : G → Res (List R)} {items : List O → Option (List D)} {t : T} {cond : G → Res Bool} {B : E} {σ : L2.St} {H : Hp} {Q : VK} (h : tE W vs Wx (compE A items own t cond B) σ H Q) :
    tLc (tI W vs Wx A items) (tG W vs own t) (tT W vs Wx0 cond) (tE W vs Wx0 B) own σ H Q := by
  obtain ⟨H0, L, g, sp, en, post⟩ := h
  refine ⟨H0, L, g, sp, en, ?_⟩
  unfold compE at post
  cases ea : A g with
  | stuck => rw [ea] at post; exact post.elim
  | exc x g' => rw [ea] at post; exact post
  | ok rs g1 =>
    rw [ea] at post
    simp only [Res.bind] at post
    cases et : takes rs g1 with
    | none => rw [et] at post; exact post.elim
    | some p =>
      obtain ⟨os, g2⟩ := p
      rw [et] at post
      simp only at post
      cases ei : items os with
      | none => rw [ei] at post; exact post.elim
      | some ds =>
        rw [ei] at post
        simp only at post
        by_cases hcnd : (own.all (isPure g2) && own.all (fun i => !rs.any fun r => match r with | .slot j => j == i | .sub j _ => j == i | _ => false)) = true
        · rw [if_pos hcnd] at post
          rw [Bool.and_eq_true] at hcnd
          have hpure : ∀ i ∈ own, isPure g2 i = true := List.all_eq_true.mp hcnd.1
          refine ⟨os, g2, ds, et, ei, fun J us H1 H01 La L1 st1 ro1 en1 tk fd Da hD => ?_⟩
          -- the new list is one's own
          have sD := step_newL (o := .lst []) st1.sep.ex hD
          have sp1 : Sep H01 H1 ((La ++ L1) ++ []) := by simpa using st1.sep
          have kp1 := Step.keepL sp1 sD
          have st2 : Step H0 H L H01 (upd H1 Da (.lst [])) ([Da] ++ (La ++ L1)) := by
            refine (st1.trans ((Step.frame sp1 sD).from fun a => by simp)).perm ?_
            exact List.perm_append_comm
          have ro2 : RepOs W H01 (upd H1 Da (.lst [])) us os La := ro1.mono (Ex.refl _) fun a ha => kp1 a (List.mem_append_left _ ha)
          have en2 : EnvR W H01 (upd H1 Da (.lst [])) vs σ g2 L1 := en1.mono (Ex.refl _) fun a ha => kp1 a (List.mem_append_right _ ha)
          let Pv : Nat → Hp → Prop := fun i H' => ∃ H0' L' g' σ' acc av, (∀ a ∈ La, ∀ u, H1 a = some u → H' a = some u) ∧ Step H0 H L H0' H' ([Da] ++ (La ++ L')) ∧ RepOs W H0' H' us os La ∧ EnvR W H0' H' vs σ' g' L' ∧ (∀ j, j ∉ own → σ'[j]? = σ[j]?) ∧ (∀ i ∈ own, isPure g' i = true) ∧
            H' Da = some (.lst av) ∧ RepFs W H0' av acc ∧ Ex H01 H0' ∧ PostE W vs Wx σ H0 H L (match compL own t cond B (ds.drop i) g' acc with
              | some (acc, g3) => .ok (.val (.lst acc)) (puts rs os (restG own g2 g3))
              | none => .stuck) Q
          refine ⟨fun i m H' => m = ds.length - i ∧ i ≤ ds.length ∧ Pv i H', ⟨ds.length, by simp, Nat.zero_le _, H01, L1, g2, σ, [], [], fun a ha u hu => kp1 a (List.mem_append_left _ ha) u hu, st2, ro2, en2, fun _ _ => rfl, hpure, upd_same, .nil, Ex.refl _, by simpa using post⟩, ?_⟩
          rintro i m H2 ⟨rfl, hi, H02, L2, g', σ', acc, av, kpl, st, ro, en', hσ, hp', hDa, rf, exx, post2⟩
          obtain ⟨f1, f2⟩ := fd i H02 H2 La exx st.sep.ex ro kpl
          by_cases hlt : i < ds.length
          · right
            obtain ⟨d, hd⟩ : ∃ d, ds[i]? = some d := ⟨ds[i], List.getElem?_eq_getElem hlt⟩
            obtain ⟨go, yl⟩ := f1 d hd
            have edrop : ds.drop i = d :: ds.drop (i + 1) := by
              have := List.drop_eq_getElem_cons hlt
              rw [this]
              congr 1
              rw [List.getElem?_eq_getElem hlt] at hd
              exact Option.some.inj hd
            rw [edrop, compL] at post2
            refine ⟨go, Pv (i + 1), fun H' p' => ⟨ds.length - (i + 1), by omega, rfl, hlt, p'⟩, fun x H3 hy => ?_⟩
            obtain ⟨H03, s3, rx⟩ := yl x H3 hy
            have sp2 : Sep H02 H2 (([Da] ++ (La ++ L2)) ++ []) := by simpa using st.sep
            have s3' : Step H02 H2 ([Da] ++ (La ++ L2)) H03 H3 ([Da] ++ (La ++ L2)) := by simpa using Step.frame sp2 s3
            have kp : ∀ a ∈ [Da] ++ (La ++ L2), ∀ u, H2 a = some u → H3 a = some u := Step.keepL sp2 s3
            have ro3 := ro.mono s3.ex0 fun a ha => kp a (by simp [ha])
            have en3 := en'.mono s3.ex0 fun a ha => kp a (by simp [ha])
            have hD3 : H3 Da = some (.lst av) := kp Da (by simp) _ hDa
            have st3 := st.trans s3'
            have ewipe : wipe σ own = wipe σ' own := List.ext_getElem? fun j => by
              rw [wipe_get, wipe_get]
              by_cases hj : j ∈ own
              · rw [if_pos hj, if_pos hj]
                have hlen : ∀ {vs : List (Option V)} {σ : List (Option V)} {g : G} {L : List Addr} {H0 H : Hp}, EnvR W H0 H vs σ g L → σ.length = vs.length := by
                  intro vs σ g L H0 H en
                  induction en with
                  | nil => rfl
                  | un _ ih => simp [ih]
                  | loc _ _ ih => simp [ih]
                  | par _ _ ih => simp [ih]
                have l1 := hlen en1
                have l2 := hlen en'
                by_cases q : j < σ.length
                · rw [List.getElem?_eq_getElem q, List.getElem?_eq_getElem (show j < σ'.length by omega)]; rfl
                · rw [List.getElem?_eq_none (by omega), List.getElem?_eq_none (by omega)]
              · rw [if_neg hj, if_neg hj, hσ j hj]
            have enw := env_wipe en3 hp'
            cases eT : t d (wipeG own g') with
            | none => rw [eT] at post2; exact post2.elim
            | some g4 =>
              rw [eT] at post2
              simp only at post2
              have st3r : Step H0 H L H03 H3 (([Da] ++ La) ++ L2) := by simpa [List.append_assoc] using st3
              refine ⟨H03, L2, wipeG own g', d, st3r.sep.right, by rw [ewipe]; exact enw, rx, g4, eT, fun σ4 H4 H04 L4 s4 en4 hw => ?_⟩
              have st4 : Step H0 H L H04 H4 (([Da] ++ La) ++ L4) := st3r.then s4
              have kp4 := Step.keepL st3r.sep s4
              have ro4 := ro3.mono s4.ex0 fun a ha => kp4 a (by simp [ha])
              have hD4 : H4 Da = some (.lst av) := kp4 Da (by simp) _ hD3
              have hwid : wipe (wipe σ own) own = wipe σ own := List.ext_getElem? fun j => by
                rw [wipe_get, wipe_get]
                by_cases hj : j ∈ own
                · rw [if_pos hj, if_pos hj]; cases σ[j]? <;> rfl
                · rw [if_neg hj, if_neg hj]
              have hw2 : wipe σ4 own = wipe σ own := hw.trans hwid
              have hσ4 : ∀ j, j ∉ own → σ4[j]? = σ[j]? := fun j hj => by
                have h1 := wipe_get σ4 j own
                have h2 := wipe_get σ j own
                rw [if_neg hj] at h1 h2
                rw [← h1, ← h2, hw2]
              refine ⟨hw2, H04, L4, g4, st4.sep.right, en4, ?_⟩
              cases ecn : cond g4 with
              | stuck => rw [ecn] at post2; exact post2.elim
              | exc x5 g5 => rw [ecn] at post2; exact post2.elim
              | ok b g5 =>
                rw [ecn] at post2
                intro H5 H05 L5 s5 en5
                have st5 : Step H0 H L H05 H5 (([Da] ++ La) ++ L5) := st4.then s5
                have kp5 := Step.keepL st4.sep s5
                have ro5 := ro4.mono s5.ex0 fun a ha => kp5 a (by simp [ha])
                have hD5 : H5 Da = some (.lst av) := kp5 Da (by simp) _ hD4
                cases b with
                | false =>
                  rw [if_neg Bool.false_ne_true]
                  simp only at post2
                  by_cases hpp : own.all (isPure g5) = true
                  · rw [if_pos hpp] at post2
                    exact ⟨H05, L5, g5, σ4, acc, av, fun a ha u hu => kp5 a (by simp [ha]) u (kp4 a (by simp [ha]) u (kp a (by simp [ha]) u (kpl a ha u hu))), by simpa [List.append_assoc] using st5, ro5, en5, hσ4, List.all_eq_true.mp hpp, hD5, ((rf.mono s3.ex0).mono s4.ex0).mono s5.ex0, exx.trans (s3.ex0.trans (s4.ex0.trans s5.ex0)), post2⟩
                  · rw [if_neg hpp] at post2; exact post2.elim
                | true =>
                  rw [if_pos rfl]
                  simp only at post2
                  refine ⟨H05, L5, g5, st5.sep.right, en5, ?_⟩
                  cases eb : B g5 with
                  | stuck => rw [eb] at post2; exact post2.elim
                  | exc x6 g6 => rw [eb] at post2; exact post2.elim
                  | ok r g6 =>
                    rw [eb] at post2
                    intro y H6 H06 Lr L6 s6 rr6 en6
                    simp only at post2
                    have st6 : Step H0 H L H06 H6 (([Da] ++ La) ++ (Lr ++ L6)) := st5.then s6
                    have kp6 := Step.keepL st5.sep s6
                    have ro6 := ro5.mono s6.ex0 fun a ha => kp6 a (by simp [ha])
                    have hD6 : H6 Da = some (.lst av) := kp6 Da (by simp) _ hD5
                    have hcase : ∃ yd g7, frzs [r] g6 = some ([yd], g7) := by
                      cases ef : frzs [r] g6 with
                      | none => rw [ef] at post2; exact post2.elim
                      | some pp =>
                        obtain ⟨l, g7⟩ := pp
                        rw [ef] at post2
                        cases l with
                        | nil => exact post2.elim
                        | cons a l => cases l with
                          | nil => exact ⟨a, g7, rfl⟩
                          | cons _ _ => exact post2.elim
                    obtain ⟨yd, g7, ef⟩ := hcase
                    rw [ef] at post2
                    simp only at post2
                    · skip
                      obtain ⟨H07, L7, s7, rf7, en7⟩ := frzs_ok (us := [y]) (Lr := Lr ++ []) (.cons rr6 .nil) (by simpa using st6.sep.right) en6 ef
                      have s7' : Step H06 H6 (Lr ++ L6) H07 H6 L7 := by simpa using s7
                      have st7 : Step H0 H L H07 H6 (([Da] ++ La) ++ L7) := st6.then s7'
                      cases rf7 with
                      | cons ry _ =>
                        by_cases hpp : acc.length < 16777216 ∧ own.all (isPure g7) = true
                        · rw [if_pos hpp] at post2
                          have rfa := (((rf.mono s3.ex0).mono s4.ex0).mono s5.ex0).mono s6.ex0 |>.mono s7.ex0
                          refine ⟨av, hD6, by rw [rfa.len]; exact lcsize hpp.1, ?_⟩
                          have nd := st7.sep
                          have stw : Step H0 H L H07 (upd H6 Da (.lst (av ++ [y]))) ([Da] ++ (La ++ L7)) := by
                            have nd' : Sep H07 H6 ([Da] ++ (La ++ L7)) := by simpa [List.append_assoc] using nd
                            have w : Step H07 H6 ([Da] ++ (La ++ L7)) H07 (upd H6 Da (.lst (av ++ [y]))) ([Da] ++ (La ++ L7)) := by
                              refine ⟨Ex.refl _, fun a u h hn => ?_, fun a h => .inl h, fun a h => .inl h, ⟨fun a u h => ?_, nd'.nd, fun q hq => ⟨(nd'.own q hq).1, ?_⟩⟩⟩
                              · have : a ≠ Da := fun z => hn (by simp [z])
                                rw [upd_ne this]; exact h
                              · have : a ≠ Da := fun z => by
                                  subst z
                                  rw [(nd'.own a (by simp)).1] at h; cases h
                                rw [upd_ne this]; exact nd'.ex a u h
                              · by_cases z : q = Da
                                · subst z; exact ⟨_, upd_same⟩
                                · rw [upd_ne z]; exact (nd'.own q hq).2
                            exact (st7.perm (by simp [List.append_assoc])).trans w
                          have ndd := st7.sep.nd
                          have kpw : ∀ a ∈ La ++ L7, ∀ u, H6 a = some u → (upd H6 Da (.lst (av ++ [y]))) a = some u := fun a ha u hu => by
                            have : a ≠ Da := fun z => by
                              subst z
                              have nd2 : ([a] ++ (La ++ L7)).Nodup := by simpa [List.append_assoc] using ndd
                              exact (List.nodup_append.mp nd2).2.2 a (by simp) a ha rfl
                            rw [upd_ne this]; exact hu
                          exact ⟨H07, L7, g7, σ4, acc ++ [yd], av ++ [y], fun a ha u hu => kpw a (by simp [ha]) u (kp6 a (by simp [ha]) u (kp5 a (by simp [ha]) u (kp4 a (by simp [ha]) u (kp a (by simp [ha]) u (kpl a ha u hu))))), stw, (ro6.mono s7.ex0 fun _ _ _ q => q).mono (Ex.refl _) fun a ha => kpw a (by simp [ha]), en7.mono (Ex.refl _) fun a ha => kpw a (by simp [ha]), hσ4, List.all_eq_true.mp hpp.2, upd_same, rfa.append (.cons ry .nil),
                            exx.trans (s3.ex0.trans (s4.ex0.trans (s5.ex0.trans (s6.ex0.trans s7.ex0)))), post2⟩
                        · rw [if_neg hpp] at post2; exact post2.elim
          · left
            have e : i = ds.length := by omega
            subst e
            refine ⟨f2 rfl, ?_⟩
            rw [List.drop_length, compL] at post2
            have en6 : EnvR W H02 H2 vs σ (restG own g2 g') L2 := env_rest exx en1 en' hp' hpure hσ
            obtain ⟨Lx, L3, en7, pm⟩ := puts_ok (tk.mono exx) ro en6
            have st8 : Step H0 H L H02 H2 (Lx ++ ([Da] ++ L3)) := st.perm ((List.Perm.append_left [Da] pm).trans (perm_mid [Da] Lx L3))
            exact post2 (.ref Da) H2 H02 [Da] L3 st8.right (.lst hDa rf) en7
        · rw [if_neg hcnd] at post; exact post.elim
theorem se_comp {own : List (Str × Nat)} {elt tg iter : Expr} {scope : Scope} {pos : Pos} {A : G → Res (List R)} {items : List O → Option (List D)} {t : T} {B : E} {k : Nat}
    (cx : Ctx W k Wx X) {N' : List Str} {sc' : Scope} (hN' : X.N = N') (hsc' : X.env.scope = sc') (ok : blkC N' sc' scope own = true)
    (hi : SI W vs Wx X tg iter A items) (hg : ∀ (s : Shared) (H : Hp) (C : Addr) (cl : List (Str × Addr)) (fp : List Addr), SG W vs (own.map (·.2)) (X.blk s H scope (compEnvC scope cl C X.env) fp) tg t)
    (hb : ∀ (s : Shared) (H : Hp) (C : Addr) (cl : List (Str × Addr)) (fp : List Addr), SE W vs Wx0 (X.blk s H scope (compEnvC scope cl C X.env) fp) elt B) (hs : ∀ x, foldedSetIterable iter X.env x = pure x := by intro _; rfl) :
    SE W vs Wx X (.ListComp elt [⟨tg, iter, [], 0⟩] scope pos) (compE A items (own.map (·.2)) t (fun g => .ok true g) B) :=
  pe_weak (pe_lc cx.calm cx.nd hi (by rw [hN', hsc']; exact blkOk_by ok) hg (fun _ _ _ _ _ => pts_nil) hb hs) fun σ H Q q => by
    obtain ⟨H0, L, g, sp, en, post⟩ := tLc_ok q
    refine ⟨H0, L, g, sp, en, ?_⟩
    cases ea : A g with
    | stuck => rw [ea] at post; exact post.elim
    | exc x g' => rw [ea] at post; exact post
    | ok rs g1 =>
      rw [ea] at post
      obtain ⟨os, g2, ds, e1, e2, kk⟩ := post
      refine ⟨os, g2, ds, e1, e2, fun J us H' H0' La L' st ro en tk fd Da hD => ?_⟩
      obtain ⟨Wv, w0, tn⟩ := kk J us H' H0' La L' st ro en tk fd Da hD
      refine ⟨Wv, w0, fun i m H2 w => ?_⟩
      rcases tn i m H2 w with z | ⟨go, Nx, hN, y⟩
      · exact .inl z
      · refine .inr ⟨go, Nx, hN, fun x H3 hy => ?_⟩
        obtain ⟨H02, L2, g2, d, sp2, en2, rf, g3, et, k2⟩ := y x H3 hy
        refine ⟨H02, L2, g2, d, sp2, en2, rf, g3, et, fun σ' H4 H04 L4 s4 en4 hw => ?_⟩
        obtain ⟨e3, H05, L5, g5, sp5, en5, p5⟩ := k2 σ' H4 H04 L4 s4 en4 hw
        exact ⟨e3, p5 H4 H05 L5 (Step.refl sp5) en5⟩
theorem se_compIf {own : List (Str × Nat)} {elt tg iter c : Expr} {scope : Scope} {pos : Pos} {A : G → Res (List R)} {items : List O → Option (List D)} {t : T} {B : E} {k : Nat} {cond : G → Res Bool}
    (cx : Ctx W k Wx X) {N' : List Str} {sc' : Scope} (hN' : X.N = N') (hsc' : X.env.scope = sc') (ok : blkC N' sc' scope own = true)
    (hi : SI W vs Wx X tg iter A items) (hg : ∀ (s : Shared) (H : Hp) (C : Addr) (cl : List (Str × Addr)) (fp : List Addr), SG W vs (own.map (·.2)) (X.blk s H scope (compEnvC scope cl C X.env) fp) tg t)
    (hc : ∀ (s : Shared) (H : Hp) (C : Addr) (cl : List (Str × Addr)) (fp : List Addr), ST W vs Wx0 (X.blk s H scope (compEnvC scope cl C X.env) fp) c cond)
    (hb : ∀ (s : Shared) (H : Hp) (C : Addr) (cl : List (Str × Addr)) (fp : List Addr), SE W vs Wx0 (X.blk s H scope (compEnvC scope cl C X.env) fp) elt B) (hs : ∀ x, foldedSetIterable iter X.env x = pure x := by intro _; rfl) :
    SE W vs Wx X (.ListComp elt [⟨tg, iter, [c], 0⟩] scope pos) (compE A items (own.map (·.2)) t cond B) :=
  pe_weak (pe_lc cx.calm cx.nd hi (by rw [hN', hsc']; exact blkOk_by ok) hg (fun s H C cl fp => pts_one (hc s H C cl fp)) hb hs) fun σ H Q q => tLc_ok q
end
end VI
namespace VI
open PySem PySem.Spec PyProof.Rows L2
section
variable {W : Wd} {vs : List (Option V)} {Wx : WX} {X : Cx} {n : Nat}
theorem ss_set' {i : Nat} {st : Stmt} {A : E} {tx : TE} (hp : PS X st (tAsg tx (gName i))) (hx : ∀ σ H Q, tE W vs Wx A σ H Q → tx σ H Q) : SS W vs Wx X st (asgS i A) := by
  refine ps_weak hp fun De σ H ⟨H0, L, g, sp, en, post⟩ => ?_
  refine hx σ H _ ⟨H0, L, g, sp, en, ?_⟩
  unfold asgS at post
  cases ea : A g with
  | stuck => rw [ea] at post; exact post.elim
  | exc x g' => rw [ea] at post; exact fun c d H' H0' L' s2 rx en2 => post c d σ H' H0' L' s2 rx en2
  | ok r g1 =>
    rw [ea] at post
    exact fun v H1 H01 Lr L1 st rr en1 => asgR_ok st rr en1 post
theorem tYes_of {σ : L2.St} {H : Hp} {Q : Bool → Hp → Prop} (h : tT W vs Wx (fun g => .ok true g) σ H Q) : tYes σ H Q := by
  obtain ⟨H0, L, g, sp, en, post⟩ := h
  exact post H H0 L (Step.refl sp) en
theorem ss_setLc {i : Nat} {y : Str} {py : Pos} {own : List (Str × Nat)} {elt tg iter : Expr} {scope : Scope} {pos spos : Pos} {A : G → Res (List R)} {items : List O → Option (List D)} {t : T} {B : E} {k : Nat}
    (cx : Ctx W k Wx X) (hy : X.N[i]? = some y) (hyl : X.env.scope.names.lookup y = some .local) (hsw : swapsWith (.ListComp elt [⟨tg, iter, [], 0⟩] scope pos) (some (.Name y py)) spos.line X.env = pure true) {N' : List Str} {sc' : Scope} (hN' : X.N = N') (hsc' : X.env.scope = sc') (ok : blkC N' sc' scope own = true)
    (hi : SI W vs Wx X tg iter A items) (hg : ∀ (s : Shared) (H : Hp) (C : Addr) (cl : List (Str × Addr)) (fp : List Addr), SG W vs (own.map (·.2)) (X.blk s H scope (compEnvC scope cl C X.env) fp) tg t)
    (hb : ∀ (s : Shared) (H : Hp) (C : Addr) (cl : List (Str × Addr)) (fp : List Addr), SE W vs Wx0 (X.blk s H scope (compEnvC scope cl C X.env) fp) elt B) (hs : ∀ x, foldedSetIterable iter X.env x = pure x := by intro _; rfl) :
    SS W vs Wx X (.Assign [.Name y py] (.ListComp elt [⟨tg, iter, [], 0⟩] scope pos) spos) (asgS i (compE A items (own.map (·.2)) t (fun g => .ok true g) B)) :=
  ss_set' (ps_setLc cx.calm cx.nd hy hyl hsw hi (by rw [hN', hsc']; exact blkOk_by ok) hg (fun _ _ _ _ _ => PTs.mk fun pins s σ H Q I hw => pts_nil.run pins s σ H Q I (tYes_of (W := W) (vs := vs) (Wx := Wx0) hw)) hb hs) fun σ H Q q => tLc_ok q
theorem ss_setLcIf {i : Nat} {y : Str} {py : Pos} {own : List (Str × Nat)} {elt tg iter c : Expr} {scope : Scope} {pos spos : Pos} {A : G → Res (List R)} {items : List O → Option (List D)} {t : T} {B : E} {k : Nat} {cond : G → Res Bool}
    (cx : Ctx W k Wx X) (hy : X.N[i]? = some y) (hyl : X.env.scope.names.lookup y = some .local) (hsw : swapsWith (.ListComp elt [⟨tg, iter, [c], 0⟩] scope pos) (some (.Name y py)) spos.line X.env = pure true) {N' : List Str} {sc' : Scope} (hN' : X.N = N') (hsc' : X.env.scope = sc') (ok : blkC N' sc' scope own = true)
    (hi : SI W vs Wx X tg iter A items) (hg : ∀ (s : Shared) (H : Hp) (C : Addr) (cl : List (Str × Addr)) (fp : List Addr), SG W vs (own.map (·.2)) (X.blk s H scope (compEnvC scope cl C X.env) fp) tg t)
    (hc : ∀ (s : Shared) (H : Hp) (C : Addr) (cl : List (Str × Addr)) (fp : List Addr), ST W vs Wx0 (X.blk s H scope (compEnvC scope cl C X.env) fp) c cond)
    (hb : ∀ (s : Shared) (H : Hp) (C : Addr) (cl : List (Str × Addr)) (fp : List Addr), SE W vs Wx0 (X.blk s H scope (compEnvC scope cl C X.env) fp) elt B) (hs : ∀ x, foldedSetIterable iter X.env x = pure x := by intro _; rfl) :
    SS W vs Wx X (.Assign [.Name y py] (.ListComp elt [⟨tg, iter, [c], 0⟩] scope pos) spos) (asgS i (compE A items (own.map (·.2)) t cond B)) :=
  ss_set' (ps_setLc cx.calm cx.nd hy hyl hsw hi (by rw [hN', hsc']; exact blkOk_by ok) hg (fun s H C cl fp => pts_one (hc s H C cl fp)) hb hs) fun σ H Q q => tLc_ok q
end
/-! ### a def's body becomes what its call is worth -/
def backs : List O → G → Option (List O)
  | [], _ => some []
  | o :: os, s :: g => match s, o with
    | .par o', _ => (backs os g).map fun r => o' :: r
    | _, .pure d => (backs os g).map fun r => .pure d :: r
    | _, _ => none
  | _ :: _, [] => none
def bodyC (np nl : Nat) (B : S) (os : List O) : CRes := if os.length = np then match B (os.map Slot.par ++ List.replicate nl .un) with
    | .ok (.ret o) g => match backs os g with
      | some os' => .ok o os'
      | none => .stuck
    | .ok .next g => match backs os g with
      | some os' => .ok (.pure .non) os'
      | none => .stuck
    | .exc x g => match backs os g with
      | some os' => .exc x os'
      | none => .stuck
    | _ => .stuck
  else .stuck
theorem env_start {W : Wd} {H0 H : Hp} : ∀ {us : List V} {os : List O} {L : List Addr} (k : Nat), RepOs W H0 H us os L → EnvR W H0 H (us.map some ++ List.replicate k none) (us.map some ++ List.replicate k none) (os.map Slot.par ++ List.replicate k .un) L
  | _, _, _, 0, .nil => by simpa using EnvR.nil
  | _, _, _, k + 1, .nil => by
    have := env_start (W := W) (H0 := H0) (H := H) k (us := []) (os := []) .nil
    simp only [List.map_nil, List.nil_append, List.replicate_succ] at this ⊢
    exact .un this
  | _, _, _, k, .cons h r => by simpa using EnvR.par h (env_start k r)
theorem backs_ok {W : Wd} {H0 H H0' H' : Hp} (e : Ex H0 H0') : ∀ {us : List V} {os : List O} {L : List Addr} {σ : L2.St} {g : G} {L' : List Addr} {os' : List O} {k : Nat}, RepOs W H0 H us os L → EnvR W H0' H' (us.map some ++ List.replicate k none) σ g L' → backs os g = some os' →
    ∃ La Lx, RepOs W H0' H' us os' La ∧ L'.Perm (Lx ++ La)
  | [], _, _, σ, g, L', os', k, .nil, en, h => by
    cases h
    exact ⟨[], L', .nil, by simp⟩
  | u :: us, o :: os, _, σ, g, L', os', k, .cons h r, en, hb => by
    cases en with
    | un en =>
      cases o with
      | pure d =>
        simp only [backs] at hb
        obtain ⟨os2, e1, e2⟩ := Option.map_eq_some_iff.mp hb
        subst e2
        obtain ⟨La, Lx, ro, pm⟩ := backs_ok e r en e1
        cases h with
        | pure f => exact ⟨[] ++ La, Lx, .cons (.pure (f.mono e)) ro, by simpa using pm⟩
      | _ => cases hb
    | loc q en =>
      rename_i Lo L2
      cases o with
      | pure d =>
        simp only [backs] at hb
        obtain ⟨os2, e1, e2⟩ := Option.map_eq_some_iff.mp hb
        subst e2
        obtain ⟨La, Lx, ro, pm⟩ := backs_ok e r en e1
        cases h with
        | pure f => exact ⟨[] ++ La, Lo ++ Lx, .cons (.pure (f.mono e)) ro, by simpa [List.append_assoc] using pm.append_left Lo⟩
      | _ => cases hb
    | par q en =>
      rename_i Lo L2
      simp only [backs] at hb
      obtain ⟨os2, e1, e2⟩ := Option.map_eq_some_iff.mp hb
      subst e2
      obtain ⟨La, Lx, ro, pm⟩ := backs_ok e r en e1
      refine ⟨Lo ++ La, Lx, .cons q ro, ?_⟩
      exact (List.Perm.append_left Lo pm).trans (perm_mid Lo Lx La)
/-- the context of a def's body -/
theorem ctx_of {W : Wd} {P : Program} {w : World} {mg : Str → Option Value} {base : Heap} {N : List Str} {qual : Str} {scope : Scope} {f : Addr} {cd : Value} {A : Around} {outer : List PySem.Env} {s : Shared} {H : Hp} {Ek : XK} {k : Nat} (nd : N.Nodup)
    (hr : Room k (A.deeper (envOfC qual scope s.heap.objs.size f cd))) : Ctx W k (fun cls d _ H => Ek cls d H) (cxOf (L2.CX P w) P w W.K mg base N qual scope f cd A outer s H Ek) :=
  ⟨rfl, rfl, nd, takes_of rfl rfl rfl rfl, hr⟩
theorem po_of {W : Wd} {P : Program} {w : World} {mg : Str → Option Value} {base : Heap} {N : List Str} {qual : Str} {scope : Scope} {f : Addr} {cd : Value} {A : Around} {outer : List PySem.Env} {s : Shared} {H : Hp} {Ek : XK} :
    PassesOwn (model P w) (cxOf (L2.CX P w) P w W.K mg base N qual scope f cd A outer s H Ek).A (cxOf (L2.CX P w) P w W.K mg base N qual scope f cd A outer s H Ek).env (cxOf (L2.CX P w) P w W.K mg base N qual scope f cd A outer s H Ek).xe := passes_of (X := cxOf (L2.CX P w) P w W.K mg base N qual scope f cd A outer s H Ek) rfl
theorem def_ok {W : Wd} {P : Program} {w : World} {mg : Str → Option Value} {base : Heap} {C : Callee} {x qual : Str} {fn : Nat} {st : Stmt} {f : Addr} {fd : FuncData} {N ps : List Str} {k : Nat} (F : Fun W.K x qual st f fd) (S' : FnScope N ps (defScope st)) {B : S} (hC : ∀ os, C fn os = bodyC ps.length (N.length - ps.length) B os)
    (hN : ps.length ≤ N.length)
    (hbody : ∀ (cdv : Value) (A : Around) (outer : List PySem.Env) (s : Shared) (H : Hp) (Ek : XK) (vs : List (Option V)), Ctx W k (fun cls d _ H => Ek cls d H) (cxOf (L2.CX P w) P w W.K mg base N qual (defScope st) f cdv A outer s H Ek) →
      SB W vs (fun cls d _ H => Ek cls d H) (cxOf (L2.CX P w) P w W.K mg base N qual (defScope st) f cdv A outer s H Ek) (defBody st) B) :
    FnOk P w W.K mg base (L2.CX P w) (k + 1) f fd ps (spD W C fn ps.length) := by
  refine F.okX S' (fun vs H Q Ek h => h.1) fun cdv A outer s H us Q Ek hr h => ?_
  obtain ⟨hl, H0, L, os, sp, ro, post⟩ := h
  refine ⟨_, hbody cdv A outer s H Ek (us.map some ++ List.replicate (N.length - ps.length) none) (ctx_of S'.nd hr), ?_⟩
  have hs : L2.start N us = us.map some ++ List.replicate (N.length - ps.length) none := by unfold L2.start; rw [hl]
  rw [hs]
  refine ⟨H0, L, os.map Slot.par ++ List.replicate (N.length - ps.length) .un, sp, env_start _ ro, ?_⟩
  rw [hC] at post
  unfold bodyC at post
  rw [if_pos (by rw [← ro.len]; exact hl)] at post
  cases eb : B (os.map Slot.par ++ List.replicate (N.length - ps.length) .un) with
  | stuck => rw [eb] at post; exact post.elim
  | exc xd g =>
    rw [eb] at post
    simp only at post
    intro c d σ' H' H0' L' st' rx en
    cases ek : backs os g with
    | none => rw [ek] at post; exact post.elim
    | some os' =>
      rw [ek] at post
      obtain ⟨La, Lx, ro', pm⟩ := backs_ok st'.ex0 ro en ek
      exact post c d H' H0' La ((st'.perm pm).right) rx ro'
  | ok fl g =>
    rw [eb] at post
    cases fl with
    | next =>
      simp only at post
      intro σ' H' H0' L' st' en
      cases ek : backs os g with
      | none => rw [ek] at post; exact post.elim
      | some os' =>
        rw [ek] at post
        obtain ⟨La, Lx, ro', pm⟩ := backs_ok st'.ex0 ro en ek
        exact post .non H' H0' [] La (by simpa using (st'.perm pm).right) (.pure .non) ro'
    | brk => exact post.elim
    | cont => exact post.elim
    | ret o =>
      simp only at post
      intro v σ' H' H0' Lo L' st' rv en
      cases ek : backs os g with
      | none => rw [ek] at post; exact post.elim
      | some os' =>
        rw [ek] at post
        obtain ⟨La, Lx, ro', pm⟩ := backs_ok st'.ex0 ro en ek
        have s2 : Step H0 H L H0' H' (Lx ++ (Lo ++ La)) := st'.perm ((List.Perm.append_left Lo pm).trans (perm_mid Lo Lx La))
        exact post v H' H0' Lo La s2.right rv ro'
end VI
namespace VI
open PySem PySem.Spec PyProof.Rows L2
/-! ### lists put together, whatever stands in their slots -/
theorem cat_meets (l : Addr) (items : Array Value) (n : Nat) (sl : Array (Option Value)) (b : Addr) (items2 : Array Value) (n2 : Nat) (sl2 : Array (Option Value)) (hc0 : items.size + items2.size ≤ sizeLine) :
    Meets (Builtin.«list.__add__» ⟨[.ref l, .ref b], []⟩) (fun _ R s => s.heap.get? l = some ⟨.type "list", none, .seq items n, sl⟩ ∧ s.heap.get? b = some ⟨.type "list", none, .seq items2 n2, sl2⟩ ∧
      R (.ok (.ret (Value.ref s.heap.objs.size))) { s with heap := s.heap.push { cls := Value.type "list", data := Data.seq (items ++ items2) }, toks := s.toks }) :=
  .of_wp fun prog w A R s h => by
    obtain ⟨hp, g, d, tk, os⟩ := s
    obtain ⟨hl, hb, h⟩ := h
    have f1 := AutoSeq1.idx_int
    have f2 := AutoSeq1.sub_tuple_tuple
    have f3 := AutoSeq1.sub_list_list
    have f4 := AutoSeq1.sub_tuple_list
    have f5 := AutoSeq1.sub_list_tuple
    wp_walk using AutoSeq1.wpAny_loadPart' hl, AutoSeq1.wpAny_loadPart' hb
    exact ⟨_, rfl, h⟩
section
variable {W : Wd} {X : Cx}
def rCatS (K : PySem.W.Frag) : R2 := fun x y H Q => ∃ l b xs zs, x = .ref l ∧ y = .ref b ∧ SqL K H l xs ∧ SqL K H b zs ∧ xs.length + zs.length ≤ sizeLine ∧ ∀ p, H p = none → Q (.ref p) (upd H p (.lst (xs ++ zs)))
theorem op_catS : OpR X (binaryOp .Add) (rCatS X.K) := by
  intro pins s σ H x y v u Q I rx ry h
  obtain ⟨l, b, xs, zs, rfl, rfl, h1, h2, hz, q⟩ := h
  cases rx
  cases ry
  obtain ⟨its, r, ⟨⟨c1, d1, dt1, sl1⟩, n1, e1, hc1, hd1, ht1⟩, _⟩ := I.list h1
  obtain ⟨its2, r2, ⟨⟨c2, d2, dt2, sl2⟩, n2, e2, hc2, hd2, ht2⟩, _⟩ := I.list h2
  dsimp only at hc1 hd1 ht1 hc2 hd2 ht2
  subst hc1 hd1 ht1 hc2 hd2 ht2
  have l1 := r.length
  have l2 := r2.length
  refine concat_meets ⟨_, e1, rfl⟩ ⟨_, e2, rfl⟩ noFill_list_add seq_list_add F.slot_list_add F.entry_list_add (F.args_list_add_2 _ _) (cat_meets l _ n1 sl1 b _ n2 sl2 (by rw [List.size_toArray, List.size_toArray]; omega)) ⟨e1, e2, ?_⟩
  rw [show its.toArray ++ its2.toArray = (its ++ its2).toArray by simp]
  exact ⟨.ref _, _, I.lnew (t' := s.toks) (r.append r2) (by rw [List.length_append]; omega), rfl, q _ I.fresh⟩
/-! ### + - * // % ** -/
def seqL : O → Option (List D)
  | .pure (.lst l) => some l
  | .lst l => some l
  | _ => none
def addO : O → O → Option O
  | .pure (.int i), .pure (.int j) => some (.pure (.int (i + j)))
  | .pure (.str a), .pure (.str b) => if a.length + b.length ≤ 16777216 then some (.pure (.str (a ++ b))) else none
  | .pure (.tup a), .pure (.tup b) => if a.length + b.length ≤ 16777216 then some (.pure (.tup (a ++ b))) else none
  | .pure (.lst a), .pure (.lst b) => if a.length + b.length ≤ 16777216 then some (.lst (a ++ b)) else none
  | .pure (.lst a), .lst b => if a.length + b.length ≤ 16777216 then some (.lst (a ++ b)) else none
  | .lst a, .pure (.lst b) => if a.length + b.length ≤ 16777216 then some (.lst (a ++ b)) else none
  | .lst a, .lst b => if a.length + b.length ≤ 16777216 then some (.lst (a ++ b)) else none
  | _, _ => none
theorem atom_int {H0 H : Hp} {v : V} {i : Int} {L : List Addr} (h : RepO W H0 H v (.pure (.int i)) L) : v = .int i := by cases h with | pure f => cases f; rfl
theorem atom_str {H0 H : Hp} {v : V} {i : Str} {L : List Addr} (h : RepO W H0 H v (.pure (.str i)) L) : v = .str i := by cases h with | pure f => cases f; rfl
theorem atom_bl {H0 H : Hp} {v : V} {i : Bool} {L : List Addr} (h : RepO W H0 H v (.pure (.bl i)) L) : v = .bl i := by cases h with | pure f => cases f; rfl
theorem atom_non {H0 H : Hp} {v : V} {L : List Addr} (h : RepO W H0 H v (.pure .non) L) : v = .non := by cases h with | pure f => cases f; rfl
theorem sizeL {m : Nat} (h : m ≤ 16777216) : m ≤ sizeLine := by rw [sizeLine_eq]; exact h
theorem op_addO (hK : X.K = W.K) : OpR X (binaryOp .Add) (rO W addO) := by
  intro pins s σ H x y v u Q I rx ry ⟨H0, ox, oy, Lx, Ly, o, ex, hx, hy, e, gv⟩
  have lists : ∀ a b, (ox = .pure (.lst a) ∨ ox = .lst a) → (oy = .pure (.lst b) ∨ oy = .lst b) → a.length + b.length ≤ 16777216 → o = .lst (a ++ b) → wpAny (model X.prog X.w) X.A (binaryOp .Add v u) (EP X pins σ Q) X.xe s := by
    intro a b ha hb hz ho
    subst ho
    obtain ⟨p, us, e1, hs1, rf1⟩ := sql_of ex hx ha
    obtain ⟨q, ws, e2, hs2, rf2⟩ := sql_of ex hy hb
    exact op_catS pins s σ H x y v u Q I rx ry ⟨p, q, us, ws, e1, e2, by rw [hK]; exact hs1, by rw [hK]; exact hs2, by rw [rf1.len, rf2.len]; exact sizeL hz, fun p' hp => gv.newL ex (rf1.append rf2) hp⟩
  unfold addO at e
  split at e
  · cases e
    exact op_add pins s σ H x y v u Q I rx ry ⟨_, _, atom_int hx, atom_int hy, gv.atom ex (.int _)⟩
  · split at e
    · rename_i hz
      cases e
      exact op_add_str pins s σ H x y v u Q I rx ry ⟨_, _, atom_str hx, atom_str hy, sizeL hz, gv.atom ex (.str _)⟩
    · cases e
  · split at e
    · rename_i a b hz
      cases e
      obtain ⟨p, us, e1, hs1, rf1⟩ := sqt_of ex hx
      obtain ⟨q, ws, e2, hs2, rf2⟩ := sqt_of ex hy
      refine op_catA pins s σ H x y v u Q I rx ry ⟨p, q, us, ws, e1, e2, by rw [hK]; exact hs1, by rw [hK]; exact hs2, by rw [rf1.len, rf2.len]; exact sizeL hz, fun h0 => ?_, fun _ h1 => ?_, fun _ _ p' hp => gv.newT ex (rf1.append rf2) hp⟩
      · subst h0
        have : a = [] := by cases rf1; rfl
        subst this
        cases hy with
        | pure f => rw [← e2]; exact gv.atom ex (by simpa using f)
      · subst h1
        have : b = [] := by cases rf2; rfl
        subst this
        cases hx with
        | pure f => rw [← e1]; exact gv.atom ex (by simpa using f)
    · cases e
  · split at e
    · rename_i a b hz; cases e; exact lists a b (.inl rfl) (.inl rfl) hz rfl
    · cases e
  · split at e
    · rename_i a b hz; cases e; exact lists a b (.inl rfl) (.inr rfl) hz rfl
    · cases e
  · split at e
    · rename_i a b hz; cases e; exact lists a b (.inr rfl) (.inl rfl) hz rfl
    · cases e
  · split at e
    · rename_i a b hz; cases e; exact lists a b (.inr rfl) (.inr rfl) hz rfl
    · cases e
  · cases e
def intO (c : Int → Int → Bool) (f : Int → Int → Int) : O → O → Option O
  | .pure (.int i), .pure (.int j) => if c i j then some (.pure (.int (f i j))) else none
  | _, _ => none
theorem op_intO {f : Value → Value → Sem Value} {C : Int → Int → Prop} {c : Int → Int → Bool} {g : Int → Int → Int} (h : OpR X f (rI C fun i j => .int (g i j))) (hc : ∀ i j, c i j = true → C i j) : OpR X f (rO W (intO c g)) := by
  intro pins s σ H x y v u Q I rx ry ⟨H0, ox, oy, Lx, Ly, o, ex, hx, hy, e, gv⟩
  unfold intO at e
  split at e
  · split at e
    · rename_i i j hij
      cases e
      exact h pins s σ H x y v u Q I rx ry ⟨_, _, atom_int hx, atom_int hy, hc _ _ hij, gv.atom ex (.int _)⟩
    · cases e
  · cases e
def subO := intO (fun _ _ => true) fun i j => i - j
theorem op_subO : OpR X (binaryOp .Sub) (rO W subO) := op_intO (C := fun _ _ => True) (fun pins s σ H x y v u Q I rx ry ⟨i, j, a, b, _, q⟩ => op_sub pins s σ H x y v u Q I rx ry ⟨i, j, a, b, q⟩) fun _ _ _ => trivial
def mulC (i j : Int) : Bool := decide (i.natAbs < 2 ^ 64) || decide (j.natAbs < 2 ^ 64) || decide (i.natAbs.log2 + j.natAbs.log2 < 1000000)
def fdivO := intO (fun _ j => decide (0 < j) && decide (j < 18446744073709551616)) fun i j => i / j
def modO := intO (fun _ j => decide (0 < j)) fun i j => i % j
theorem op_fdivO : OpR X (binaryOp .FloorDiv) (rO W fdivO) := op_intO op_fdivW fun i j h => by
  simp only [Bool.and_eq_true, decide_eq_true_eq] at h
  refine ⟨h.1, Nat.lt_of_le_of_lt (?_ : j.natAbs.log2 ≤ 64) (by decide)⟩
  have h2 : j.natAbs < 2 ^ 64 := by omega
  by_cases h3 : j.natAbs = 0
  · omega
  · exact Nat.le_of_lt ((Nat.log2_lt h3).mpr h2)
theorem op_modO : OpR X (binaryOp .Mod) (rO W modO) := op_intO op_mod fun i j h => by simpa using h
def mulO : O → O → Option O
  | .pure (.int i), .pure (.int j) => if mulC i j then some (.pure (.int (i * j))) else none
  | .pure (.str a), .pure (.int j) => if a.length ≤ 100 ∧ 0 ≤ j ∧ j ≤ 10000 then some (.pure (.str (Txt.mul a j))) else none
  | _, _ => none
theorem mul_okC {a : Str} {j : Int} (h1 : a.length ≤ 100) (h2 : 0 ≤ j) (h3 : j ≤ 10000) : MulOk a j := by
  have hm : a.length * j.toNat ≤ 100 * 10000 := Nat.mul_le_mul h1 (by omega)
  have e63 : (2 : Int) ^ 63 = 9223372036854775808 := by decide +kernel
  unfold MulOk
  rw [e63]
  refine ⟨?_, fun h _ => ?_, fun _ _ => ?_⟩
  · rw [decide_eq_false (by omega), decide_eq_false (by omega)]; rfl
  · have h0 : 0 < j := by omega
    have : (100 : Int) ≤ (9223372036854775808 - 1) / j := (Int.le_ediv_iff_mul_le h0).mpr (by omega)
    omega
  · unfold Builtin.Str.tooLong
    rw [decide_eq_false]
    rw [sizeLine_eq]
    exact fun q => by
      have := Nat.lt_of_lt_of_le q hm
      omega
theorem rep_s (a : Str) (j : Int) (hok : MulOk a j) : OpR X (binaryOp .Mult) (fun x y H Q => x = .str a ∧ y = .int j ∧ Q (.str (Txt.mul a j)) H) := by
  intro pins s σ H x y v u Q I rx ry ⟨e1, e2, q⟩
  subst e1 e2
  obtain ⟨t, rfl⟩ := rx
  obtain ⟨t', rfl⟩ := ry
  refine PySem.SB.mul hok fun t2 k => ?_
  exact ⟨.str (Txt.mul a j), H, I.tok _, ⟨_, rfl⟩, q⟩
theorem op_mulO : OpR X (binaryOp .Mult) (rO W mulO) := by
  intro pins s σ H x y v u Q I rx ry ⟨H0, ox, oy, Lx, Ly, o, ex, hx, hy, e, gv⟩
  unfold mulO at e
  split at e
  · split at e
    · rename_i i j hij
      cases e
      unfold mulC at hij
      rw [Bool.or_eq_true, Bool.or_eq_true, decide_eq_true_eq, decide_eq_true_eq, decide_eq_true_eq] at hij
      rcases hij with (hij | hij) | hij
      · exact op_mul pins s σ H x y v u Q I rx ry ⟨_, _, atom_int hx, atom_int hy, .inl (by omega), gv.atom ex (.int _)⟩
      · exact op_mul pins s σ H x y v u Q I rx ry ⟨_, _, atom_int hx, atom_int hy, .inr (by omega), gv.atom ex (.int _)⟩
      · exact op_mulW pins s σ H x y v u Q I rx ry ⟨_, _, atom_int hx, atom_int hy, hij, gv.atom ex (.int _)⟩
    · cases e
  · split at e
    · rename_i a j hij
      cases e
      exact rep_s a j (mul_okC hij.1 hij.2.1 hij.2.2) pins s σ H x y v u Q I rx ry ⟨atom_str hx, atom_int hy, gv.atom ex (.str _)⟩
    · cases e
  · cases e
def negO : O → Option O
  | .pure (.int i) => some (.pure (.int (-i)))
  | _ => none
theorem un_negO : UnR X (unaryOp .USub) (uO W negO) := by
  intro pins s σ H x v Q I rx ⟨H0, ox, Lx, o, ex, hx, e, gv⟩
  unfold negO at e
  split at e
  · cases e
    exact un_neg pins s σ H x v Q I rx ⟨_, atom_int hx, gv.atom ex (.int _)⟩
  · cases e
/-! ### comparisons -/
mutual
def D.py : D → Option PyData
  | .non => some .none
  | .bl b => some (.bool b)
  | .int i => some (.int i)
  | .str s => some (.str s)
  | .lst l => (D.pys l).map .list
  | .tup l => (D.pys l).map .tuple
  | _ => none
def D.pys : List D → Option (List PyData)
  | [] => some []
  | d :: ds => match d.py, D.pys ds with
    | some p, some ps => some (p :: ps)
    | _, _ => none
end
mutual
theorem RepF.dp {H : Hp} : ∀ {v : V} {d : D} {p : PyData}, RepF W H v d → d.py = some p → Dp W.K H v p
  | _, _, _, .non, e => by cases e; exact .non
  | _, _, _, .bl b, e => by cases e; exact .bl b
  | _, _, _, .int b, e => by cases e; exact .int b
  | _, _, _, .str b, e => by cases e; exact .str b
  | _, _, _, .ty _, e => by cases e
  | _, _, _, .cls _, e => by cases e
  | _, _, _, .dic _ _, e => by cases e
  | _, _, _, .ins _ _ _, e => by cases e
  | _, _, _, .exi _ _ _ _ _, e => by cases e
  | _, _, _, .set _ _, e => by cases e
  | _, _, _, .tup h r, e => by
    simp only [D.py] at e
    obtain ⟨ps, e1, e2⟩ := Option.map_eq_some_iff.mp e
    subst e2
    exact .tup h (RepFs.dp r e1)
  | _, _, _, .lst h r, e => by
    simp only [D.py] at e
    obtain ⟨ps, e1, e2⟩ := Option.map_eq_some_iff.mp e
    subst e2
    exact .lst h (RepFs.dp r e1)
theorem RepFs.dp {H : Hp} : ∀ {v : List V} {d : List D} {p : List PyData}, RepFs W H v d → D.pys d = some p → DpAll W.K H v p
  | _, _, _, .nil, e => by cases e; exact .nil
  | _, _, _, .cons (d := d) (ds := ds) h r, e => by
    rw [D.pys] at e
    cases e1 : d.py with
    | none => rw [e1] at e; cases e
    | some p =>
      cases e2 : D.pys ds with
      | none => rw [e1, e2] at e; cases e
      | some ps =>
        rw [e1, e2] at e
        cases e
        exact .cons (RepF.dp h e1) (RepFs.dp r e2)
end
def eqP (a b : D) : Option Bool := match a.py, b.py with
  | some p, some q => if SeqAt.shaped p && SeqAt.shaped q then some (PyData.eqv p q) else none
  | _, _ => none
def eqD : D → D → Option Bool
  | .int a, .int b => some (decide (a = b))
  | .str a, .str b => some (decide (a = b))
  | .bl a, .bl b => some (decide (a = b))
  | .non, .non => some true
  | .non, .int _ => some false
  | .int _, .non => some false
  | .non, .str _ => some false
  | .str _, .non => some false
  | .non, .bl _ => some false
  | .bl _, .non => some false
  | .int _, .str _ => some false
  | .str _, .int _ => some false
  | a, b => eqP a b
def eqO (x y : O) : Option O := if x.full && y.full then (eqD x.er y.er).map fun b => .pure (.bl b) else none
def neO (x y : O) : Option O := if x.full && y.full then (eqD x.er y.er).map fun b => .pure (.bl (!b)) else none
theorem RepO.toH {H0 H : Hp} {v : V} {o : O} {L : List Addr} (ex : Ex H0 H) (h : RepO W H0 H v o L) (hf : o.full = true) : RepF W H v o.er := h.toF ex hf fun _ _ _ q => q
theorem eqD_cases {H : Hp} {x y : V} {a b : D} {r : Bool} (hx : RepF W H x a) (hy : RepF W H y b) (e : eqD a b = some r) : (scal x y = true ∧ r = decide (x = y)) ∨ ∃ p q, Dp W.K H x p ∧ Dp W.K H y q ∧ SeqAt.shaped p = true ∧ SeqAt.shaped q = true ∧ r = PyData.eqv p q := by
  unfold eqD at e
  split at e
  case h_13 =>
    right
    unfold eqP at e
    split at e
    · rename_i p q e1 e2
      split at e
      · rename_i hs
        cases e
        rw [Bool.and_eq_true] at hs
        exact ⟨p, q, hx.dp e1, hy.dp e2, hs.1, hs.2, rfl⟩
      · cases e
    · cases e
  all_goals
    left
    cases hx
    cases hy
    cases e
    refine ⟨rfl, ?_⟩
    first | rfl | (rw [decide_eq_decide]; constructor <;> intro h <;> first | (rw [h]) | (injection h)) | simp
theorem op_eqO (hK : X.K = W.K) (hu : X.A.units + 64 < cLine) : OpR X (compareOp .Eq) (rO W eqO) := by
  intro pins s σ H x y v u Q I rx ry ⟨H0, ox, oy, Lx, Ly, o, ex, hx, hy, e, gv⟩
  unfold eqO at e
  split at e
  · rename_i hf
    rw [Bool.and_eq_true] at hf
    obtain ⟨r, e1, e2⟩ := Option.map_eq_some_iff.mp e
    subst e2
    rcases eqD_cases (hx.toH ex hf.1) (hy.toH ex hf.2) e1 with ⟨h1, h2⟩ | ⟨p, q, h1, h2, h3, h4, h5⟩
    · subst h2
      exact op_eq pins s σ H x y v u Q I rx ry ⟨h1, gv.atom ex (.bl _)⟩
    · subst h5
      exact op_eqD hu pins s σ H x y v u Q I rx ry ⟨p, q, by rw [hK]; exact h1, by rw [hK]; exact h2, h3, h4, gv.atom ex (.bl _)⟩
  · cases e
theorem op_neO (hK : X.K = W.K) (hu : X.A.units + 64 < cLine) : OpR X (compareOp .NotEq) (rO W neO) := by
  intro pins s σ H x y v u Q I rx ry ⟨H0, ox, oy, Lx, Ly, o, ex, hx, hy, e, gv⟩
  unfold neO at e
  split at e
  · rename_i hf
    rw [Bool.and_eq_true] at hf
    obtain ⟨r, e1, e2⟩ := Option.map_eq_some_iff.mp e
    subst e2
    rcases eqD_cases (hx.toH ex hf.1) (hy.toH ex hf.2) e1 with ⟨h1, h2⟩ | ⟨p, q, h1, h2, h3, h4, h5⟩
    · subst h2
      exact op_ne pins s σ H x y v u Q I rx ry ⟨h1, gv.atom ex (.bl _)⟩
    · subst h5
      exact op_neD hu pins s σ H x y v u Q I rx ry ⟨p, q, by rw [hK]; exact h1, by rw [hK]; exact h2, h3, h4, gv.atom ex (.bl _)⟩
  · cases e
def ordO (f : Int → Int → Bool) : O → O → Option O
  | .pure (.int i), .pure (.int j) => some (.pure (.bl (f i j)))
  | _, _ => none
theorem op_ordO {f : Value → Value → Sem Value} {g : Int → Int → Bool} (h : OpR X f (rI0 fun i j => .bl (g i j))) : OpR X f (rO W (ordO g)) := by
  intro pins s σ H x y v u Q I rx ry ⟨H0, ox, oy, Lx, Ly, o, ex, hx, hy, e, gv⟩
  unfold ordO at e
  split at e
  · cases e
    exact h pins s σ H x y v u Q I rx ry ⟨_, _, atom_int hx, atom_int hy, gv.atom ex (.bl _)⟩
  · cases e
def ltO := ordO fun i j => decide (i < j)
def leO := ordO fun i j => decide (i ≤ j)
def gtO := ordO fun i j => decide (j < i)
def geO := ordO fun i j => decide (j ≤ i)
theorem op_ltO : OpR X (compareOp .Lt) (rO W ltO) := op_ordO op_lt
theorem op_leO : OpR X (compareOp .LtE) (rO W leO) := op_ordO op_le
theorem op_gtO : OpR X (compareOp .Gt) (rO W gtO) := op_ordO op_gt
theorem op_geO : OpR X (compareOp .GtE) (rO W geO) := op_ordO op_ge
def D.isN : D → Bool
  | .non => true
  | _ => false
def isNonO (neg : Bool) : O → O → Option O
  | .pure d, .pure .non => some (.pure (.bl (neg.xor d.isN)))
  | .lst _, .pure .non => some (.pure (.bl neg))
  | .ins _ _, .pure .non => some (.pure (.bl neg))
  | _, _ => none
theorem non_iff {H0 H : Hp} {v : V} {d : D} {L : List Addr} (h : RepO W H0 H v (.pure d) L) : decide (v = .non) = d.isN := by
  cases h with
  | pure f => cases f <;> first | rfl | simp
theorem op_isO : OpR X (compareOp .Is) (rO W (isNonO false)) := by
  intro pins s σ H x y v u Q I rx ry ⟨H0, ox, oy, Lx, Ly, o, ex, hx, hy, e, gv⟩
  unfold isNonO at e
  split at e
  · cases e
    refine op_isN pins s σ H x y v u Q I rx ry ⟨atom_non hy, ?_⟩
    rw [non_iff hx]
    simpa using gv.atom ex (.bl _)
  · cases e
    refine op_isN pins s σ H x y v u Q I rx ry ⟨atom_non hy, ?_⟩
    cases hx with
    | lst h r => simpa using gv.atom ex (.bl _)
  · cases e
    refine op_isN pins s σ H x y v u Q I rx ry ⟨atom_non hy, ?_⟩
    cases hx with
    | ins h c r => simpa using gv.atom ex (.bl _)
  · cases e
theorem op_isntO : OpR X (compareOp .IsNot) (rO W (isNonO true)) := by
  intro pins s σ H x y v u Q I rx ry ⟨H0, ox, oy, Lx, Ly, o, ex, hx, hy, e, gv⟩
  unfold isNonO at e
  split at e
  · cases e
    refine op_notN pins s σ H x y v u Q I rx ry ⟨atom_non hy, ?_⟩
    rw [non_iff hx]
    simpa using gv.atom ex (.bl _)
  · cases e
    refine op_notN pins s σ H x y v u Q I rx ry ⟨atom_non hy, ?_⟩
    cases hx with
    | lst h r => simpa using gv.atom ex (.bl _)
  · cases e
    refine op_notN pins s σ H x y v u Q I rx ry ⟨atom_non hy, ?_⟩
    cases hx with
    | ins h c r => simpa using gv.atom ex (.bl _)
  · cases e
end
end VI
namespace VI
open PySem PySem.Spec PyProof.Rows L2
/-! ### dicts whose keys are tuples of numbers (nested) -/
section
variable {X : Cx} {pins : List (Addr × Obj)} {σ : L2.St} {H : Hp} {s : Shared} {W : Wd}
mutual
theorem nested_is (I : Inv X pins σ H s) (hK : X.K = W.K) : ∀ {d : D} {v : V} {k : NestedKey} {u : Value}, RepF W H v d → kN d = some k → RelV v u → NestedIs s.heap k u
  | .int i, _, _, _, h, e, r => by
    cases h
    rw [kN] at e
    cases e
    obtain ⟨t, rfl⟩ := r
    exact .int i t
  | .tup ds, _, _, _, h, e, r => by
    cases h with
    | tup sq rs =>
      rw [kN] at e
      obtain ⟨ks, e1, e2⟩ := Option.map_eq_some_iff.mp e
      subst e2
      cases r
      obtain ⟨its, vals, ht, _⟩ := I.tuple (by rw [hK]; exact sq)
      obtain ⟨o, h1, h2, n, h3⟩ := ht
      exact .tup h1 h2 h3 (by simpa using nested_all I hK rs e1 vals)
  | .non, _, _, _, h, e, r => by simp [kN] at e
  | .bl _, _, _, _, h, e, r => by simp [kN] at e
  | .str _, _, _, _, h, e, r => by simp [kN] at e
  | .lst _, _, _, _, h, e, r => by simp [kN] at e
  | .dic _, _, _, _, h, e, r => by simp [kN] at e
  | .set _, _, _, _, h, e, r => by simp [kN] at e
  | .ins _ _, _, _, _, h, e, r => by simp [kN] at e
  | .ty _, _, _, _, h, e, r => by simp [kN] at e
  | .cls _, _, _, _, h, e, r => by simp [kN] at e
theorem nested_all (I : Inv X pins σ H s) (hK : X.K = W.K) : ∀ {ds : List D} {vs : List V} {ks : List NestedKey} {us : List Value}, RepFs W H vs ds → kNs ds = some ks → Vals vs us → NestedAll s.heap ks us
  | [], _, _, _, h, e, r => by
    cases h
    rw [kNs] at e
    cases e
    cases r
    exact .nil
  | d :: ds, _, _, _, h, e, r => by
    cases h with
    | cons h1 h2 =>
      rw [kNs] at e
      cases ek : kN d with
      | none => rw [ek] at e; cases e
      | some k =>
        cases es : kNs ds with
        | none => rw [ek, es] at e; cases e
        | some ks =>
          rw [ek, es] at e
          cases e
          cases r with
          | cons r1 r2 => exact .cons (nested_is I hK h1 ek r1) (nested_all I hK h2 es r2)
end
mutual
theorem hash_w (w w' : World) : ∀ {d : D} {k : NestedKey}, kN d = some k → k.hash w = k.hash w'
  | .int i, _, e => by rw [kN] at e; cases e; rfl
  | .tup ds, _, e => by
    rw [kN] at e
    obtain ⟨ks, e1, e2⟩ := Option.map_eq_some_iff.mp e
    subst e2
    rw [NestedKey.hash, NestedKey.hash, hash_ws w w' e1]
  | .non, _, e => by simp [kN] at e
  | .bl _, _, e => by simp [kN] at e
  | .str _, _, e => by simp [kN] at e
  | .lst _, _, e => by simp [kN] at e
  | .dic _, _, e => by simp [kN] at e
  | .set _, _, e => by simp [kN] at e
  | .ins _ _, _, e => by simp [kN] at e
  | .ty _, _, e => by simp [kN] at e
  | .cls _, _, e => by simp [kN] at e
theorem hash_ws (w w' : World) : ∀ {ds : List D} {ks : List NestedKey}, kNs ds = some ks → NestedKey.hashes w ks = NestedKey.hashes w' ks
  | [], _, e => by rw [kNs] at e; cases e; rfl
  | d :: ds, _, e => by
    rw [kNs] at e
    cases ek : kN d with
    | none => rw [ek] at e; cases e
    | some k =>
      cases es : kNs ds with
      | none => rw [ek, es] at e; cases e
      | some ks =>
        rw [ek, es] at e
        cases e
        rw [NestedKey.hashes, NestedKey.hashes, hash_w w w' ek, hash_ws w w' es]
end
theorem kD1_of {d : D} {k : NestedKey} (h : kD1 d = some k) : kN d = some k ∧ k.depth ≤ 8 ∧ ∃ ds, d = .tup ds := by
  unfold kD1 at h
  split at h
  · rename_i ht
    obtain ⟨k', e1, e2⟩ := Option.bind_eq_some_iff.mp h
    split at e2
    · rename_i hd
      cases e2
      refine ⟨e1, hd, ?_⟩
      cases d <;> first | exact ⟨_, rfl⟩ | cases ht
    · cases e2
  · cases h
/-- what such a dict holds at a key; a store -/
def lookT : List (D × D) → NestedKey → Option D
  | [], _ => none
  | (dk, d) :: r, k => if kD1 dk = some k then some d else lookT r k
def putT (l : List (D × D)) (dk : D) (k : NestedKey) (d : D) : List (D × D) :=
  if (lookT l k).isSome then l.map fun p => if kD1 p.1 = some k then (p.1, d) else p else l ++ [(dk, d)]
abbrev PvR : (NestedKey × Addr × V) → (NestedKey × Addr × Value) → Prop := fun p q => p.1 = q.1 ∧ p.2.1 = q.2.1 ∧ RelV p.2.2 q.2.2
theorem RepKs.len {H0 : Hp} : ∀ {xs : List (NestedKey × Addr × V)} {l : List (D × D)}, RepKs W H0 xs l → xs.length = l.length
  | _, _, .nil => rfl
  | _, _, .cons _ _ _ r => by simp [RepKs.len r]
theorem RepKs.keys {H0 : Hp} : ∀ {xs : List (NestedKey × Addr × V)} {l : List (D × D)}, RepKs W H0 xs l → ∀ x ∈ xs, ∃ dk, kD1 dk = some x.1 ∧ RepF W H0 (.ref x.2.1) dk
  | _, _, .nil, x, h => by cases h
  | _, _, .cons (dk := dk) a b c r, x, h => by
    rcases List.mem_cons.mp h with rfl | h
    · exact ⟨dk, a, b⟩
    · exact RepKs.keys r x h
theorem RepKs.val {H0 : Hp} : ∀ {xs : List (NestedKey × Addr × V)} {vs : List (NestedKey × Addr × Value)} {l : List (D × D)} (k : NestedKey), RepKs W H0 xs l → Paired PvR xs vs →
    (lookT l k = none ∧ atKey vs k = none) ∨ ∃ d q v u, lookT l k = some d ∧ atKey vs k = some (q, u) ∧ RelV v u ∧ RepF W H0 v d
  | _, _, _, k, .nil, .nil => .inl ⟨rfl, rfl⟩
  | _, _, _, k, .cons (k := k1) (d := d) (v := v) a b c r, .cons (b := y) h t => by
    obtain ⟨y1, y2, y3⟩ := y
    obtain ⟨e1, e2, e3⟩ := h
    simp only at e1 e2 e3
    subst e1 e2
    by_cases hk : k1 = k
    · subst hk
      refine .inr ⟨d, ?_, v, y3, by rw [lookT, if_pos a], ?_, e3, c⟩
      rotate_left
      · simp [atKey]; rfl
    · have n1 : ¬ kD1 _ = some k := fun z => hk (by rw [a] at z; exact Option.some.inj z)
      rcases RepKs.val k r t with ⟨p1, p2⟩ | ⟨d', q', v', u', p1, p2, p3, p4⟩
      · exact .inl ⟨by rw [lookT, if_neg n1, p1], by simpa [atKey, hk] using p2⟩
      · exact .inr ⟨d', q', v', u', by rw [lookT, if_neg n1, p1], by simpa [atKey, hk] using p2, p3, p4⟩
theorem dct_of (I : Inv X pins σ H s) (hK : X.K = W.K) {a : Addr} {o : Obj} {xs : List (NestedKey × Addr × V)} {l : List (D × D)} (e : H a = some (.ext (DctAt a o xs))) (r : RepKs W H xs l) :
    (a == sysModules) = false ∧ xs.length ≤ sizeLine ∧ ∃ vs, Paired PvR xs vs ∧ s.heap.DictOfH (nestedKind X.prog X.w) a vs := by
  obtain ⟨⟨h1, h2, w, vs, pr, es, ep, g1, g2, g3, g4, g5⟩, _, _⟩ := (show ObjOk X.prog X.w H s.heap a (.ext (DctAt a o xs)) from I.hok a _ e)
  have his : ∀ y ∈ vs, (nestedKind X.prog X.w).is s.heap y.1 y.2.1 ∧ y.1.hash w = y.1.hash X.w := by
    have all : ∀ {xs : List (NestedKey × Addr × V)} {vs : List (NestedKey × Addr × Value)}, Paired PvR xs vs → (∀ x ∈ xs, ∃ dk, kD1 dk = some x.1 ∧ RepF W H (.ref x.2.1) dk) → ∀ y ∈ vs, (nestedKind X.prog X.w).is s.heap y.1 y.2.1 ∧ y.1.hash w = y.1.hash X.w := by
      intro xs vs pr
      induction pr with
      | nil => intro _ y hy; cases hy
      | @cons p q ps qs hq t ih =>
        intro hx y hy
        rcases List.mem_cons.mp hy with rfl | hy
        · obtain ⟨dk, k1, k2⟩ := hx p (by simp)
          obtain ⟨k3, k4, _⟩ := kD1_of k1
          rw [hq.1] at k3 k4
          rw [hq.2.1] at k2
          exact ⟨⟨nested_is I hK k2 k3 rfl, k4⟩, hash_w w X.w k3⟩
        · exact ih (fun x hx' => hx x (List.mem_cons_of_mem _ hx')) y hy
    exact all pr r.keys
  refine ⟨h1, h2, vs, pr, o, es, ep, g1, g2, g3, ?_, fun y hy => (his y hy).1, g5⟩
  rw [g4]
  refine List.map_congr_left fun y hy => ?_
  show (⟨y.1.hash w, .ref y.2.1, y.2.2⟩ : DictEntry) = ⟨y.1.hash X.w, .ref y.2.1, y.2.2⟩
  rw [(his y hy).2]
theorem room8 {A : Around} (hu : A.units + 65 < cLine) : A.in1.units + 8 < cLine := by
  show A.units + 1 + 8 < cLine
  omega
theorem key_at (I : Inv X pins σ H s) (hK : X.K = W.K) {y : V} {dk : D} {k : NestedKey} {u : Value} (h : RepF W H y dk) (e : kD1 dk = some k) (r : RelV y u) : ∃ b, u = .ref b ∧ y = .ref b ∧ (nestedKind X.prog X.w).is s.heap k b := by
  obtain ⟨e1, e2, ds, rfl⟩ := kD1_of e
  have h0 := h
  cases h with
  | tup sq rs =>
    cases r
    exact ⟨_, rfl, rfl, nested_is I hK h0 e1 rfl, e2⟩
variable {ob : Obj} {a : Addr} {y : V} {u : Value} {A : Around} {E : Value → Shared → Prop} {xs : List (NestedKey × Addr × V)} {l : List (D × D)} {dk : D} {k : NestedKey}
theorem x_in {Q : Value → Shared → Prop} (hu : A.units + 65 < cLine) (I : Inv X pins σ H s) (hK : X.K = W.K) (e : H a = some (.ext (DctAt a ob xs))) (r : RepKs W H xs l) (hy : RepF W H y dk) (hk : kD1 dk = some k) (ry : RelV y u)
    (h : ∀ s', Inv X pins σ H s' → Q (.bool (lookT l k).isSome) s') : wpAny (model X.prog X.w) A (compareOp .In u (.ref a)) Q E s := by
  obtain ⟨hd, hz, vs, pr, dd⟩ := dct_of I hK e r
  obtain ⟨b, rfl, rfl, kb⟩ := key_at I hK hy hk ry
  refine wpAny_in_heap (knd := nestedKind X.prog X.w) (room8 hu) kb hd dd ?_
  rcases r.val k pr with ⟨p1, p2⟩ | ⟨d, q, v, u', p1, p2, _, _⟩
  · rw [p2]; rw [p1] at h; exact h _ (I.tok _)
  · rw [p2]; rw [p1] at h; exact h _ (I.tok _)
theorem x_notIn {Q : Value → Shared → Prop} (hu : A.units + 65 < cLine) (I : Inv X pins σ H s) (hK : X.K = W.K) (e : H a = some (.ext (DctAt a ob xs))) (r : RepKs W H xs l) (hy : RepF W H y dk) (hk : kD1 dk = some k) (ry : RelV y u)
    (h : ∀ s', Inv X pins σ H s' → Q (.bool (!(lookT l k).isSome)) s') : wpAny (model X.prog X.w) A (compareOp .NotIn u (.ref a)) Q E s := by
  obtain ⟨hd, hz, vs, pr, dd⟩ := dct_of I hK e r
  obtain ⟨b, rfl, rfl, kb⟩ := key_at I hK hy hk ry
  refine wpAny_notIn_heap (knd := nestedKind X.prog X.w) (room8 hu) kb hd dd ?_
  rcases r.val k pr with ⟨p1, p2⟩ | ⟨d, q, v, u', p1, p2, _, _⟩
  · rw [p2]; rw [p1] at h; exact h _ (I.tok _)
  · rw [p2]; rw [p1] at h; exact h _ (I.tok _)
theorem x_get {d : D} {H0 : Hp} {Q : Value → Shared → Prop} (hu : A.units + 65 < cLine) (I : Inv X pins σ H s) (hK : X.K = W.K) (e : H a = some (.ext (DctAt a ob xs))) (ex : Ex H0 H) (r : RepKs W H0 xs l) (hy : RepF W H y dk) (hk : kD1 dk = some k) (ry : RelV y u) (hl : lookT l k = some d)
    (h : ∀ w' v s', Inv X pins σ H s' → RelV v w' → RepF W H0 v d → Q w' s') : wpAny (model X.prog X.w) A (getItem (.ref a) u) Q E s := by
  obtain ⟨hd, hz, vs, pr, dd⟩ := dct_of I hK e (r.mono ex)
  obtain ⟨b, rfl, rfl, kb⟩ := key_at I hK hy hk ry
  rcases r.val k pr with ⟨p1, p2⟩ | ⟨d', q, v, u', p1, p2, p3, p4⟩
  · rw [p1] at hl; cases hl
  · rw [p1] at hl; cases hl
    exact wpAny_getItem_heap (knd := nestedKind X.prog X.w) (room8 hu) kb dd p2 (h u' v _ (I.tok _) p3 p4)
end
end VI
namespace VI
open PySem PySem.Spec PyProof.Rows L2
section
variable {X : Cx} {pins : List (Addr × Obj)} {σ : L2.St} {H : Hp} {s : Shared} {W : Wd}
def putX (xs : List (NestedKey × Addr × V)) (k : NestedKey) (b : Addr) (v : V) : List (NestedKey × Addr × V) := if xs.any (fun x => decide (x.1 = k)) then xs.map (fun x => if x.1 = k then (x.1, x.2.1, v) else x) else xs ++ [(k, b, v)]
theorem atKey_any : ∀ (vs : List (NestedKey × Addr × Value)) (k : NestedKey), (atKey vs k).isSome = vs.any fun x => decide (x.1 = k)
  | [], k => rfl
  | x :: vs, k => by
    have ih := atKey_any vs k
    by_cases h : x.1 = k
    · simp [atKey, h]
    · rw [List.any_cons, ← ih]
      simp [atKey, h]
theorem pv_any : ∀ {xs : List (NestedKey × Addr × V)} {vs : List (NestedKey × Addr × Value)} (k : NestedKey), Paired PvR xs vs → (vs.any fun x => decide (x.1 = k)) = xs.any fun x => decide (x.1 = k)
  | _, _, k, .nil => rfl
  | _, _, k, .cons h t => by rw [List.any_cons, List.any_cons, pv_any k t, h.1]
theorem pv_map {v : V} {r : Value} (hv : RelV v r) (k : NestedKey) : ∀ {xs : List (NestedKey × Addr × V)} {vs : List (NestedKey × Addr × Value)}, Paired PvR xs vs → Paired PvR (xs.map fun x => if x.1 = k then (x.1, x.2.1, v) else x) (vs.map (putAt k r))
  | _, _, .nil => .nil
  | _, _, .cons (a := a) (b := b) h t => by
    obtain ⟨a1, a2, a3⟩ := a
    obtain ⟨b1, b2, b3⟩ := b
    obtain ⟨e1, e2, e3⟩ := h
    simp only at e1 e2 e3
    subst e1 e2
    refine .cons ?_ (pv_map hv k t)
    unfold putAt
    by_cases hk : a1 = k
    · simp only [hk, if_true]; exact ⟨rfl, rfl, hv⟩
    · simp only [hk, if_false]; exact ⟨rfl, rfl, e3⟩
theorem pv_snoc {x : NestedKey × Addr × V} {y : NestedKey × Addr × Value} (h : PvR x y) : ∀ {xs : List (NestedKey × Addr × V)} {vs : List (NestedKey × Addr × Value)}, Paired PvR xs vs → Paired PvR (xs ++ [x]) (vs ++ [y])
  | _, _, .nil => .cons h .nil
  | _, _, .cons a t => .cons a (pv_snoc h t)
theorem pv_put {v : V} {r : Value} (hv : RelV v r) (k : NestedKey) (b : Addr) {xs : List (NestedKey × Addr × V)} {vs : List (NestedKey × Addr × Value)} (h : Paired PvR xs vs) : Paired PvR (putX xs k b v) (storedH vs k b r) := by
  unfold putX storedH
  rw [atKey_any, pv_any k h]
  split
  · exact pv_map hv k h
  · exact pv_snoc ⟨rfl, rfl, hv⟩ h
theorem RepKs.any {H0 : Hp} : ∀ {xs : List (NestedKey × Addr × V)} {l : List (D × D)} (k : NestedKey), RepKs W H0 xs l → (lookT l k).isSome = xs.any fun x => decide (x.1 = k)
  | _, _, k, .nil => rfl
  | _, _, k, .cons (k := k1) a b c r => by
    rw [List.any_cons, lookT]
    by_cases hk : k1 = k
    · subst hk; rw [if_pos a]; simp
    · rw [if_neg (fun z => hk (by rw [a] at z; exact Option.some.inj z)), RepKs.any k r]; simp [hk]
theorem RepKs.mapPut {H0 : Hp} {v : V} {d : D} (hv : RepF W H0 v d) (k : NestedKey) : ∀ {xs : List (NestedKey × Addr × V)} {l : List (D × D)}, RepKs W H0 xs l → RepKs W H0 (xs.map fun x => if x.1 = k then (x.1, x.2.1, v) else x) (l.map fun p => if kD1 p.1 = some k then (p.1, d) else p)
  | _, _, .nil => .nil
  | _, _, .cons (k := k1) (dk := dk) a b c r => by
    rw [List.map_cons, List.map_cons]
    by_cases hk : k1 = k
    · subst hk
      simp only [a, if_true]
      exact .cons a b hv (RepKs.mapPut hv _ r)
    · have n1 : ¬ kD1 dk = some k := fun z => hk (by rw [a] at z; exact Option.some.inj z)
      simp only [hk, n1, if_false]
      exact .cons a b c (RepKs.mapPut hv _ r)
theorem RepKs.snoc {H0 : Hp} {v : V} {d dk : D} {k : NestedKey} {b : Addr} (hk : kD1 dk = some k) (hb : RepF W H0 (.ref b) dk) (hv : RepF W H0 v d) : ∀ {xs : List (NestedKey × Addr × V)} {l : List (D × D)}, RepKs W H0 xs l → RepKs W H0 (xs ++ [(k, b, v)]) (l ++ [(dk, d)])
  | _, _, .nil => .cons hk hb hv .nil
  | _, _, .cons a b c r => .cons a b c (RepKs.snoc hk hb hv r)
theorem RepKs.put {H0 : Hp} {v : V} {d dk : D} {k : NestedKey} {b : Addr} (hk : kD1 dk = some k) (hb : RepF W H0 (.ref b) dk) (hv : RepF W H0 v d) {xs : List (NestedKey × Addr × V)} {l : List (D × D)} (h : RepKs W H0 xs l) : RepKs W H0 (putX xs k b v) (putT l dk k d) := by
  unfold putX putT
  rw [h.any k]
  split
  · exact h.mapPut hv k
  · exact h.snoc hk hb hv
theorem putX_len (xs : List (NestedKey × Addr × V)) (k : NestedKey) (b : Addr) (v : V) : (putX xs k b v).length ≤ xs.length + 1 := by
  unfold putX; split <;> simp
theorem dct_ok {P : Program} {w : World} {h' : Heap} {a : Addr} {xs : List (NestedKey × Addr × V)} {vs : List (NestedKey × Addr × Value)} (hd : (a == sysModules) = false) (hz : xs.length ≤ sizeLine) (pr : Paired PvR xs vs) (dd : h'.DictOfH (nestedKind P w) a vs) :
    ∃ o, ∀ H' : Hp, ObjOk P w H' h' a (.ext (DctAt a o xs)) := by
  obtain ⟨o, es, ep, h1, h2, h3, h4, _, h5⟩ := dd
  refine ⟨o, fun H' => ⟨⟨hd, hz, w, vs, pr, es, ep, h1, h2, h3, h4, h5⟩, ⟨o, h1⟩, ?_⟩⟩
  rintro g1 g2 ⟨a1, a2, w', vs', pr', es', ep', q1, q2⟩ st
  exact ⟨a1, a2, w', vs', pr', es', ep', st _ q1, q2⟩
variable {ob : Obj} {a : Addr} {y v : V} {u r : Value} {A : Around} {E : Value → Shared → Prop} {xs : List (NestedKey × Addr × V)} {l : List (D × D)} {dk d : D} {k : NestedKey}
theorem x_set {Q : Unit → Shared → Prop} (hu : A.units + 65 < cLine) (I : Inv X pins σ H s) (hK : X.K = W.K) (e : H a = some (.ext (DctAt a ob xs))) (rk : RepKs W H xs l) (hy : RepF W H y dk) (hk : kD1 dk = some k) (ry : RelV y u) (rv : RelV v r) (hl : xs.length < sizeLine)
    (h : ∀ o' b s', y = .ref b → Inv X pins σ (upd H a (.ext (DctAt a o' (putX xs k b v)))) s' → Q () s') : wpAny (model X.prog X.w) A (setItem (.ref a) u r) Q E s := by
  obtain ⟨hd, hz, vs, pr, dd⟩ := dct_of I hK e rk
  obtain ⟨b, rfl, rfl, kb⟩ := key_at I hK hy hk ry
  have hz' : vs.length ≤ sizeLine := by rw [← Paired.length pr]; exact hz
  refine wpAny_setItem_heap (hsz := hz') (knd := nestedKind X.prog X.w) (room8 hu) kb dd fun h' dd' hs => ?_
  have he : ∃ q, h'.get? a = some q := let ⟨q, _, _, hq, _⟩ := dd'; ⟨q, hq⟩
  obtain ⟨o', ok'⟩ := dct_ok (xs := putX xs k b v) hd (by have := putX_len xs k b v; omega) (pv_put rv k b pr) dd'
  exact h o' b _ rfl (d_write I (by rw [e]; exact True.intro) hs he (ok' _))
abbrev dO : Obj := { cls := .type "dict", data := .dict #[] }
theorem dx_empty {P : Program} {w : World} {H' : Hp} (h : Heap) (hb : sysModules < h.objs.size) : ObjOk P w H' (h.push dO) h.objs.size (.ext (DctAt h.objs.size dO [])) := by
  have hd : (h.objs.size == sysModules) = false := beq_eq_false_iff_ne.mpr (Ne.symm (Nat.ne_of_lt hb))
  obtain ⟨o, ok⟩ := dct_ok (P := P) (w := w) (xs := []) (vs := []) hd (Nat.zero_le _) .nil (Heap.DictOfH.new h)
  have r := ok H'
  obtain ⟨⟨_, _, _, _, _, _, _, g1, _⟩, _, _⟩ := id r
  have g2 : (h.push dO).get? h.objs.size = some dO := Heap.get?_push_size _ rfl
  have e : o = dO := Option.some.inj (g1.symm.trans g2)
  rw [e] at r
  exact r
def tDNewX : TE := fun _ H Q => ∀ p, H p = none → Q (.ref p) (upd H p (.ext (DctAt p dO [])))
theorem pe_dnewX {pos : Pos} : PE X (.Dict [] [] pos) tDNewX := ⟨fun pins s σ H Q I h =>
  wpAny_Dict_empty ⟨.ref s.heap.objs.size, _, I.laid (a := s.heap.objs.size) (o := .ext (DctAt s.heap.objs.size dO [])) (t' := s.toks) (fun b o q => Heap.get?_push_of_some _ q) (Nat.le_refl _) (dx_empty s.heap I.big), rfl,
    h _ (I.hok.fresh (Nat.le_refl _))⟩⟩
/-- a display of one pair -/
theorem disp_one {K : Type} [DecidableEq K] {prog : Program} {w : World} {knd : HeapKind prog w K} {A : Around} {E : Value → Shared → Prop} {s : Shared} {env : Env} {ke ve : Expr} {pos : Pos} {Q : Value → Shared → Prop} (hu : knd.room A)
    (h : wpAny (model prog w) A (evalPairs (pairTrees [some ke] [ve] env pos)) (fun vs s1 => ∃ ps, CarriesH knd s1.heap vs ps ∧ s1.heap.DictOfH knd s.heap.objs.size [] ∧
      ∀ h' tk, h'.DictOfH knd s.heap.objs.size (storedAllH [] ps) → Heap.SameBut s.heap.objs.size s1.heap h' → Q (.ref s.heap.objs.size) { s1 with heap := h', toks := tk }) E
        { s with heap := s.heap.push { cls := .type "dict", data := .dict #[] } }) :
    wpAny (model prog w) A (eval (.Dict [some ke] [ve] pos) env) Q E s := by
  rw [arm_eval_Dict, zip_pairTrees [some ke] [ve] env pos rfl rfl, dictDisplay_pairs _ (by simp [pairTrees]) (by simp [pairTrees])]
  refine wpAny_bind (wpAny_standAt (wpAny_bind ?_))
  refine wpAny_subDictH (knd := knd) hu (by simp [pairTrees]) (wpAny_mono h (fun vs s1 h1 => ?_) fun _ _ e => e)
  obtain ⟨ps, hc, hm, hq⟩ := h1
  exact ⟨ps, hc, hm, fun h' tk a b => wpAny_pure (hq h' tk a b)⟩
def tDispX (W : Wd) (tk tv : TE) : TE := fun σ H Q => ∀ p, H p = none → tk σ (upd H p (.ext (DctAt p dO []))) fun x H1 => tv σ H1 fun y H2 => H2 p = some (.ext (DctAt p dO [])) ∧ ∃ dk k b, x = .ref b ∧ RepF W H2 x dk ∧ kD1 dk = some k ∧ ∀ o', Q (.ref p) (upd H2 p (.ext (DctAt p o' [(k, b, y)])))
theorem pe_dispX {pos : Pos} {ke ve : Expr} {tk tv : TE} (hK : X.K = W.K) (hu : X.A.units + 65 < cLine) (h1 : PE X ke tk) (h2 : PE X ve tv) : PE X (.Dict [some ke] [ve] pos) (tDispX W tk tv) := by
  refine ⟨fun pins s σ H Q I q => ?_⟩
  have hn := I.hok.fresh (Nat.le_refl s.heap.objs.size)
  have I1 := I.laid (a := s.heap.objs.size) (o := .ext (DctAt s.heap.objs.size dO [])) (h' := s.heap.push { cls := .type "dict", data := .dict #[] }) (t' := s.toks) (fun b o q => Heap.get?_push_of_some _ q) (Nat.le_refl _) (dx_empty s.heap I.big)
  refine disp_one (knd := nestedKind X.prog X.w) (show X.A.units + 8 < cLine by omega) ?_
  refine pairTrees_cons_walk (thn (h1.run pins _ σ _ _ I1 (q _ hn)) fun u s1 ⟨x, H1, I1', rx, q1⟩ => thn (h2.run pins s1 σ H1 _ I1' q1) fun w2 s2 ⟨y, H2, I2, ry, e, dk, k, b, ex, hx, hk, q2⟩ => pairTrees_nil_walk ?_)
  subst ex
  obtain ⟨b', rfl, eb, kb⟩ := key_at I2 hK hx hk rx
  cases eb
  obtain ⟨hd, hz, vs, pr, dd⟩ := dct_of (W := W) (l := []) I2 hK e .nil
  cases pr
  refine ⟨[(k, b, w2)], ⟨rfl, rfl, kb, trivial⟩, dd, fun h' tk' dd' hs => ?_⟩
  have he : ∃ q, h'.get? s.heap.objs.size = some q := let ⟨q, _, _, hq, _⟩ := dd'; ⟨q, hq⟩
  obtain ⟨o', ok'⟩ := dct_ok (xs := [(k, b, y)]) hd (by simp [sizeLine_eq]) (.cons ⟨rfl, rfl, ry⟩ .nil) dd'
  exact ⟨.ref s.heap.objs.size, _, d_write I2 (by rw [e]; exact True.intro) hs he (ok' _), rfl, q2 o'⟩
end
end VI
namespace VI
open PySem PySem.Spec PyProof.Rows L2
/-! ### dicts by numbers and texts -/
def keyOf : D → Option Key
  | .int i => some (.inl i)
  | .str s => some (.inr s)
  | _ => none
def isKey (k : Key) (d : D) : Bool := match keyOf d with
  | some k' => decide (k' = k)
  | none => false
def lookD (l : List (D × D)) (k : Key) : Option D := (l.find? fun p => isKey k p.1).map (·.2)
def putD (l : List (D × D)) (k : Key) (d : D) : List (D × D) := if l.any (fun p => isKey k p.1) then l.map (fun p => if isKey k p.1 then (p.1, d) else p) else l ++ [(kD k, d)]
theorem keyOf_kD (k : Key) : keyOf (kD k) = some k := by cases k <;> rfl
theorem isKey_kD (k k' : Key) : isKey k (kD k') = decide (k' = k) := by unfold isKey; rw [keyOf_kD]
section
variable {W : Wd} {X : Cx} {H0 H : Hp}
theorem key_rep {v : V} {d : D} {k : Key} (h : RepF W H v d) (e : keyOf d = some k) : v = kV k ∧ d = kD k := by
  cases h <;> cases e <;> exact ⟨rfl, rfl⟩
theorem RepFk.val : ∀ {kvs : List (Key × V)} {l : List (D × D)} (k : Key), RepFk W H kvs l → (∀ d, lookD l k = some d → ∃ v, valV kvs k = some v ∧ RepF W H v d) ∧ (lookD l k = none → valV kvs k = none)
  | _, _, k, .nil => ⟨fun d h => (by cases h), fun _ => rfl⟩
  | _, _, k, .cons (k := k') (v := v') (d := d') h r => by
    obtain ⟨a, b⟩ := RepFk.val k r
    by_cases e : k' = k
    · subst e
      refine ⟨fun d q => ?_, fun q => ?_⟩
      · simp only [lookD, List.find?_cons, isKey_kD, decide_true, Option.map_some] at q
        cases q
        exact ⟨v', valV_pos rfl, h⟩
      · simp only [lookD, List.find?_cons, isKey_kD, decide_true, Option.map_some] at q
        cases q
    · have e1 : ∀ r, valV ((k', v') :: r) k = valV r k := fun r => valV_neg (by simpa using e)
      have e2 : ∀ r, lookD ((kD k', d') :: r) k = lookD r k := fun r => by simp [lookD, List.find?_cons, isKey_kD, e]
      rw [e1, e2]
      exact ⟨a, b⟩
theorem RepFk.len : ∀ {kvs : List (Key × V)} {l : List (D × D)}, RepFk W H kvs l → kvs.length = l.length
  | _, _, .nil => rfl
  | _, _, .cons _ r => by simp [r.len]
theorem RepFk.any : ∀ {kvs : List (Key × V)} {l : List (D × D)} (k : Key), RepFk W H kvs l → (kvs.any fun kv => decide (kv.1 = k)) = l.any fun p => isKey k p.1
  | _, _, k, .nil => rfl
  | _, _, k, .cons h r => by simp only [List.any_cons, isKey_kD, RepFk.any k r]
theorem RepFk.mapPut {v : V} {d : D} (hv : RepF W H v d) : ∀ {kvs : List (Key × V)} {l : List (D × D)} (k : Key), RepFk W H kvs l → RepFk W H (kvs.map fun kv => if kv.1 = k then (kv.1, v) else kv) (l.map fun p => if isKey k p.1 then (p.1, d) else p)
  | _, _, k, .nil => .nil
  | _, _, k, .cons (k := k') h r => by
    simp only [List.map_cons, isKey_kD]
    by_cases e : k' = k
    · simp only [e, if_true, decide_true]
      exact .cons hv (RepFk.mapPut hv k r)
    · simp only [e, if_false, decide_false]
      exact .cons h (RepFk.mapPut hv k r)
theorem RepFk.snoc {k : Key} {v : V} {d : D} (hv : RepF W H v d) : ∀ {kvs : List (Key × V)} {l : List (D × D)}, RepFk W H kvs l → RepFk W H (kvs ++ [(k, v)]) (l ++ [(kD k, d)])
  | _, _, .nil => .cons hv .nil
  | _, _, .cons h r => .cons h (RepFk.snoc hv r)
theorem RepFk.put {k : Key} {v : V} {d : D} {kvs : List (Key × V)} {l : List (D × D)} (hv : RepF W H v d) (h : RepFk W H kvs l) : RepFk W H (putK kvs k v) (putD l k d) := by
  unfold putK putD
  rw [h.any k]
  split
  · exact h.mapPut hv k
  · exact h.snoc hv
/-! ### a[b] -/
def ixO : O → O → Option O
  | .pure (.lst l), .pure (.int i) => (atI l i).map .pure
  | .lst l, .pure (.int i) => (atI l i).map .pure
  | .pure (.tup l), .pure (.int i) => (atI l i).map .pure
  | .pure (.str s), .pure (.int i) => if s.length ≤ 16777216 then (atI s.cps.toList i).map fun c => .pure (.str ⟨#[c]⟩) else none
  | .pure (.dic l), .pure k => (keyOf k).bind fun k => (lookD l k).map .pure
  | .dic l, .pure k => (keyOf k).bind fun k => (lookD l k).map .pure
  | .dct l, .pure k => (kD1 k).bind fun k => (lookT l k).map .pure
  | _, _ => none
theorem hu65b {W : Wd} {X : Cx} {Wx : WX} {k : Nat} (cx : Ctx W k Wx X) : X.A.units + 65 < cLine := by have := cx.room.un; omega
theorem RepFs.atI {us : List V} {l : List D} {i : Int} {d : D} (h : RepFs W H us l) (e : L2.atI l i = some d) : ∃ v, L2.atI us i = some v ∧ RepF W H v d := by
  unfold L2.atI at e ⊢
  rw [h.len]
  obtain ⟨j, e1, e2⟩ := Option.bind_eq_some_iff.mp e
  obtain ⟨v, h1, h2⟩ := h.get e2
  exact ⟨v, by rw [e1]; exact h1, h2⟩
theorem dic_at {v : V} {o : O} {l : List (D × D)} {L : List Addr} (ex : Ex H0 H) (h : RepO W H0 H v o L) (ho : o = .pure (.dic l) ∨ o = .dic l) : ∃ p kvs, v = .ref p ∧ H p = some (.dK kvs) ∧ RepFk W H0 kvs l := by
  rcases ho with rfl | rfl
  · cases h with
    | pure f => cases f with
      | dic h1 h2 => exact ⟨_, _, rfl, ex _ _ h1, h2⟩
  · cases h with
    | dic h1 h2 => exact ⟨_, _, rfl, h1, h2⟩
theorem ix_ixO (hK : X.K = W.K) (hu65 : X.A.units + 65 < cLine) : IxR X (rO W ixO) := by
  have hu : X.A.units + 1 < cLine := by omega
  intro value slice pins s σ H x y v u Q I rx ry ⟨H0, ox, oy, Lx, Ly, o, ex, hx, hy, e, gv⟩ hs
  have lst : ∀ l i d, (ox = .pure (.lst l) ∨ ox = .lst l) → oy = .pure (.int i) → L2.atI l i = some d → o = .pure d → wpAny (model X.prog X.w) X.A (subscriptTail value slice v u) (EP X pins σ Q) X.xe s := by
    intro l i d h1 h2 h3 h4
    subst h2 h4
    obtain ⟨p, us, e1, hs1, rf⟩ := sql_of ex hx h1
    obtain ⟨w, e2, rw'⟩ := rf.atI h3
    exact ix_list value slice pins s σ H x y v u Q I rx ry ⟨p, us, i, w, e1, atom_int hy, by rw [hK]; exact hs1, e2, gv.atom ex rw'⟩ hs
  have dct : ∀ l k kk d, (ox = .pure (.dic l) ∨ ox = .dic l) → oy = .pure k → keyOf k = some kk → lookD l kk = some d → o = .pure d → wpAny (model X.prog X.w) X.A (subscriptTail value slice v u) (EP X pins σ Q) X.xe s := by
    intro l k kk d h1 h2 h3 h4 h5
    subst h2 h5
    obtain ⟨p, kvs, e1, hr, rf⟩ := dic_at ex hx h1
    obtain ⟨w, e2, rw'⟩ := (rf.val kk).1 d h4
    cases hy with
    | pure hy =>
      obtain ⟨e3, _⟩ := key_rep hy h3
      subst e1 e3
      have g : DGet H p (kV kk) (some w) := .inl ⟨kvs, kk, .inl hr, rfl, e2.symm⟩
      cases rx
      exact tail_any (dict_typeIs I g) PySem.F.slot_dict_getitem.lookup (d_getItem hu I g ry fun w' s3 I3 rw'' => ⟨w, H, I3, rw'', gv.atom ex rw'⟩) hs
  unfold ixO at e
  split at e
  · obtain ⟨d, e1, e2⟩ := Option.map_eq_some_iff.mp e; exact lst _ _ d (.inl rfl) rfl e1 e2.symm
  · obtain ⟨d, e1, e2⟩ := Option.map_eq_some_iff.mp e; exact lst _ _ d (.inr rfl) rfl e1 e2.symm
  · obtain ⟨d, e1, e2⟩ := Option.map_eq_some_iff.mp e
    subst e2
    obtain ⟨p, us, e2, hs1, rf⟩ := sqt_of ex hx
    obtain ⟨w, e3, rw'⟩ := rf.atI e1
    exact ix_tup value slice pins s σ H x y v u Q I rx ry ⟨p, us, _, w, e2, atom_int hy, by rw [hK]; exact hs1, e3, gv.atom ex rw'⟩ hs
  · split at e
    · rename_i hz
      obtain ⟨c, e1, e2⟩ := Option.map_eq_some_iff.mp e
      subst e2
      exact ix_str value slice pins s σ H x y v u Q I rx ry ⟨_, _, c, atom_str hx, atom_int hy, sizeL hz, e1, gv.atom ex (.str _)⟩ hs
    · cases e
  · obtain ⟨kk, e1, e2⟩ := Option.bind_eq_some_iff.mp e
    obtain ⟨d, e3, e4⟩ := Option.map_eq_some_iff.mp e2
    exact dct _ _ kk d (.inl rfl) rfl e1 e3 e4.symm
  · obtain ⟨kk, e1, e2⟩ := Option.bind_eq_some_iff.mp e
    obtain ⟨d, e3, e4⟩ := Option.map_eq_some_iff.mp e2
    exact dct _ _ kk d (.inr rfl) rfl e1 e3 e4.symm
  · obtain ⟨kk, e1, e2⟩ := Option.bind_eq_some_iff.mp e
    obtain ⟨d, e3, e4⟩ := Option.map_eq_some_iff.mp e2
    subst e4
    cases hx with
    | dct h1 h2 =>
      cases hy with
      | pure hy =>
        cases rx
        have ti : s.TypeIs (.ref _) "dict" := let ⟨_, _, _, _, dd⟩ := dct_of I hK h1 (h2.mono ex); dd.typeIs
        exact tail_any ti PySem.F.slot_dict_getitem.lookup (x_get hu65 I hK h1 ex h2 (hy.mono ex) e1 ry e3 fun w' v' s3 I3 r1 r2 => ⟨v', H, I3, r1, gv.atom ex r2⟩) hs
  · cases e
theorem se_ix {vs : List (Option V)} {Wx : WX} {k : Nat} {a b : Expr} {pos : Pos} {A B : E} (cx : Ctx W k Wx X) (ha : SE W vs Wx X a A) (hb : SE W vs Wx X b B) (hs : PlainIx b := by intro _ _; rfl) : SE W vs Wx X (.Subscript a b pos) (bin ixO A B) :=
  pe_weak (pe_ix (ix_ixO cx.K (hu65b cx)) ha hb hs) tO_bin
/-! ### slices -/
def cutL {α : Type} (l : List α) (lo hi : Option Int) : List α := (l.drop (HT.sIx l.length 0 lo)).take (HT.sIx l.length l.length hi - HT.sIx l.length 0 lo)
def slO (lo hi : Option Int) : O → Option O
  | .pure (.lst l) => some (.lst (cutL l lo hi))
  | .lst l => some (.lst (cutL l lo hi))
  | .pure (.tup l) => some (.pure (.tup (cutL l lo hi)))
  | .pure (.str s) => if s.length ≤ 16777216 then some (.pure (.str ⟨(cutL s.cps.toList lo hi).toArray⟩)) else none
  | _ => none
theorem RepFs.cut {us : List V} {l : List D} (lo hi : Option Int) (h : RepFs W H us l) : RepFs W H (cutV us lo hi) (cutL l lo hi) := by
  unfold cutV cutL
  rw [h.len]
  exact (h.drop _).take _
theorem sl_slO (hK : X.K = W.K) : SlR X (fun x lo hi H Q => uO W (slO lo hi) x H Q) := by
  intro pins s σ H x v vl vu lo hi sl Q I rx hs pl pu ⟨H0, ox, Lx, o, ex, hx, e, gv⟩
  have lst : ∀ l, (ox = .pure (.lst l) ∨ ox = .lst l) → o = .lst (cutL l lo hi) → ∃ (T : String) (id : String), typeLookup (.type T) "__getitem__" = pure (some (.builtin id)) ∧ s.TypeIs v T ∧ wpAny (model X.prog X.w) X.A (getItem v (.ref sl)) (EP X pins σ Q) X.xe s := by
    intro l h1 h2
    subst h2
    obtain ⟨p, us, e1, hs1, rf⟩ := sql_of ex hx h1
    exact sl_list pins s σ H x v vl vu lo hi sl Q I rx hs pl pu ⟨p, us, e1, by rw [hK]; exact hs1, fun p' hp => gv.newL ex (rf.cut lo hi) hp⟩
  unfold slO at e
  split at e
  · cases e; exact lst _ (.inl rfl) rfl
  · cases e; exact lst _ (.inr rfl) rfl
  · cases e
    obtain ⟨p, us, e1, hs1, rf⟩ := sqt_of ex hx
    refine sl_tupA pins s σ H x v vl vu lo hi sl Q I rx hs pl pu ⟨p, us, e1, by rw [hK]; exact hs1, fun hw => ?_, fun _ p' hp => gv.newT ex (rf.cut lo hi) hp⟩
    rename_i ll
    have : cutL ll lo hi = ll := by
      unfold cutL
      rw [← rf.len, hw.1, hw.2]
      simp [rf.len]
    rw [this] at gv
    rw [← e1]
    cases hx with
    | pure f => exact gv.atom ex f
  · split at e
    · rename_i hz
      cases e
      refine sl_str pins s σ H x v vl vu lo hi sl Q I rx hs pl pu ⟨_, atom_str hx, sizeL hz, ?_⟩
      have : ∀ z : Str, cutS z lo hi = ⟨(cutL z.cps.toList lo hi).toArray⟩ := fun z => by
        unfold cutS cutL
        have : z.cps.toList.length = z.length := by simp [Str.length]
        rw [this]
      rw [this]
      exact gv.atom ex (.str _)
    · cases e
  · cases e
/-- an end of a slice -/
abbrev EO := G → Res (Option Int)
def noE : EO := fun g => .ok none g
def intE (A : E) : EO := fun g => (A g).bind fun r g1 => match r with
  | .val (.pure (.int i)) => .ok (some i) g1
  | _ => .stuck
def slE (A : E) (lo hi : EO) : E := fun g => (A g).bind fun r g1 => (lo g1).bind fun l g2 => (hi g2).bind fun h g3 => match ob g3 r with
  | some x => match slO l h x with
    | some o => .ok (.val o) g3
    | none => .stuck
  | none => .stuck
def PostOI (W : Wd) (vs : List (Option V)) (Wx : WX) (σ : L2.St) (H0 H : Hp) (L : List Addr) : Res (Option Int) → (Option Int → Hp → Prop) → Prop
  | .ok b g', Q => ∀ H' H0' L', Step H0 H L H0' H' L' → EnvR W H0' H' vs σ g' L' → Q b H'
  | .exc x g', _ => ∀ c d H' H0' L', Step H0 H L H0' H' L' → RepX W H0' H' x c d → EnvR W H0' H' vs σ g' L' → Wx c d σ H'
  | .stuck, _ => False
def tOI (W : Wd) (vs : List (Option V)) (Wx : WX) (A : EO) : TO := fun σ H Q => ∃ H0 L g, Sep H0 H L ∧ EnvR W H0 H vs σ g L ∧ PostOI W vs Wx σ H0 H L (A g) Q
theorem po_weak {e : Option Expr} {t t' : TO} (h : PO X e t) (i : ∀ σ H Q, t' σ H Q → t σ H Q) : PO X e t' := ⟨fun pins s σ H Q I q => h.run pins s σ H Q I (i _ _ _ q)⟩
variable {vs : List (Option V)} {Wx : WX}
def SO (W : Wd) (vs : List (Option V)) (Wx : WX) (X : Cx) (e : Option Expr) (A : EO) : Prop := PO X e (tOI W vs Wx A)
theorem so_none : SO W vs Wx X none noE := po_weak po_none fun σ H Q ⟨H0, L, g, sp, en, post⟩ => post H H0 L (Step.refl sp) en
theorem so_some {e : Expr} {A : E} (h : SE W vs Wx X e A) : SO W vs Wx X (some e) (intE A) := by
  refine po_weak (po_some h) fun σ H Q ⟨H0, L, g, sp, en, post⟩ => ?_
  refine ⟨H0, L, g, sp, en, ?_⟩
  unfold intE at post
  cases ea : A g with
  | stuck => rw [ea] at post; exact post.elim
  | exc x g' => rw [ea] at post; exact post
  | ok r g1 =>
    rw [ea] at post
    intro v H1 H01 Lr L1 st rr en1
    simp only [Res.bind] at post
    split at post
    · exact ⟨_, atom_int rr, post H1 H01 L1 st.right en1⟩
    · exact post.elim
theorem se_slice {k : Nat} {e : Expr} {lo hi : Option Expr} {pos p2 : Pos} {A : E} {B C : EO} (cx : Ctx W k Wx X) (ha : SE W vs Wx X e A) (hl : SO W vs Wx X lo B) (hh : SO W vs Wx X hi C) : SE W vs Wx X (.Subscript e (.Slice lo hi none p2) pos) (slE A B C) := by
  refine pe_weak (pe_slice (sl_slO cx.K) ha hl hh) fun σ H Q ⟨H0, L, g, sp, en, post⟩ => ?_
  refine ⟨H0, L, g, sp, en, ?_⟩
  unfold slE at post
  cases ea : A g with
  | stuck => rw [ea] at post; exact post.elim
  | exc x g' => rw [ea] at post; exact post
  | ok r g1 =>
    rw [ea] at post
    intro v H1 H01 Lr L1 st1 rr en1
    simp only [Res.bind] at post
    refine ⟨H01, L1, g1, st1.sep.right, en1, ?_⟩
    cases eb : B g1 with
    | stuck => rw [eb] at post; exact post.elim
    | exc x g' => rw [eb] at post; intro c d H' H0' L' st2 rx en2; exact post c d H' H0' L' (st1.then st2).right rx en2
    | ok l g2 =>
      rw [eb] at post
      intro H2 H02 L2 st2 en2
      simp only at post
      have st12 := st1.then st2
      have rr2 := rr.mono st2.ex0 (Step.keepL st1.sep st2)
      refine ⟨H02, L2, g2, st12.sep.right, en2, ?_⟩
      cases ec : C g2 with
      | stuck => rw [ec] at post; exact post.elim
      | exc x g' => rw [ec] at post; intro c d H' H0' L' st3 rx en3; exact post c d H' H0' L' (st12.then st3).right rx en3
      | ok h g3 =>
        rw [ec] at post
        intro H3 H03 L3 st3 en3
        simp only at post
        have st := st12.then st3
        have rr3 := rr2.mono st3.ex0 (Step.keepL st12.sep st3)
        cases eo : ob g3 r with
        | none => rw [eo] at post; exact post.elim
        | some x =>
          rw [eo] at post
          simp only at post
          cases es : slO l h x with
          | none => rw [es] at post; exact post.elim
          | some o =>
            rw [es] at post
            obtain ⟨Lx, hx, _⟩ := ob_rep en3 rr3 eo
            exact ⟨H03, x, Lx, o, st3.sep.ex, hx, es, gives_of st en3 post⟩
def revO : O → Option O
  | .pure (.lst l) => some (.lst l.reverse)
  | .lst l => some (.lst l.reverse)
  | _ => none
theorem se_rev {n k : Nat} {e : Expr} {p1 p2 p3 pos : Pos} {A : E} (cx : Ctx W n Wx X) (h : SE W vs Wx X e A) : SE W vs Wx X (.Subscript e (.Slice none none (some (.UnaryOp .USub (.Constant (.int 1) k p1) p2)) p3) pos) (una revO A) := by
  refine pe_weak (pe_revL h) fun σ H Q q => ?_
  obtain ⟨H0, L, g, sp, en, post⟩ := tO_una σ H Q q
  refine ⟨H0, L, g, sp, en, ?_⟩
  cases ea : A g with
  | stuck => rw [ea] at post; exact post.elim
  | exc x g' => rw [ea] at post; exact post
  | ok r g1 =>
    rw [ea] at post
    intro v H1 H01 Lr L1 st rr en1
    obtain ⟨H02, ox, Lx, o, ex, hx, e, gv⟩ := post v H1 H01 Lr L1 st rr en1
    have lst : ∀ l, (ox = .pure (.lst l) ∨ ox = .lst l) → o = .lst l.reverse → ∃ a xs, v = .ref a ∧ SqL X.K H1 a xs ∧ ∀ p, H1 p = none → Q (.ref p) (upd H1 p (.lst xs.reverse)) := by
      intro l h1 h2
      subst h2
      obtain ⟨p, us, e1, hs1, rf⟩ := sql_of ex hx h1
      exact ⟨p, us, e1, by rw [cx.K]; exact hs1, fun p' hp => gv.newL ex rf.reverse hp⟩
    unfold revO at e
    split at e
    · cases e; exact lst _ (.inl rfl) rfl
    · cases e; exact lst _ (.inr rfl) rfl
    · cases e
/-! ### in -/
def eqA : D → D → Option Bool
  | .non, .non => some true
  | .bl a, .bl b => some (a == b)
  | .int a, .int b => some (a == b)
  | .str a, .str b => some (a == b)
  | .non, .int _ => some false
  | .non, .str _ => some false
  | .int _, .non => some false
  | .int _, .str _ => some false
  | .str _, .non => some false
  | .str _, .int _ => some false
  | _, _ => none
/-- x in l, flat things of kinds that do not mix -/
def anyA (x : D) : List D → Option Bool
  | [] => some false
  | y :: ys => match eqA y x, anyA x ys with
    | some b, some c => some (b || c)
    | _, _ => none
def flatD : D → Bool
  | .non => true
  | .bl _ => true
  | .int _ => true
  | .str _ => true
  | _ => false
theorem anyA_rep {x : V} {dx : D} (hx : RepF W H x dx) : ∀ {us : List V} {l : List D} {b : Bool}, RepFs W H us l → anyA dx l = some b → us.all flatV = true ∧ inV x us = b
  | _, _, b, .nil, e => by cases e; exact ⟨rfl, rfl⟩
  | _, _, b, .cons (v := v) (d := d) (vs := us) (ds := ds) h r, e => by
    rw [anyA] at e
    cases e1 : eqA d dx with
    | none => rw [e1] at e; cases e
    | some b1 =>
      cases e2 : anyA dx ds with
      | none => rw [e1, e2] at e; cases e
      | some b2 =>
        rw [e1, e2] at e
        cases e
        obtain ⟨h1, h2⟩ := anyA_rep hx r e2
        have key : flatV v = true ∧ eqV v x = b1 := by
          unfold eqA at e1
          split at e1 <;> first | (cases e1; cases h; cases hx; exact ⟨rfl, rfl⟩) | cases e1
        refine ⟨by simp [key.1, h1], ?_⟩
        unfold inV at h2 ⊢
        rw [List.any_cons, key.2, h2]
def pysO (l : List D) : Option (List PyData) := D.pys l
def inO (neg : Bool) : O → O → Option O
  | .pure x, o => match o with
    | .pure (.str s) => match x with
      | .str t => match t.cps.toList with
        | [c] => some (.pure (.bl (neg.xor (decide (c ∈ s.cps.toList)))))
        | _ => none
      | _ => none
    | .pure (.dic l) => (keyOf x).map fun k => .pure (.bl (neg.xor (lookD l k).isSome))
    | .dic l => (keyOf x).map fun k => .pure (.bl (neg.xor (lookD l k).isSome))
    | .dct l => (kD1 x).map fun k => .pure (.bl (neg.xor (lookT l k).isSome))
    | .pure (.tup l) => if flatD x then (anyA x l).map fun b => .pure (.bl (neg.xor b)) else none
    | .pure (.lst l) => if flatD x then (anyA x l).map fun b => .pure (.bl (neg.xor b)) else match x.py, D.pys l with
      | some p, some ps => if SeqAt.shaped p && SeqAt.shaped (.list ps) then some (.pure (.bl (neg.xor (ps.any fun z => PyData.eqv z p)))) else none
      | _, _ => none
    | .lst l => if flatD x then (anyA x l).map fun b => .pure (.bl (neg.xor b)) else match x.py, D.pys l with
      | some p, some ps => if SeqAt.shaped p && SeqAt.shaped (.list ps) then some (.pure (.bl (neg.xor (ps.any fun z => PyData.eqv z p)))) else none
      | _, _ => none
    | _ => none
  | _, _ => none
end
end VI
namespace VI
open PySem PySem.Spec PyProof.Rows L2
section
variable {W : Wd} {X : Cx} {vs : List (Option V)} {Wx : WX}
theorem flat_rep {H : Hp} {v : V} {d : D} (h : RepF W H v d) (f : flatD d = true) : flatV v = true := by
  cases h <;> first | rfl | cases f
theorem neg_if (neg b : Bool) : (if neg then !b else b) = neg.xor b := by cases neg <;> cases b <;> rfl
theorem op_inO_of (hK : X.K = W.K) (hu : X.A.units + 65 < cLine) (neg : Bool) {f : Value → Value → Sem Value} (h1 : OpR X f (rIn X.K neg)) (h2 : OpR X f (fun x y H Q => ∃ d ds, Dp X.K H x d ∧ Dp X.K H y (.list ds) ∧ SeqAt.shaped d = true ∧ SeqAt.shaped (.list ds) = true ∧ Q (.bl (neg.xor (ds.any fun z => PyData.eqv z d))) H))
    (h3 : OpR X f (fun x y H Q => ∃ (c : Nat) (z : Str), x = .str ⟨#[c]⟩ ∧ y = .str z ∧ Q (.bl (neg.xor (decide (c ∈ z.cps.toList)))) H))
    (h4 : OpR X f (fun x y H Q => ∃ a o, y = .ref a ∧ DGet H a x o ∧ Q (.bl (neg.xor o.isSome)) H))
    (h5 : OpR X f (fun x y H Q => ∃ a ob xs l dk k, y = .ref a ∧ H a = some (.ext (DctAt a ob xs)) ∧ RepKs W H xs l ∧ RepF W H x dk ∧ kD1 dk = some k ∧ Q (.bl (neg.xor (lookT l k).isSome)) H)) : OpR X f (rO W (inO neg)) := by
  intro pins s σ H x y v u Q I rx ry ⟨H0, ox, oy, Lx, Ly, o, ex, hx, hy, e, gv⟩
  have seqs : ∀ (dx : D) (l : List D) (b : Bool) (p : Addr) (us : List V), ox = .pure dx → flatD dx = true → anyA dx l = some b → y = .ref p → (SqL W.K H p us ∨ SqT W.K H p us) → RepFs W H0 us l → o = .pure (.bl (neg.xor b)) → wpAny (model X.prog X.w) X.A (f v u) (EP X pins σ Q) X.xe s := by
    intro dx l b p us e1 e2 e3 e4 e5 rf e6
    subst e1 e6
    cases hx with
    | pure hx =>
      obtain ⟨a1, a2⟩ := anyA_rep hx rf e3
      refine h1 pins s σ H x y v u Q I rx ry ⟨p, us, e4, by rw [hK]; exact e5, flat_rep hx e2, a1, ?_⟩
      rw [a2, neg_if]
      exact gv.atom ex (.bl _)
  have deep : ∀ (dx : D) (l : List D) (pd : PyData) (ps : List PyData), ox = .pure dx → dx.py = some pd → D.pys l = some ps → (oy = .pure (.lst l) ∨ oy = .lst l) → (SeqAt.shaped pd && SeqAt.shaped (.list ps)) = true → o = .pure (.bl (neg.xor (ps.any fun z => PyData.eqv z pd))) → wpAny (model X.prog X.w) X.A (f v u) (EP X pins σ Q) X.xe s := by
    intro dx l pd ps e1 e2 e3 e4 e5 e6
    subst e1 e6
    rw [Bool.and_eq_true] at e5
    obtain ⟨p, us, e7, hs, rf⟩ := sql_of ex hy e4
    cases hx with
    | pure hx =>
      refine h2 pins s σ H x y v u Q I rx ry ⟨pd, ps, by rw [hK]; exact (hx.mono ex).dp e2, ?_, e5.1, e5.2, gv.atom ex (.bl _)⟩
      rw [hK, e7]
      exact .lst hs ((rf.mono ex).dp e3)
  have dct : ∀ (dx : D) (l : List (D × D)) (k : Key), ox = .pure dx → keyOf dx = some k → (oy = .pure (.dic l) ∨ oy = .dic l) → o = .pure (.bl (neg.xor (lookD l k).isSome)) → wpAny (model X.prog X.w) X.A (f v u) (EP X pins σ Q) X.xe s := by
    intro dx l k e1 e2 e3 e4
    subst e1 e4
    obtain ⟨p, kvs, e5, hr, rf⟩ := dic_at ex hy e3
    cases hx with
    | pure hx =>
      obtain ⟨e6, _⟩ := key_rep hx e2
      subst e5 e6
      have hv : valV kvs k = none ∨ ∃ w, valV kvs k = some w := by cases valV kvs k <;> simp
      have eiso : (valV kvs k).isSome = (lookD l k).isSome := by
        obtain ⟨a, b⟩ := rf.val k
        cases el : lookD l k with
        | none => rw [b el]; rfl
        | some d => obtain ⟨w, e7, _⟩ := a d el; rw [e7]; rfl
      refine h4 pins s σ H _ _ v u Q I rx ry ⟨p, valV kvs k, rfl, .inl ⟨kvs, k, .inl hr, rfl, rfl⟩, ?_⟩
      rw [eiso]
      exact gv.atom ex (.bl _)
  unfold inO at e
  split at e
  · split at e
    · split at e
      · split at e
        · rename_i c ec
          cases e
          refine h3 pins s σ H x y v u Q I rx ry ⟨c, _, ?_, atom_str hy, gv.atom ex (.bl _)⟩
          rw [atom_str hx]
          congr 1
          rename_i t _
          obtain ⟨⟨l⟩⟩ := t
          simp only at ec
          subst ec
          rfl
        · cases e
      · cases e
    · obtain ⟨k, e1, e2⟩ := Option.map_eq_some_iff.mp e
      exact dct _ _ k rfl e1 (.inl rfl) e2.symm
    · obtain ⟨k, e1, e2⟩ := Option.map_eq_some_iff.mp e
      exact dct _ _ k rfl e1 (.inr rfl) e2.symm
    · obtain ⟨k, e1, e2⟩ := Option.map_eq_some_iff.mp e
      subst e2
      cases hx with
      | pure hx =>
        cases hy with
        | dct g1 g2 => exact h5 pins s σ H _ _ v u Q I rx ry ⟨_, _, _, _, _, k, rfl, g1, g2.mono ex, hx.mono ex, e1, gv.atom ex (.bl _)⟩
    · split at e
      · rename_i hf
        obtain ⟨b, e1, e2⟩ := Option.map_eq_some_iff.mp e
        obtain ⟨p, us, e3, hs, rf⟩ := sqt_of ex hy
        exact seqs _ _ b p us rfl hf e1 e3 (.inr hs) rf e2.symm
      · cases e
    · split at e
      · rename_i hf
        obtain ⟨b, e1, e2⟩ := Option.map_eq_some_iff.mp e
        obtain ⟨p, us, e3, hs, rf⟩ := sql_of ex hy (.inl rfl)
        exact seqs _ _ b p us rfl hf e1 e3 (.inl hs) rf e2.symm
      · split at e
        · rename_i p ps e1 e2
          split at e
          · rename_i hsh; cases e; exact deep _ _ p ps rfl e1 e2 (.inl rfl) hsh rfl
          · cases e
        · cases e
    · split at e
      · rename_i hf
        obtain ⟨b, e1, e2⟩ := Option.map_eq_some_iff.mp e
        obtain ⟨p, us, e3, hs, rf⟩ := sql_of ex hy (.inr rfl)
        exact seqs _ _ b p us rfl hf e1 e3 (.inl hs) rf e2.symm
      · split at e
        · rename_i p ps e1 e2
          split at e
          · rename_i hsh; cases e; exact deep _ _ p ps rfl e1 e2 (.inr rfl) hsh rfl
          · cases e
        · cases e
    · cases e
  · cases e
theorem op_inO (hK : X.K = W.K) (hu : X.A.units + 65 < cLine) : OpR X (compareOp .In) (rO W (inO false)) :=
  op_inO_of hK hu false op_in_seq (fun pins s σ H x y v u Q I rx ry ⟨d, ds, a, b, c, d', q⟩ => op_inD hu pins s σ H x y v u Q I rx ry ⟨d, ds, a, b, c, d', by simpa using q⟩) (fun pins s σ H x y v u Q I rx ry ⟨c, z, a, b, q⟩ => op_in_sign pins s σ H x y v u Q I rx ry ⟨c, z, a, b, by simpa using q⟩)
    (fun pins s σ H x y v u Q I rx ry ⟨a, o, e, g, q⟩ => by
      subst e
      cases (show u = Value.ref a from ry)
      exact d_in (by omega) I g rx fun s' I' => ⟨.bl o.isSome, H, I', rfl, by simpa using q⟩)
    fun pins s σ H x y v u Q I rx ry ⟨a, ob, xs, l, dk, k, e, g1, g2, g3, g4, q⟩ => by
      subst e
      cases (show u = Value.ref a from ry)
      exact x_in (by omega) I hK g1 g2 g3 g4 rx fun s' I' => ⟨.bl (lookT l k).isSome, H, I', rfl, by simpa using q⟩
theorem op_ninO (hK : X.K = W.K) (hu : X.A.units + 65 < cLine) : OpR X (compareOp .NotIn) (rO W (inO true)) :=
  op_inO_of hK hu true op_notIn_seq (fun pins s σ H x y v u Q I rx ry ⟨d, ds, a, b, c, d', q⟩ => op_notInD hu pins s σ H x y v u Q I rx ry ⟨d, ds, a, b, c, d', by simpa using q⟩) (fun pins s σ H x y v u Q I rx ry ⟨c, z, a, b, q⟩ => op_notIn_sign pins s σ H x y v u Q I rx ry ⟨c, z, a, b, by simpa using q⟩)
    (fun pins s σ H x y v u Q I rx ry ⟨a, o, e, g, q⟩ => by
      subst e
      cases (show u = Value.ref a from ry)
      exact d_notIn (by omega) I g rx fun s' I' => ⟨.bl (!o.isSome), H, I', rfl, by simpa using q⟩)
    fun pins s σ H x y v u Q I rx ry ⟨a, ob, xs, l, dk, k, e, g1, g2, g3, g4, q⟩ => by
      subst e
      cases (show u = Value.ref a from ry)
      exact x_notIn (by omega) I hK g1 g2 g3 g4 rx fun s' I' => ⟨.bl (!(lookT l k).isSome), H, I', rfl, by simpa using q⟩
theorem hu65 {k : Nat} (cx : Ctx W k Wx X) : X.A.units + 65 < cLine := by have := cx.room.un; omega
theorem hu64 {k : Nat} (cx : Ctx W k Wx X) : X.A.units + 64 < cLine := by have := cx.room.un; omega
/-! ### built-ins: what a call of known things is worth -/
def bltR (f : List O → Option O) (rs : List R) (g : G) : Res R := match rs.mapM (ob g) with
  | some os => match f os with
    | some o => .ok (.val o) g
    | none => .stuck
  | none => .stuck
def bltE (f : List O → Option O) (As : List E) : E := fun g => (evs As g).bind fun rs g1 => bltR f rs g1
def cO (W : Wd) (f : List O → Option O) : List V → Hp → VK → Prop := fun us H Q => ∃ H0 os o, Ex H0 H ∧ Paired (fun v o => ∃ L, RepO W H0 H v o L) us os ∧ f os = some o ∧ Gives W H0 H o Q
theorem obs_rep {H0 H : Hp} {σ : L2.St} {g : G} {L : List Addr} (en : EnvR W H0 H vs σ g L) : ∀ {us : List V} {rs : List R} {Lr : List Addr} {os : List O}, RepRs W H0 H σ us rs Lr → rs.mapM (ob g) = some os → Paired (fun v o => ∃ L, RepO W H0 H v o L) us os
  | _, _, _, os, .nil, e => by
    simp at e; subst e; exact .nil
  | _, _, _, os, .cons (r := r) (rs := rs) h t, e => by
    rw [List.mapM_cons] at e
    obtain ⟨o, e1, e2⟩ := Option.bind_eq_some_iff.mp e
    obtain ⟨os', e3, e4⟩ := Option.bind_eq_some_iff.mp e2
    cases e4
    obtain ⟨Lo, ro, _⟩ := ob_rep en h e1
    exact .cons ⟨Lo, ro⟩ (obs_rep en t e3)
theorem tA_blt {f : List O → Option O} {As : List E} {σ : L2.St} {H : Hp} {Q : VK} (h : tE W vs Wx (bltE f As) σ H Q) : tA W vs Wx (evs As) σ H (fun us H1 => cO W f us H1 Q) := by
  obtain ⟨H0, L, g, sp, en, post⟩ := h
  refine ⟨H0, L, g, sp, en, ?_⟩
  unfold bltE at post
  cases ea : evs As g with
  | stuck => rw [ea] at post; exact post.elim
  | exc x g' => rw [ea] at post; exact post
  | ok rs g1 =>
    rw [ea] at post
    intro us H1 H01 Lr L1 st rr en1
    simp only [Res.bind, bltR] at post
    cases eo : rs.mapM (ob g1) with
    | none => rw [eo] at post; exact post.elim
    | some os =>
      rw [eo] at post
      simp only at post
      cases ef : f os with
      | none => rw [ef] at post; exact post.elim
      | some o =>
        rw [ef] at post
        exact ⟨H01, os, o, st.sep.ex, obs_rep en1 rr eo, ef, gives_of st en1 post⟩
theorem se_blt {id : String} {x : Str} {p pos : Pos} {e : Expr} {es : List Expr} {As : List E} {f : List O → Option O} (hc : CallR X (.builtin id) (cO W f)) (hg : Gl X x) (hm : X.mg x = none) (hv : bootBuiltins x = some (.builtin id)) (ha : SA W vs Wx X (e :: es) (evs As))
    (run : ∀ {r : List V → Hp → VK → Prop} {t : TA}, CallR X (.builtin id) r → PA X (e :: es) t → PE X (.Call (.Name x p) (e :: es) [] pos) (tCB r t)) : SE W vs Wx X (.Call (.Name x p) (e :: es) [] pos) (bltE f As) :=
  pe_weak (run hc ha) fun σ H Q q => tA_blt q
theorem se_ty {T : String} {x : Str} {p pos : Pos} {e : Expr} {es : List Expr} {As : List E} {f : List O → Option O} (hc : CallR X (.type T) (cO W f)) (ha : SA W vs Wx X (e :: es) (evs As))
    (run : ∀ {r : List V → Hp → VK → Prop} {t : TA}, CallR X (.type T) r → PA X (e :: es) t → PE X (.Call (.Name x p) (e :: es) [] pos) (tCB r t)) : SE W vs Wx X (.Call (.Name x p) (e :: es) [] pos) (bltE f As) :=
  pe_weak (run hc ha) fun σ H Q q => tA_blt q
theorem one_of {P : V → O → Prop} {us : List V} {o : O} (h : Paired P us [o]) : ∃ v, us = [v] ∧ P v o := by
  cases h with | cons a r => cases r; exact ⟨_, rfl, a⟩
theorem two_of {P : V → O → Prop} {us : List V} {o o' : O} (h : Paired P us [o, o']) : ∃ v w, us = [v, w] ∧ P v o ∧ P w o' := by
  cases h with | cons a r => obtain ⟨w, e, b⟩ := one_of r; subst e; exact ⟨_, w, rfl, a, b⟩
theorem three_of {P : V → O → Prop} {us : List V} {o o' o2 : O} (h : Paired P us [o, o', o2]) : ∃ v w z, us = [v, w, z] ∧ P v o ∧ P w o' ∧ P z o2 := by
  cases h with | cons a r => obtain ⟨w, z, e, b, c⟩ := two_of r; subst e; exact ⟨_, w, z, rfl, a, b, c⟩
def lenO : List O → Option O
  | [.pure (.lst l)] => some (.pure (.int (l.length : Nat)))
  | [.pure (.tup l)] => some (.pure (.int (l.length : Nat)))
  | [.lst l] => some (.pure (.int (l.length : Nat)))
  | [.pure (.str s)] => if s.length ≤ 16777216 then some (.pure (.int (s.length : Nat))) else none
  | [.pure (.dic l)] => some (.pure (.int (l.length : Nat)))
  | [.dic l] => some (.pure (.int (l.length : Nat)))
  | _ => none
theorem cr_len (hK : X.K = W.K) : CallR X (.builtin "len") (cO W lenO) := by
  intro pins s σ H us ws Q I r ⟨H0, os, o, ex, pr, e, gv⟩
  have sq : ∀ (p : Addr) (xs : List V) (l : List D), us = [.ref p] → (SqL W.K H p xs ∨ SqT W.K H p xs) → RepFs W H0 xs l → o = .pure (.int (l.length : Nat)) → wpAny (model X.prog X.w) X.A (call (.builtin "len") ws) (EP X pins σ Q) X.xe s := by
    intro p xs l e1 hs rf e2
    subst e1 e2
    refine call_len_seq pins s σ H _ ws Q I r ⟨p, xs, rfl, by rw [hK]; exact hs, ?_⟩
    rw [rf.len]
    exact gv.atom ex (.int _)
  have dc : ∀ (oo : O) (l : List (D × D)), os = [oo] → (oo = .pure (.dic l) ∨ oo = .dic l) → o = .pure (.int (l.length : Nat)) → wpAny (model X.prog X.w) X.A (call (.builtin "len") ws) (EP X pins σ Q) X.xe s := by
    intro oo l e1 e2 e3
    subst e1 e3
    obtain ⟨v, e4, L, ro⟩ := one_of pr
    subst e4
    obtain ⟨p, kvs, e5, hr, rf⟩ := dic_at ex ro e2
    subst e5
    obtain ⟨w1, ew, rw1⟩ := vals1 r
    subst ew
    cases rw1
    exact d_len I (.inl hr) fun t s' I' => ⟨.int (kvs.length : Nat), H, I', ⟨t, rfl⟩, by rw [rf.len]; exact gv.atom ex (.int _)⟩
  unfold lenO at e
  split at e
  · cases e
    obtain ⟨v, e1, L, ro⟩ := one_of pr
    obtain ⟨p, xs, e2, hs, rf⟩ := sql_of ex ro (.inl rfl)
    exact sq p xs _ (by rw [e1, e2]) (.inl hs) rf rfl
  · cases e
    obtain ⟨v, e1, L, ro⟩ := one_of pr
    obtain ⟨p, xs, e2, hs, rf⟩ := sqt_of ex ro
    exact sq p xs _ (by rw [e1, e2]) (.inr hs) rf rfl
  · cases e
    obtain ⟨v, e1, L, ro⟩ := one_of pr
    obtain ⟨p, xs, e2, hs, rf⟩ := sql_of ex ro (.inr rfl)
    exact sq p xs _ (by rw [e1, e2]) (.inl hs) rf rfl
  · split at e
    · rename_i hz
      cases e
      obtain ⟨v, e1, L, ro⟩ := one_of pr
      exact call_len_str pins s σ H us ws Q I r ⟨_, by rw [e1, atom_str ro], sizeL hz, gv.atom ex (.int _)⟩
    · cases e
  · cases e; exact dc _ _ rfl (.inl rfl) rfl
  · cases e; exact dc _ _ rfl (.inr rfl) rfl
  · cases e
def maxO : List O → Option O
  | [.pure (.int i), .pure (.int j)] => some (.pure (.int (if j > i then j else i)))
  | _ => none
def minO : List O → Option O
  | [.pure (.int i), .pure (.int j)] => some (.pure (.int (if j < i then j else i)))
  | _ => none
theorem cr_maxO (hc : X.calm = true) : CallR X (.builtin "max") (cO W maxO) := by
  intro pins s σ H us ws Q I r ⟨H0, os, o, ex, pr, e, gv⟩
  unfold maxO at e
  split at e
  · cases e
    obtain ⟨v, w, e1, ⟨_, r1⟩, ⟨_, r2⟩⟩ := two_of pr
    exact call_max2 hc pins s σ H us ws Q I r ⟨_, _, by rw [e1, atom_int r1, atom_int r2], gv.atom ex (.int _)⟩
  · cases e
theorem cr_minO (hc : X.calm = true) : CallR X (.builtin "min") (cO W minO) := by
  intro pins s σ H us ws Q I r ⟨H0, os, o, ex, pr, e, gv⟩
  unfold minO at e
  split at e
  · cases e
    obtain ⟨v, w, e1, ⟨_, r1⟩, ⟨_, r2⟩⟩ := two_of pr
    exact call_min2 hc pins s σ H us ws Q I r ⟨_, _, by rw [e1, atom_int r1, atom_int r2], gv.atom ex (.int _)⟩
  · cases e
def tupleO : List O → Option O
  | [.pure (.lst l)] => some (.pure (.tup l))
  | [.lst l] => some (.pure (.tup l))
  | [.pure (.tup l)] => some (.pure (.tup l))
  | _ => none
def listO : List O → Option O
  | [.pure (.lst l)] => some (.lst l)
  | [.lst l] => some (.lst l)
  | [.pure (.tup l)] => some (.lst l)
  | _ => none
theorem cr_tupleO (hK : X.K = W.K) : CallR X (.type "tuple") (cO W tupleO) := by
  intro pins s σ H us ws Q I r ⟨H0, os, o, ex, pr, e, gv⟩
  have lst : ∀ (oo : O) l, os = [oo] → (oo = .pure (.lst l) ∨ oo = .lst l) → o = .pure (.tup l) → wpAny (model X.prog X.w) X.A (call (.type "tuple") ws) (EP X pins σ Q) X.xe s := by
    intro oo l e1 h e2
    subst e1 e2
    obtain ⟨v, e1, L, ro⟩ := one_of pr
    obtain ⟨p, xs, e2, hs, rf⟩ := sql_of ex ro h
    exact call_tuple_of pins s σ H us ws Q I r ⟨p, xs, by rw [e1, e2], .inl ⟨by rw [hK]; exact hs, fun l hl => gv.newT ex rf hl⟩⟩
  unfold tupleO at e
  split at e
  · cases e; exact lst _ _ rfl (.inl rfl) rfl
  · cases e; exact lst _ _ rfl (.inr rfl) rfl
  · cases e
    obtain ⟨v, e1, L, ro⟩ := one_of pr
    obtain ⟨p, xs, e2, hs, rf⟩ := sqt_of ex ro
    refine call_tuple_of pins s σ H us ws Q I r ⟨p, xs, by rw [e1, e2], .inr ⟨by rw [hK]; exact hs, ?_⟩⟩
    rw [← e2]
    cases ro with
    | pure f => exact gv.atom ex f
  · cases e
theorem cr_listO (hK : X.K = W.K) : CallR X (.type "list") (cO W listO) := by
  intro pins s σ H us ws Q I r ⟨H0, os, o, ex, pr, e, gv⟩
  have lst : ∀ (oo : O) l, os = [oo] → (oo = .pure (.lst l) ∨ oo = .lst l) → o = .lst l → wpAny (model X.prog X.w) X.A (call (.type "list") ws) (EP X pins σ Q) X.xe s := by
    intro oo l e1 h e2
    subst e1 e2
    obtain ⟨v, e1, L, ro⟩ := one_of pr
    obtain ⟨p, xs, e2, hs, rf⟩ := sql_of ex ro h
    exact call_list_of pins s σ H us ws Q I r ⟨p, xs, by rw [e1, e2], .inl (by rw [hK]; exact hs), fun l hl => gv.newL ex rf hl⟩
  unfold listO at e
  split at e
  · cases e; exact lst _ _ rfl (.inl rfl) rfl
  · cases e; exact lst _ _ rfl (.inr rfl) rfl
  · cases e
    obtain ⟨v, e1, L, ro⟩ := one_of pr
    obtain ⟨p, xs, e2, hs, rf⟩ := sqt_of ex ro
    exact call_list_of pins s σ H us ws Q I r ⟨p, xs, by rw [e1, e2], .inr (by rw [hK]; exact hs), fun l hl => gv.newL ex rf hl⟩
  · cases e
/-- the built-in type of a value -/
def tyO : O → Option String
  | .pure (.bl _) => some "bool"
  | .pure (.int _) => some "int"
  | .pure (.str _) => some "str"
  | .pure (.lst _) => some "list"
  | .lst _ => some "list"
  | .pure (.tup _) => some "tuple"
  | .pure (.dic _) => some "dict"
  | .dic _ => some "dict"
  | .pure .non => some "NoneType"
  | _ => none
def isiO : List O → Option O
  | [x, .pure (.ty t)] => match tyO x with
    | some s => (kitB s t).map fun b => .pure (.bl b)
    | none => none
  | _ => none
theorem tyx_of (hK : X.K = W.K) {H0 H : Hp} {v : V} {o : O} {L : List Addr} {t : String} (ex : Ex H0 H) (h : RepO W H0 H v o L) (e : tyO o = some t) : TyX X.K H v (.type t) := by
  have sql : ∀ {p us}, SqL X.K H p us → TyX X.K H (.ref p) (.type "list") := by
    intro p us hs
    rcases hs with (hs | ⟨ob, hs⟩) | ⟨ob, its, n, h1, h2, _⟩
    · exact .base (.lst hs)
    · exact .base (.frz hs)
    · exact .kList h1 h2
  have sqt : ∀ {p us}, SqT X.K H p us → TyX X.K H (.ref p) (.type "tuple") := by
    intro p us hs
    rcases hs with (hs | ⟨ob, hs⟩) | ⟨ob, its, n, h1, h2, _⟩
    · exact .base (.tup hs)
    · exact .fTuple hs
    · exact .kTuple h1 h2
  have rdd : ∀ {p kvs}, Rd H p (.dK kvs) → TyX X.K H (.ref p) (.type "dict") := by
    intro p kvs hs
    rcases hs with hs | ⟨ob, hs⟩
    · exact .base (.dK hs)
    · exact .fDict hs
  cases h with
  | pure f =>
    cases f with
    | non => cases e; exact .base .non
    | bl b => cases e; exact .base (.bl _)
    | int i => cases e; exact .base (.int _)
    | str s => cases e; exact .base (.str _)
    | tup h1 h2 => cases e; rw [hK] at *; exact sqt (ex_t ex h1)
    | lst h1 h2 => cases e; rw [hK] at *; exact sql (ex_l ex h1)
    | dic h1 h2 => cases e; exact rdd (.inl (ex _ _ h1))
    | _ => cases e
  | lst h1 h2 => cases e; exact sql (SqL.of h1)
  | dic h1 h2 => cases e; exact rdd (.inl h1)
  | _ => cases e
theorem cr_isiO (hK : X.K = W.K) : CallR X (.builtin "isinstance") (cO W isiO) := by
  intro pins s σ H us ws Q I r ⟨H0, os, o, ex, pr, e, gv⟩
  unfold isiO at e
  split at e
  · rename_i t
    obtain ⟨v, w, e1, ⟨_, r1⟩, ⟨_, r2⟩⟩ := two_of pr
    split at e
    · rename_i st es
      obtain ⟨b, e2, e3⟩ := Option.map_eq_some_iff.mp e
      subst e3
      have ew : w = .ty t := by cases r2 with | pure f => cases f; rfl
      exact call_isi pins s σ H us ws Q I r ⟨v, w, .type st, .type t, b, e1, by rw [ew]; exact .ty _, tyx_of hK ex r1 es, kit_ty e2, gv.atom ex (.bl _)⟩
    · cases e
  · cases e
end
end VI
namespace VI
open PySem PySem.Spec PyProof.Rows L2
section
variable {W : Wd} {X : Cx} {vs : List (Option V)} {Wx : WX}
/-! ### methods of built-in things, nothing changed -/
def bmE (ty : String) (f : List O → Option O) (A : E) (As : List E) : E := fun g => (A g).bind fun r g1 => match (ob g1 r).bind tyO with
  | some t => if t = ty then (evs As g1).bind fun rs g2 => bltR f (r :: rs) g2 else .stuck
  | none => .stuck
def mO (W : Wd) (f : List O → Option O) : V → List V → Hp → VK → Prop := fun x us H Q => cO W f (x :: us) H Q
theorem tyV_of (hK : X.K = W.K) {H0 H : Hp} {v : V} {o : O} {L : List Addr} {t : String} (ex : Ex H0 H) (h : RepO W H0 H v o L) (e : tyO o = some t) (hn : t = "str" ∨ t = "list" ∨ t = "dict") : tyV X.K t v H := by
  cases h with
  | pure f =>
    cases f with
    | str s => cases e; rfl
    | lst h1 h2 => cases e; exact .inl ⟨rfl, _, by rw [hK]; exact ex_l ex h1⟩
    | dic h1 h2 => cases e; exact .inr (.inr (.inl ⟨rfl, .inl ⟨_, ex _ _ h1⟩⟩))
    | tup h1 h2 => cases e; rcases hn with h | h | h <;> exact absurd h (by decide)
    | bl b => cases e; rcases hn with h | h | h <;> exact absurd h (by decide)
    | int b => cases e; rcases hn with h | h | h <;> exact absurd h (by decide)
    | non => cases e; rcases hn with h | h | h <;> exact absurd h (by decide)
    | _ => cases e
  | lst h1 h2 => cases e; exact .inl ⟨rfl, _, SqL.of h1⟩
  | dic h1 h2 => cases e; exact .inr (.inr (.inl ⟨rfl, .inl ⟨_, h1⟩⟩))
  | _ => cases e
theorem tE_bm {k : Nat} (cx : Ctx W k Wx X) {ty : String} (hn : ty = "str" ∨ ty = "list" ∨ ty = "dict") {f : List O → Option O} {A : E} {As : List E} {σ : L2.St} {H : Hp} {Q : VK} (h : tE W vs Wx (bmE ty f A As) σ H Q) : tBM X.K ty (mO W f) (tE W vs Wx A) (tA W vs Wx (evs As)) σ H Q := by
  obtain ⟨H0, L, g, sp, en, post⟩ := h
  refine ⟨H0, L, g, sp, en, ?_⟩
  unfold bmE at post
  cases ea : A g with
  | stuck => rw [ea] at post; exact post.elim
  | exc x g' => rw [ea] at post; exact post
  | ok r g1 =>
    rw [ea] at post
    intro v H1 H01 Lr L1 st1 rr en1
    simp only [Res.bind] at post
    cases et : (ob g1 r).bind tyO with
    | none => rw [et] at post; exact post.elim
    | some t =>
      rw [et] at post
      simp only at post
      by_cases htt : t = ty
      · rw [if_pos htt] at post
        subst htt
        obtain ⟨o, e1, e2⟩ := Option.bind_eq_some_iff.mp et
        obtain ⟨Lo, ro, _⟩ := ob_rep en1 rr e1
        refine ⟨tyV_of cx.K st1.sep.ex ro e2 hn, H01, L1, g1, st1.sep.right, en1, ?_⟩
        cases eb : evs As g1 with
        | stuck => rw [eb] at post; exact post.elim
        | exc x g' => rw [eb] at post; intro c d H' H0' L' st2 rx en2; exact post c d H' H0' L' (st1.then st2).right rx en2
        | ok rs g2 =>
          rw [eb] at post
          intro us H2 H02 Ls L2 st2 rs2 en2
          have st := st1.then st2
          have rr2 : RepR W H02 H2 σ v r Lr := rr.mono st2.ex0 (Step.keepL st1.sep st2)
          simp only [bltR] at post
          cases eo : (r :: rs).mapM (ob g2) with
          | none => rw [eo] at post; exact post.elim
          | some os =>
            rw [eo] at post
            simp only at post
            cases ef : f os with
            | none => rw [ef] at post; exact post.elim
            | some o' =>
              rw [ef] at post
              exact ⟨H02, os, o', st2.sep.ex, obs_rep (rs := r :: rs) en2 (.cons rr2 rs2) eo, ef, gives_of (Lt := Lr ++ Ls) (by simpa [List.append_assoc] using st) en2 post⟩
      · rw [if_neg htt] at post; exact post.elim
theorem se_bm {k : Nat} {ty id : String} {o e : Expr} {es : List Expr} {name : Str} {apos cpos : Pos} {f : List O → Option O} {A : E} {As : List E} (cx : Ctx W k Wx X) (hn : ty = "str" ∨ ty = "list" ∨ ty = "dict") (hm : MtR X id (mO W f)) (ho : SE W vs Wx X o A) (ha : SA W vs Wx X (e :: es) (evs As))
    (run : ∀ {r : V → List V → Hp → VK → Prop} {to : TE} {t : TA}, MtR X id r → PE X o to → PA X (e :: es) t → PE X (.Call (.Attribute o name apos) (e :: es) [] cpos) (tBM X.K ty r to t)) : SE W vs Wx X (.Call (.Attribute o name apos) (e :: es) [] cpos) (bmE ty f A As) :=
  pe_weak (run hm ho ha) fun σ H Q q => tE_bm cx hn q
theorem se_bm0 {k : Nat} {ty id : String} {o : Expr} {name : Str} {apos cpos : Pos} {f : List O → Option O} {A : E} (cx : Ctx W k Wx X) (hn : ty = "str" ∨ ty = "list" ∨ ty = "dict") (hm : MtR X id (mO W f)) (ho : SE W vs Wx X o A)
    (run : ∀ {r : V → List V → Hp → VK → Prop} {to : TE}, MtR X id r → PE X o to → PE X (.Call (.Attribute o name apos) [] [] cpos) (tBM0 X.K ty r to)) : SE W vs Wx X (.Call (.Attribute o name apos) [] [] cpos) (bmE ty f A []) := by
  refine pe_weak (run hm ho) fun σ H Q q => ?_
  obtain ⟨H0, L, g, sp, en, post⟩ := tE_bm (As := []) cx hn q
  refine ⟨H0, L, g, sp, en, ?_⟩
  cases ea : A g with
  | stuck => rw [ea] at post; exact post.elim
  | exc x g' => rw [ea] at post; exact post
  | ok r g1 =>
    rw [ea] at post
    intro v H1 H01 Lr L1 st1 rr en1
    obtain ⟨ht, H0', L', g', sp', en', p'⟩ := post v H1 H01 Lr L1 st1 rr en1
    exact ⟨ht, p' [] H1 H0' [] L' (Step.refl sp') .nil en'⟩
def strsD : List D → Option (List Str)
  | [] => some []
  | .str s :: l => (strsD l).map fun r => s :: r
  | _ :: _ => none
theorem strs_rep {H : Hp} : ∀ {us : List V} {l : List D} {ys : List Str}, RepFs W H us l → strsD l = some ys → us = ys.map V.str
  | _, _, ys, .nil, e => by cases e; rfl
  | _, _, ys, .cons (d := d) h r, e => by
    unfold strsD at e
    split at e
    · rename_i heq; cases heq
    · rename_i s l heq
      cases heq
      obtain ⟨r', e1, e2⟩ := Option.map_eq_some_iff.mp e
      subst e2
      cases h
      simp [strs_rep r e1]
    · cases e
theorem strs_map (ys : List Str) : strsD (ys.map D.str) = some ys := by
  induction ys with
  | nil => rfl
  | cons y ys ih => simp [strsD, ih]
theorem reps_strs {H : Hp} : ∀ (ys : List Str), RepFs W H (ys.map V.str) (ys.map D.str)
  | [] => .nil
  | y :: ys => .cons (.str y) (reps_strs ys)
theorem reps_ints {H : Hp} : ∀ (ys : List Int), RepFs W H (ys.map V.int) (ys.map D.int)
  | [] => .nil
  | y :: ys => .cons (.int y) (reps_ints ys)
theorem reps_bls {H : Hp} : ∀ (ys : List Bool), RepFs W H (ys.map V.bl) (ys.map D.bl)
  | [] => .nil
  | y :: ys => .cons (.bl y) (reps_bls ys)
def elemsO : O → Option (List D)
  | .pure (.lst l) => some l
  | .lst l => some l
  | .pure (.tup l) => some l
  | _ => none
theorem elems_rep {H0 H : Hp} {v : V} {o : O} {L : List Addr} {l : List D} (ex : Ex H0 H) (h : RepO W H0 H v o L) (e : elemsO o = some l) : ∃ p us, v = .ref p ∧ (SqL W.K H p us ∨ SqT W.K H p us) ∧ RepFs W H0 us l := by
  unfold elemsO at e
  split at e <;> cases e
  · obtain ⟨p, us, a, b, c⟩ := sql_of ex h (.inl rfl); exact ⟨p, us, a, .inl b, c⟩
  · obtain ⟨p, us, a, b, c⟩ := sql_of ex h (.inr rfl); exact ⟨p, us, a, .inl b, c⟩
  · obtain ⟨p, us, a, b, c⟩ := sqt_of ex h; exact ⟨p, us, a, .inr b, c⟩
def joinO : List O → Option O
  | [.pure (.str a), x] => (elemsO x).bind fun l => (strsD l).bind fun ys => if (ys.map (·.length)).sum + ys.length * a.length ≤ 16777216 then some (.pure (.str (Txt.join a ys))) else none
  | _ => none
theorem mt_joinO (hK : X.K = W.K) : MtR X "str.join" (mO W joinO) := by
  intro pins s σ H x xs v us Q I rx rs ⟨H0, os, o, ex, pr, e, gv⟩
  unfold joinO at e
  split at e
  · obtain ⟨a1, a2, e1, ⟨_, r1⟩, ⟨_, r2⟩⟩ := two_of pr
    obtain ⟨l, e2, e3⟩ := Option.bind_eq_some_iff.mp e
    obtain ⟨ys, e4, e5⟩ := Option.bind_eq_some_iff.mp e3
    obtain ⟨p, ws, e6, hs, rf⟩ := elems_rep ex r2 e2
    have := strs_rep rf e4
    subst this
    split at e5
    · rename_i hz
      cases e5
      cases e1
      rw [← hK] at hs
      exact mt_join pins s σ H _ _ v us Q I rx rs ⟨_, p, ys, atom_str r1, by rw [e6], hs, hz, gv.atom ex (.str _)⟩
    · cases e5
  · cases e
def splitO : List O → Option O
  | [.pure (.str a), .pure (.str b)] => if b.length ≠ 0 ∧ a.length + 2 ≤ 16777216 then some (.lst ((Txt.split a b).map D.str)) else none
  | _ => none
theorem mt_splitO : MtR X "str.split" (mO W splitO) := by
  intro pins s σ H x xs v us Q I rx rs ⟨H0, os, o, ex, pr, e, gv⟩
  unfold splitO at e
  split at e
  · obtain ⟨a1, a2, e1, ⟨_, r1⟩, ⟨_, r2⟩⟩ := two_of pr
    split at e
    · rename_i hz
      cases e
      cases e1
      exact mt_split pins s σ H _ _ v us Q I rx rs ⟨_, _, atom_str r1, by rw [atom_str r2], by simp [hz.1], sizeL hz.2, fun p hp => gv.newL ex (reps_strs _) hp⟩
    · cases e
  · cases e
def startsO : List O → Option O
  | [.pure (.str a), .pure (.str b)] => some (.pure (.bl (Txt.startswith a b)))
  | _ => none
theorem mt_startsO : MtR X "str.startswith" (mO W startsO) := by
  intro pins s σ H x xs v us Q I rx rs ⟨H0, os, o, ex, pr, e, gv⟩
  unfold startsO at e
  split at e
  · obtain ⟨a1, a2, e1, ⟨_, r1⟩, ⟨_, r2⟩⟩ := two_of pr
    cases e
    cases e1
    exact mt_startswith pins s σ H _ _ v us Q I rx rs ⟨_, _, atom_str r1, by rw [atom_str r2], gv.atom ex (.bl _)⟩
  · cases e
/-! ### methods that change their list -/
def putR (g : G) : R → O → G
  | .slot i, o => setO g i o
  | .sub i k, o => setS1 g i k o
  | .val _, _ => g
def mutE (ty : String) (f : O → List D → Option (O × D)) (A : E) (As : List E) : E := fun g => (A g).bind fun r g1 => match (ob g1 r).bind tyO with
  | some t => if t = ty then (evs As g1).bind fun rs g2 => match frzs rs g2 with
      | some (ds, g3) => match ob g3 r with
        | some o => match f o ds with
          | some (o', d) => .ok (.val (.pure d)) (putR g3 r o')
          | none => .stuck
        | none => .stuck
      | none => .stuck
    else .stuck
  | none => .stuck
def rM (W : Wd) (f : O → List D → Option (O × D)) : V → List V → Hp → VK → Prop := fun x us H Q => ∃ H0 L o ds o' d, Sep H0 H L ∧ RepO W H0 H x o L ∧ RepFs W H0 us ds ∧ f o ds = some (o', d) ∧ ∀ v H' L', Step H0 H L H0 H' L' → RepO W H0 H' x o' L' → RepF W H0 v d → Q v H'
/-- from what stands for a receiver to its changed self -/
theorem mut_ok {r : R} {σ : L2.St} {H0 H H02 H2 : Hp} {L Lr L3 : List Addr} {g3 : G} {v : V} {o : O} (st : Step H0 H L H02 H2 (Lr ++ L3)) (rr : RepR W H02 H2 σ v r Lr) (en : EnvR W H02 H2 vs σ g3 L3) (eo : ob g3 r = some o) :
    ∃ Lo, Sep H02 H2 Lo ∧ RepO W H02 H2 v o Lo ∧ ∀ o' H' L', Step H02 H2 Lo H02 H' L' → RepO W H02 H' v o' L' → ∃ L4, Step H0 H L H02 H' L4 ∧ EnvR W H02 H' vs σ (putR g3 r o') L4 := by
  cases r with
  | val o1 =>
    cases eo
    refine ⟨Lr, st.sep.left, rr, fun o' H' L' s2 ro' => ⟨L3, ?_, ?_⟩⟩
    · have sp : Sep H02 H2 (L3 ++ Lr) := st.sep.perm List.perm_append_comm
      have s3 := (st.perm List.perm_append_comm).trans (Step.frame sp s2)
      exact (s3.perm List.perm_append_comm).right
    · have sp : Sep H02 H2 (L3 ++ Lr) := st.sep.perm List.perm_append_comm
      exact en.mono (Ex.refl _) (Step.keepL sp s2)
  | slot i =>
    obtain ⟨hv, rfl⟩ := rr
    simp only [ob, Option.bind_eq_some_iff] at eo
    obtain ⟨sl, e1, e2⟩ := eo
    obtain ⟨v', La, Lo, Lb, h1, h2, h3, h4⟩ := en.at e1 e2
    rw [hv] at h1; cases h1
    subst h3
    have sp : Sep H02 H2 ((La ++ Lb) ++ Lo) := by
      refine st.sep.perm ?_
      simpa [List.append_assoc] using List.Perm.append_left La (List.perm_append_comm (l₁ := Lo) (l₂ := Lb))
    refine ⟨Lo, sp.right, h2, fun o' H' L' s2 ro' => ⟨La ++ (L' ++ Lb), ?_, ?_⟩⟩
    · have s3 : Step H0 H L H02 H' ((La ++ Lb) ++ L') := by
        refine (st.perm ?_).trans (Step.frame sp s2)
        simpa [List.append_assoc] using List.Perm.append_left La (List.perm_append_comm (l₁ := Lo) (l₂ := Lb))
      refine s3.perm ?_
      simpa [List.append_assoc] using List.Perm.append_left La (List.perm_append_comm (l₁ := Lb) (l₂ := L'))
    · have := h4 H02 H' (Ex.refl _) (Step.keepL sp s2) o' L' ro'
      simpa [putR, setO, e1] using this
  | sub i k =>
    obtain ⟨⟨p0, us0, hu1, hu2, hu3⟩, rfl⟩ := rr
    obtain ⟨sl, ss, x1, x2, x3⟩ := ob_sub eo
    obtain ⟨p, us, v', La, Lo, Lb, h1, h2, h3, h4, h5, h6⟩ := en.sub x1 x2 x3
    rw [h1] at hu1; cases hu1
    rw [h2] at hu2; cases hu2
    rw [h3] at hu3; cases hu3
    subst h5
    have sp : Sep H02 H2 ((La ++ Lb) ++ Lo) := by
      refine st.sep.perm ?_
      simpa [List.append_assoc] using List.Perm.append_left La (List.perm_append_comm (l₁ := Lo) (l₂ := Lb))
    refine ⟨Lo, sp.right, h4, fun o' H' L' s2 ro' => ⟨La ++ (L' ++ Lb), ?_, ?_⟩⟩
    · have s3 : Step H0 H L H02 H' ((La ++ Lb) ++ L') := by
        refine (st.perm ?_).trans (Step.frame sp s2)
        simpa [List.append_assoc] using List.Perm.append_left La (List.perm_append_comm (l₁ := Lo) (l₂ := Lb))
      refine s3.perm ?_
      simpa [List.append_assoc] using List.Perm.append_left La (List.perm_append_comm (l₁ := Lb) (l₂ := L'))
    · have := h6 H02 H' (Ex.refl _) (Step.keepL sp s2) o' L' ro'
      show EnvR W H02 H' vs σ (setS1 g3 i k o') _
      rw [setS1_of o' x1 x2]
      exact this
theorem tE_mut {k : Nat} (cx : Ctx W k Wx X) {ty : String} (hn : ty = "str" ∨ ty = "list" ∨ ty = "dict") {f : O → List D → Option (O × D)} {A : E} {As : List E} {σ : L2.St} {H : Hp} {Q : VK} (h : tE W vs Wx (mutE ty f A As) σ H Q) : tBM X.K ty (rM W f) (tE W vs Wx A) (tA W vs Wx (evs As)) σ H Q := by
  obtain ⟨H0, L, g, sp, en, post⟩ := h
  refine ⟨H0, L, g, sp, en, ?_⟩
  unfold mutE at post
  cases ea : A g with
  | stuck => rw [ea] at post; exact post.elim
  | exc x g' => rw [ea] at post; exact post
  | ok r g1 =>
    rw [ea] at post
    intro v H1 H01 Lr L1 st1 rr en1
    simp only [Res.bind] at post
    cases et : (ob g1 r).bind tyO with
    | none => rw [et] at post; exact post.elim
    | some t =>
      rw [et] at post
      simp only at post
      by_cases htt : t = ty
      · rw [if_pos htt] at post
        subst htt
        obtain ⟨o, e1, e2⟩ := Option.bind_eq_some_iff.mp et
        obtain ⟨Lo, ro, _⟩ := ob_rep en1 rr e1
        refine ⟨tyV_of cx.K st1.sep.ex ro e2 hn, H01, L1, g1, st1.sep.right, en1, ?_⟩
        cases eb : evs As g1 with
        | stuck => rw [eb] at post; exact post.elim
        | exc x g' => rw [eb] at post; intro c d H' H0' L' st2 rx en2; exact post c d H' H0' L' (st1.then st2).right rx en2
        | ok rs g2 =>
          rw [eb] at post
          intro us H2 H02 Ls L2 st2 rs2 en2
          have st := st1.then st2
          have rr2 : RepR W H02 H2 σ v r Lr := rr.mono st2.ex0 (Step.keepL st1.sep st2)
          simp only at post
          cases ef : frzs rs g2 with
          | none => rw [ef] at post; exact post.elim
          | some p =>
            obtain ⟨ds, g3⟩ := p
            rw [ef] at post
            simp only at post
            obtain ⟨H03, L3, s3, rf, en3⟩ := frzs_ok rs2 st.sep.right en2 ef
            have st3 : Step H0 H L H03 H2 (Lr ++ L3) := st.then s3
            have rr3 : RepR W H03 H2 σ v r Lr := rr2.mono s3.ex0 fun _ _ _ q => q
            cases eo : ob g3 r with
            | none => rw [eo] at post; exact post.elim
            | some o =>
              rw [eo] at post
              simp only at post
              cases eff : f o ds with
              | none => rw [eff] at post; exact post.elim
              | some q =>
                obtain ⟨o', d⟩ := q
                rw [eff] at post
                obtain ⟨Lo', sp', ro', fin⟩ := mut_ok st3 rr3 en3 eo
                refine ⟨H03, Lo', o, ds, o', d, sp', ro', rf, eff, fun w H' L' s4 ro4 rd => ?_⟩
                obtain ⟨L4, s5, en5⟩ := fin o' H' L' s4 ro4
                exact post w H' H03 [] L4 (by simpa using s5) (.pure rd) en5
      · rw [if_neg htt] at post; exact post.elim
theorem se_mut {k : Nat} {ty id : String} {o e : Expr} {es : List Expr} {name : Str} {apos cpos : Pos} {f : O → List D → Option (O × D)} {A : E} {As : List E} (cx : Ctx W k Wx X) (hn : ty = "str" ∨ ty = "list" ∨ ty = "dict") (hm : MtR X id (rM W f)) (ho : SE W vs Wx X o A) (ha : SA W vs Wx X (e :: es) (evs As))
    (run : ∀ {r : V → List V → Hp → VK → Prop} {to : TE} {t : TA}, MtR X id r → PE X o to → PA X (e :: es) t → PE X (.Call (.Attribute o name apos) (e :: es) [] cpos) (tBM X.K ty r to t)) : SE W vs Wx X (.Call (.Attribute o name apos) (e :: es) [] cpos) (mutE ty f A As) :=
  pe_weak (run hm ho ha) fun σ H Q q => tE_mut cx hn q
theorem se_mut0 {k : Nat} {ty id : String} {o : Expr} {name : Str} {apos cpos : Pos} {f : O → List D → Option (O × D)} {A : E} (cx : Ctx W k Wx X) (hn : ty = "str" ∨ ty = "list" ∨ ty = "dict") (hm : MtR X id (rM W f)) (ho : SE W vs Wx X o A)
    (run : ∀ {r : V → List V → Hp → VK → Prop} {to : TE}, MtR X id r → PE X o to → PE X (.Call (.Attribute o name apos) [] [] cpos) (tBM0 X.K ty r to)) : SE W vs Wx X (.Call (.Attribute o name apos) [] [] cpos) (mutE ty f A []) := by
  refine pe_weak (run hm ho) fun σ H Q q => ?_
  obtain ⟨H0, L, g, sp, en, post⟩ := tE_mut (As := []) cx hn q
  refine ⟨H0, L, g, sp, en, ?_⟩
  cases ea : A g with
  | stuck => rw [ea] at post; exact post.elim
  | exc x g' => rw [ea] at post; exact post
  | ok r g1 =>
    rw [ea] at post
    intro v H1 H01 Lr L1 st1 rr en1
    obtain ⟨ht, H0', L', g', sp', en', p'⟩ := post v H1 H01 Lr L1 st1 rr en1
    exact ⟨ht, p' [] H1 H0' [] L' (Step.refl sp') .nil en'⟩
/-- a change of one's own list in its place -/
theorem step_list {H0 H : Hp} {p : Addr} {o : HO} (sp : Sep H0 H [p]) : Step H0 H [p] H0 (upd H p o) [p] := by
  refine ⟨Ex.refl _, fun a u h hn => ?_, fun a h => .inl h, fun a h => .inl h, ⟨fun a u h => ?_, sp.nd, fun q hq => ⟨(sp.own q hq).1, ?_⟩⟩⟩
  · have : a ≠ p := fun z => hn (by simp [z])
    rw [upd_ne this]; exact h
  · have : a ≠ p := fun z => by subst z; rw [(sp.own a (by simp)).1] at h; cases h
    rw [upd_ne this]; exact sp.ex a u h
  · have : q = p := by simpa using hq
    subst this
    exact ⟨_, upd_same⟩
theorem own_list {H0 H : Hp} {x : V} {l : List D} {L : List Addr} (h : RepO W H0 H x (.lst l) L) : ∃ p us, x = .ref p ∧ L = [p] ∧ H p = some (.lst us) ∧ RepFs W H0 us l := by
  cases h with
  | lst h1 h2 => exact ⟨_, _, rfl, rfl, h1, h2⟩
def appO : O → List D → Option (O × D)
  | .lst l, [d] => if l.length < 16777216 then some (.lst (l ++ [d]), .non) else none
  | _, _ => none
theorem ltL {m : Nat} (h : m < 16777216) : m < sizeLine := by rw [sizeLine_eq]; exact h
theorem RepFs.one {H : Hp} {us : List V} {d : D} (h : RepFs W H us [d]) : ∃ v, us = [v] ∧ RepF W H v d := by
  cases h with | cons a r => cases r; exact ⟨_, rfl, a⟩
theorem mt_appO : MtR X "list.append" (rM W appO) := by
  intro pins s σ H x xs v us Q I rx rs ⟨H0, L, o, ds, o', d, sp, ro, rf, e, k⟩
  unfold appO at e
  split at e
  · split at e
    · rename_i hz
      cases e
      obtain ⟨p, ws, e1, e2, hp, rw1⟩ := own_list ro
      obtain ⟨y, e3, ry⟩ := rf.one
      subst e1 e2 e3
      exact mt_append pins s σ H _ _ v us Q I rx rs ⟨p, ws, y, rfl, rfl, hp, by rw [rw1.len]; exact ltL hz, k _ _ [p] (step_list sp) (.lst upd_same (rw1.append (.cons ry .nil))) .non⟩
    · cases e
  · cases e
def extO : O → List D → Option (O × D)
  | .lst l, [.lst m] => if l.length + m.length ≤ 16777216 then some (.lst (l ++ m), .non) else none
  | _, _ => none
theorem ext_meets (l : Addr) (items : Array Value) (n : Nat) (b : Addr) (items2 : Array Value) (n2 : Nat) (sl2 : Array (Option Value)) (h0 : ¬(!items.isEmpty && Builtin.List.listTooLong (items.size + items2.size)) = true) (h1 : items.size ≤ sizeLine) (h2 : items.size + items2.size ≤ sizeLine + 1) :
    Meets (Builtin.«list.extend» ⟨[.ref l, .ref b], []⟩) (fun _ R s => s.heap.get? l = some ⟨.type "list", none, .seq items n, #[]⟩ ∧ s.heap.get? b = some ⟨.type "list", none, .seq items2 n2, sl2⟩ ∧
      R (.ok (.ret Value.none)) { s with heap := s.heap.update l (Obj.mapSeq fun x => x ++ items2), toks := s.toks }) :=
  .of_wp fun prog w A R s h => by
    obtain ⟨hp, g, d, tk, os⟩ := s
    obtain ⟨hl, hb, h⟩ := h
    have f1 := AutoSeq1.idx_int
    have f2 := AutoSeq1.sub_tuple_tuple
    have f3 := AutoSeq1.sub_list_list
    have f4 := AutoSeq1.sub_tuple_list
    have f5 := AutoSeq1.sub_list_tuple
    have hz' : (items ++ items2).size ≤ sizeLine + 1 := by rw [Array.size_append]; exact h2
    wp_walk using (wpAny_updateSeq hl rfl (hz := h1) (_hz' := hz')), AutoSeq1.wpAny_loadPart' hl, AutoSeq1.wpAny_loadPart' hb
    exact ⟨_, rfl, h⟩
theorem mt_extO (hK : X.K = W.K) : MtR X "list.extend" (rM W extO) := by
  intro pins s σ H x xs v us Q I rx rs ⟨H0, L, o, ds, o', d, sp, ro, rf, e, k⟩
  unfold extO at e
  split at e
  · split at e
    · rename_i hz
      cases e
      obtain ⟨p, ws, e1, e2, hp, rw1⟩ := own_list ro
      obtain ⟨y, e3, ry⟩ := rf.one
      subst e1 e2 e3
      cases ry with
      | lst h1 h2 =>
        rename_i q zs
        cases rx
        obtain ⟨u, rfl, ru⟩ := rs.one
        cases ru
        obtain ⟨z, its, n, r, hl, e⟩ := I.lstM hp
        obtain ⟨its2, r2, ⟨⟨c2, d2, dt2, sl2⟩, n2, e2, hc2, hd2, ht2⟩, _⟩ := I.list (by rw [hK]; exact ex_l sp.ex h1)
        dsimp only at hc2 hd2 ht2
        subst hc2 hd2 ht2
        have l2 := r2.length
        have hz2 : ws.length + zs.length ≤ sizeLine := by rw [rw1.len, h2.len]; exact sizeL hz
        have hsz : its.toArray.size + its2.toArray.size ≤ sizeLine := by rw [List.size_toArray, List.size_toArray]; omega
        have hlong : ¬ (!its.toArray.isEmpty && Builtin.List.listTooLong (its.toArray.size + its2.toArray.size)) = true := by
          rw [notLongL hsz, Bool.and_false]; simp
        refine call_meets F.slot_list_extend ⟨_, e, rfl⟩ F.entry_list_extend (F.args_list_extend_2 _ _) (ext_meets p its.toArray n q its2.toArray n2 sl2 hlong (by rw [List.size_toArray]; omega) (by omega)) ⟨e, e2, ?_⟩
        refine ⟨.non, _, I.lset (its' := its ++ its2) hp e (by simp) (r.append r2) (by rw [List.length_append]; exact hz2), rfl, k _ _ [p] (step_list sp) (.lst upd_same (rw1.append h2)) .non⟩
    · cases e
  · cases e
def popO : O → List D → Option (O × D)
  | .lst l, [] => (l[l.length - 1]?).map fun d => (.lst l.dropLast, d)
  | _, _ => none
theorem RepFs.dropLast {H : Hp} {us : List V} {ds : List D} (h : RepFs W H us ds) : RepFs W H us.dropLast ds.dropLast := by
  rw [List.dropLast_eq_take, List.dropLast_eq_take, h.len]
  exact h.take _
theorem mt_popO : MtR X "list.pop" (rM W popO) := by
  intro pins s σ H x xs v us Q I rx rs ⟨H0, L, o, ds, o', d, sp, ro, rf, e, k⟩
  unfold popO at e
  split at e
  · obtain ⟨d', e1, e2⟩ := Option.map_eq_some_iff.mp e
    cases e2
    obtain ⟨p, ws, e3, e4, hp, rw1⟩ := own_list ro
    cases rf
    obtain ⟨y, e5, ry⟩ := rw1.get e1
    subst e3 e4
    exact mt_pop pins s σ H _ _ v us Q I rx rs ⟨p, ws, y, rfl, rfl, hp, by rw [rw1.len]; exact e5, k _ _ [p] (step_list sp) (.lst upd_same rw1.dropLast) ry⟩
  · cases e
def popAtO : O → List D → Option (O × D)
  | .lst l, [.int i] => if 0 ≤ i ∧ i < 1000000000 then (l[i.toNat]?).map fun d => (.lst (l.eraseIdx i.toNat), d) else none
  | _, _ => none
theorem mt_popAtO : MtR X "list.pop" (rM W popAtO) := by
  intro pins s σ H x xs v us Q I rx rs ⟨H0, L, o, ds, o', d, sp, ro, rf, e, k⟩
  unfold popAtO at e
  split at e
  · split at e
    · rename_i i hi
      obtain ⟨d', e1, e2⟩ := Option.map_eq_some_iff.mp e
      cases e2
      obtain ⟨p, ws, e3, e4, hp, rw1⟩ := own_list ro
      obtain ⟨z, e6, rz⟩ := rf.one
      obtain ⟨y, e5, ry⟩ := rw1.get e1
      subst e3 e4 e6
      cases rz
      have hlt : i.toNat < ws.length := (List.getElem?_eq_some_iff.mp e5).1
      exact mt_popAt pins s σ H _ _ v us Q I rx rs ⟨p, ws, _, i.toNat, y, rfl, rfl, hp, by omega, by omega, seqIndex_of hi.1 (by omega), e5, k _ _ [p] (step_list sp) (.lst upd_same (rw1.eraseIdx _)) ry⟩
    · cases e
  · cases e
def insO : O → List D → Option (O × D)
  | .lst l, [.int i, d] => if l.length < 16777216 ∧ 0 ≤ i ∧ i < 1000000000 then some (.lst (l.take i.toNat ++ [d] ++ l.drop i.toNat), .non) else none
  | _, _ => none
theorem mt_insO : MtR X "list.insert" (rM W insO) := by
  intro pins s σ H x xs v us Q I rx rs ⟨H0, L, o, ds, o', d, sp, ro, rf, e, k⟩
  unfold insO at e
  split at e
  · split at e
    · rename_i i d hi
      cases e
      obtain ⟨p, ws, e3, e4, hp, rw1⟩ := own_list ro
      subst e3 e4
      cases rf with
      | cons rz rf =>
        cases rz
        obtain ⟨z, e6, rz⟩ := rf.one
        subst e6
        exact mt_insert pins s σ H _ _ v us Q I rx rs ⟨p, ws, _, z, rfl, rfl, hp, by rw [rw1.len]; exact ltL hi.1, hi.2.1, by omega, k _ _ [p] (step_list sp) (.lst upd_same (((rw1.take _).append (.cons rz .nil)).append (rw1.drop _))) .non⟩
    · cases e
  · cases e
def clrO : O → List D → Option (O × D)
  | .lst _, [] => some (.lst [], .non)
  | _, _ => none
theorem mt_clrO : MtR X "list.clear" (rM W clrO) := by
  intro pins s σ H x xs v us Q I rx rs ⟨H0, L, o, ds, o', d, sp, ro, rf, e, k⟩
  unfold clrO at e
  split at e
  · cases e
    obtain ⟨p, ws, e3, e4, hp, rw1⟩ := own_list ro
    subst e3 e4
    cases rf
    exact mt_clear pins s σ H _ _ v us Q I rx rs ⟨p, ws, rfl, rfl, hp, k _ _ [p] (step_list sp) (.lst upd_same .nil) .non⟩
  · cases e
/-! ### o[i] = v -/
def stO : O → D → D → Option O
  | .lst l, .int i, d => (ixN l.length i).map fun j => .lst (l.set j d)
  | .dic l, kd, d => (keyOf kd).bind fun k => if l.length < 16777216 then some (.dic (putD l k d)) else none
  | .dct l, dk, d => (kD1 dk).bind fun k => if l.length < 16777216 then some (.dct (putT l dk k d)) else none
  | _, _, _ => none
def rSt (W : Wd) : TSet := fun x i v H Q => ∃ H0 L o di dv o', Sep H0 H L ∧ RepO W H0 H x o L ∧ RepF W H0 i di ∧ RepF W H0 v dv ∧ stO o di dv = some o' ∧ ∀ H' L', Step H0 H L H0 H' L' → RepO W H0 H' x o' L' → Q H'
theorem pset_st (hK : X.K = W.K) (hu65 : X.A.units + 65 < cLine) : PSet X (rSt W) := by
  have hu : X.A.units + 1 < cLine := by omega
  intro pins s σ H o i v ov iv u Q I ro' ri rv ⟨H0, L, oo, di, dv, o', sp, ro, rdi, rdv, e, k⟩
  unfold stO at e
  split at e
  · obtain ⟨j, e1, e2⟩ := Option.map_eq_some_iff.mp e
    subst e2
    obtain ⟨p, ws, e3, e4, hp, rw1⟩ := own_list ro
    subst e3 e4
    cases rdi
    exact set_list pins s σ H _ _ v ov iv u Q I ro' ri rv ⟨p, ws, _, j, rfl, rfl, hp, by rw [rw1.len]; exact e1, k _ [p] (step_list sp) (.lst upd_same (rw1.set _ rdv))⟩
  · obtain ⟨kk, e1, e2⟩ := Option.bind_eq_some_iff.mp e
    split at e2
    · rename_i hz
      cases e2
      cases ro with
      | dic h1 h2 =>
        obtain ⟨e5, _⟩ := key_rep rdi e1
        subst e5
        exact set_dict hu pins s σ H _ _ v ov iv u Q I ro' ri rv ⟨_, _, rfl, DPut.k h1 (by rw [h2.len]; exact ltL hz), k _ [_] (step_list sp) (.dic upd_same (h2.put rdv))⟩
    · cases e2
  · obtain ⟨kk, e1, e2⟩ := Option.bind_eq_some_iff.mp e
    split at e2
    · rename_i hz
      cases e2
      cases ro with
      | dct h1 h2 =>
        cases ro'
        refine x_set hu65 I hK h1 (h2.mono sp.ex) (rdi.mono sp.ex) e1 ri rv (by rw [h2.len]; exact ltL hz) fun o' b s' eb I' => ⟨_, I', ?_⟩
        subst eb
        exact k _ [_] (step_list sp) (.dct upd_same (h2.put e1 rdi rdv))
    · cases e2
  · cases e
/-- o[i] = v, v first -/
def stS (Ao Ai Av : E) : S := fun g => (Av g).bind fun rv g1 => (Ao g1).bind fun r g2 => (Ai g2).bind fun ri g3 => match frzs [rv, ri] g3 with
  | some ([dv, di], g4) => match ob g4 r with
    | some o => match stO o di dv with
      | some o' => .ok .next (putR g4 r o')
      | none => .stuck
    | none => .stuck
  | _ => .stuck
theorem ss_st {k : Nat} {o i e : Expr} {pos pos' : Pos} {Ao Ai Av : E} (cx : Ctx W k Wx X) (ho : SE W vs Wx X o Ao) (hi : SE W vs Wx X i Ai) (hv : SE W vs Wx X e Av)
    (run : ∀ {to ti te : TE} {t : TSet}, PE X o to → PE X i ti → PE X e te → PSet X t → PS X (.Assign [.Subscript o i pos'] e pos) (tAsg te (gSub to ti t))) : SS W vs Wx X (.Assign [.Subscript o i pos'] e pos) (stS Ao Ai Av) := by
  refine ps_weak (run ho hi hv (pset_st (W := W) cx.K (hu65b cx))) fun De σ H ⟨H0, L, g, sp, en, post⟩ => ?_
  refine ⟨H0, L, g, sp, en, ?_⟩
  unfold stS at post
  cases ea : Av g with
  | stuck => rw [ea] at post; exact post.elim
  | exc x g' => rw [ea] at post; exact fun c d H' H0' L' s2 rx en2 => post c d σ H' H0' L' s2 rx en2
  | ok rv g1 =>
    rw [ea] at post
    intro v H1 H01 Lr L1 st1 rr en1
    simp only [Res.bind] at post
    refine ⟨H01, L1, g1, st1.sep.right, en1, ?_⟩
    cases eb : Ao g1 with
    | stuck => rw [eb] at post; exact post.elim
    | exc x g' => rw [eb] at post; exact fun c d H' H0' L' s2 rx en2 => post c d σ H' H0' L' (st1.then s2).right rx en2
    | ok r g2 =>
      rw [eb] at post
      intro x H2 H02 Lx L2 st2 rx en2
      simp only at post
      have st12 := st1.then st2
      have rr2 := rr.mono st2.ex0 (Step.keepL st1.sep st2)
      refine ⟨H02, L2, g2, st2.sep.right, en2, ?_⟩
      cases ec : Ai g2 with
      | stuck => rw [ec] at post; exact post.elim
      | exc x g' =>
        rw [ec] at post
        intro c d H' H0' L' s3 rx' en3
        have s : Step H0 H L H0' H' ((Lr ++ Lx) ++ L') := Step.then (La := Lr ++ Lx) (by simpa [List.append_assoc] using st12) s3
        exact post c d σ H' H0' L' s.right rx' en3
      | ok ri g3 =>
        rw [ec] at post
        intro y H3 H03 Ly L3 st3 ry en3
        simp only at post
        have st12' : Step H0 H L H02 H2 ((Lr ++ Lx) ++ L2) := by simpa [List.append_assoc] using st12
        have st123 := st12'.then st3
        have kp := Step.keepL st12'.sep st3
        have rr3 := rr2.mono st3.ex0 fun a ha => kp a (by simp [ha])
        have rx3 := rx.mono st3.ex0 fun a ha => kp a (by simp [ha])
        have hcase : ∃ dv di g4, frzs [rv, ri] g3 = some ([dv, di], g4) := by
          cases ef : frzs [rv, ri] g3 with
          | none => rw [ef] at post; exact post.elim
          | some pp =>
            obtain ⟨l, g4⟩ := pp
            rw [ef] at post
            cases l with
            | nil => exact post.elim
            | cons a l => cases l with
              | nil => exact post.elim
              | cons b l => cases l with
                | nil => exact ⟨a, b, g4, rfl⟩
                | cons _ _ => exact post.elim
        obtain ⟨dv, di, g4, ef⟩ := hcase
        rw [ef] at post
        simp only at post
        have spm : Step H0 H L H03 H3 (Lx ++ ((Lr ++ (Ly ++ [])) ++ L3)) := by
          refine st123.perm ?_
          have := perm_mid Lr Lx (Ly ++ L3)
          simpa [List.append_assoc] using this
        obtain ⟨H04, L4, s4, rf, en4⟩ := frzs_ok (us := [v, y]) (Lr := Lr ++ (Ly ++ [])) (.cons rr3 (.cons ry .nil)) spm.sep.right en3 ef
        have st4 : Step H0 H L H04 H3 (Lx ++ L4) := spm.then s4
        have rx4 := rx3.mono s4.ex0 fun _ _ _ q => q
        cases rf with
        | cons rfv rf =>
          obtain ⟨y', e6, rfi⟩ := rf.one
          cases e6
          cases eo : ob g4 r with
          | none => rw [eo] at post; exact post.elim
          | some oo =>
            rw [eo] at post
            simp only at post
            cases es : stO oo di dv with
            | none => rw [es] at post; exact post.elim
            | some o' =>
              rw [es] at post
              obtain ⟨Lo', sp', ro', fin⟩ := mut_ok st4 rx4 en4 eo
              refine ⟨H04, Lo', oo, di, dv, o', sp', ro', rfi, rfv, es, fun H' L' s5 ro5 => ?_⟩
              obtain ⟨L5, s6, en6⟩ := fin o' H' L' s5 ro5
              exact post σ H' H04 L5 s6 en6
/-- {} -/
def dnewE : E := fun g => .ok (.val (.dic [])) g
theorem se_dnew {pos : Pos} : SE W vs Wx X (.Dict [] [] pos) dnewE := pe_weak pe_dnewK fun σ H Q ⟨H0, L, g, sp, en, post⟩ => fun p hp => by
  have s2 := step_newL (o := .dK []) sp.ex hp
  have sp2 : Sep H0 H (L ++ []) := by simpa using sp
  have s3 : Step H0 H L H0 (upd H p (.dK [])) (L ++ [p]) := by simpa using Step.frame sp2 s2
  exact post (.ref p) _ H0 [p] L (s3.perm List.perm_append_comm) (.dic upd_same .nil) (en.mono (Ex.refl _) (Step.keepL sp2 s2))
/-- {}, to be a dict whose keys are tuples -/
def dctE : E := fun g => .ok (.val (.dct [])) g
theorem se_dctE {pos : Pos} : SE W vs Wx X (.Dict [] [] pos) dctE := pe_weak pe_dnewX fun σ H Q ⟨H0, L, g, sp, en, post⟩ => fun p hp => by
  have s2 := step_newL (o := .ext (DctAt p dO [])) sp.ex hp
  have sp2 : Sep H0 H (L ++ []) := by simpa using sp
  have s3 : Step H0 H L H0 (upd H p (.ext (DctAt p dO []))) (L ++ [p]) := by simpa using Step.frame sp2 s2
  exact post (.ref p) _ H0 [p] L (s3.perm List.perm_append_comm) (.dct upd_same .nil) (en.mono (Ex.refl _) (Step.keepL sp2 s2))
/-- {k: v}, k a tuple -/
def dsp1R (ra rb : R) (g : G) : Res R := match frzs [ra, rb] g with
  | some ([dk, dv], g') => match kD1 dk with
    | some _ => .ok (.val (.dct [(dk, dv)])) g'
    | none => .stuck
  | _ => .stuck
def dsp1E (A B : E) : E := fun g => (A g).bind fun ra g1 => (B g1).bind fun rb g2 => dsp1R ra rb g2
theorem se_dsp1 {k : Nat} {ke ve : Expr} {pos : Pos} {A B : E} (cx : Ctx W k Wx X) (ha : SE W vs Wx X ke A) (hb : SE W vs Wx X ve B) : SE W vs Wx X (.Dict [some ke] [ve] pos) (dsp1E A B) := by
  refine pe_weak (pe_dispX cx.K (hu65b cx) ha hb) fun σ H Q ⟨H0, L, g, sp, en, post⟩ => ?_
  intro p hp
  have s2 := step_newL (o := .ext (DctAt p dO [])) sp.ex hp
  have sp2 : Sep H0 H (L ++ []) := by simpa using sp
  have s3 : Step H0 H L H0 (upd H p (.ext (DctAt p dO []))) ([p] ++ L) := by
    have : Step H0 H L H0 (upd H p (.ext (DctAt p dO []))) (L ++ [p]) := by simpa using Step.frame sp2 s2
    exact this.perm List.perm_append_comm
  have en' := en.mono (Ex.refl _) (Step.keepL sp2 s2)
  refine ⟨H0, L, g, s3.sep.right, en', ?_⟩
  unfold dsp1E at post
  cases ea : A g with
  | stuck => rw [ea] at post; exact post.elim
  | exc x g' =>
    rw [ea] at post
    intro c d H' H0' L' st rx en1
    exact post c d H' H0' L' (s3.trans (Step.frame s3.sep st)).right rx en1
  | ok ra g1 =>
    rw [ea] at post
    simp only [Res.bind] at post
    intro x H1 H01 Lr L1 st1 rr en1
    have t1 : Step H0 H L H01 H1 ([p] ++ (Lr ++ L1)) := s3.trans (Step.frame s3.sep st1)
    refine ⟨H01, L1, g1, st1.sep.right, en1, ?_⟩
    cases eb : B g1 with
    | stuck => rw [eb] at post; exact post.elim
    | exc x g' =>
      rw [eb] at post
      intro c d H' H0' L' st rx en2
      have t2 : Step H0 H L H0' H' ((([p] ++ Lr)) ++ L') := Step.then (La := [p] ++ Lr) (by simpa [List.append_assoc] using t1) st
      exact post c d H' H0' L' t2.right rx en2
    | ok rb g2 =>
      rw [eb] at post
      simp only at post
      intro y H2 H02 Ls L2 st2 rs en2
      have t1' : Step H0 H L H01 H1 (([p] ++ Lr) ++ L1) := by simpa [List.append_assoc] using t1
      have t2 : Step H0 H L H02 H2 (([p] ++ Lr) ++ (Ls ++ L2)) := t1'.then st2
      have kp1 : H1 p = some (.ext (DctAt p dO [])) := Step.keepL s3.sep st1 p (by simp) _ upd_same
      have kp2 : H2 p = some (.ext (DctAt p dO [])) := Step.keepL t1'.sep st2 p (by simp) _ kp1
      have rr2 := rr.mono st2.ex0 (Step.keepL st1.sep st2)
      refine ⟨kp2, ?_⟩
      have t3 : Step H0 H L H02 H2 ([p] ++ ((Lr ++ (Ls ++ [])) ++ L2)) := by simpa [List.append_assoc] using t2
      unfold dsp1R at post
      have hcase : ∃ dk dv g3, frzs [ra, rb] g2 = some ([dk, dv], g3) := by
        cases ef : frzs [ra, rb] g2 with
        | none => rw [ef] at post; exact post.elim
        | some pp =>
          obtain ⟨l, g3⟩ := pp
          rw [ef] at post
          match l, post with
          | [a, b], _ => exact ⟨a, b, g3, rfl⟩
      obtain ⟨dk, dv, g3, ef⟩ := hcase
      rw [ef] at post
      simp only at post
      cases ek : kD1 dk with
      | none => rw [ek] at post; exact post.elim
      | some kk =>
        rw [ek] at post
        simp only at post
        obtain ⟨H03, L3, s4, rf, en3⟩ := frzs_ok (us := [x, y]) (Lr := Lr ++ (Ls ++ [])) (.cons rr2 (.cons rs .nil)) t3.sep.right en2 ef
        have t4 : Step H0 H L H03 H2 ([p] ++ L3) := t3.then s4
        cases rf with
        | cons rfk rf =>
          obtain ⟨y', e6, rfv⟩ := rf.one
          cases e6
          obtain ⟨_, _, ds, rfl⟩ := kD1_of ek
          have rfk0 := rfk
          cases rfk with
          | @tup pk _ _ sq rq =>
            have spp : Sep H03 H2 (L3 ++ [p]) := t4.sep.perm List.perm_append_comm
            refine ⟨_, kk, pk, rfl, rfk0.mono spp.ex, ek, fun o' => ?_⟩
            have sw : Step H03 H2 [p] H03 (upd H2 p (.ext (DctAt p o' [(kk, pk, y)]))) [p] := step_list spp.right
            have sf := Step.frame spp sw
            have sf2 : Step H0 H L H03 (upd H2 p (.ext (DctAt p o' [(kk, pk, y)]))) ([p] ++ L3) := (t4.trans (sf.from fun a => by simp [or_comm])).perm List.perm_append_comm
            exact post (.ref p) _ H03 [p] L3 sf2 (.dct upd_same (.cons ek rfk0 rfv .nil)) (en3.mono (Ex.refl _) (Step.keepL spp sw))
end
end VI
namespace L2
open PySem PySem.Spec PyProof.Rows
/-! ### zip of lists and tuples, in any mix -/
inductive SrcK where | l | t
def SqK (K : PySem.W.Frag) (H : Hp) : SrcK → Addr → List V → Prop
  | .l, a, xs => SqL K H a xs
  | .t, a, xs => SqT K H a xs
def IterK (h : Heap) : SrcK → Addr → Addr → Nat → Prop
  | .l, it, a, i => h.IsListIter it a i
  | .t, it, a, i => h.IsTupleIter it a i
theorem IterK.obj {h : Heap} {k : SrcK} {it a : Addr} {i : Nat} (st : IterK h k it a i) : ∃ o, h.get? it = some o ∧ ∀ v, o.data ≠ .cell v := by
  cases k <;> (obtain ⟨o, e, _, d⟩ := st; exact ⟨o, e, fun v q => by rw [d] at q; cases q⟩)
theorem IterK.at' {h h' : Heap} {k : SrcK} {it a : Addr} {i : Nat} (st : IterK h k it a i) (f : ∀ o, h.get? it = some o → h'.get? it = some o) : IterK h' k it a i := by
  cases k <;> exact st.at f
theorem Inv.drawsK {X : Cx} {pins : List (Addr × Obj)} {σ : L2.St} {H : Hp} {s : Shared} {k : SrcK} {it a : Addr} {i : Nat} {xs : List V} (I : Inv X pins σ H s) (hh : X.A.handled = none) (hs : SqK X.K H k a xs) (hne : a ≠ it) (st : IterK s.heap k it a i) :
    ∃ (its : List Value) (St : Nat → Heap → Prop), Vals xs its ∧ Draws X.prog X.w X.A.in1 it [it, a] its.length (fun i v => its[i]? = some v) St ∧ St i s.heap ∧ ∀ i h, St i h → IterK h k it a i := by
  cases k with
  | l =>
    obtain ⟨its, rv, p, _⟩ := I.list hs
    have D := Draws.list (prog := X.prog) (w := X.w) (A := X.A.in1) hh it a hne its.toArray
    exact ⟨its, fun i h => h.IsListIter it a i ∧ h.IsList a its.toArray, rv, by simpa using D, ⟨st, p.isList⟩, fun _ _ q => q.1⟩
  | t =>
    obtain ⟨its, rv, p, _⟩ := I.tuple hs
    have D := Draws.tuple (prog := X.prog) (w := X.w) (A := X.A.in1) hh it a hne its.toArray
    exact ⟨its, fun i h => h.IsTupleIter it a i ∧ h.IsTuple a its.toArray, rv, by simpa using D, ⟨st, p⟩, fun _ _ q => q.1⟩
theorem Inv.sqK_inj {X : Cx} {pins : List (Addr × Obj)} {σ : L2.St} {H : Hp} {s : Shared} {k : SrcK} {a : Addr} {xs ys : List V} (I : Inv X pins σ H s) (h1 : SqK X.K H k a xs) (h2 : SqK X.K H k a ys) : xs = ys := by
  cases k with
  | l => exact I.list_inj h1 h2
  | t => exact I.tuple_inj h1 h2
def ItzK (K : PySem.W.Frag) (k1 : SrcK) (a : Addr) (k2 : SrcK) (b : Addr) : It :=
  ⟨fun i H => ∃ (xs ys : List V) (x y : V), SqK K H k1 a xs ∧ SqK K H k2 b ys ∧ xs[i]? = some x ∧ ys[i]? = some y,
    fun i H v H' => ∃ T x y, v = .ref T ∧ H T = none ∧ H' = upd H T (.tup [x, y]) ∧ (∀ xs, SqK K H k1 a xs → xs[i]? = some x) ∧ ∀ ys, SqK K H k2 b ys → ys[i]? = some y,
    fun i H => ∃ xs ys : List V, SqK K H k1 a xs ∧ SqK K H k2 b ys ∧ i ≤ xs.length ∧ i ≤ ys.length ∧ (xs.length = i ∨ ys.length = i)⟩
theorem turn_zipK {P : Program} {w : World} {K : PySem.W.Frag} {elts : List Expr} {kk : Nat} {tpos : Pos} {k1 k2 : SrcK} {a b z TI TO i1 i2 : Addr} (D : ZipSep2 z TI TO i1 i2 [i1, a] [i2, b]) (n1 : a ≠ i1) (n2 : b ≠ i2) :
    Turn P w K (.Tuple elts kk tpos) (ItzK K k1 a k2 b) [z, TI, TO, i1, i2] z (fun i h => IsZip h z TI TO .none ∧ IsPair h TI (.ref i1) (.ref i2) ∧ (∃ x y, IsPair h TO x y) ∧ IterK h k1 i1 a i ∧ IterK h k2 i2 b i) where
  mem := by simp
  obj := fun i h ⟨hz, hTI, ⟨x, y, hTO⟩, s1, s2⟩ c hc => by
    simp only [List.mem_cons, List.not_mem_nil, or_false] at hc
    rcases hc with rfl | rfl | rfl | rfl | rfl
    · exact ⟨_, hz, fun v q => nomatch q⟩
    · exact ⟨_, hTI, fun v q => nomatch q⟩
    · exact ⟨_, hTO, fun v q => nomatch q⟩
    · exact s1.obj
    · exact s2.obj
  keep := fun i h h' ⟨hz, hTI, ⟨x, y, hTO⟩, s1, s2⟩ k =>
    ⟨k z (by simp) _ hz, k TI (by simp) _ hTI, ⟨x, y, k TO (by simp) _ hTO⟩, s1.at' fun o q => k i1 (by simp) o q, s2.at' fun o q => k i2 (by simp) o q⟩
  item := by
    intro X hP hw hK hc i pins s σ H E I hf ⟨hz, hTI, ⟨x0, y0, hTO⟩, s1, s2⟩ ⟨xs, ys, x, y, hqx, hqy, hx, hy⟩
    subst hP; subst hw; subst hK
    obtain ⟨its1, St1, rv1, D1, t1, u1⟩ := I.drawsK (I.ok.hd hc) hqx n1 s1
    obtain ⟨its2, St2, rv2, D2, t2, u2⟩ := I.drawsK (I.ok.hd hc) hqy n2 s2
    obtain ⟨v1, e1, r1⟩ := rv1.get hx
    obtain ⟨v2, e2, r2⟩ := rv2.get hy
    have l1 := (List.getElem?_eq_some_iff.mp e1).1
    have l2 := (List.getElem?_eq_some_iff.mp e2).1
    have zl : z < s.heap.objs.size := Heap.lt_size hz
    refine wpAny_pyNext_zipD2_item D D1 D2 hz hTI hTO t1 t2 l1 l2 fun x1 x2 h' tk p1 p2 z' TO' t1' t2' hT hsz hk => ?_
    have q1 : x1 = v1 := Option.some.inj (p1.symm.trans e1)
    have q2 : x2 = v2 := Option.some.inj (p2.symm.trans e2)
    subst q1; subst q2
    refine ⟨_, rfl, ?_⟩
    refine wpAny_letOwnedTupleGo_zip (s := { s with heap := h', toks := tk }) z' fun h'' z'' sb => ?_
    have old : ∀ c o, c ∉ [z, TI, TO, i1, i2] → s.heap.get? c = some o → h''.get? c = some o := fun c o hcn q => by
      simp only [List.mem_cons, List.not_mem_nil, or_false, not_or] at hcn
      exact (sb.2 c hcn.1).trans (hk c o hcn.1 hcn.2.2.1 hcn.2.2.2.1 hcn.2.2.2.2 q)
    have hT2 : h''.get? s.heap.objs.size = some { cls := .type "tuple", data := .seq #[x1, x2] } := (sb.2 _ (Nat.ne_of_gt zl)).trans hT
    have new : ObjOk X.prog X.w (upd H s.heap.objs.size (.tup [x, y])) h'' s.heap.objs.size (.tup [x, y]) := ⟨by show 2 ≤ sizeLine; decide, [x1, x2], .cons r1 (.cons r2 .nil), ⟨_, hT2, rfl, _, rfl⟩⟩
    refine ⟨.ref s.heap.objs.size, _, I.turnedNew (t' := tk) old hf (Nat.le_refl _) new, rfl, ⟨_, x, y, rfl, I.hok.fresh (Nat.le_refl _), rfl, fun l hl => by rw [I.sqK_inj hl hqx]; exact hx, fun l hl => by rw [I.sqK_inj hl hqy]; exact hy⟩, ⟨z'', ?_, ⟨x1, x2, ?_⟩, ?_, ?_⟩, fun c hcm => ?_⟩
    · exact (sb.2 _ D.TIz).trans (hk _ _ D.TIz D.TITO D.TIi1 D.TIi2 hTI)
    · exact (sb.2 _ D.TOz).trans TO'
    · exact (u1 _ _ t1').at' fun o q => (sb.2 _ (Ne.symm D.zi1)).trans q
    · exact (u2 _ _ t2').at' fun o q => (sb.2 _ (Ne.symm D.zi2)).trans q
    · have lt : c < s.heap.objs.size := by
        simp only [List.mem_cons, List.not_mem_nil, or_false] at hcm
        rcases hcm with rfl | rfl | rfl | rfl | rfl
        · exact zl
        · exact Heap.lt_size hTI
        · exact Heap.lt_size hTO
        · obtain ⟨o, q, _⟩ := s1.obj; exact Heap.lt_size q
        · obtain ⟨o, q, _⟩ := s2.obj; exact Heap.lt_size q
      rw [upd_ne (Nat.ne_of_lt lt)]
      exact (hf c hcm).1
  done := by
    intro X hP hw hK hc i pins s σ H E I hf ⟨hz, hTI, ⟨x0, y0, hTO⟩, s1, s2⟩ ⟨xs, ys, hqx, hqy, hi1, hi2, hend⟩
    subst hP; subst hw; subst hK
    obtain ⟨its1, St1, rv1, D1, t1, u1⟩ := I.drawsK (I.ok.hd hc) hqx n1 s1
    obtain ⟨its2, St2, rv2, D2, t2, u2⟩ := I.drawsK (I.ok.hd hc) hqy n2 s2
    have l1 := rv1.length
    have l2 := rv2.length
    refine wpAny_pyNext_zipD2_end D D1 D2 hz hTI hTO t1 t2 (by omega) (by omega) (by omega) fun h' tk hk => ⟨rfl, ?_⟩
    refine I.turnedL (t' := tk) (ch := [z, TI, TO, i1, i2]) (fun c o hcn q => ?_) hf
    simp only [List.mem_cons, List.not_mem_nil, or_false, not_or] at hcn
    exact hk c o hcn.1 hcn.2.2.1 hcn.2.2.2.1 hcn.2.2.2.2 q
  self := fun A i s Q E st h => wpAny_pyIter_zip st.1 h
def iZipK (K : PySem.W.Frag) (ta : TA) : TI := fun σ H R => ta σ H fun vs H1 => ∃ (k1 : SrcK) (a : Addr) (k2 : SrcK) (b : Addr) (xs ys : List V), vs = [.ref a, .ref b] ∧ SqK K H1 k1 a xs ∧ SqK K H1 k2 b ys ∧ R (ItzK K k1 a k2 b) H1
def objK : SrcK → Addr → Obj
  | .l, a => { cls := .type "list_iterator", data := .fields #[.ref a, .int 0 0] }
  | .t, a => { cls := .type "tuple_iterator", data := .fields #[.ref a, .int 0 0] }
theorem Inv.beginsK {X : Cx} {pins : List (Addr × Obj)} {σ : L2.St} {H : Hp} {s : Shared} {k : SrcK} {a : Addr} {xs : List V} (I : Inv X pins σ H s) (hs : SqK X.K H k a xs) : a < s.heap.objs.size ∧ ∃ P : Heap → Prop, Begins (.ref a) (objK k a) P ∧ P s.heap := by
  cases k with
  | l =>
    obtain ⟨its, rv, p, _⟩ := I.list hs
    exact ⟨p.lt, _, begins_list a its.toArray, p.isList⟩
  | t =>
    obtain ⟨its, rv, p, _⟩ := I.tuple hs
    obtain ⟨o, e, _⟩ := id p
    exact ⟨Heap.lt_size e, _, begins_tuple a its.toArray, p⟩
theorem iterK_new {h : Heap} {k : SrcK} {it a : Addr} (e : h.get? it = some (objK k a)) : IterK h k it a 0 := by
  cases k <;> exact ⟨_, e, rfl, rfl⟩
theorem pi_zipK {X : Cx} {e e2 : Expr} {ta : TA} {p pos tpos : Pos} {elts : List Expr} {kk : Nat} (hg : Gl X "zip") (hm : X.mg "zip" = none) (ha : PA X [e, e2] ta)
    (hs : starEach [e, e2] X.env = (false, eval e X.env) :: starEach [e2] X.env := by rfl) (hpl : (backTo pos (starEach [e2] X.env)).any (·.1) = false := by rfl) : PI X (.Tuple elts kk tpos) (.Call (.Name "zip" p) [e, e2] [] pos) (iZipK X.K ta) := by
  refine ⟨fun pins s σ H R I h => Call_ (ld_blt I hg hm PyProof.Rows.boot_zip (PyProof.Rows.callWith_type1 (thn (ha.run pos pins s σ H _ I h) fun us s1 q0 => ?_) hs hpl))⟩
  obtain ⟨vs, H1, I1, r1, k1, a, k2, b, xs, ys, ex, hqx, hqy, q⟩ := q0
  subst ex
  obtain ⟨u1, u2, eu, ru1, ru2⟩ := vals2 r1
  subst eu
  cases ru1; cases ru2
  obtain ⟨la, P1, B1, p1⟩ := I1.beginsK hqx
  obtain ⟨lb, P2, B2, p2⟩ := I1.beginsK hqy
  refine zip_begins2 B1 B2 p1 p2 fun h' hz hTI hTO h1 h2 hsz hk => wpAny_pyIter_zip hz ?_
  have I2 : Inv X pins σ H1 { s1 with heap := h' } := I1.kept (t' := s1.toks) hk
  have D := zip_sep2 (N := s1.heap.objs.size) (fp1 := [a]) (fp2 := [b]) (fun c hc => by simp at hc; rw [hc]; exact la) (fun c hc => by simp at hc; rw [hc]; exact lb)
  refine ⟨s1.heap.objs.size + 4, [s1.heap.objs.size + 4, s1.heap.objs.size + 2, s1.heap.objs.size + 3, s1.heap.objs.size, s1.heap.objs.size + 1], _, _, H1, rfl, I2, turn_zipK D (Nat.ne_of_lt la) (Nat.ne_of_lt (Nat.lt_succ_of_lt lb)), ⟨hz, hTI, ⟨_, _, hTO⟩, iterK_new h1, iterK_new h2⟩, fun c hcm => ?_, q⟩
  have hle : s1.heap.objs.size ≤ c := by
    simp only [List.mem_cons, List.not_mem_nil, or_false] at hcm
    rcases hcm with rfl | rfl | rfl | rfl | rfl <;> omega
  exact I1.fpOk hle (I1.hok.fresh hle)
end L2
namespace VI
open PySem PySem.Spec PyProof.Rows L2
section
variable {W : Wd} {X : Cx} {vs : List (Option V)} {Wx : WX}
def zipL : List D → List D → List D
  | a :: as, b :: bs => .tup [a, b] :: zipL as bs
  | _, _ => []
def zipI : List O → Option (List D)
  | [a, b] => match elemsO a, elemsO b with
    | some l, some m => some (zipL l m)
    | _, _ => none
  | _ => none
theorem zipL_len : ∀ (l m : List D), (zipL l m).length = min l.length m.length
  | a :: l, b :: m => by simp [zipL, zipL_len l m] <;> omega
  | [], _ => by simp [zipL]
  | _ :: _, [] => by simp [zipL]
theorem zipL_get : ∀ (l m : List D) (i : Nat) (d : D), (zipL l m)[i]? = some d → ∃ a b, l[i]? = some a ∧ m[i]? = some b ∧ d = .tup [a, b]
  | a :: l, b :: m, 0, d, h => by simp [zipL] at h; exact ⟨a, b, by simp, by simp, h.symm⟩
  | a :: l, b :: m, i + 1, d, h => by
    obtain ⟨x, y, h1, h2, h3⟩ := zipL_get l m i d (by simpa [zipL] using h)
    exact ⟨x, y, by simpa using h1, by simpa using h2, h3⟩
  | [], _, i, d, h => by simp [zipL] at h
  | _ :: _, [], i, d, h => by simp [zipL] at h
theorem elems_repK {H0 H : Hp} {v : V} {o : O} {L : List Addr} {l : List D} (ex : Ex H0 H) (h : RepO W H0 H v o L) (e : elemsO o = some l) : ∃ k p us, v = .ref p ∧ SqK W.K H k p us ∧ RepFs W H0 us l := by
  obtain ⟨p, us, a, b | b, c⟩ := elems_rep ex h e
  · exact ⟨.l, p, us, a, b, c⟩
  · exact ⟨.t, p, us, a, b, c⟩
def kindO : O → SrcK
  | .pure (.tup _) => .t
  | _ => .l
theorem elems_kind {H0 H : Hp} {v : V} {o : O} {L : List Addr} {l : List D} (ex : Ex H0 H) (h : RepO W H0 H v o L) (e : elemsO o = some l) : ∃ p us, v = .ref p ∧ SqK W.K H (kindO o) p us ∧ RepFs W H0 us l := by
  unfold elemsO at e
  split at e <;> cases e
  · exact sql_of ex h (.inl rfl)
  · exact sql_of ex h (.inr rfl)
  · exact sqt_of ex h
theorem RepOs.two {H0 H : Hp} {us : List V} {o o' : O} {L : List Addr} (h : RepOs W H0 H us [o, o'] L) : ∃ v w L1 L2, us = [v, w] ∧ RepO W H0 H v o L1 ∧ RepO W H0 H w o' L2 := by
  cases h with
  | cons h r =>
    obtain ⟨w, e, h2⟩ := r.one
    subst e
    exact ⟨_, w, _, _, rfl, h, h2⟩
theorem feeds_zip {Hb Hm : Hp} {Lm : List Addr} {p q : Addr} {o o' : O} {l m : List D} (e1 : elemsO o = some l) (e2 : elemsO o' = some m) : Feeds W Hb Hm Lm (ItzK W.K (kindO o) p (kindO o') q) [.ref p, .ref q] [o, o'] (zipL l m) := by
  intro i H0 H La _ ex ro _
  obtain ⟨v, w, L1, L2, e3, r1, r2⟩ := ro.two
  cases e3
  obtain ⟨p', us, e4, s1, rf1⟩ := elems_kind ex r1 e1
  obtain ⟨q', ws, e5, s2, rf2⟩ := elems_kind ex r2 e2
  cases e4; cases e5
  refine ⟨fun d hd => ?_, fun hl => ⟨us, ws, s1, s2, ?_⟩⟩
  · obtain ⟨a, b, h1, h2, h3⟩ := zipL_get l m i d hd
    obtain ⟨va, g1, ra⟩ := rf1.get h1
    obtain ⟨vb, g2, rb⟩ := rf2.get h2
    subst h3
    refine ⟨⟨us, ws, va, vb, s1, s2, g1, g2⟩, fun x H' ⟨T, x1, x2, e6, hT, e7, f1, f2⟩ => ?_⟩
    subst e6; subst e7
    have := f1 us s1
    rw [g1] at this; cases this
    have := f2 ws s2
    rw [g2] at this; cases this
    have st := step_new0 (o := .tup [va, vb]) ex hT
    exact ⟨_, st, .tup (SqT.of upd_same) (RepFs.mono st.ex0 (.cons ra (.cons rb .nil)))⟩
  · rw [rf1.len, rf2.len]
    rw [zipL_len] at hl
    omega
theorem si_zip {k : Nat} {e e2 : Expr} {A B : E} {p pos tpos : Pos} {elts : List Expr} {kk : Nat} (cx : Ctx W k Wx X) (hg : Gl X "zip") (hm : X.mg "zip" = none) (ha : SA W vs Wx X [e, e2] (evs [A, B]))
    (hs : starEach [e, e2] X.env = (false, eval e X.env) :: starEach [e2] X.env := by rfl) (hpl : (backTo pos (starEach [e2] X.env)).any (·.1) = false := by rfl) : SI W vs Wx X (.Tuple elts kk tpos) (.Call (.Name "zip" p) [e, e2] [] pos) (evs [A, B]) zipI := by
  refine pi_weak (pi_zipK hg hm ha hs hpl) fun σ H Q q => tI_args q fun us os ds H1 H01 La ro ex e k => ?_
  unfold zipI at e
  split at e
  · split at e
    · rename_i l m e1 e2
      cases e
      obtain ⟨v, w, L1, L2, e3, r1, r2⟩ := ro.two
      obtain ⟨p', us1, e4, s1, rf1⟩ := elems_kind ex r1 e1
      obtain ⟨q', us2, e5, s2, rf2⟩ := elems_kind ex r2 e2
      subst e3; subst e4; subst e5
      rw [cx.K]
      exact ⟨_, p', _, q', us1, us2, rfl, s1, s2, k _ (feeds_zip e1 e2)⟩
    · cases e
  · cases e
/-! ### enumerate(a list) -/
def enumL (l : List D) : List D := (List.range l.length).map fun (i : Nat) => D.tup [.int (i : Nat), l.getD i .non]
def enumI : List O → Option (List D)
  | [.pure (.lst l)] => some (enumL l)
  | [.lst l] => some (enumL l)
  | _ => none
theorem feeds_enum {Hb Hm : Hp} {Lm : List Addr} {p : Addr} {o : O} {l : List D} (ho : o = .pure (.lst l) ∨ o = .lst l) : Feeds W Hb Hm Lm (Ite W.K p) [.ref p] [o] (enumL l) := by
  intro i H0 H La _ ex ro _
  obtain ⟨v, e1, ro⟩ := ro.one
  cases e1
  obtain ⟨p', us, e2, hs, rf⟩ := sql_of ex ro ho
  cases e2
  refine ⟨fun d hd => ?_, fun hl => ⟨us, hs, by rw [rf.len, hl]; simp [enumL]⟩⟩
  unfold enumL at hd
  rw [List.getElem?_map] at hd
  obtain ⟨j, hj, e3⟩ := Option.map_eq_some_iff.mp hd
  have hi : i < l.length := by
    have := (List.getElem?_eq_some_iff.mp hj).1
    simpa using this
  rw [List.getElem?_range hi] at hj
  cases hj
  have hli : l[i]? = some (l.getD i .non) := by rw [List.getD_eq_getElem?_getD, List.getElem?_eq_getElem hi]; rfl
  obtain ⟨v, hv, rv⟩ := rf.get hli
  refine ⟨⟨us, v, hs, hv⟩, fun x H' ⟨T, x1, e6, hT, e7, f1⟩ => ?_⟩
  subst e6; subst e7; subst e3
  have := f1 us hs
  rw [hv] at this; cases this
  have st := step_new0 (o := .tup [.int (i : Nat), v]) ex hT
  exact ⟨_, st, .tup (SqT.of upd_same) (RepFs.mono st.ex0 (.cons (.int _) (.cons rv .nil)))⟩
theorem si_enum {k : Nat} {e : Expr} {A : E} {p pos tpos : Pos} {elts : List Expr} {kk : Nat} (cx : Ctx W k Wx X) (hg : Gl X "enumerate") (hm : X.mg "enumerate" = none) (ha : SA W vs Wx X [e] (evs [A]))
    (hs : starEach [e] X.env = [(false, eval e X.env)] := by rfl) : SI W vs Wx X (.Tuple elts kk tpos) (.Call (.Name "enumerate" p) [e] [] pos) (evs [A]) enumI := by
  refine pi_weak (pi_enum hg hm ha hs) fun σ H Q q => tI_args q fun us os ds H1 H01 La ro ex e k => ?_
  have lst : ∀ (o : O) l, os = [o] → (o = .pure (.lst l) ∨ o = .lst l) → ds = enumL l → ∃ a xs, us = [.ref a] ∧ SqL X.K H1 a xs ∧ Q (Ite X.K a) H1 := by
    intro o l e1 e2 e3
    subst e1; subst e3
    obtain ⟨v, e4, r1⟩ := ro.one
    obtain ⟨p', us1, e5, s1, rf1⟩ := sql_of ex r1 e2
    subst e4; subst e5
    rw [cx.K]
    exact ⟨p', us1, rfl, s1, k _ (feeds_enum e2)⟩
  unfold enumI at e
  split at e
  · cases e; exact lst _ _ rfl (.inl rfl) rfl
  · cases e; exact lst _ _ rfl (.inr rfl) rfl
  · cases e
/-! ### range(a, b, c) -/
def rng3 : List O → Option (List D)
  | [.pure (.int i), .pure (.int j), .pure (.int c)] => if c ≠ 0 ∧ c.natAbs < 1073741824 ∧ Builtin.Range.small i j c = true ∧ 0 ≤ Builtin.Range.rangeSize i j c then some ((List.range (Builtin.Range.rangeSize i j c).toNat).map fun (k : Nat) => D.int (i + (k : Int) * c)) else none
  | _ => none
theorem feeds_range3 {Hb Hm : Hp} {Lm : List Addr} {us : List V} {os : List O} {lo c : Int} {m : Nat} : Feeds W Hb Hm Lm (Itc lo c m) us os ((List.range m).map fun (k : Nat) => D.int (lo + (k : Int) * c)) := by
  intro i H0 H La _ ex ro _
  refine ⟨fun d hd => ?_, fun hl => (show m ≤ i by rw [hl]; simp)⟩
  rw [List.getElem?_map] at hd
  obtain ⟨k, hk, e⟩ := Option.map_eq_some_iff.mp hd
  have hi : i < m := by
    have := (List.getElem?_eq_some_iff.mp hk).1
    simpa using this
  rw [List.getElem?_range hi] at hk
  cases hk
  exact ⟨hi, fun x H' ⟨e1, e2⟩ => by subst e1; subst e2; subst e; exact ⟨H0, Step.refl (Sep.nil ex), .int _⟩⟩
theorem si_range3 {tg a b c : Expr} {A B C : E} {p pos : Pos} (hg : Gl X "range") (hm : X.mg "range" = none) (ha : SA W vs Wx X [a, b, c] (evs [A, B, C]))
    (run : ∀ {ta : TA}, PA X [a, b, c] ta → PI X tg (.Call (.Name "range" p) [a, b, c] [] pos) (iRng3 ta)) : SI W vs Wx X tg (.Call (.Name "range" p) [a, b, c] [] pos) (evs [A, B, C]) rng3 := by
  refine pi_weak (run ha) fun σ H Q q => tI_args q fun us os ds H1 H01 La ro ex e k => ?_
  unfold rng3 at e
  split at e
  · rename_i i j c
    split at e
    · rename_i hb
      cases e
      cases ro with
      | cons h1 r =>
        cases h1 with
        | pure f1 =>
          cases f1
          have := r.int2
          subst this
          refine ⟨i, j, c, (Builtin.Range.rangeSize i j c).toNat, rfl, ⟨hb.1, hb.2.1, hb.2.2.1, ?_⟩, k _ feeds_range3⟩
          first | omega | (rw [Int.toNat_of_nonneg hb.2.2.2])
    · cases e
  · cases e
/-! ### names of the module, of types -/
theorem se_glob {x : Str} {pos : Pos} {d : D} (hg : Gl X x) (h : ∃ u v, X.mg x = some u ∧ RelV v u ∧ ∀ H, RepF W H v d) (hd : (x == ("__debug__" : Str)) = false := by decide) : SE W vs Wx X (.Name x pos) (cst d) := by
  obtain ⟨u, v, hm, r, f⟩ := h
  exact se_tC (pe_glob hg hm r hd) f
theorem se_tyn {x : Str} {T : String} {pos : Pos} (hg : Gl X x) (hm : X.mg x = none) (hv : bootBuiltins x = some (.type T)) (hn : x ≠ "__name__" := by decide) (hd : (x == ("__debug__" : Str)) = false := by decide) : SE W vs Wx X (.Name x pos) (cst (.ty T)) :=
  se_tC (pe_bltn (v := .ty T) hg hm hv rfl hn hd) fun _ => .ty T
end
end VI
namespace VI
open PySem PySem.Spec PyProof.Rows L2
/-! ## what the combinators are worth, step by step -/
section
variable {α β : Type}
theorem bind_ok (a : α) (g : G) (k : α → G → Res β) : (Res.ok a g).bind k = k a g := rfl
theorem bind_exc (x : D) (g : G) (k : α → G → Res β) : (Res.exc x g : Res α).bind k = .exc x g := rfl
theorem bind_stuck (k : α → G → Res β) : (Res.stuck : Res α).bind k = .stuck := rfl
end
theorem cst_a (d : D) (g : G) : cst d g = .ok (.val (.pure d)) g := rfl
def nmC (i : Nat) (g : G) : Option Slot → Res R
  | some (.par (.pure d)) => .ok (.val (.pure d)) g
  | some (.loc (.pure d)) => .ok (.val (.pure d)) g
  | some (.par .hole) => .stuck
  | some (.loc .hole) => .stuck
  | some (.par _) => .ok (.slot i) g
  | some (.loc _) => .ok (.slot i) g
  | _ => .stuck
theorem nm_a (i : Nat) (g : G) : nm i g = nmC i g g[i]? := by
  unfold nm nmC
  rcases g[i]? with _ | s
  · rfl
  · cases s with
    | un => rfl
    | par o => cases o <;> rfl
    | loc o => cases o <;> rfl
section
variable (i : Nat) (g : G) (d : D) (l : List D) (m : List (D × D)) (c : Str) (fs : List (Str × O))
theorem nm_pd : nmC i g (some (.par (.pure d))) = .ok (.val (.pure d)) g := rfl
theorem nm_ld : nmC i g (some (.loc (.pure d))) = .ok (.val (.pure d)) g := rfl
theorem nm_pl : nmC i g (some (.par (.lst l))) = .ok (.slot i) g := rfl
theorem nm_ll : nmC i g (some (.loc (.lst l))) = .ok (.slot i) g := rfl
theorem nm_pm : nmC i g (some (.par (.dic m))) = .ok (.slot i) g := rfl
theorem nm_lm : nmC i g (some (.loc (.dic m))) = .ok (.slot i) g := rfl
theorem nm_pi : nmC i g (some (.par (.ins c fs))) = .ok (.slot i) g := rfl
theorem nm_li : nmC i g (some (.loc (.ins c fs))) = .ok (.slot i) g := rfl
theorem ob_val (o : O) : ob g (.val o) = some o := rfl
theorem ob_slot : ob g (.slot i) = (g[i]?).bind Slot.obj := rfl
theorem obj_p (o : O) : Slot.obj (.par o) = some o := rfl
theorem obj_l (o : O) : Slot.obj (.loc o) = some o := rfl
def setC (i : Nat) (o : O) (g : G) : Option Slot → G
  | some sl => g.set i (sl.wth o)
  | none => g
theorem setO_a (o : O) : setO g i o = setC i o g g[i]? := rfl
theorem setC_p (o o' : O) : setC i o g (some (.par o')) = g.set i (.par o) := rfl
theorem setC_l (o o' : O) : setC i o g (some (.loc o')) = g.set i (.loc o) := rfl
/-! freezing -/
def frzB (d : D) : Option (List D × G) → Option (List D × G)
  | some (ds, g) => some (d :: ds, g)
  | none => none
def frzV (o : O) (rs : List R) (g : G) : Bool → Option (List D × G)
  | true => frzB o.er (frzs rs g)
  | false => none
def frzC (i : Nat) (rs : List R) (g : G) : Option O → Option (List D × G)
  | some o => frzV o rs (setO g i (.pure o.er)) o.full
  | none => none
theorem frzs_nil : frzs [] g = some ([], g) := rfl
theorem frzs_val (o : O) (rs : List R) : frzs (.val o :: rs) g = frzV o rs g o.full := by
  rw [frzs]; cases o.full <;> simp [frzV, frzB]
  cases frzs rs g <;> rfl
theorem frzs_slot (rs : List R) : frzs (.slot i :: rs) g = frzC i rs g (ob g (.slot i)) := by
  rw [frzs]
  cases ob g (.slot i) with
  | none => rfl
  | some o =>
    simp only [frzC]
    cases o.full <;> simp [frzV, frzB]
    cases frzs rs _ <;> rfl
theorem frzC_s (o : O) (rs : List R) : frzC i rs g (some o) = frzV o rs (setO g i (.pure o.er)) o.full := rfl
theorem frzV_t (o : O) (rs : List R) : frzV o rs g true = frzB o.er (frzs rs g) := rfl
theorem frzB_s (ds : List D) : frzB d (some (ds, g)) = some (d :: ds, g) := rfl
theorem full_p : (O.pure d).full = true := rfl
theorem full_l : (O.lst l).full = true := rfl
theorem full_m : (O.dic m).full = true := rfl
theorem full_i : (O.ins c fs).full = O.fullF fs := by simp [O.full]
theorem fullF_n : O.fullF [] = true := by simp [O.fullF]
theorem fullF_c (o : O) : O.fullF ((c, o) :: fs) = (o.full && O.fullF fs) := by simp [O.fullF]
theorem er_p : (O.pure d).er = d := by simp [O.er]
theorem er_l : (O.lst l).er = .lst l := by simp [O.er]
theorem er_m : (O.dic m).er = .dic m := by simp [O.er]
theorem er_i : (O.ins c fs).er = .ins c (O.erF fs) := by simp [O.er]
theorem erF_n : O.erF [] = [] := by simp [O.erF]
theorem erF_c (o : O) : O.erF ((c, o) :: fs) = (c, o.er) :: O.erF fs := by simp [O.erF]
/-! lists of values -/
def evC2 (r : R) (rs : List R) (g : G) : Res (List R) := .ok (r :: rs) g
def evC (as : List E) (r : R) (g : G) : Res (List R) := (evs as g).bind (evC2 r)
theorem evs_n : evs [] g = .ok [] g := rfl
theorem evs_c (a : E) (as : List E) : evs (a :: as) g = (a g).bind (evC as) := rfl
theorem evC_a (as : List E) (r : R) : evC as r g = (evs as g).bind (evC2 r) := rfl
theorem evC2_a (r : R) (rs : List R) : evC2 r rs g = .ok (r :: rs) g := rfl
def outE : Option O → G → Res R
  | some o, g => .ok (.val o) g
  | none, _ => .stuck
theorem outE_s (o : O) : outE (some o) g = .ok (.val o) g := rfl
/-! two-place, one-place -/
def binF (f : O → O → Option O) : Option O → Option O → G → Res R
  | some x, some y, g => outE (f x y) g
  | _, _, _ => .stuck
def binD (f : O → O → Option O) (r s : R) (g : G) : Res R := binF f (ob g r) (ob g s) g
def binC (f : O → O → Option O) (b : E) (r : R) (g : G) : Res R := (b g).bind (binD f r)
theorem bin_a (f : O → O → Option O) (a b : E) : bin f a b g = (a g).bind (binC f b) := by
  unfold bin
  congr 1
  funext r g1
  unfold binC
  congr 1
  funext s g2
  unfold binD
  cases ob g2 r <;> cases ob g2 s <;> try rfl
  rename_i x y
  simp only [binF]
  cases f x y <;> rfl
theorem binC_a (f : O → O → Option O) (b : E) (r : R) : binC f b r g = (b g).bind (binD f r) := rfl
theorem binD_a (f : O → O → Option O) (r s : R) : binD f r s g = binF f (ob g r) (ob g s) g := rfl
theorem binF_s (f : O → O → Option O) (x y : O) : binF f (some x) (some y) g = outE (f x y) g := rfl
def unaF (f : O → Option O) : Option O → G → Res R
  | some x, g => outE (f x) g
  | _, _ => .stuck
def unaD (f : O → Option O) (r : R) (g : G) : Res R := unaF f (ob g r) g
theorem una_a (f : O → Option O) (a : E) : una f a g = (a g).bind (unaD f) := by
  unfold una
  congr 1
  funext r g1
  unfold unaD
  cases ob g1 r <;> try rfl
  rename_i x
  simp only [unaF]
  cases f x <;> rfl
theorem unaD_a (f : O → Option O) (r : R) : unaD f r g = unaF f (ob g r) g := rfl
theorem unaF_s (f : O → Option O) (x : O) : unaF f (some x) g = outE (f x) g := rfl
/-! tuples, lists -/
def tupH (g : G) (ds : List D) : Bool → Res R
  | true => .ok (.val (.pure (.tup ds))) g
  | false => .stuck
def tupG : Option (List D × G) → Res R
  | some (ds, g) => tupH g ds (decide (ds.length ≤ 1000))
  | none => .stuck
def tupC (rs : List R) (g : G) : Res R := tupG (frzs rs g)
theorem tupE_a (A : G → Res (List R)) : tupE A g = (A g).bind tupC := by
  unfold tupE
  congr 1
  funext rs g1
  unfold tupC
  rcases frzs rs g1 with _ | ⟨ds, g2⟩
  · rfl
  · simp only [tupG]
    by_cases h : ds.length ≤ 1000 <;> simp [h, tupH]
theorem tupC_a (rs : List R) : tupC rs g = tupG (frzs rs g) := rfl
theorem tupG_s (ds : List D) : tupG (some (ds, g)) = tupH g ds (decide (ds.length ≤ 1000)) := rfl
theorem tupH_t (ds : List D) : tupH g ds true = .ok (.val (.pure (.tup ds))) g := rfl
def lstH (g : G) (ds : List D) : Bool → Res R
  | true => .ok (.val (.lst ds)) g
  | false => .stuck
def lstG : Option (List D × G) → Res R
  | some (ds, g) => lstH g ds (decide (ds.length ≤ 1000))
  | none => .stuck
def lstC (rs : List R) (g : G) : Res R := lstG (frzs rs g)
theorem lstE_a (A : G → Res (List R)) : lstE A g = (A g).bind lstC := by
  unfold lstE
  congr 1
  funext rs g1
  unfold lstC
  rcases frzs rs g1 with _ | ⟨ds, g2⟩
  · rfl
  · simp only [lstG]
    by_cases h : ds.length ≤ 1000 <;> simp [h, lstH]
theorem lstC_a (rs : List R) : lstC rs g = lstG (frzs rs g) := rfl
theorem lstG_s (ds : List D) : lstG (some (ds, g)) = lstH g ds (decide (ds.length ≤ 1000)) := rfl
theorem lstH_t (ds : List D) : lstH g ds true = .ok (.val (.lst ds)) g := rfl
/-! calls -/
def takB (o : O) : Option (List O × G) → Option (List O × G)
  | some (os, g) => some (o :: os, g)
  | none => none
def takC (i : Nat) (rs : List R) (g : G) : Option O → Option (List O × G)
  | some .hole => none
  | some o => takB o (takes rs (setO g i .hole))
  | none => none
theorem takes_n : takes [] g = some ([], g) := rfl
theorem takes_v (o : O) (rs : List R) : takes (.val o :: rs) g = takB o (takes rs g) := by
  rw [takes]; cases takes rs g <;> rfl
theorem takes_s (rs : List R) : takes (.slot i :: rs) g = takC i rs g (ob g (.slot i)) := by
  rw [takes]
  cases ob g (.slot i) with
  | none => rfl
  | some o => cases o <;> first | rfl | (simp only [takC, takB]; cases takes rs (setO g i .hole) <;> rfl)
theorem takC_p (rs : List R) : takC i rs g (some (.pure d)) = takB (.pure d) (takes rs (setO g i .hole)) := rfl
theorem takC_l (rs : List R) : takC i rs g (some (.lst l)) = takB (.lst l) (takes rs (setO g i .hole)) := rfl
theorem takC_m (rs : List R) : takC i rs g (some (.dic m)) = takB (.dic m) (takes rs (setO g i .hole)) := rfl
theorem takC_i (rs : List R) : takC i rs g (some (.ins c fs)) = takB (.ins c fs) (takes rs (setO g i .hole)) := rfl
theorem takB_s (o : O) (os : List O) : takB o (some (os, g)) = some (o :: os, g) := rfl
theorem puts_n : puts [] [] g = g := rfl
theorem puts_v (o o' : O) (rs : List R) (os : List O) : puts (.val o :: rs) (o' :: os) g = puts rs os g := rfl
theorem puts_s (o : O) (rs : List R) (os : List O) : puts (.slot i :: rs) (o :: os) g = puts rs os (setO g i o) := rfl
def callD (rs : List R) (g : G) : CRes → Res R
  | .ok o os => .ok (.val o) (puts rs os g)
  | .exc x os => .exc x (puts rs os g)
  | .stuck => .stuck
def callC (C : Callee) (f : Nat) (rs : List R) : Option (List O × G) → Res R
  | some (os, g) => callD rs g (C f os)
  | none => .stuck
theorem callA_a (C : Callee) (f : Nat) (As : List E) : callA C f As g = (evs As g).bind (callR C f) := rfl
theorem callR_a (C : Callee) (f : Nat) (rs : List R) : callR C f rs g = callC C f rs (takes rs g) := by
  unfold callR
  rcases takes rs g with _ | ⟨os, g2⟩
  · rfl
  · simp only [callC]
    cases C f os <;> rfl
theorem callC_s (C : Callee) (f : Nat) (rs : List R) (os : List O) : callC C f rs (some (os, g)) = callD rs g (C f os) := rfl
theorem callD_o (rs : List R) (o : O) (os : List O) : callD rs g (.ok o os) = .ok (.val o) (puts rs os g) := rfl
theorem callD_x (rs : List R) (x : D) (os : List O) : callD rs g (.exc x os) = .exc x (puts rs os g) := rfl
/-! built-ins -/
def obsB (o : Option O) : Option (List O) → Option (List O)
  | some os => o.map fun o => o :: os
  | none => none
def obsL (g : G) : List R → Option (List O)
  | [] => some []
  | r :: rs => obsB (ob g r) (obsL g rs)
theorem obsL_eq : ∀ rs : List R, rs.mapM (ob g) = obsL g rs
  | [] => rfl
  | r :: rs => by
    simp only [List.mapM_cons, obsL, obsL_eq rs]
    cases ob g r <;> cases obsL g rs <;> rfl
theorem obsL_n : obsL g [] = some [] := rfl
theorem obsL_c (r : R) (rs : List R) : obsL g (r :: rs) = obsB (ob g r) (obsL g rs) := rfl
theorem obsB_s (o : O) (os : List O) : obsB (some o) (some os) = some (o :: os) := rfl
def bltC (f : List O → Option O) : Option (List O) → G → Res R
  | some os, g => outE (f os) g
  | none, _ => .stuck
theorem bltE_a (f : List O → Option O) (As : List E) : bltE f As g = (evs As g).bind (bltR f) := rfl
theorem bltR_a (f : List O → Option O) (rs : List R) : bltR f rs g = bltC f (obsL g rs) g := by
  unfold bltR
  rw [obsL_eq]
  cases obsL g rs with
  | none => rfl
  | some os => simp only [bltC]; cases f os <;> rfl
theorem bltC_s (f : List O → Option O) (os : List O) : bltC f (some os) g = outE (f os) g := rfl
def bmD (f : List O → Option O) (r : R) (rs : List R) (g : G) : Res R := bltR f (r :: rs) g
def bmC (ty : String) (f : List O → Option O) (As : List E) (r : R) (g : G) : Res R := if (ob g r).bind tyO = some ty then (evs As g).bind (bmD f r) else .stuck
theorem bmE_a (ty : String) (f : List O → Option O) (A : E) (As : List E) : bmE ty f A As g = (A g).bind (bmC ty f As) := by
  unfold bmE
  congr 1
  funext r g1
  unfold bmC
  cases (ob g1 r).bind tyO with
  | none => simp
  | some t => by_cases h : t = ty <;> simp [h] <;> rfl
theorem bmC_a (ty : String) (f : List O → Option O) (As : List E) (r : R) : bmC ty f As r g = if (ob g r).bind tyO = some ty then (evs As g).bind (bmD f r) else .stuck := rfl
theorem bmD_a (f : List O → Option O) (r : R) (rs : List R) : bmD f r rs g = bltR f (r :: rs) g := rfl
theorem ty_s (s : Str) : tyO (.pure (.str s)) = some "str" := rfl
theorem ty_t : tyO (.pure (.tup l)) = some "tuple" := rfl
theorem ty_n (j : Int) : tyO (.pure (.int j)) = some "int" := rfl
theorem ty_b (b : Bool) : tyO (.pure (.bl b)) = some "bool" := rfl
theorem ty_0 : tyO (.pure .non) = some "NoneType" := rfl
theorem ty_pl : tyO (.pure (.lst l)) = some "list" := rfl
theorem ty_l : tyO (.lst l) = some "list" := rfl
theorem ty_pm : tyO (.pure (.dic m)) = some "dict" := rfl
theorem ty_m : tyO (.dic m) = some "dict" := rfl
/-! methods that change -/
def mutI (r : R) : Option (O × D) → G → Res R
  | some (o', d), g => .ok (.val (.pure d)) (putR g r o')
  | none, _ => .stuck
def mutH (f : O → List D → Option (O × D)) (r : R) (ds : List D) (g : G) : Option O → Res R
  | some o => mutI r (f o ds) g
  | none => .stuck
def mutG (f : O → List D → Option (O × D)) (r : R) : Option (List D × G) → Res R
  | some (ds, g) => mutH f r ds g (ob g r)
  | none => .stuck
def mutD (f : O → List D → Option (O × D)) (r : R) (rs : List R) (g : G) : Res R := mutG f r (frzs rs g)
def mutC (ty : String) (f : O → List D → Option (O × D)) (As : List E) (r : R) (g : G) : Res R := if (ob g r).bind tyO = some ty then (evs As g).bind (mutD f r) else .stuck
theorem mutE_a (ty : String) (f : O → List D → Option (O × D)) (A : E) (As : List E) : mutE ty f A As g = (A g).bind (mutC ty f As) := by
  unfold mutE
  congr 1
  funext r g1
  unfold mutC
  cases (ob g1 r).bind tyO with
  | none => simp
  | some t =>
    by_cases h : t = ty
    · simp only [h, if_true]
      congr 1
      funext rs g2
      unfold mutD
      rcases frzs rs g2 with _ | ⟨ds, g3⟩
      · rfl
      · simp only [mutG]
        cases ob g3 r with
        | none => rfl
        | some o =>
          simp only [mutH]
          rcases f o ds with _ | ⟨o', d⟩ <;> rfl
    · simp [h]
theorem mutC_a (ty : String) (f : O → List D → Option (O × D)) (As : List E) (r : R) : mutC ty f As r g = if (ob g r).bind tyO = some ty then (evs As g).bind (mutD f r) else .stuck := rfl
theorem mutD_a (f : O → List D → Option (O × D)) (r : R) (rs : List R) : mutD f r rs g = mutG f r (frzs rs g) := rfl
theorem mutG_s (f : O → List D → Option (O × D)) (r : R) (ds : List D) : mutG f r (some (ds, g)) = mutH f r ds g (ob g r) := rfl
theorem mutH_s (f : O → List D → Option (O × D)) (r : R) (ds : List D) (o : O) : mutH f r ds g (some o) = mutI r (f o ds) g := rfl
theorem mutI_s (r : R) (o : O) : mutI r (some (o, d)) g = .ok (.val (.pure d)) (putR g r o) := rfl
theorem putR_s (o : O) : putR g (.slot i) o = setO g i o := rfl
theorem putR_v (o o' : O) : putR g (.val o) o' = g := rfl
theorem app_a (h : l.length < 16777216) : appO (.lst l) [d] = some (.lst (l ++ [d]), .non) := by simp [appO, h]
/-! o[i] = v -/
def stI (r : R) : Option O → G → Res Fl
  | some o, g => .ok .next (putR g r o)
  | none, _ => .stuck
def stH (r : R) (di dv : D) (g : G) : Option O → Res Fl
  | some o => stI r (stO o di dv) g
  | none => .stuck
def stG (r : R) : Option (List D × G) → Res Fl
  | some ([dv, di], g) => stH r di dv g (ob g r)
  | _ => .stuck
def stD (rv r ri : R) (g : G) : Res Fl := stG r (frzs [rv, ri] g)
def stC2 (Ai : E) (rv r : R) (g : G) : Res Fl := (Ai g).bind (stD rv r)
def stC (Ao Ai : E) (rv : R) (g : G) : Res Fl := (Ao g).bind (stC2 Ai rv)
theorem stS_a (Ao Ai Av : E) : stS Ao Ai Av g = (Av g).bind (stC Ao Ai) := by
  unfold stS
  congr 1
  funext rv g1
  unfold stC
  congr 1
  funext r g2
  unfold stC2
  congr 1
  funext ri g3
  unfold stD
  rcases frzs [rv, ri] g3 with _ | ⟨ds, g4⟩
  · rfl
  · rcases ds with _ | ⟨a, _ | ⟨b, _ | _⟩⟩ <;> try rfl
    simp only [stG]
    cases ob g4 r with
    | none => rfl
    | some o => simp only [stH]; cases stO o b a <;> rfl
theorem stC_a (Ao Ai : E) (rv : R) : stC Ao Ai rv g = (Ao g).bind (stC2 Ai rv) := rfl
theorem stC2_a (Ai : E) (rv r : R) : stC2 Ai rv r g = (Ai g).bind (stD rv r) := rfl
theorem stD_a (rv r ri : R) : stD rv r ri g = stG r (frzs [rv, ri] g) := rfl
theorem stG_s (r : R) (dv di : D) : stG r (some ([dv, di], g)) = stH r di dv g (ob g r) := rfl
theorem stH_s (r : R) (di dv : D) (o : O) : stH r di dv g (some o) = stI r (stO o di dv) g := rfl
theorem stI_s (r : R) (o : O) : stI r (some o) g = .ok .next (putR g r o) := rfl
/-! slices -/
def intC : R → G → Res (Option Int)
  | .val (.pure (.int i)), g => .ok (some i) g
  | _, _ => .stuck
theorem noE_a : noE g = .ok none g := rfl
theorem intE_a (A : E) : intE A g = (A g).bind intC := by
  unfold intE; congr 1; funext r g1; rcases r with o | _ | _
  · cases o with
    | pure d => cases d <;> rfl
    | _ => rfl
  · rfl
  · rfl
theorem intC_s (j : Int) : intC (.val (.pure (.int j))) g = .ok (some j) g := rfl
def slI (lo hi : Option Int) : Option O → G → Res R
  | some x, g => outE (slO lo hi x) g
  | none, _ => .stuck
def slD (r : R) (lo hi : Option Int) (g : G) : Res R := slI lo hi (ob g r) g
def slC2 (hi : EO) (r : R) (lo : Option Int) (g : G) : Res R := (hi g).bind (slD r lo)
def slC (lo hi : EO) (r : R) (g : G) : Res R := (lo g).bind (slC2 hi r)
theorem slE_a (A : E) (lo hi : EO) : slE A lo hi g = (A g).bind (slC lo hi) := by
  unfold slE
  congr 1
  funext r g1
  unfold slC
  congr 1
  funext l g2
  unfold slC2
  congr 1
  funext h g3
  unfold slD
  cases ob g3 r with
  | none => rfl
  | some x => simp only [slI]; cases slO l h x <;> rfl
theorem slC_a (lo hi : EO) (r : R) : slC lo hi r g = (lo g).bind (slC2 hi r) := rfl
theorem slC2_a (hi : EO) (r : R) (lo : Option Int) : slC2 hi r lo g = (hi g).bind (slD r lo) := rfl
theorem slD_a (r : R) (lo hi : Option Int) : slD r lo hi g = slI lo hi (ob g r) g := rfl
theorem slI_s (lo hi : Option Int) (x : O) : slI lo hi (some x) g = outE (slO lo hi x) g := rfl
theorem slO_l (lo hi : Option Int) : slO lo hi (.lst l) = some (.lst (cutL l lo hi)) := rfl
theorem slO_pl (lo hi : Option Int) : slO lo hi (.pure (.lst l)) = some (.lst (cutL l lo hi)) := rfl
theorem slO_t (lo hi : Option Int) : slO lo hi (.pure (.tup l)) = some (.pure (.tup (cutL l lo hi))) := rfl
theorem slO_s (lo hi : Option Int) (s : Str) (h : s.length ≤ 16777216) : slO lo hi (.pure (.str s)) = some (.pure (.str ⟨(cutL s.cps.toList lo hi).toArray⟩)) := by simp [slO, h]
theorem revO_l : revO (.lst l) = some (.lst l.reverse) := rfl
theorem revO_p : revO (.pure (.lst l)) = some (.lst l.reverse) := rfl
/-! tests -/
def truD : Option Bool → G → Res Bool
  | some b, g => .ok b g
  | none, _ => .stuck
def truC (r : R) (g : G) : Res Bool := truD ((ob g r).bind truO) g
theorem truT_a (A : E) : truT A g = (A g).bind truC := by
  unfold truT
  congr 1
  funext r g1
  unfold truC
  cases (ob g1 r).bind truO <;> rfl
theorem truC_a (r : R) : truC r g = truD ((ob g r).bind truO) g := rfl
theorem truD_s (b : Bool) : truD (some b) g = .ok b g := rfl
theorem tru_b (b : Bool) : truO (.pure (.bl b)) = some b := rfl
theorem tru_i (j : Int) : truO (.pure (.int j)) = some (j != 0) := rfl
theorem tru_n : truO (.pure .non) = some false := rfl
theorem tru_l : truO (.lst l) = some (!l.isEmpty) := rfl
theorem tru_pl : truO (.pure (.lst l)) = some (!l.isEmpty) := rfl
theorem tru_t : truO (.pure (.tup l)) = some (!l.isEmpty) := rfl
def blC : R → G → Res Bool
  | .val (.pure (.bl b)), g => .ok b g
  | _, _ => .stuck
theorem blT_a (A : E) : blT A g = (A g).bind blC := by
  unfold blT; congr 1; funext r g1; rcases r with o | _ | _
  · cases o with
    | pure d => cases d <;> rfl
    | _ => rfl
  · rfl
  · rfl
theorem blC_s (b : Bool) : blC (.val (.pure (.bl b))) g = .ok b g := rfl
def andC (b : G → Res Bool) : Bool → G → Res Bool
  | true, g => b g
  | false, g => .ok false g
def orC (b : G → Res Bool) : Bool → G → Res Bool
  | true, g => .ok true g
  | false, g => b g
def notC (c : Bool) (g : G) : Res Bool := .ok (!c) g
theorem andT_a (a b : G → Res Bool) : andT a b g = (a g).bind (andC b) := by
  unfold andT; congr 1; funext c g1; cases c <;> rfl
theorem orT_a (a b : G → Res Bool) : orT a b g = (a g).bind (orC b) := by
  unfold orT; congr 1; funext c g1; cases c <;> rfl
theorem notT_a (a : G → Res Bool) : notT a g = (a g).bind notC := rfl
theorem andC_t (b : G → Res Bool) : andC b true g = b g := rfl
theorem andC_f (b : G → Res Bool) : andC b false g = .ok false g := rfl
theorem orC_t (b : G → Res Bool) : orC b true g = .ok true g := rfl
theorem orC_f (b : G → Res Bool) : orC b false g = b g := rfl
theorem notC_a (c : Bool) : notC c g = .ok (!c) g := rfl
def bl1 (c : Bool) (g : G) : Res R := .ok (.val (.pure (.bl c))) g
def andEC (b : E) : Bool → G → Res R
  | true, g => (blT b g).bind bl1
  | false, g => .ok (.val (.pure (.bl false))) g
def orEC (b : E) : Bool → G → Res R
  | true, g => .ok (.val (.pure (.bl true))) g
  | false, g => (blT b g).bind bl1
def notEC (c : Bool) (g : G) : Res R := .ok (.val (.pure (.bl (!c)))) g
theorem bl1_a (c : Bool) : bl1 c g = .ok (.val (.pure (.bl c))) g := rfl
theorem andE_a (a b : E) : andE a b g = (blT a g).bind (andEC b) := by
  unfold andE; congr 1; funext c g1; cases c <;> rfl
theorem orE_a (a b : E) : orE a b g = (blT a g).bind (orEC b) := by
  unfold orE; congr 1; funext c g1; cases c <;> rfl
theorem notE_a (a : E) : notE a g = (blT a g).bind notEC := rfl
theorem andEC_t (b : E) : andEC b true g = (blT b g).bind bl1 := rfl
theorem andEC_f (b : E) : andEC b false g = .ok (.val (.pure (.bl false))) g := rfl
theorem orEC_t (b : E) : orEC b true g = .ok (.val (.pure (.bl true))) g := rfl
theorem orEC_f (b : E) : orEC b false g = (blT b g).bind bl1 := rfl
theorem notEC_a (c : Bool) : notEC c g = .ok (.val (.pure (.bl (!c)))) g := rfl
def ifEC (a b : E) : Bool → G → Res R
  | true, g => a g
  | false, g => b g
theorem ifE_a (t : G → Res Bool) (a b : E) : ifE t a b g = (t g).bind (ifEC a b) := by
  unfold ifE; congr 1; funext c g1; cases c <;> rfl
theorem ifEC_t (a b : E) : ifEC a b true g = a g := rfl
theorem ifEC_f (a b : E) : ifEC a b false g = b g := rfl
/-! statements -/
def seqC (b : S) : Fl → G → Res Fl
  | .next, g => b g
  | f, g => .ok f g
theorem seqS_a (a b : S) : seqS a b g = (a g).bind (seqC b) := by
  unfold seqS; congr 1; funext f g1; cases f <;> rfl
theorem seqC_n (b : S) : seqC b .next g = b g := rfl
theorem seqC_r (b : S) (o : O) : seqC b (.ret o) g = .ok (.ret o) g := rfl
theorem seqC_b (b : S) : seqC b .brk g = .ok .brk g := rfl
theorem seqC_c (b : S) : seqC b .cont g = .ok .cont g := rfl
theorem nextS_a : nextS g = .ok .next g := rfl
def drpC (_ : R) (g : G) : Res Fl := .ok .next g
theorem dropS_a (A : E) : dropS A g = (A g).bind drpC := rfl
theorem drpC_a (r : R) : drpC r g = .ok .next g := rfl
def ifC (a b : S) : Bool → G → Res Fl
  | true, g => a g
  | false, g => b g
theorem ifS_a (t : G → Res Bool) (a b : S) : ifS t a b g = (t g).bind (ifC a b) := by
  unfold ifS; congr 1; funext c g1; cases c <;> rfl
theorem ifC_t (a b : S) : ifC a b true g = a g := rfl
theorem ifC_f (a b : S) : ifC a b false g = b g := rfl
def retF : Option (List D × G) → Res Fl
  | some ([d], g) => .ok (.ret (.pure d)) g
  | _ => .stuck
def retC (i : Nat) (g : G) : Option Slot → Res Fl
  | some (.loc o) => .ok (.ret o) (g.set i (.loc .hole))
  | _ => retF (frzs [.slot i] g)
theorem retS_a (A : E) : retS A g = (A g).bind retR := rfl
theorem retR_v (o : O) : retR (.val o) g = .ok (.ret o) g := rfl
theorem retR_s : retR (.slot i) g = retC i g g[i]? := by
  unfold retR retC
  simp only
  rcases g[i]? with _ | s
  · rcases frzs [.slot i] g with _ | ⟨_ | ⟨_, _ | _⟩, _⟩ <;> rfl
  · cases s <;> first | rfl | (rcases frzs [.slot i] g with _ | ⟨_ | ⟨_, _ | _⟩, _⟩ <;> rfl)
theorem retC_l (o : O) : retC i g (some (.loc o)) = .ok (.ret o) (g.set i (.loc .hole)) := rfl
theorem retC_p (o : O) : retC i g (some (.par o)) = retF (frzs [.slot i] g) := rfl
theorem retF_s : retF (some ([d], g)) = .ok (.ret (.pure d)) g := rfl
def stoC (i : Nat) (o : O) (g : G) : Option Slot → Option G
  | some .un => some (g.set i (.loc o))
  | some (.par (.pure _)) => some (g.set i (.loc o))
  | some (.loc _) => some (g.set i (.loc o))
  | _ => none
theorem storeS_a (o : O) : storeS i o g = stoC i o g g[i]? := by
  unfold storeS stoC
  rcases g[i]? with _ | s
  · rfl
  · cases s with
    | un => rfl
    | par o => cases o <;> rfl
    | loc o => cases o <;> rfl
theorem stoC_u (o : O) : stoC i o g (some .un) = some (g.set i (.loc o)) := rfl
theorem stoC_pd (o : O) : stoC i o g (some (.par (.pure d))) = some (g.set i (.loc o)) := rfl
theorem stoC_lh (o : O) : stoC i o g (some (.loc .hole)) = some (g.set i (.loc o)) := rfl
theorem stoC_ld (o : O) : stoC i o g (some (.loc (.pure d))) = some (g.set i (.loc o)) := rfl
theorem stoC_ll (o : O) : stoC i o g (some (.loc (.lst l))) = some (g.set i (.loc o)) := rfl
theorem stoC_lm (o : O) : stoC i o g (some (.loc (.dic m))) = some (g.set i (.loc o)) := rfl
theorem stoC_li (o : O) : stoC i o g (some (.loc (.ins c fs))) = some (g.set i (.loc o)) := rfl
def asgB : Option G → Res Fl
  | some g => .ok .next g
  | none => .stuck
def asgF (i : Nat) : Option (List D × G) → Res Fl
  | some ([d], g) => asgB (storeS i (.pure d) g)
  | _ => .stuck
theorem asgS_a (A : E) : asgS i A g = (A g).bind (asgR i) := rfl
theorem asgR_v (o : O) : asgR i (.val o) g = asgB (storeS i o g) := by
  unfold asgR; simp only; cases storeS i o g <;> rfl
theorem asgR_s (j : Nat) : asgR i (.slot j) g = asgF i (frzs [.slot j] g) := by
  unfold asgR; simp only
  rcases frzs [.slot j] g with _ | ⟨_ | ⟨a, _ | _⟩, g2⟩ <;> rfl
theorem asgB_s : asgB (some g) = .ok .next g := rfl
theorem asgF_s : asgF i (some ([d], g)) = asgB (storeS i (.pure d) g) := rfl
theorem nmT_a : nmT i d g = storeS i (.pure d) g := rfl
theorem tupT_a (ts : List T) : tupT ts (.tup l) g = foldT l ts g := rfl
def folC (ds : List D) (ts : List T) : Option G → Option G
  | some g => foldT ds ts g
  | none => none
theorem foldT_c (ds : List D) (t : T) (ts : List T) : foldT (d :: ds) (t :: ts) g = folC ds ts (t d g) := by
  rw [foldT]; cases t d g <;> rfl
theorem folC_s (ds : List D) (ts : List T) : folC ds ts (some g) = foldT ds ts g := rfl
theorem foldT_n : foldT [] [] g = some g := rfl
def setD (t : T) : Option (List D × G) → Res Fl
  | some ([d], g) => asgB (t d g)
  | _ => .stuck
def setSC (t : T) (r : R) (g : G) : Res Fl := setD t (frzs [r] g)
theorem setS_a (t : T) (A : E) : setS t A g = (A g).bind (setSC t) := by
  unfold setS
  congr 1
theorem setSC_a (t : T) (r : R) : setSC t r g = setD t (frzs [r] g) := rfl
theorem setD_s (t : T) : setD t (some ([d], g)) = asgB (t d g) := rfl
/-! loops -/
def forF (t : T) (body : S) (rs : List R) (os : List O) (g : G) : Option (List D) → Res Fl
  | some ds => forR t body rs os ds g
  | none => .stuck
def forD (items : List O → Option (List D)) (t : T) (body : S) (rs : List R) : Option (List O × G) → Res Fl
  | some (os, g) => forF t body rs os g (items os)
  | none => .stuck
def forC (items : List O → Option (List D)) (t : T) (body : S) (rs : List R) (g : G) : Res Fl := forD items t body rs (takes rs g)
theorem forS_a (A : G → Res (List R)) (items : List O → Option (List D)) (t : T) (body : S) : forS A items t body g = (A g).bind (forC items t body) := by
  unfold forS
  congr 1
theorem forC_a (items : List O → Option (List D)) (t : T) (body : S) (rs : List R) : forC items t body rs g = forD items t body rs (takes rs g) := rfl
theorem forD_s (items : List O → Option (List D)) (t : T) (body : S) (rs : List R) (os : List O) : forD items t body rs (some (os, g)) = forF t body rs os g (items os) := rfl
theorem forF_s (t : T) (body : S) (rs : List R) (os : List O) (ds : List D) : forF t body rs os g (some ds) = forR t body rs os ds g := rfl
def lokC (rs : List R) (os : List O) (g g' : G) : Option G := if rs.all (isPar g') then some (puts rs os (unlkG g g')) else none
def forQ (t : T) (body : S) (rs : List R) (os : List O) (ds : List D) (g : G) : Bool → Res Fl
  | true => (loopS t body ds (lockG g)).mapG (lokC rs os g)
  | false => loopS t body ds g
theorem forR_a (t : T) (body : S) (rs : List R) (os : List O) (ds : List D) : forR t body rs os ds g = forQ t body rs os ds g (hasSlot rs) := by
  unfold forR; cases hasSlot rs <;> rfl
theorem forQ_f (t : T) (body : S) (rs : List R) (os : List O) (ds : List D) : forQ t body rs os ds g false = loopS t body ds g := rfl
theorem forQ_t (t : T) (body : S) (rs : List R) (os : List O) (ds : List D) : forQ t body rs os ds g true = (loopS t body ds (lockG g)).mapG (lokC rs os g) := rfl
theorem has_n : hasSlot [] = false := rfl
theorem has_s (rs : List R) : hasSlot (.slot i :: rs) = true := rfl
theorem has_v (o : O) (rs : List R) : hasSlot (.val o :: rs) = hasSlot rs := rfl
def mapD {α : Type} (a : α) : Option G → Res α
  | some g => .ok a g
  | none => .stuck
theorem mapG_o {α : Type} (f : G → Option G) (a : α) : (Res.ok a g).mapG f = mapD a (f g) := by
  simp only [Res.mapG]; cases f g <;> rfl
theorem mapD_s {α : Type} (a : α) : mapD a (some g) = .ok a g := rfl
theorem lokC_a (rs : List R) (os : List O) (g' : G) : lokC rs os g g' = if rs.all (isPar g') then some (puts rs os (unlkG g g')) else none := rfl
def lopC (t : T) (body : S) (ds : List D) : Fl → G → Res Fl
  | .next, g => loopS t body ds g
  | .cont, g => loopS t body ds g
  | .brk, g => .ok .next g
  | .ret o, g => .ok (.ret o) g
def lopD (t : T) (body : S) (ds : List D) : Option G → Res Fl
  | some g => (body g).bind (lopC t body ds)
  | none => .stuck
theorem loop_n (t : T) (body : S) : loopS t body [] g = .ok .next g := rfl
theorem loop_c (t : T) (body : S) (ds : List D) : loopS t body (d :: ds) g = lopD t body ds (t d g) := by
  rw [loopS]
  cases t d g with
  | none => rfl
  | some g1 => simp only [lopD]; congr 1; funext f g2; cases f <;> rfl
theorem lopD_s (t : T) (body : S) (ds : List D) : lopD t body ds (some g) = (body g).bind (lopC t body ds) := rfl
theorem lopC_n (t : T) (body : S) (ds : List D) : lopC t body ds .next g = loopS t body ds g := rfl
theorem lopC_c (t : T) (body : S) (ds : List D) : lopC t body ds .cont g = loopS t body ds g := rfl
theorem lopC_b (t : T) (body : S) (ds : List D) : lopC t body ds .brk g = .ok .next g := rfl
theorem lopC_r (t : T) (body : S) (ds : List D) (o : O) : lopC t body ds (.ret o) g = .ok (.ret o) g := rfl
/-! comprehensions -/
def cmpW (rs : List R) (os : List O) (own : List Nat) (g : G) : Option (List D × G) → Res R
  | some (acc, g3) => .ok (.val (.lst acc)) (puts rs os (restG own g g3))
  | none => .stuck
def cmpV (own : List Nat) (t : T) (cond : G → Res Bool) (elt : E) (rs : List R) (os : List O) (g : G) (ds : List D) : Bool → Res R
  | true => cmpW rs os own g (compL own t cond elt ds g [])
  | false => .stuck
def isSl (i : Nat) : R → Bool
  | .slot j => j == i
  | .sub j _ => j == i
  | _ => false
def freeR (own : List Nat) (rs : List R) : Bool := own.all fun i => !rs.any (isSl i)
def cmpF (own : List Nat) (t : T) (cond : G → Res Bool) (elt : E) (rs : List R) (os : List O) (g : G) : Option (List D) → Res R
  | some ds => cmpV own t cond elt rs os g ds (own.all (isPure g) && freeR own rs)
  | none => .stuck
def cmpD (items : List O → Option (List D)) (own : List Nat) (t : T) (cond : G → Res Bool) (elt : E) (rs : List R) : Option (List O × G) → Res R
  | some (os, g) => cmpF own t cond elt rs os g (items os)
  | none => .stuck
def cmpC (items : List O → Option (List D)) (own : List Nat) (t : T) (cond : G → Res Bool) (elt : E) (rs : List R) (g : G) : Res R := cmpD items own t cond elt rs (takes rs g)
theorem compE_a (A : G → Res (List R)) (items : List O → Option (List D)) (own : List Nat) (t : T) (cond : G → Res Bool) (elt : E) : compE A items own t cond elt g = (A g).bind (cmpC items own t cond elt) := by
  unfold compE
  congr 1
  funext rs g1
  unfold cmpC
  rcases takes rs g1 with _ | ⟨os, g2⟩
  · rfl
  · simp only [cmpD]
    cases items os with
    | none => rfl
    | some ds =>
      simp only [cmpF]
      show (if (own.all (isPure g2) && freeR own rs) = true then _ else _) = _
      cases h : (own.all (isPure g2) && freeR own rs)
      · simp [cmpV]
      · simp only [if_true, cmpV]
        rcases compL own t cond elt ds g2 [] with _ | ⟨a, b⟩ <;> rfl
theorem cmpC_a (items : List O → Option (List D)) (own : List Nat) (t : T) (cond : G → Res Bool) (elt : E) (rs : List R) : cmpC items own t cond elt rs g = cmpD items own t cond elt rs (takes rs g) := rfl
theorem cmpD_s (items : List O → Option (List D)) (own : List Nat) (t : T) (cond : G → Res Bool) (elt : E) (rs : List R) (os : List O) : cmpD items own t cond elt rs (some (os, g)) = cmpF own t cond elt rs os g (items os) := rfl
theorem cmpF_s (own : List Nat) (t : T) (cond : G → Res Bool) (elt : E) (rs : List R) (os : List O) (ds : List D) : cmpF own t cond elt rs os g (some ds) = cmpV own t cond elt rs os g ds (own.all (isPure g) && freeR own rs) := rfl
theorem cmpV_t (own : List Nat) (t : T) (cond : G → Res Bool) (elt : E) (rs : List R) (os : List O) (ds : List D) : cmpV own t cond elt rs os g ds true = cmpW rs os own g (compL own t cond elt ds g []) := rfl
theorem cmpW_s (rs : List R) (os : List O) (own : List Nat) (acc : List D) (g3 : G) : cmpW rs os own g (some (acc, g3)) = .ok (.val (.lst acc)) (puts rs os (restG own g g3)) := rfl
def cplY (own : List Nat) (t : T) (cond : G → Res Bool) (elt : E) (ds acc : List D) : Option (List D × G) → Option (List D × G)
  | some ([y], g) => if acc.length < 16777216 ∧ own.all (isPure g) then compL own t cond elt ds g (acc ++ [y]) else none
  | _ => none
def cplX (own : List Nat) (t : T) (cond : G → Res Bool) (elt : E) (ds acc : List D) : Res R → Option (List D × G)
  | .ok r g => cplY own t cond elt ds acc (frzs [r] g)
  | _ => none
def cplC (own : List Nat) (t : T) (cond : G → Res Bool) (elt : E) (ds acc : List D) : Res Bool → Option (List D × G)
  | .ok true g => cplX own t cond elt ds acc (elt g)
  | .ok false g => if own.all (isPure g) then compL own t cond elt ds g acc else none
  | _ => none
def cplT (own : List Nat) (t : T) (cond : G → Res Bool) (elt : E) (ds acc : List D) : Option G → Option (List D × G)
  | some g => cplC own t cond elt ds acc (cond g)
  | none => none
theorem compL_n (own : List Nat) (t : T) (cond : G → Res Bool) (elt : E) (acc : List D) : compL own t cond elt [] g acc = some (acc, g) := rfl
theorem compL_c (own : List Nat) (t : T) (cond : G → Res Bool) (elt : E) (ds acc : List D) : compL own t cond elt (d :: ds) g acc = cplT own t cond elt ds acc (t d (wipeG own g)) := by
  rw [compL]
  cases t d (wipeG own g) with
  | none => rfl
  | some g1 =>
    simp only [cplT]
    cases cond g1 with
    | ok b g2 =>
      cases b with
      | false => rfl
      | true =>
        simp only [cplC]
        cases elt g2 with
        | ok r g3 =>
          simp only [cplX]
          rcases frzs [r] g3 with _ | ⟨_ | ⟨a, _ | _⟩, g4⟩ <;> rfl
        | _ => rfl
    | _ => rfl
theorem cplT_s (own : List Nat) (t : T) (cond : G → Res Bool) (elt : E) (ds acc : List D) : cplT own t cond elt ds acc (some g) = cplC own t cond elt ds acc (cond g) := rfl
theorem cplC_t (own : List Nat) (t : T) (cond : G → Res Bool) (elt : E) (ds acc : List D) : cplC own t cond elt ds acc (.ok true g) = cplX own t cond elt ds acc (elt g) := rfl
theorem cplC_f (own : List Nat) (t : T) (cond : G → Res Bool) (elt : E) (ds acc : List D) : cplC own t cond elt ds acc (.ok false g) = if own.all (isPure g) then compL own t cond elt ds g acc else none := rfl
theorem cplX_o (own : List Nat) (t : T) (cond : G → Res Bool) (elt : E) (ds acc : List D) (r : R) : cplX own t cond elt ds acc (.ok r g) = cplY own t cond elt ds acc (frzs [r] g) := rfl
theorem cplY_s (own : List Nat) (t : T) (cond : G → Res Bool) (elt : E) (ds acc : List D) (y : D) : cplY own t cond elt ds acc (some ([y], g)) = if acc.length < 16777216 ∧ own.all (isPure g) then compL own t cond elt ds g (acc ++ [y]) else none := rfl
/-! operations -/
theorem add_i (x y : Int) : addO (.pure (.int x)) (.pure (.int y)) = some (.pure (.int (x + y))) := rfl
theorem sub_i (x y : Int) : subO (.pure (.int x)) (.pure (.int y)) = some (.pure (.int (x - y))) := rfl
theorem mul_i (x y : Int) (h : mulC x y = true) : mulO (.pure (.int x)) (.pure (.int y)) = some (.pure (.int (x * y))) := by simp [mulO, h]
theorem mod_i (x y : Int) (h : 0 < y) : modO (.pure (.int x)) (.pure (.int y)) = some (.pure (.int (x % y))) := by simp [modO, intO, h]
theorem div_i (x y : Int) (h : 0 < y) (h2 : y < 18446744073709551616) : fdivO (.pure (.int x)) (.pure (.int y)) = some (.pure (.int (x / y))) := by
  simp [fdivO, intO, h, h2]
theorem mulC_l (x y : Int) (h : -18446744073709551616 < x) (h2 : x < 18446744073709551616) : mulC x y = true := by
  have : x.natAbs < 2 ^ 64 := by omega
  simp [mulC, this]
theorem mulC_r (x y : Int) (h : -18446744073709551616 < y) (h2 : y < 18446744073709551616) : mulC x y = true := by
  have : y.natAbs < 2 ^ 64 := by omega
  simp [mulC, this]
theorem lt_i (x y : Int) : ltO (.pure (.int x)) (.pure (.int y)) = some (.pure (.bl (decide (x < y)))) := rfl
theorem le_i (x y : Int) : leO (.pure (.int x)) (.pure (.int y)) = some (.pure (.bl (decide (x ≤ y)))) := rfl
theorem gt_i (x y : Int) : gtO (.pure (.int x)) (.pure (.int y)) = some (.pure (.bl (decide (y < x)))) := rfl
theorem ge_i (x y : Int) : geO (.pure (.int x)) (.pure (.int y)) = some (.pure (.bl (decide (y ≤ x)))) := rfl
theorem eq_i (x y : Int) : eqO (.pure (.int x)) (.pure (.int y)) = some (.pure (.bl (decide (x = y)))) := rfl
theorem ne_i (x y : Int) : neO (.pure (.int x)) (.pure (.int y)) = some (.pure (.bl (!decide (x = y)))) := rfl
theorem eq_s (x y : Str) : eqO (.pure (.str x)) (.pure (.str y)) = some (.pure (.bl (decide (x = y)))) := rfl
theorem ne_s (x y : Str) : neO (.pure (.str x)) (.pure (.str y)) = some (.pure (.bl (!decide (x = y)))) := rfl
theorem ix_l (j : Int) : ixO (.lst l) (.pure (.int j)) = (atI l j).map .pure := rfl
theorem ix_pl (j : Int) : ixO (.pure (.lst l)) (.pure (.int j)) = (atI l j).map .pure := rfl
theorem ix_t (j : Int) : ixO (.pure (.tup l)) (.pure (.int j)) = (atI l j).map .pure := rfl
theorem len_l : lenO [.lst l] = some (.pure (.int (l.length : Nat))) := rfl
theorem len_pl : lenO [.pure (.lst l)] = some (.pure (.int (l.length : Nat))) := rfl
theorem len_t : lenO [.pure (.tup l)] = some (.pure (.int (l.length : Nat))) := rfl
theorem tup_l : tupleO [.lst l] = some (.pure (.tup l)) := rfl
theorem tup_pl : tupleO [.pure (.lst l)] = some (.pure (.tup l)) := rfl
theorem tup_t : tupleO [.pure (.tup l)] = some (.pure (.tup l)) := rfl
theorem list_l : listO [.lst l] = some (.lst l) := rfl
theorem list_pl : listO [.pure (.lst l)] = some (.lst l) := rfl
theorem list_t : listO [.pure (.tup l)] = some (.lst l) := rfl
theorem max_i (x y : Int) : maxO [.pure (.int x), .pure (.int y)] = some (.pure (.int (if y > x then y else x))) := rfl
theorem min_i (x y : Int) : minO [.pure (.int x), .pure (.int y)] = some (.pure (.int (if y < x then y else x))) := rfl
theorem isN_f : isNonO false (.pure d) (.pure .non) = some (.pure (.bl d.isN)) := by simp [isNonO]
theorem isN_t : isNonO true (.pure d) (.pure .non) = some (.pure (.bl (!d.isN))) := by simp [isNonO]
theorem n_n : D.isN .non = true := rfl
theorem n_s (s : Str) : D.isN (.str s) = false := rfl
theorem n_i (j : Int) : D.isN (.int j) = false := rfl
theorem n_t : D.isN (.tup l) = false := rfl
theorem n_l : D.isN (.lst l) = false := rfl
theorem it_l : itemsO [.lst l] = some l := rfl
theorem it_pl : itemsO [.pure (.lst l)] = some l := rfl
theorem it_t : itemsO [.pure (.tup l)] = some l := rfl
theorem addL (l' : List D) (h : l.length + l'.length ≤ 16777216) : addO (.lst l) (.lst l') = some (.lst (l ++ l')) := by simp [addO, h]
theorem addLp (l' : List D) (h : l.length + l'.length ≤ 16777216) : addO (.pure (.lst l)) (.lst l') = some (.lst (l ++ l')) := by simp [addO, h]
theorem rng1_a (j : Int) (h : 0 ≤ j) (h2 : j < 1000000) : rng1 [.pure (.int j)] = some ((List.range j.toNat).map fun (k : Nat) => D.int (k : Int)) := by
  simp only [rng1]
  rw [if_pos (by omega)]
theorem atI_nat {α : Type} (l : List α) (k : Nat) : atI l (k : Int) = l[k]? := by
  unfold atI ixN
  rw [if_pos (by omega)]
  by_cases h : k < l.length
  · rw [if_pos (by omega)]; simp
  · rw [if_neg (by omega)]
    simp at h
    simp [h]
theorem atI_lt {α : Type} (l : List α) (k : Int) (h : 0 ≤ k) : atI l k = l[k.toNat]? := by
  obtain ⟨n, rfl⟩ : ∃ n : Nat, k = n := ⟨k.toNat, by omega⟩
  rw [atI_nat]; simp
theorem st_l (j : Int) (h : 0 ≤ j) (h2 : j.toNat < l.length) : stO (.lst l) (.int j) d = some (.lst (l.set j.toNat d)) := by
  have : ixN l.length j = some j.toNat := by
    unfold ixN; rw [if_pos h, if_pos (by omega)]
  simp [stO, this]
theorem if_s {α : Type} (c : Bool) (x y : α) : (if c = true then some x else some y) = some (if c = true then x else y) := by cases c <;> rfl
end
/-! a def's body -/
def backB (o : O) : Option (List O) → Option (List O)
  | some os => some (o :: os)
  | none => none
theorem backs_n (g : G) : backs [] g = some [] := rfl
theorem backs_c (o : O) (os : List O) (o' : O) (g : G) : backs (o :: os) (.par o' :: g) = backB o' (backs os g) := by
  simp only [backs]; cases backs os g <;> rfl
theorem backs_d (d : D) (os : List O) (o' : O) (g : G) : backs (.pure d :: os) (.loc o' :: g) = backB (.pure d) (backs os g) := by
  simp only [backs]; cases backs os g <;> rfl
theorem backB_s (o : O) (os : List O) : backB o (some os) = some (o :: os) := rfl
def endB (o : O) : Option (List O) → CRes
  | some os => .ok o os
  | none => .stuck
def endX (x : D) : Option (List O) → CRes
  | some os => .exc x os
  | none => .stuck
def endC (os : List O) : Res Fl → CRes
  | .ok (.ret o) g => endB o (backs os g)
  | .ok .next g => endB (.pure .non) (backs os g)
  | .exc x g => endX x (backs os g)
  | _ => .stuck
theorem bodyC_a (np nl : Nat) (B : S) (os : List O) (h : os.length = np) : bodyC np nl B os = endC os (B (os.map Slot.par ++ List.replicate nl .un)) := by
  unfold bodyC
  rw [if_pos h]
  rcases B (os.map Slot.par ++ List.replicate nl .un) with ⟨f, g⟩ | ⟨x, g⟩ | _
  · cases f <;> simp only [endC] <;> cases backs os g <;> rfl
  · simp only [endC]; cases backs os g <;> rfl
  · rfl
theorem endC_r (os : List O) (o : O) (g : G) : endC os (.ok (.ret o) g) = endB o (backs os g) := rfl
theorem endC_n (os : List O) (g : G) : endC os (.ok .next g) = endB (.pure .non) (backs os g) := rfl
theorem endC_x (os : List O) (x : D) (g : G) : endC os (.exc x g) = endX x (backs os g) := rfl
theorem endB_s (o : O) (os : List O) : endB o (some os) = .ok o os := rfl
theorem endX_s (x : D) (os : List O) : endX x (some os) = .exc x os := rfl
end VI
namespace VI
open PySem PySem.Spec PyProof.Rows L2
/-! ## == of plain data: none, numbers, texts, and tuples and lists of such -/
mutual
def D.nb : D → Bool
  | .non => true
  | .int _ => true
  | .str s => PyData.strOk s
  | .tup l => D.nbs l
  | .lst l => D.nbs l
  | _ => false
def D.nbs : List D → Bool
  | [] => true
  | d :: ds => d.nb && D.nbs ds
end
mutual
def D.dp : D → Nat
  | .tup l => D.dps l + 1
  | .lst l => D.dps l + 1
  | _ => 0
def D.dps : List D → Nat
  | [] => 0
  | d :: ds => max d.dp (D.dps ds)
end
theorem strbeq (a b : Str) : (a == b) = true ↔ a = b := by simp
mutual
theorem D.nb_py : ∀ {d : D}, d.nb = true → ∃ p, d.py = some p ∧ p.canLay0 = true ∧ p.depth = d.dp ∧ ∀ (e : D) (q : PyData), e.nb = true → e.py = some q → (PyData.eqv p q = true ↔ d = e)
  | .non, _ => ⟨_, by simp [D.py]; rfl, by simp [PyData.canLay0], by simp [PyData.depth, D.dp], fun e q he hq => by
      cases e with
      | tup l => simp only [D.py] at hq; obtain ⟨r, _, e2⟩ := Option.map_eq_some_iff.mp hq; subst e2; simp [PyData.eqv]
      | lst l => simp only [D.py] at hq; obtain ⟨r, _, e2⟩ := Option.map_eq_some_iff.mp hq; subst e2; simp [PyData.eqv]
      | _ => simp [D.nb] at he <;> (simp [D.py] at hq; subst hq; simp [PyData.eqv])⟩
  | .int i, _ => ⟨_, by simp [D.py]; rfl, by simp [PyData.canLay0], by simp [PyData.depth, D.dp], fun e q he hq => by
      cases e with
      | tup l => simp only [D.py] at hq; obtain ⟨r, _, e2⟩ := Option.map_eq_some_iff.mp hq; subst e2; simp [PyData.eqv]
      | lst l => simp only [D.py] at hq; obtain ⟨r, _, e2⟩ := Option.map_eq_some_iff.mp hq; subst e2; simp [PyData.eqv]
      | _ => simp [D.nb] at he <;> (simp [D.py] at hq; subst hq; simp [PyData.eqv])⟩
  | .str s, h => ⟨_, by simp [D.py]; rfl, by simpa [PyData.canLay0, D.nb] using h, by simp [PyData.depth, D.dp], fun e q he hq => by
      cases e with
      | tup l => simp only [D.py] at hq; obtain ⟨r, _, e2⟩ := Option.map_eq_some_iff.mp hq; subst e2; simp [PyData.eqv]
      | lst l => simp only [D.py] at hq; obtain ⟨r, _, e2⟩ := Option.map_eq_some_iff.mp hq; subst e2; simp [PyData.eqv]
      | _ => simp [D.nb] at he <;> (simp [D.py] at hq; subst hq; simp [PyData.eqv])⟩
  | .tup l, h => by
    obtain ⟨ps, h1, h2, h3, h4⟩ := D.nbs_py (show D.nbs l = true by simpa [D.nb] using h)
    refine ⟨.tuple ps, by simp [D.py, h1], by simpa [PyData.canLay0] using h2, by simp [PyData.depth, D.dp, h3], fun e q he hq => ?_⟩
    cases e with
    | tup m =>
      simp only [D.py] at hq
      obtain ⟨r, e1, e2⟩ := Option.map_eq_some_iff.mp hq
      subst e2
      rw [PyData.eqv, h4 m r (by simpa [D.nb] using he) e1]
      simp
    | lst l => simp only [D.py] at hq; obtain ⟨r, _, e2⟩ := Option.map_eq_some_iff.mp hq; subst e2; simp [PyData.eqv]
    | _ => simp [D.nb] at he <;> (simp [D.py] at hq; subst hq; simp [PyData.eqv])
  | .lst l, h => by
    obtain ⟨ps, h1, h2, h3, h4⟩ := D.nbs_py (show D.nbs l = true by simpa [D.nb] using h)
    refine ⟨.list ps, by simp [D.py, h1], by simpa [PyData.canLay0] using h2, by simp [PyData.depth, D.dp, h3], fun e q he hq => ?_⟩
    cases e with
    | lst m =>
      simp only [D.py] at hq
      obtain ⟨r, e1, e2⟩ := Option.map_eq_some_iff.mp hq
      subst e2
      rw [PyData.eqv, h4 m r (by simpa [D.nb] using he) e1]
      simp
    | tup l => simp only [D.py] at hq; obtain ⟨r, _, e2⟩ := Option.map_eq_some_iff.mp hq; subst e2; simp [PyData.eqv]
    | _ => simp [D.nb] at he <;> (simp [D.py] at hq; subst hq; simp [PyData.eqv])
  | .bl _, h => by simp [D.nb] at h
  | .dic _, h => by simp [D.nb] at h
  | .set _, h => by simp [D.nb] at h
  | .ins _ _, h => by simp [D.nb] at h
  | .ty _, h => by simp [D.nb] at h
  | .cls _, h => by simp [D.nb] at h
theorem D.nbs_py : ∀ {l : List D}, D.nbs l = true → ∃ ps, D.pys l = some ps ∧ PyData.canLayAll0 ps = true ∧ PyData.depthAll ps = D.dps l ∧ ∀ (m : List D) (qs : List PyData), D.nbs m = true → D.pys m = some qs → (PyData.eqvAll ps qs = true ↔ l = m)
  | [], _ => ⟨[], by simp [D.pys], by simp [PyData.canLayAll0], by simp [PyData.depthAll, D.dps], fun m qs hm hq => by
      cases m with
      | nil => simp [D.pys] at hq; subst hq; simp [PyData.eqvAll]
      | cons a m =>
        rw [D.pys] at hq
        split at hq <;> cases hq
        simp [PyData.eqvAll]⟩
  | d :: l, h => by
    rw [D.nbs, Bool.and_eq_true] at h
    obtain ⟨p, h1, h2, h3, h4⟩ := D.nb_py h.1
    obtain ⟨ps, g1, g2, g3, g4⟩ := D.nbs_py h.2
    refine ⟨p :: ps, by simp [D.pys, h1, g1], by simp [PyData.canLayAll0, h2, g2], by simp [PyData.depthAll, D.dps, h3, g3], fun m qs hm hq => ?_⟩
    cases m with
    | nil => simp [D.pys] at hq; subst hq; simp [PyData.eqvAll]
    | cons a m =>
      rw [D.nbs, Bool.and_eq_true] at hm
      rw [D.pys] at hq
      split at hq <;> cases hq
      rename_i q qs e1 e2
      rw [PyData.eqvAll, Bool.and_eq_true, h4 a q hm.1 e1, g4 m qs hm.2 e2]
      simp
end
theorem eqP_nb {a b : D} (ha : a.nb = true) (hb : b.nb = true) (da : a.dp ≤ 64) (db : b.dp ≤ 64) : ∃ c, eqP a b = some c ∧ (c = true ↔ a = b) := by
  obtain ⟨p, h1, h2, h3, h4⟩ := D.nb_py ha
  obtain ⟨q, g1, g2, g3, g4⟩ := D.nb_py hb
  refine ⟨PyData.eqv p q, ?_, h4 b q hb g1⟩
  simp [eqP, h1, g1, SeqAt.shaped, h2, g2, h3, g3, da, db]
theorem eqD_nb {a b : D} (ha : a.nb = true) (hb : b.nb = true) (da : a.dp ≤ 64) (db : b.dp ≤ 64) : ∃ c, eqD a b = some c ∧ (c = true ↔ a = b) := by
  cases a <;> cases b <;> simp only [eqD] <;> first
    | exact eqP_nb ha hb da db
    | (refine ⟨_, rfl, ?_⟩; simp)
theorem nbs_iff {l : List D} : D.nbs l = true ↔ ∀ d ∈ l, d.nb = true := by
  induction l with
  | nil => simp [D.nbs]
  | cons d l ih => simp [D.nbs, ih]
theorem dps_le {l : List D} {n : Nat} : D.dps l ≤ n ↔ ∀ d ∈ l, d.dp ≤ n := by
  induction l with
  | nil => simp [D.dps]
  | cons d l ih => simp [D.dps, ih, Nat.max_le]
/-- plain, and not deeper than n -/
def Pl (n : Nat) (d : D) : Prop := d.nb = true ∧ d.dp ≤ n
theorem pl_non (n : Nat) : Pl n .non := ⟨by simp [D.nb], by simp [D.dp]⟩
theorem pl_int (n : Nat) (i : Int) : Pl n (.int i) := ⟨by simp [D.nb], by simp [D.dp]⟩
theorem pl_str (n : Nat) (s : Str) (h : PyData.strOk s = true) : Pl n (.str s) := ⟨by simpa [D.nb] using h, by simp [D.dp]⟩
theorem pl_tup {n : Nat} {l : List D} (h : ∀ d ∈ l, Pl n d) : Pl (n + 1) (.tup l) := ⟨by simpa [D.nb, nbs_iff] using fun d hd => (h d hd).1, by
  simp only [D.dp]; exact Nat.succ_le_succ (dps_le.mpr fun d hd => (h d hd).2)⟩
theorem pl_lst {n : Nat} {l : List D} (h : ∀ d ∈ l, Pl n d) : Pl (n + 1) (.lst l) := ⟨by simpa [D.nb, nbs_iff] using fun d hd => (h d hd).1, by
  simp only [D.dp]; exact Nat.succ_le_succ (dps_le.mpr fun d hd => (h d hd).2)⟩
theorem pl_le {m n : Nat} {d : D} (h : Pl m d) (hl : m ≤ n) : Pl n d := ⟨h.1, Nat.le_trans h.2 hl⟩
open Classical in
theorem eq_pl {a b : D} (ha : Pl 64 a) (hb : Pl 64 b) : eqD a b = some (decide (a = b)) := by
  obtain ⟨c, e, h⟩ := eqD_nb ha.1 hb.1 ha.2 hb.2
  rw [e]
  congr 1
  by_cases q : a = b
  · simp [q, h.mpr q]
  · simp [q]
    cases c with
    | false => rfl
    | true => exact absurd (h.mp rfl) q
open Classical in
theorem eqO_pl {x y : O} {a b : D} (hx : x.full = true) (hy : y.full = true) (ex : x.er = a) (ey : y.er = b) (ha : Pl 64 a) (hb : Pl 64 b) : eqO x y = some (.pure (.bl (decide (a = b)))) := by
  subst ex ey
  simp [eqO, hx, hy, eq_pl ha hb]
open Classical in
theorem neO_pl {x y : O} {a b : D} (hx : x.full = true) (hy : y.full = true) (ex : x.er = a) (ey : y.er = b) (ha : Pl 64 a) (hb : Pl 64 b) : neO x y = some (.pure (.bl (!decide (a = b)))) := by
  subst ex ey
  simp [neO, hx, hy, eq_pl ha hb]
/-! ## texts in lists -/
theorem anyA_str (x : Str) : ∀ l : List Str, anyA (.str x) (l.map D.str) = some (l.contains x)
  | [] => rfl
  | y :: ys => by
    rw [List.map_cons, anyA, anyA_str x ys]
    simp only [eqA, List.contains_cons]
    rw [show (y == x) = (x == y) from Bool.eq_iff_iff.mpr (by rw [beq_iff_eq, beq_iff_eq]; exact eq_comm)]
theorem strsD_map : ∀ l : List Str, strsD (l.map D.str) = some l
  | [] => rfl
  | y :: ys => by simp [strsD, strsD_map ys]
theorem in_str (neg : Bool) (x : Str) (l : List Str) : inO neg (.pure (.str x)) (.lst (l.map D.str)) = some (.pure (.bl (neg.xor (l.contains x)))) := by
  have h : inO neg (.pure (.str x)) (.lst (l.map D.str)) = (anyA (.str x) (l.map D.str)).map fun b => .pure (.bl (neg.xor b)) := rfl
  rw [h, anyA_str]; rfl
theorem str_ext {a b : Str} (h : a.cps.toList = b.cps.toList) : a = b := by
  cases a; cases b; congr; exact Array.toList_inj.mp h
theorem add_s (a b : Str) (h : a.length + b.length ≤ 16777216) : addO (.pure (.str a)) (.pure (.str b)) = some (.pure (.str (a ++ b))) := by simp [addO, h]
theorem len_app (a b : Str) : (a ++ b).length = a.length + b.length := by
  show (a.cps ++ b.cps).size = _
  simp [Str.length]
theorem toL_app (a b : Str) : (a ++ b).cps.toList = a.cps.toList ++ b.cps.toList := by
  show (a.cps ++ b.cps).toList = _
  simp
theorem ok_app {a b : Str} (ha : PyData.strOk a = true) (hb : PyData.strOk b = true) : PyData.strOk (a ++ b) = true := by
  show (a.cps ++ b.cps).all _ = true
  rw [Array.all_append, Bool.and_eq_true]
  exact ⟨ha, hb⟩
theorem ok_iff {a : Str} : PyData.strOk a = true ↔ ∀ c ∈ a.cps.toList, c < 1114112 := by
  unfold PyData.strOk
  rw [← Array.all_toList, List.all_eq_true]
  simp only [decide_eq_true_eq]
theorem cutL_mem {α : Type} {l : List α} {lo hi : Option Int} {x : α} (h : x ∈ cutL l lo hi) : x ∈ l := List.mem_of_mem_drop (List.mem_of_mem_take h)
theorem cutL_len {α : Type} (l : List α) (lo hi : Option Int) : (cutL l lo hi).length ≤ l.length := by
  unfold cutL
  rw [List.length_take, List.length_drop]
  omega
def cutS (s : Str) (lo hi : Option Int) : Str := ⟨(cutL s.cps.toList lo hi).toArray⟩
theorem cutS_len (s : Str) (lo hi : Option Int) : (cutS s lo hi).length ≤ s.length := by
  have := cutL_len s.cps.toList lo hi
  simpa [cutS, Str.length] using this
theorem cutS_ok {s : Str} (lo hi : Option Int) (h : PyData.strOk s = true) : PyData.strOk (cutS s lo hi) = true := by
  rw [ok_iff] at h ⊢
  intro c hc
  exact h c (cutL_mem (by simpa [cutS] using hc))
theorem sl_s (lo hi : Option Int) (s : Str) (h : s.length ≤ 16777216) : slO lo hi (.pure (.str s)) = some (.pure (.str (cutS s lo hi))) := by simp [slO, h, cutS]
theorem glue_fold (l : List Str) : ∀ acc : Array Nat, (List.foldl (fun acc (p : Str) => acc ++ (Str.ofString "").cps ++ p.cps) acc l).toList = acc.toList ++ (l.map fun s => s.cps.toList).flatten := by
  induction l with
  | nil => intro acc; simp
  | cons x xs ih =>
    intro acc
    rw [List.foldl_cons, ih]
    have : (Str.ofString "").cps = #[] := rfl
    simp [this, List.append_assoc]
theorem join_nil (l : List Str) : (Txt.join (Str.ofString "") l).cps.toList = (l.map fun s => s.cps.toList).flatten := by
  show (Builtin.Str.glued (Str.ofString "") l).cps.toList = _
  unfold Builtin.Str.glued
  rw [glue_fold]
  cases l with
  | nil => rfl
  | cons x xs => simp
theorem joinO_l (a : Str) (l : List Str) (h : (l.map (·.length)).sum + l.length * a.length ≤ 16777216) : joinO [.pure (.str a), .lst (l.map D.str)] = some (.pure (.str (Txt.join a l))) := by
  simp [joinO, elemsO, strsD_map]
  simpa using h
theorem splitO_a (a b : Str) (h : b.length ≠ 0 ∧ a.length + 2 ≤ 16777216) : splitO [.pure (.str a), .pure (.str b)] = some (.lst ((Txt.split a b).map D.str)) := by
  have e : splitO [.pure (.str a), .pure (.str b)] = if b.length ≠ 0 ∧ a.length + 2 ≤ 16777216 then some (.lst ((Txt.split a b).map D.str)) else none := rfl
  rw [e, if_pos h]
theorem nodup_map_range {α : Type} (f : Nat → α) (n : Nat) (h : ∀ i j, i < j → j < n → f i ≠ f j) : ((List.range n).map f).Nodup := by
  rw [List.Nodup, List.pairwise_map]
  refine (List.pairwise_lt_range (n := n)).imp_of_mem fun hi hj hlt => h _ _ hlt (List.mem_range.mp hj)
theorem if_c {α : Type} (x y : α) {p : Prop} [Decidable p] (h : p) : (if p then x else y) = x := if_pos h
/-- a slot that a loop may fill -/
def Fre (s : Slot) : Prop := s = .un ∨ ∃ d, s = .loc (.pure d)
theorem fre_un : Fre .un := .inl rfl
theorem fre_d (d : D) : Fre (.loc (.pure d)) := .inr ⟨d, rfl⟩
theorem stoC_fr {s : Slot} (h : Fre s) (i : Nat) (o : O) (g : G) : stoC i o g (some s) = some (g.set i (.loc o)) := by
  rcases h with rfl | ⟨d, rfl⟩ <;> rfl
theorem lock_fr {s : Slot} (h : Fre s) : (match s with | .loc .hole => .par .hole | s => s : Slot) = s := by
  rcases h with rfl | ⟨d, rfl⟩ <;> rfl
def purC : Option Slot → Bool
  | some .un => true
  | some (.loc (.pure _)) => true
  | some (.par (.pure _)) => true
  | _ => false
theorem isPure_a (g : G) (i : Nat) : isPure g i = purC g[i]? := rfl
theorem pur_un : purC (some .un) = true := rfl
theorem pur_ld (d : D) : purC (some (.loc (.pure d))) = true := rfl
theorem pur_pd (d : D) : purC (some (.par (.pure d))) = true := rfl
theorem pur_fr {s : Slot} (h : Fre s) : purC (some s) = true := by
  rcases h with rfl | ⟨d, rfl⟩ <;> rfl
theorem rng1_nat (n : Nat) (h : n < 1000000) : rng1 [.pure (.int (n : Int))] = some ((List.range n).map fun (k : Nat) => D.int (k : Int)) := by
  rw [rng1_a (n : Int) (by omega) (by omega), Int.toNat_natCast]
end VI
namespace L2
open PySem PySem.Spec PySem.Calls PyProof.Rows
/-- K's words of a class that has no __init__ of its own, nor a base's -/
structure Mk0 (K : PySem.W.Frag) (C : Addr) : Prop where
  makes : PySem.W.makesIn K C = true
  init : PySem.W.findIn K (.ref C) "__init__" = some (some (.builtin "object.__init__"))
  kp : PySem.W.keepIn K (.ref C) = true
def tNew (C : Addr) : TE := fun σ H Q => ∀ x dx, H x = none → H dx = none → dx ≠ x → Q (.ref x) (upd (upd H dx (.own x)) x (.ins C dx []))
theorem run_new {X : Cx} {pins : List (Addr × Obj)} {σ : St} {H : Hp} {s : Shared} {Q : VK} {C : Addr} (M : Mk0 X.K C) (I : Inv X pins σ H s) (h : tNew C σ H Q) :
    wpAny (model X.prog X.w) X.A (call (.ref C) []) (EP X pins σ Q) X.xe s := by
  have hq := h (s.heap.objs.size + 1) s.heap.objs.size (I.hok.fresh (Nat.le_succ _)) (I.hok.fresh (Nat.le_refl _)) (Nat.ne_of_lt (Nat.lt_succ_self _))
  have I2 := Inv.made (C := C) I
  have hk := I.kIn
  obtain ⟨hh, g, d, t, os⟩ := s
  have Y := PySem.W.makes_of (M := model X.prog X.w) hk M.makes
  refine wpAny_call ?_
  refine PySem.W.make_core Y (PySem.W.looks_findIn hk M.init) (fun self => PySem.W.Looks.of_pure (PySem.W.oi_bind self)) (.inr ⟨rfl, rfl⟩) ?_
  have e2 : ((hh.push PySem.W.emptyDict).push (PySem.W.instObj C hh.objs.size)).get? (hh.objs.size + 1) = some (PySem.W.instObj C hh.objs.size) := by
    have := Heap.get?_push_size (hh.push PySem.W.emptyDict) (o := PySem.W.instObj C hh.objs.size) rfl
    rwa [Heap.size_push] at this
  have t1 : PySem.W.Looks (model X.prog X.w) ((hh.push PySem.W.emptyDict).push (PySem.W.instObj C hh.objs.size)) (typeOf (.ref (hh.objs.size + 1))) (.ref C) := (PySem.W.Looks.ld e2).andThen .now
  have t2 : PySem.W.Looks (model X.prog X.w) ((hh.push PySem.W.emptyDict).push (PySem.W.instObj C hh.objs.size)) (isInstance (.ref (hh.objs.size + 1)) (.type "object")) true := t1.andThen (Y.top.keeps fun b o e => Heap.get?_push_of_some _ (Heap.get?_push_of_some _ e))
  refine codeAny_call_builtin PySem.W.oi_plain PySem.W.entry_oi (@PySem.W.check_slot (model X.prog X.w) _ _ _ "object.__init__" "object" "__init__" (.ref (hh.objs.size + 1)) [] [] _ PySem.W.oi_kind PySem.W.oi_split t2 (PySem.W.oi_args (.ref (hh.objs.size + 1))) ?_)
  rw [PySem.W.oi_run]
  exact wpAny_pure (And.intro rfl ⟨V.ref (hh.objs.size + 1), _, I2, rfl, hq⟩)
theorem pe_new0 {X : Cx} {C : Addr} {x : Str} {p pos : Pos} (M : Mk0 X.K C) (hg : Gl X x) (hm : X.mg x = some (.ref C)) (hdb : (x == ("__debug__" : Str)) = false := by decide) : PE X (.Call (.Name x p) [] [] pos) (tNew C) := by
  refine ⟨fun pins s σ H Q I h => ?_⟩
  refine wpAny_Call_Name_kw (ld_glob I hg hm ?_ hdb)
  exact PySem.W.callWith_K0 I.kIn M.kp (run_new M I h)
end L2
namespace VI
open PySem PySem.Spec PyProof.Rows L2
section
variable {W : Wd} {vs : List (Option V)} {Wx : WX} {X : Cx} {n : Nat}
/-! ### a new instance without __init__ -/
def newE (c : Str) : E := fun g => .ok (.val (.ins c [])) g
def NewAt (W : Wd) (mg : Str → Option Value) (x c : Str) : Prop := ∃ Ca, W.cl c = some Ca ∧ Mk0 W.K Ca ∧ mg x = some (.ref Ca)
theorem se_new {k : Nat} {x c : Str} {p pos : Pos} (cx : Ctx W k Wx X) (hf : NewAt W X.mg x c) (hg : Gl X x) (hdb : (x == ("__debug__" : Str)) = false := by decide) : SE W vs Wx X (.Call (.Name x p) [] [] pos) (newE c) := by
  obtain ⟨Ca, h1, h2, h3⟩ := hf
  rw [← cx.K] at h2
  refine pe_weak (pe_new0 h2 hg h3 hdb) fun σ H Q ⟨H0, L, g, sp, en, post⟩ => fun q dx hp hd hne => ?_
  obtain ⟨sn, rn⟩ := own_new (W := W) sp.ex hp hd hne h1
  have sp2 : Sep H0 H (L ++ []) := by simpa using sp
  have s3 : Step H0 H L H0 (upd (upd H dx (.own q)) q (.ins Ca dx [])) (L ++ [q]) := by simpa using Step.frame sp2 sn
  exact post (.ref q) (upd (upd H dx (.own q)) q (.ins Ca dx [])) H0 [q] L (s3.perm List.perm_append_comm) rn (en.mono (Ex.refl _) (Step.keepL sp2 sn))
/-! ### o.f = e: what is put in is frozen -/
def putFO (f : Str) (o : O) : List (Str × O) → List (Str × O)
  | [] => [(f, o)]
  | (g, x) :: r => if g = f then (g, o) :: r else (g, x) :: putFO f o r
theorem RepOf.len {H0 H : Hp} : ∀ {fs : List (Str × V)} {os : List (Str × O)} {L : List Addr}, RepOf W H0 H fs os L → fs.length = os.length
  | _, _, _, .nil => rfl
  | _, _, _, .cons _ r => by simp [r.len]
theorem RepOf.put {H0 H : Hp} {f : Str} {v : V} {d : D} (hv : RepF W H0 v d) : ∀ {fs : List (Str × V)} {os : List (Str × O)} {L : List Addr}, RepOf W H0 H fs os L → ∃ L', RepOf W H0 H (putF f v fs) (putFO f (.pure d) os) L' ∧ L'.Sublist L
  | _, _, _, .nil => ⟨[], .cons (Lo := []) (.pure hv) .nil, .refl _⟩
  | (g, x) :: fs, (_, o) :: os, _, .cons (Lo := Lo) (L := Lt) h r => by
    by_cases e : g = f
    · refine ⟨[] ++ Lt, ?_, ?_⟩
      · simp only [putF, putFO, if_pos e]
        exact .cons (.pure hv) r
      · simpa using List.sublist_append_right Lo Lt
    · obtain ⟨L', h1, h2⟩ := RepOf.put hv r
      refine ⟨Lo ++ L', ?_, List.Sublist.append (.refl _) h2⟩
      simp only [putF, putFO, if_neg e]
      exact .cons h h1
def fldC (FT : Str → Str → Bool) (f : Str) (d : D) : O → Option O
  | .ins c fs => if FT c f && decide (fs.length < 1000) then some (.ins c (putFO f (.pure d) fs)) else none
  | _ => none
def fldS (FT : Str → Str → Bool) (f : Str) (Ao Av : E) : S := fun g => (Av g).bind fun rv g1 => (Ao g1).bind fun r g2 => match frzs [rv] g2 with
  | some ([dv], g3) => match (ob g3 r).bind (fldC FT f dv) with
    | some o' => .ok .next (putR g3 r o')
    | none => .stuck
  | _ => .stuck
theorem RepOf.upd_ne {H0 H : Hp} {p : Addr} {u : HO} {fs : List (Str × V)} {os : List (Str × O)} {L : List Addr} (h : RepOf W H0 H fs os L) (hn : p ∉ L) : RepOf W H0 (upd H p u) fs os L :=
  h.mono (Ex.refl _) fun a ha w hw => by
    have : a ≠ p := fun z => hn (z ▸ ha)
    rw [L2.upd_ne this]; exact hw
theorem ss_fld {FT : Str → Str → Bool} {k : Nat} {o e : Expr} {f : Str} {pos pos' : Pos} {Ao Av : E} (cx : Ctx W k Wx X) (hF : ∀ c f, FT c f = true → FldAt W c f) (ho : SE W vs Wx X o Ao) (hv : SE W vs Wx X e Av)
    (hs : swapsWith e (some (.Attribute o f pos')) pos.line X.env = pure false := by rfl) : SS W vs Wx X (.Assign [.Attribute o f pos'] e pos) (fldS FT f Ao Av) := by
  refine ps_weak (ps_fld ho hv hs) fun De σ H ⟨H0, L, g, sp, en, post⟩ => ?_
  refine ⟨H0, L, g, sp, en, ?_⟩
  unfold fldS at post
  cases ea : Av g with
  | stuck => rw [ea] at post; exact post.elim
  | exc x g' => rw [ea] at post; exact fun c d H' H0' L' s2 rx en2 => post c d σ H' H0' L' s2 rx en2
  | ok rv g1 =>
    rw [ea] at post
    intro v H1 H01 Lr L1 st1 rr en1
    simp only [Res.bind] at post
    refine ⟨H01, L1, g1, st1.sep.right, en1, ?_⟩
    cases eb : Ao g1 with
    | stuck => rw [eb] at post; exact post.elim
    | exc x g' => rw [eb] at post; exact fun c d H' H0' L' s2 rx en2 => post c d σ H' H0' L' (st1.then s2).right rx en2
    | ok r g2 =>
      rw [eb] at post
      intro x H2 H02 Lx Lq st2 rx en2
      simp only at post
      have st12 := st1.then st2
      have rr2 := rr.mono st2.ex0 (Step.keepL st1.sep st2)
      have hcase : ∃ dv g3, frzs [rv] g2 = some ([dv], g3) := by
        cases ef : frzs [rv] g2 with
        | none => rw [ef] at post; exact post.elim
        | some pp =>
          obtain ⟨l, g3⟩ := pp
          rw [ef] at post
          cases l with
          | nil => exact post.elim
          | cons a l => cases l with
            | nil => exact ⟨a, g3, rfl⟩
            | cons _ _ => exact post.elim
      obtain ⟨dv, g3, ef⟩ := hcase
      rw [ef] at post
      simp only at post
      have spm : Step H0 H L H02 H2 (Lx ++ ((Lr ++ []) ++ Lq)) := by
        refine st12.perm ?_
        have := perm_mid Lr Lx Lq
        simpa [List.append_assoc] using this
      obtain ⟨H03, L3, s3, rf, en3⟩ := frzs_ok (us := [v]) (Lr := Lr ++ []) (.cons rr2 .nil) spm.sep.right en2 ef
      have st3 : Step H0 H L H03 H2 (Lx ++ L3) := spm.then s3
      have rx3 := rx.mono s3.ex0 fun _ _ _ q => q
      cases rf with
      | cons rfv rf0 =>
        cases ec : (ob g3 r).bind (fldC FT f dv) with
        | none => rw [ec] at post; exact post.elim
        | some o' =>
          rw [ec] at post
          obtain ⟨oo, e1, e2⟩ := Option.bind_eq_some_iff.mp ec
          obtain ⟨Lo', sp', ro', fin⟩ := mut_ok st3 rx3 en3 e1
          unfold fldC at e2
          split at e2
          · rename_i c fs
            split at e2
            · rename_i hc
              cases e2
              rw [Bool.and_eq_true, decide_eq_true_eq] at hc
              cases ro' with
              | @ins p _ Ca dx vfs _ Lf h1 h2 h3 =>
                obtain ⟨Ca', c1, c2, c3⟩ := hF c f hc.1
                rw [h2] at c1; cases c1
                refine ⟨p, Ca, dx, vfs, rfl, h1, by rw [cx.K]; exact c2, by rw [cx.K]; exact c3, by rw [h3.len]; exact hc.2, ?_⟩
                obtain ⟨Lf', q1, q2⟩ := RepOf.put (f := f) rfv h3
                have np : p ∉ Lf := (List.nodup_cons.mp sp'.nd).1
                have np' : p ∉ Lf' := fun z => np (q2.subset z)
                have hown := sp'.own p (by simp)
                have stp : Step H03 H2 (p :: Lf) H03 (upd H2 p (.ins Ca dx (putF f v vfs))) (p :: Lf') := by
                  refine ⟨Ex.refl _, fun a u h hn => ?_, fun a h => .inl h, fun a h => ?_, ⟨fun a u h => ?_, ?_, fun q hq => ⟨?_, ?_⟩⟩⟩
                  · have : a ≠ p := fun z => hn (by simp [z])
                    rw [L2.upd_ne this]; exact h
                  · rcases List.mem_cons.mp h with z | z
                    · exact .inl (by simp [z])
                    · exact .inl (List.mem_cons_of_mem _ (q2.subset z))
                  · have : a ≠ p := fun z => by subst z; rw [hown.1] at h; cases h
                    rw [L2.upd_ne this]; exact sp'.ex a u h
                  · exact List.nodup_cons.mpr ⟨np', (List.nodup_cons.mp sp'.nd).2.sublist q2⟩
                  · rcases List.mem_cons.mp hq with z | z
                    · rw [z]; exact hown.1
                    · exact (sp'.own q (List.mem_cons_of_mem _ (q2.subset z))).1
                  · by_cases z : q = p
                    · subst z; exact ⟨_, upd_same⟩
                    · rw [L2.upd_ne z]
                      rcases List.mem_cons.mp hq with y | y
                      · exact absurd y z
                      · exact (sp'.own q (List.mem_cons_of_mem _ (q2.subset y))).2
                obtain ⟨L5, s6, en6⟩ := fin (.ins c (putFO f (.pure dv) fs)) _ _ stp (.ins upd_same h2 (q1.upd_ne np'))
                exact post σ _ H03 L5 s6 en6
            · cases e2
          · cases e2
/-! ### str(n), sum(l) -/
def strO : List O → Option O
  | [.pure (.int i)] => if i.natAbs.log2 < 1920 then some (.pure (.str (toString i : String))) else none
  | _ => none
theorem cr_strO : CallR X (.type "str") (cO W strO) := by
  intro pins s σ H us ws Q I r ⟨H0, os, o, ex, pr, e, gv⟩
  unfold strO at e
  split at e
  · split at e
    · rename_i hz
      cases e
      obtain ⟨v, e1, _, r1⟩ := one_of pr
      exact call_str_int pins s σ H us ws Q I r ⟨_, by rw [e1, atom_int r1], hz, gv.atom ex (.str _)⟩
    · cases e
  · cases e
def intsD : List D → Option (List Int)
  | [] => some []
  | .int s :: l => (intsD l).map fun r => s :: r
  | _ :: _ => none
theorem intsD_rep {H : Hp} : ∀ {us : List V} {l : List D} {ys : List Int}, RepFs W H us l → intsD l = some ys → us = ys.map V.int
  | _, _, ys, .nil, e => by cases e; rfl
  | _, _, ys, .cons (d := d) h r, e => by
    cases d <;> first | (simp [intsD] at e; done) | skip
    rename_i s
    rw [intsD] at e
    obtain ⟨zs, e1, e2⟩ := Option.map_eq_some_iff.mp e
    subst e2
    cases h
    rw [intsD_rep r e1]; rfl
theorem intsD_map : ∀ l : List Int, intsD (l.map D.int) = some l
  | [] => rfl
  | y :: ys => by simp [intsD, intsD_map ys]
def sumO : List O → Option O
  | [.pure (.lst l)] => (intsD l).map fun ys => .pure (.int ys.sum)
  | [.lst l] => (intsD l).map fun ys => .pure (.int ys.sum)
  | _ => none
theorem cr_sumO (hK : X.K = W.K) (hc : X.calm = true) : CallR X (.builtin "sum") (cO W sumO) := by
  intro pins s σ H us ws Q I r ⟨H0, os, o, ex, pr, e, gv⟩
  have lst : ∀ (oo : O) l ys, os = [oo] → (oo = .pure (.lst l) ∨ oo = .lst l) → intsD l = some ys → o = .pure (.int ys.sum) → wpAny (model X.prog X.w) X.A (call (.builtin "sum") ws) (EP X pins σ Q) X.xe s := by
    intro oo l ys e1 h e2 e3
    subst e1 e3
    obtain ⟨v, e4, _, r1⟩ := one_of pr
    obtain ⟨p, us', e5, hs, rf⟩ := sql_of ex r1 h
    refine cr_sum hc pins s σ H us ws Q I r ⟨p, ys, by rw [e4, e5], ?_, gv.atom ex (.int _)⟩
    rw [← intsD_rep rf e2, hK]; exact hs
  unfold sumO at e
  split at e
  · obtain ⟨ys, h1, h2⟩ := Option.map_eq_some_iff.mp e
    exact lst _ _ ys rfl (.inl rfl) h1 h2.symm
  · obtain ⟨ys, h1, h2⟩ := Option.map_eq_some_iff.mp e
    exact lst _ _ ys rfl (.inr rfl) h1 h2.symm
  · cases e
theorem Ctx.dn {k : Nat} (cx : Ctx W (k + 1) Wx X) : Ctx W k Wx X := ⟨cx.K, cx.calm, cx.nd, cx.tk, cx.room.mono (Nat.le_succ _)⟩
end
/-! ### tables of methods and of fields -/
abbrev MTab := List (Nat × Str × Str × Nat)
def mtOf (T : MTab) (a : Nat) (c m : Str) : Option Nat := (T.find? fun e => decide (e.1 = a) && (decide (e.2.1 = c) && decide (e.2.2.1 = m))).map (·.2.2.2)
theorem mt_of {T : MTab} {P : Str → Str → Nat → Nat → Prop} (h : ∀ e ∈ T, P e.2.1 e.2.2.1 e.2.2.2 e.1) {a : Nat} {c m : Str} {fn : Nat} (q : mtOf T a c m = some fn) : P c m fn a := by
  unfold mtOf at q
  obtain ⟨e, h1, h2⟩ := Option.map_eq_some_iff.mp q
  have hm := h e (List.mem_of_find?_eq_some h1)
  have hp := List.find?_some h1
  simp only [Bool.and_eq_true, decide_eq_true_eq] at hp
  obtain ⟨p1, p2, p3⟩ := hp
  rw [p1, p2, p3, h2] at hm
  exact hm
abbrev FTab := List (Str × Str)
def ftOf (T : FTab) (c f : Str) : Bool := T.any fun e => decide (e.1 = c) && decide (e.2 = f)
theorem ft_of {T : FTab} {P : Str → Str → Prop} (h : ∀ e ∈ T, P e.1 e.2) {c f : Str} (q : ftOf T c f = true) : P c f := by
  unfold ftOf at q
  obtain ⟨e, h1, h2⟩ := List.any_eq_true.mp q
  have hm := h e h1
  simp only [Bool.and_eq_true, decide_eq_true_eq] at h2
  rw [h2.1, h2.2] at hm
  exact hm
/-- what the law's def is asked with, and what it is to be worth -/
def spL (K : PySem.W.Frag) : Sp := fun us H Q _ => ∃ (a : Addr) (ns : List Int), us = [.ref a] ∧ ns.length ≤ 63 ∧ SqL K H a (ns.map V.int) ∧ ∀ (v : V) (H' : Hp), v = .bl true → Q v H'
theorem spL_of {W : Wd} {C : Callee} {fn : Nat} (law : ∀ ns : List Int, ns.length ≤ 63 → ∃ os, C fn [.pure (.lst (ns.map D.int))] = .ok (.pure (.bl true)) os) {us : List V} {H : Hp} {Q : VK} {Ek : XK} (h : spL W.K us H Q Ek) : spD W C fn 1 us H Q Ek := by
  obtain ⟨a, ns, rfl, hl, hS, k⟩ := h
  obtain ⟨os, e⟩ := law ns hl
  refine ⟨rfl, H, [], [.pure (.lst (ns.map D.int))], Sep.nil (Ex.refl H), .cons (Lo := []) (.pure (.lst hS (reps_ints ns))) .nil, ?_⟩
  rw [e]
  intro v H1 H01 Lo La st rv ro
  exact k v H1 (atom_bl rv)
end VI
namespace VI
open PySem PySem.Spec PyProof.Rows L2
/-! ## while, classes: step by step -/
section
variable (g : G)
def whlE (t : G → Res Bool) (body : S) (n : Nat) : Fl → G → Res Fl
  | .next, g => whileS t body n g
  | .cont, g => whileS t body n g
  | .brk, g => .ok .next g
  | .ret o, g => .ok (.ret o) g
def whlC (t : G → Res Bool) (body : S) (n : Nat) : Bool → G → Res Fl
  | true, g => (body g).bind (whlE t body n)
  | false, g => .ok .next g
theorem while_s (t : G → Res Bool) (body : S) (n : Nat) : whileS t body (n + 1) g = (t g).bind (whlC t body n) := by
  rw [whileS]; congr 1; funext c g1; cases c <;> simp only [whlC]
  · rfl
  · simp only [if_true]; congr 1; funext f g2; cases f <;> rfl
theorem whlC_t (t : G → Res Bool) (body : S) (n : Nat) : whlC t body n true g = (body g).bind (whlE t body n) := rfl
theorem whlC_f (t : G → Res Bool) (body : S) (n : Nat) : whlC t body n false g = .ok .next g := rfl
theorem whlE_n (t : G → Res Bool) (body : S) (n : Nat) : whlE t body n .next g = whileS t body n g := rfl
theorem whlE_c (t : G → Res Bool) (body : S) (n : Nat) : whlE t body n .cont g = whileS t body n g := rfl
theorem whlE_b (t : G → Res Bool) (body : S) (n : Nat) : whlE t body n .brk g = .ok .next g := rfl
theorem whlE_r (t : G → Res Bool) (body : S) (n : Nat) (o : O) : whlE t body n (.ret o) g = .ok (.ret o) g := rfl
/-! o.f = e -/
def fldI (r : R) : Option O → G → Res Fl
  | some o, g => .ok .next (putR g r o)
  | none, _ => .stuck
def fldH (FT : Str → Str → Bool) (f : Str) (r : R) : Option (List D × G) → Res Fl
  | some ([dv], g) => fldI r ((ob g r).bind (fldC FT f dv)) g
  | _ => .stuck
def fldE (FT : Str → Str → Bool) (f : Str) (rv r : R) (g : G) : Res Fl := fldH FT f r (frzs [rv] g)
def fldD (FT : Str → Str → Bool) (f : Str) (Ao : E) (rv : R) (g : G) : Res Fl := (Ao g).bind (fldE FT f rv)
theorem fldS_a (FT : Str → Str → Bool) (f : Str) (Ao Av : E) : fldS FT f Ao Av g = (Av g).bind (fldD FT f Ao) := by
  unfold fldS
  congr 1
  funext rv g1
  unfold fldD
  congr 1
  funext r g2
  unfold fldE
  rcases frzs [rv] g2 with _ | ⟨_ | ⟨a, _ | _⟩, g3⟩ <;> try rfl
  simp only [fldH]
  cases (ob g3 r).bind (fldC FT f a) <;> rfl
theorem fldD_a (FT : Str → Str → Bool) (f : Str) (Ao : E) (rv : R) : fldD FT f Ao rv g = (Ao g).bind (fldE FT f rv) := rfl
theorem fldE_a (FT : Str → Str → Bool) (f : Str) (rv r : R) : fldE FT f rv r g = fldH FT f r (frzs [rv] g) := rfl
theorem fldH_s (FT : Str → Str → Bool) (f : Str) (r : R) (dv : D) : fldH FT f r (some ([dv], g)) = fldI r ((ob g r).bind (fldC FT f dv)) g := rfl
theorem fldI_s (r : R) (o : O) : fldI r (some o) g = .ok .next (putR g r o) := rfl
theorem fldC_a (FT : Str → Str → Bool) (f : Str) (d : D) (c : Str) (fs : List (Str × O)) (h : FT c f = true) (h2 : fs.length < 1000) : fldC FT f d (.ins c fs) = some (.ins c (putFO f (.pure d) fs)) := by
  simp [fldC, h, h2]
theorem putFO_n (f : Str) (o : O) : putFO f o [] = [(f, o)] := rfl
theorem putFO_c (f h : Str) (o x : O) (r : List (Str × O)) : putFO f o ((h, x) :: r) = if h = f then (h, o) :: r else (h, x) :: putFO f o r := rfl
/-! attributes -/
def atrF (FT : Str → Str → Bool) (f : Str) (o : O) : Option O := match clsO o with
  | some c => if FT c f then attrF f o else none
  | none => none
theorem attrE_a (FT : Str → Str → Bool) (f : Str) (A : E) : attrE FT f A g = una (atrF FT f) A g := rfl
theorem atr_p (FT : Str → Str → Bool) (f c : Str) (fs : List (Str × D)) (h : FT c f = true) : atrF FT f (.pure (.ins c fs)) = (fs.lookup f).map .pure := by
  simp [atrF, clsO, h, attrF]
theorem atr_i (FT : Str → Str → Bool) (f c : Str) (fs : List (Str × O)) (d : D) (h : FT c f = true) (h2 : fs.lookup f = some (.pure d)) : atrF FT f (.ins c fs) = some (.pure d) := by
  simp [atrF, clsO, h, attrF, h2]
/-! methods -/
def methD (C : Callee) (fn : Nat) (r : R) (rs : List R) (g : G) : Res R := callR C fn (r :: rs) g
def methF (C : Callee) (r : R) (As : List E) (g : G) : Option Nat → Res R
  | some fn => (evs As g).bind (methD C fn r)
  | none => .stuck
def methG (MT : Str → Str → Option Nat) (m : Str) (o : O) : Option Nat := if (fldO o m).isNone then (clsO o).bind fun c => MT c m else none
def methC (MT : Str → Str → Option Nat) (C : Callee) (m : Str) (As : List E) (r : R) (g : G) : Res R := methF C r As g ((ob g r).bind (methG MT m))
theorem methE_a (MT : Str → Str → Option Nat) (C : Callee) (m : Str) (A : E) (As : List E) : methE MT C m A As g = (A g).bind (methC MT C m As) := by
  unfold methE
  congr 1
  funext r g1
  unfold methC
  have : ((ob g1 r).bind fun o => if (fldO o m).isNone then clsO o else none).bind (fun c => MT c m) = (ob g1 r).bind (methG MT m) := by
    cases ob g1 r with
    | none => rfl
    | some o =>
      simp only [Option.bind_some, methG]
      split <;> rfl
  rw [this]
  cases (ob g1 r).bind (methG MT m) <;> rfl
theorem methC_a (MT : Str → Str → Option Nat) (C : Callee) (m : Str) (As : List E) (r : R) : methC MT C m As r g = methF C r As g ((ob g r).bind (methG MT m)) := rfl
theorem methF_s (C : Callee) (r : R) (As : List E) (fn : Nat) : methF C r As g (some fn) = (evs As g).bind (methD C fn r) := rfl
theorem methD_a (C : Callee) (fn : Nat) (r : R) (rs : List R) : methD C fn r rs g = callR C fn (r :: rs) g := rfl
theorem methG_p (MT : Str → Str → Option Nat) (m c : Str) (fs : List (Str × D)) (h : fs.lookup m = none) : methG MT m (.pure (.ins c fs)) = MT c m := by
  simp [methG, fldO, clsO, h]
theorem methG_i (MT : Str → Str → Option Nat) (m c : Str) (fs : List (Str × O)) (h : fs.lookup m = none) : methG MT m (.ins c fs) = MT c m := by
  simp [methG, fldO, clsO, h]
/-! new instances -/
theorem newE_a (c : Str) : newE c g = .ok (.val (.ins c [])) g := rfl
def mkE (rs : List R) (g : G) : CRes → Res R
  | .ok (.pure .non) (self :: os) => .ok (.val self) (puts rs os g)
  | .exc x (_ :: os) => .exc x (puts rs os g)
  | _ => .stuck
def mkD (C : Callee) (c : Str) (fn : Nat) (rs : List R) : Option (List O × G) → Res R
  | some (os, g) => mkE rs g (C fn (.ins c [] :: os))
  | none => .stuck
def mkC (C : Callee) (c : Str) (fn : Nat) (rs : List R) (g : G) : Res R := mkD C c fn rs (takes rs g)
theorem makeA_a (C : Callee) (c : Str) (fn : Nat) (As : List E) : makeA C c fn As g = (evs As g).bind (mkC C c fn) := by
  unfold makeA
  congr 1
theorem mkC_a (C : Callee) (c : Str) (fn : Nat) (rs : List R) : mkC C c fn rs g = mkD C c fn rs (takes rs g) := rfl
theorem mkD_s (C : Callee) (c : Str) (fn : Nat) (rs : List R) (os : List O) : mkD C c fn rs (some (os, g)) = mkE rs g (C fn (.ins c [] :: os)) := rfl
theorem mkE_o (rs : List R) (self : O) (os : List O) : mkE rs g (.ok (.pure .non) (self :: os)) = .ok (.val self) (puts rs os g) := rfl
end
/-! built-ins -/
theorem str_i (i : Int) (h : i.natAbs.log2 < 1920) : strO [.pure (.int i)] = some (.pure (.str (toString i : String))) := by simp [strO, h]
theorem sum_l (l : List Int) : sumO [.lst (l.map D.int)] = some (.pure (.int l.sum)) := by simp [sumO, intsD_map]
theorem ins_0 (l : List D) (d : D) (h : l.length < 16777216) : insO (.lst l) [.int 0, d] = some (.lst (d :: l), .non) := by simp [insO, h]
theorem pop_a (l : List D) (d : D) : popO (.lst (l ++ [d])) [] = some (.lst l, d) := by simp [popO]
theorem enum_l (l : List D) : enumI [.lst l] = some (enumL l) := rfl
theorem enum_pl (l : List D) : enumI [.pure (.lst l)] = some (enumL l) := rfl
theorem add_t (a b : List D) (h : a.length + b.length ≤ 16777216) : addO (.pure (.tup a)) (.pure (.tup b)) = some (.pure (.tup (a ++ b))) := by simp [addO, h]
theorem nodup_le {α : Type} [BEq α] [LawfulBEq α] : ∀ (l T : List α), l.Nodup → (∀ x ∈ l, x ∈ T) → l.length ≤ T.length
  | [], T, _, _ => by simp
  | x :: l, T, nd, h => by
    have hx := h x (by simp)
    have := nodup_le l (T.erase x) (List.nodup_cons.mp nd).2 fun y hy => by
      have : y ≠ x := fun e => (List.nodup_cons.mp nd).1 (e ▸ hy)
      exact (List.mem_erase_of_ne this).mpr (h y (List.mem_cons_of_mem _ hy))
    rw [List.length_erase_of_mem hx] at this
    have hp : 0 < T.length := List.length_pos_of_mem hx
    simp only [List.length_cons]
    omega
theorem cutL_map {α β : Type} (f : α → β) (l : List α) (lo hi : Option Int) : cutL (l.map f) lo hi = (cutL l lo hi).map f := by
  unfold cutL
  rw [List.length_map, ← List.map_drop, ← List.map_take]
theorem cutL_sub {α : Type} (l : List α) (lo hi : Option Int) : (cutL l lo hi).Sublist l := (List.take_sublist _ _).trans (List.drop_sublist _ _)
theorem eq_ints (l : List Int) : eqO (.lst (l.map D.int)) (.lst []) = some (.pure (.bl l.isEmpty)) := by
  rw [eqO_pl (a := .lst (l.map D.int)) (b := .lst []) rfl rfl (by simp [O.er]) (by simp [O.er]) (pl_le (n := 64) (pl_lst (n := 0) fun d hd => by
        obtain ⟨s, hs, rfl⟩ := List.mem_map.mp hd
        exact pl_int 0 _) (by omega)) (pl_le (pl_lst (n := 0) (by simp)) (by omega))]
  cases l <;> simp
theorem ne_strs (xs : List Str) (h : ∀ x ∈ xs, PyData.strOk x = true) : neO (.lst (xs.map D.str)) (.lst []) = some (.pure (.bl (!xs.isEmpty))) := by
  rw [neO_pl (a := .lst (xs.map D.str)) (b := .lst []) rfl rfl (by simp [O.er]) (by simp [O.er]) (pl_le (n := 64) (pl_lst (n := 0) fun d hd => by
        obtain ⟨s, hs, rfl⟩ := List.mem_map.mp hd
        exact pl_str 0 _ (h s hs)) (by omega)) (pl_le (pl_lst (n := 0) (by simp)) (by omega))]
  cases xs <;> simp
end VI
namespace VI
open PySem PySem.Spec PyProof.Rows L2
section
variable {W : Wd} {vs : List (Option V)} {Wx : WX} {X : Cx} {n : Nat}
/-! ### dict(d), d == e (alike) -/
theorem hu0 {k : Nat} (cx : Ctx W k Wx X) : X.A.units < cLine := by have := cx.room.un; omega
def dictO : List O → Option O
  | [.pure (.dic l)] => some (.dic l)
  | [.dic l] => some (.dic l)
  | _ => none
theorem cr_dictO : CallR X (.type "dict") (cO W dictO) := by
  intro pins s σ H us ws Q I r ⟨H0, os, o, ex, pr, e, gv⟩
  have dc : ∀ (oo : O) l, os = [oo] → (oo = .pure (.dic l) ∨ oo = .dic l) → o = .dic l → wpAny (model X.prog X.w) X.A (call (.type "dict") ws) (EP X pins σ Q) X.xe s := by
    intro oo l e1 h e2
    subst e1 e2
    obtain ⟨v, e4, _, r1⟩ := one_of pr
    obtain ⟨p, kvs, e5, hp, rf⟩ := dic_at ex r1 h
    exact call_dictD pins s σ H us ws Q I r ⟨p, kvs, by rw [e4, e5], .inl hp, fun q hq => gv _ _ H0 [q] (step_newL ex hq) (.dic upd_same rf)⟩
  unfold dictO at e
  split at e
  · cases e; exact dc _ _ rfl (.inl rfl) rfl
  · cases e; exact dc _ _ rfl (.inr rfl) rfl
  · cases e
def sameF : D → D → Bool
  | .int i, .int j => decide (i = j)
  | .str i, .str j => decide (i = j)
  | .non, .non => true
  | _, _ => false
def inDic (m : List (D × D)) (p : D × D) : Bool := match keyOf p.1 with
  | some k => match lookD m k with
    | some d => sameF d p.2
    | none => false
  | none => false
def dicOf : O → Option (List (D × D))
  | .pure (.dic l) => some l
  | .dic l => some l
  | _ => none
def eqDic (r : Bool) (x y : O) : Option O := match dicOf x, dicOf y with
  | some l, some m => if l.length = m.length ∧ l.all (inDic m) = true then some (.pure (.bl r)) else none
  | _, _ => none
theorem same_rep {H : Hp} {v w : V} {d e : D} (hv : RepF W H v d) (hw : RepF W H w e) (h : sameF d e = true) : v = w ∧ flatB w = true := by
  unfold sameF at h
  split at h
  · cases hv; cases hw; rw [decide_eq_true_eq] at h; subst h; exact ⟨rfl, rfl⟩
  · cases hv; cases hw; rw [decide_eq_true_eq] at h; subst h; exact ⟨rfl, rfl⟩
  · cases hv; cases hw; exact ⟨rfl, rfl⟩
  · cases h
theorem in_dic {H : Hp} {ls : List (Key × V)} {m : List (D × D)} (hm : RepFk W H ls m) : ∀ {ks : List (Key × V)} {l : List (D × D)}, RepFk W H ks l → l.all (inDic m) = true → ∀ p ∈ ks, valV ls p.1 = some p.2 ∧ flatB p.2 = true
  | _, _, .nil, _, p, hp => by simp at hp
  | _, _, .cons (k := k) (v := v) (d := d) (vs := kvs) (ds := l) h r, e, p, hp => by
    rw [List.all_cons, Bool.and_eq_true] at e
    rcases List.mem_cons.mp hp with rfl | hp
    · have e1 := e.1
      unfold inDic at e1
      simp only [keyOf_kD] at e1
      cases el : lookD m k with
      | none => rw [el] at e1; cases e1
      | some d' =>
        rw [el] at e1
        obtain ⟨w, h1, h2⟩ := (RepFk.val k hm).1 d' el
        obtain ⟨q1, q2⟩ := same_rep h2 h e1
        exact ⟨by rw [h1, q1], q2⟩
    · exact in_dic hm r e.2 p hp
theorem dic_rep {H0 H : Hp} {v : V} {o : O} {l : List (D × D)} {L : List Addr} (ex : Ex H0 H) (h : RepO W H0 H v o L) (ho : dicOf o = some l) : ∃ p kvs, v = .ref p ∧ H p = some (.dK kvs) ∧ RepFk W H0 kvs l := by
  unfold dicOf at ho
  split at ho
  · cases ho; exact dic_at ex h (.inl rfl)
  · cases ho; exact dic_at ex h (.inr rfl)
  · cases ho
theorem op_eqDic (hu : X.A.units < cLine) : OpR X (compareOp .Eq) (rO W (eqDic true)) := by
  intro pins s σ H x y v u Q I rx ry ⟨H0, ox, oy, Lx, Ly, o, ex, hx, hy, e, gv⟩
  unfold eqDic at e
  split at e
  · rename_i l m e1 e2
    split at e
    · rename_i hc
      cases e
      obtain ⟨p, ks, a1, a2, a3⟩ := dic_rep ex hx e1
      obtain ⟨q, ls, b1, b2, b3⟩ := dic_rep ex hy e2
      exact op_eq_dictA hu pins s σ H x y v u Q I rx ry ⟨p, q, ks, ls, a1, b1, a2, b2, by rw [a3.len, b3.len]; exact hc.1, in_dic b3 a3 hc.2, gv.atom ex (.bl _)⟩
    · cases e
  · cases e
theorem op_neDic (hu : X.A.units < cLine) : OpR X (compareOp .NotEq) (rO W (eqDic false)) := by
  intro pins s σ H x y v u Q I rx ry ⟨H0, ox, oy, Lx, Ly, o, ex, hx, hy, e, gv⟩
  unfold eqDic at e
  split at e
  · rename_i l m e1 e2
    split at e
    · rename_i hc
      cases e
      obtain ⟨p, ks, a1, a2, a3⟩ := dic_rep ex hx e1
      obtain ⟨q, ls, b1, b2, b3⟩ := dic_rep ex hy e2
      exact op_ne_dictA hu pins s σ H x y v u Q I rx ry ⟨p, q, ks, ls, a1, b1, a2, b2, by rw [a3.len, b3.len]; exact hc.1, in_dic b3 a3 hc.2, gv.atom ex (.bl _)⟩
    · cases e
  · cases e
def powO := intO (fun i j => decide (0 ≤ j) && (decide (j ≤ 1000000) && decide (i.natAbs < 18446744073709551616))) fun i j => i ^ j.toNat
theorem op_powO : OpR X (binaryOp .Pow) (rO W powO) := op_intO op_pow fun i j h => by
  simp only [Bool.and_eq_true, decide_eq_true_eq] at h
  exact ⟨h.1, h.2.1, h.2.2⟩
/-! ### text.index(sign) -/
def indexO : List O → Option O
  | [.pure (.str a), .pure (.str b)] => match Builtin.Str.occurrences a b 0 a.length 1 with
    | i :: _ => some (.pure (.int (i : Nat)))
    | [] => none
  | _ => none
theorem mt_indexO : MtR X "str.index" (mO W indexO) := by
  intro pins s σ H x xs v us Q I rx rs ⟨H0, os, o, ex, pr, e, gv⟩
  unfold indexO at e
  split at e
  · rename_i a b
    obtain ⟨a1, a2, e1, ⟨_, r1⟩, ⟨_, r2⟩⟩ := two_of pr
    split at e
    · rename_i i rest ho
      cases e
      cases e1
      exact mt_sindex pins s σ H _ _ v us Q I rx rs ⟨a, b, i, rest, atom_str r1, by rw [atom_str r2], ho, gv.atom ex (.int _)⟩
    · cases e
  · cases e
/-! ### isinstance(x, an own class) -/
abbrev ITab := List (Str × Str × Bool)
def itOf (T : ITab) (c d : Str) : Option Bool := (T.find? fun e => decide (e.1 = c) && decide (e.2.1 = d)).map (·.2.2)
theorem it_of {T : ITab} {P : Str → Str → Bool → Prop} (h : ∀ e ∈ T, P e.1 e.2.1 e.2.2) {c d : Str} {b : Bool} (q : itOf T c d = some b) : P c d b := by
  unfold itOf at q
  obtain ⟨e, h1, h2⟩ := Option.map_eq_some_iff.mp q
  have hm := h e (List.mem_of_find?_eq_some h1)
  have hp := List.find?_some h1
  simp only [Bool.and_eq_true, decide_eq_true_eq] at hp
  rw [hp.1, hp.2, h2] at hm
  exact hm
def IsAt (W : Wd) (c d : Str) (b : Bool) : Prop := ∃ Ca Da, W.cl c = some Ca ∧ W.cl d = some Da ∧ Cls W.K Ca ∧ PySem.W.findIn W.K (.ref Ca) "__class__" = some (some (.builtin "object.__class__")) ∧
  PySem.W.specialIn W.K (.builtin "object.__class__") "__get__" = some (some (.builtin "getset_descriptor.__get__")) ∧ PySem.W.takesIn W.K (.builtin "object.__class__") = some true ∧ PySem.W.mroIn W.K Ca (.type "object") = some true ∧ PySem.W.kitOne W.K (.ref Ca) (.ref Da) = some b
def isiC (T : ITab) : List O → Option O
  | [x, .pure (.cls d)] => ((clsO x).bind fun c => itOf T c d).map fun b => .pure (.bl b)
  | _ => none
theorem cr_isiC {T : ITab} (hK : X.K = W.K) (hT : ∀ {c d : Str} {b : Bool}, itOf T c d = some b → IsAt W c d b) : CallR X (.builtin "isinstance") (cO W (isiC T)) := by
  intro pins s σ H us ws Q I r ⟨H0, os, o, ex, pr, e, gv⟩
  unfold isiC at e
  split at e
  · rename_i x d
    obtain ⟨v, w, e1, ⟨_, r1⟩, ⟨_, r2⟩⟩ := two_of pr
    obtain ⟨b, e2, e3⟩ := Option.map_eq_some_iff.mp e
    subst e3
    obtain ⟨c, e4, e5⟩ := Option.bind_eq_some_iff.mp e2
    obtain ⟨Ca, Da, h1, h2, h3, h4, h5, h6, h7, h8⟩ := hT e5
    have hw : w = .ref Da := by
      cases r2 with
      | pure f => cases f with
        | cls q => rw [h2] at q; cases q; rfl
    have hx : ∃ p dx fs, v = .ref p ∧ H p = some (.ins Ca dx fs) := by
      unfold clsO at e4
      split at e4
      · cases e4
        cases r1 with
        | pure f => cases f with
          | ins q1 q2 q3 => rw [h1] at q2; cases q2; exact ⟨_, _, _, rfl, ex _ _ q1⟩
          | exi q1 q2 q3 q4 q5 => rw [h1] at q3; cases q3; exact (cls_xf h3 q4).elim
      · cases e4
        cases r1 with
        | ins q1 q2 q3 => rw [h1] at q2; cases q2; exact ⟨_, _, _, rfl, q1⟩
      · cases e4
    obtain ⟨p, dx, fs, ev, hp⟩ := hx
    rw [← hK] at h3 h4 h5 h6 h7 h8
    exact call_isi pins s σ H us ws Q I r ⟨v, w, .ref Ca, .ref Da, b, e1, by rw [hw]; exact .own Da, by rw [ev]; exact .base (.ins hp h3 h4 h5 h6 h7), h8, gv.atom ex (.bl _)⟩
  · cases e
end
end VI
namespace VI
open PySem PySem.Spec PyProof.Rows L2
section
variable {W : Wd} {vs : List (Option V)} {Wx : WX} {X : Cx} {n : Nat}
/-! ### a < b < c -/
def chE (f f' : O → O → Option O) (A B C : E) : E := fun g => (A g).bind fun r g1 => (B g1).bind fun s g2 => match ob g2 r, ob g2 s with
  | some x, some (.pure d) => match f x (.pure d) with
    | some (.pure (.bl true)) => (C g2).bind fun w g3 => match (ob g3 w).bind (f' (.pure d)) with
      | some o => .ok (.val o) g3
      | none => .stuck
    | some (.pure (.bl false)) => .ok (.val (.pure (.bl false))) g2
    | _ => .stuck
  | _, _ => .stuck
theorem tE_chain {f f' : O → O → Option O} {A B C : E} : ∀ σ H Q, tE W vs Wx (chE f f' A B C) σ H Q → tChain (rO W f) (rO W f') (tE W vs Wx A) (tE W vs Wx B) (tE W vs Wx C) σ H Q := fun σ H Q ⟨H0, L, g, sp, en, post⟩ => by
  refine ⟨H0, L, g, sp, en, ?_⟩
  unfold chE at post
  cases ea : A g with
  | stuck => rw [ea] at post; exact post.elim
  | exc x g' => rw [ea] at post; exact post
  | ok r g1 =>
    rw [ea] at post
    intro v H1 H01 Lr L1 st1 rr en1
    refine ⟨H01, L1, g1, st1.sep.right, en1, ?_⟩
    simp only [Res.bind] at post
    cases eb : B g1 with
    | stuck => rw [eb] at post; exact post.elim
    | exc x g' =>
      rw [eb] at post
      intro c d H' H0' L' st2 rx en2
      exact post c d H' H0' L' (st1.then st2).right rx en2
    | ok s g2 =>
      rw [eb] at post
      intro w H2 H02 Ls Lq st2 rs en2
      simp only at post
      have st := st1.then st2
      have rr2 : RepR W H02 H2 σ v r Lr := rr.mono st2.ex0 (Step.keepL st1.sep st2)
      have hcase : ∃ x d k, ob g2 r = some x ∧ ob g2 s = some (.pure d) ∧ f x (.pure d) = some (.pure (.bl k)) := by
        cases e1 : ob g2 r with
        | none => rw [e1] at post; exact post.elim
        | some x =>
          cases e2 : ob g2 s with
          | none => rw [e1, e2] at post; exact post.elim
          | some y =>
            rw [e1, e2] at post
            cases y with
            | pure d =>
              simp only at post
              cases e3 : f x (.pure d) with
              | none => rw [e3] at post; exact post.elim
              | some o =>
                rw [e3] at post
                cases o with
                | pure q => cases q with
                  | bl k => exact ⟨x, d, k, rfl, rfl, e3⟩
                  | _ => exact post.elim
                | _ => exact post.elim
            | _ => exact post.elim
      obtain ⟨x, d, k, e1, e2, e3⟩ := hcase
      rw [e1, e2] at post
      simp only [e3] at post
      obtain ⟨Lx, hx, _⟩ := ob_rep en2 rr2 e1
      obtain ⟨Ly, hy, _⟩ := ob_rep en2 rs e2
      have hy0 : RepF W H02 w d := by cases hy with | pure q => exact q
      refine ⟨H02, x, .pure d, Lx, Ly, .pure (.bl k), st2.sep.ex, hx, hy, e3, fun z H3 H03 Lo s3 rz => ⟨k, atom_bl rz, ?_⟩⟩
      have st' : Step H0 H L H02 H2 ((Lr ++ Ls) ++ Lq) := by simpa [List.append_assoc] using st
      have spq : Sep H02 H2 (Lq ++ []) := by simpa using st'.sep.right
      have s4 : Step H02 H2 Lq H03 H3 Lq := by
        have : Step H02 H2 (Lq ++ []) H03 H3 (Lq ++ Lo) := Step.frame spq s3
        have h5 : Step H02 H2 Lq H03 H3 (Lq ++ Lo) := by simpa using this
        exact h5.sub (fun a ha => List.mem_append_left _ ha) (List.nodup_append.mp h5.sep.nd).1
      have en3 : EnvR W H03 H3 vs σ g2 Lq := en2.mono s3.ex0 (Step.keepL spq s3)
      have stt : Step H0 H L H03 H3 ((Lr ++ Ls) ++ Lq) := st'.then s4
      cases k with
      | false =>
        rw [if_neg Bool.false_ne_true]
        exact post (.bl false) H3 H03 [] Lq (by simpa using stt.right) (.pure (.bl false)) en3
      | true =>
        rw [if_pos rfl]
        simp only at post
        refine ⟨H03, Lq, g2, stt.sep.right, en3, ?_⟩
        cases ec : C g2 with
        | stuck => rw [ec] at post; exact post.elim
        | exc x g' =>
          rw [ec] at post
          intro c d' H' H0' L' st5 rx en5
          exact post c d' H' H0' L' (stt.then st5).right rx en5
        | ok wv g3 =>
          rw [ec] at post
          intro u H4 H04 Lw L4 st5 rw5 en5
          simp only at post
          cases eo : (ob g3 wv).bind (f' (.pure d)) with
          | none => rw [eo] at post; exact post.elim
          | some o =>
            rw [eo] at post
            obtain ⟨zz, h1, h2⟩ := Option.bind_eq_some_iff.mp eo
            obtain ⟨Lz, hz, _⟩ := ob_rep en5 rw5 h1
            have s6 := stt.then st5
            exact ⟨H04, .pure d, zz, [], Lz, o, st5.sep.ex, .pure ((hy0.mono s3.ex0).mono st5.ex0), hz, h2, gives_of (Lt := (Lr ++ Ls) ++ Lw) (by simpa [List.append_assoc] using s6) en5 post⟩
theorem se_chain {op op' : CmpOp} {a b c : Expr} {pos : Pos} {A B C : E} {f f' : O → O → Option O} (ho : OpR X (compareOp op) (rO W f)) (ho' : OpR X (compareOp op') (rO W f')) (ha : SE W vs Wx X a A) (hb : SE W vs Wx X b B) (hc : SE W vs Wx X c C)
    (hm : lastMarks [op, op'] [b, c] = false := by with_unfolding_all rfl) : SE W vs Wx X (.Compare a [op, op'] [b, c] pos) (chE f f' A B C) :=
  pe_weak (pe_chain ho ho' ha hb hc hm) tE_chain
theorem st_chain {op op' : CmpOp} {a b c : Expr} {pos : Pos} {A B C : E} {f f' : O → O → Option O} (ho : OpR X (compareOp op) (rO W f)) (ho' : OpR X (compareOp op') (rO W f')) (ha : SE W vs Wx X a A) (hb : SE W vs Wx X b B) (hc : SE W vs Wx X c C)
    (hm : lastMarks [op, op'] [b, c] = false := by with_unfolding_all rfl) : ST W vs Wx X (.Compare a [op, op'] [b, c] pos) (blT (chE f f' A B C)) :=
  pt_weak (pt_chain ho ho' ha hb hc hm) fun σ H Q q => by
    have h := tT_bl σ H Q q
    exact tE_chain σ H _ h
/-! ### x is True -/
def isBlO (neg : Bool) : O → O → Option O
  | .pure (.bl a), .pure (.bl b) => some (.pure (.bl (neg.xor (decide (a = b)))))
  | _, _ => none
theorem op_isBlO : OpR X (compareOp .Is) (rO W (isBlO false)) := by
  intro pins s σ H x y v u Q I rx ry ⟨H0, ox, oy, Lx, Ly, o, ex, hx, hy, e, gv⟩
  unfold isBlO at e
  split at e
  · rename_i a b
    cases e
    exact op_isBl pins s σ H x y v u Q I rx ry ⟨a, b, atom_bl hx, atom_bl hy, by simpa using gv.atom ex (.bl _)⟩
  · cases e
theorem op_ntBlO : OpR X (compareOp .IsNot) (rO W (isBlO true)) := by
  intro pins s σ H x y v u Q I rx ry ⟨H0, ox, oy, Lx, Ly, o, ex, hx, hy, e, gv⟩
  unfold isBlO at e
  split at e
  · rename_i a b
    cases e
    exact op_notBl pins s σ H x y v u Q I rx ry ⟨a, b, atom_bl hx, atom_bl hy, by simpa using gv.atom ex (.bl _)⟩
  · cases e
/-! ### n += e, whole numbers -/
def augS (f : Int → Int → Int) (i : Nat) (A : E) : S := fun g => match ob g (.slot i) with
  | some (.pure (.int a)) => (A g).bind fun r g1 => match ob g1 r with
    | some (.pure (.int b)) => match storeS i (.pure (.int (f a b))) g1 with
      | some g2 => .ok .next g2
      | none => .stuck
    | _ => .stuck
  | _ => .stuck
theorem ss_aug {f : Int → Int → Int} {op : Operator} {i : Nat} {x : Str} {e : Expr} {pos pos' : Pos} {A : E} (h : SE W vs Wx X e A)
    (run : ∀ {te : TE}, PE X e te → PS X (.AugAssign (.Name x pos') op e pos) (tAug i te (ipI f))) : SS W vs Wx X (.AugAssign (.Name x pos') op e pos) (augS f i A) := by
  refine ps_weak (run h) fun De σ H ⟨H0, L, g, sp, en, post⟩ => ?_
  unfold augS at post
  have hcase : ∃ a, ob g (.slot i) = some (.pure (.int a)) := by
    cases eo : ob g (.slot i) with
    | none => rw [eo] at post; exact post.elim
    | some o =>
      rw [eo] at post
      cases o with
      | pure d => cases d with
        | int a => exact ⟨a, rfl⟩
        | _ => exact post.elim
      | _ => exact post.elim
  obtain ⟨a, ea⟩ := hcase
  rw [ea] at post
  simp only [ob, Option.bind_eq_some_iff] at ea
  obtain ⟨sl, e1, e2⟩ := ea
  obtain ⟨v, La, Lo, Lb, h1, h2, h3, _⟩ := en.at e1 e2
  refine ⟨v, h1, H0, L, g, sp, en, ?_⟩
  have hv := atom_int h2
  simp only at post
  cases ec : A g with
  | stuck => rw [ec] at post; exact post.elim
  | exc x g' => rw [ec] at post; exact fun c d H' H0' L' s2 rx en2 => post c d σ H' H0' L' s2 rx en2
  | ok r g1 =>
    rw [ec] at post
    intro y H1 H01 Lr L1 st1 rr en1
    simp only [Res.bind] at post
    have hc2 : ∃ b, ob g1 r = some (.pure (.int b)) := by
      cases eo : ob g1 r with
      | none => rw [eo] at post; exact post.elim
      | some o =>
        rw [eo] at post
        cases o with
        | pure d => cases d with
          | int b => exact ⟨b, rfl⟩
          | _ => exact post.elim
        | _ => exact post.elim
    obtain ⟨b, eb⟩ := hc2
    rw [eb] at post
    simp only at post
    obtain ⟨Ly, hy, _⟩ := ob_rep en1 rr eb
    have hy2 := atom_int hy
    cases es : storeS i (.pure (.int (f a b))) g1 with
    | none => rw [es] at post; exact post.elim
    | some g2 =>
      rw [es] at post
      obtain ⟨Lq, s2, en2⟩ := store_ok' (Lr := []) (v := .int (f a b)) (by simpa using st1.sep.right) en1 (.pure (.int _)) es
      exact ⟨a, b, hv, hy2, post (σ.set i (some (.int (f a b)))) H1 H01 Lq (st1.right.trans (by simpa using s2)) en2⟩
end
end VI
namespace L2
open PySem PySem.Spec PyProof.Rows
section
variable {X : Cx}
/-- l.count(x), flat things of any kind -/
def rCntF (K : PySem.W.Frag) : V → List V → Hp → VK → Prop := fun x xs H Q => ∃ (p : Addr) (ys : List V) (y : V), x = .ref p ∧ xs = [y] ∧ SqL K H p ys ∧ flatV y = true ∧ ys.all flatV = true ∧ Q (.int (ys.countP fun z => eqV z y : Nat)) H
theorem count_vals {y : V} : ∀ {ys : List V} {its : List Value}, Vals ys its → ys.all flatV = true → its.countP (eqU y) = ys.countP fun z => eqV z y
  | _, _, .nil, _ => rfl
  | _, _, .cons r t, h => by
    rw [List.all_cons, Bool.and_eq_true] at h
    rw [List.countP_cons, List.countP_cons, count_vals t h.2, eqU_of r h.1]
theorem mt_countF : MtR X "list.count" (rCntF X.K) := by
  intro pins s σ H x xs v us Q I rx rxs h
  obtain ⟨p, ys, y, rfl, rfl, hs, fy, fys, q⟩ := h
  cases rx
  cases rxs with
  | cons ry rt =>
    rename_i uy ut
    cases rt
    obtain ⟨its, rv, ⟨⟨cls, dd, data, sl⟩, n, ho, hc, hdn, hd⟩, hlen⟩ := I.list hs
    simp only at hc hd
    subst hc hd
    refine call_meets PySem.F.slot_list_count ⟨_, ho, rfl⟩ PySem.F.entry_list_count (PySem.F.args_list_count_2 _ _)
      (SeqAt.list_countAt p its.toArray n dd sl uy (eqU y)) ⟨ho, fun u' hu' => mem_eqAt ry fy rv fys u' (by simpa using hu'), ?_⟩
    have ec : its.toArray.toList.countP (eqU y) = ys.countP fun z => eqV z y := count_vals rv fys
    refine ⟨.int (ys.countP fun z => eqV z y : Nat), H, I.tok _, ⟨s.toks, ?_⟩, q⟩
    show Value.int ((its.toArray.toList.countP (eqU y) : Nat) : Int) s.toks = Value.int ((ys.countP fun z => eqV z y : Nat) : Int) s.toks
    rw [ec]
end
end L2
namespace VI
open PySem PySem.Spec PyProof.Rows L2
section
variable {W : Wd} {vs : List (Option V)} {Wx : WX} {X : Cx} {n : Nat}
theorem eqA_rep {H : Hp} {x v : V} {dx d : D} {b : Bool} (hx : RepF W H x dx) (hv : RepF W H v d) (e : eqA d dx = some b) : flatV v = true ∧ flatV x = true ∧ eqV v x = b := by
  unfold eqA at e
  split at e <;> first | (cases e; cases hv; cases hx; exact ⟨rfl, rfl, rfl⟩) | cases e
def cntA (x : D) : List D → Option Nat
  | [] => some 0
  | y :: ys => match eqA y x, cntA x ys with
    | some b, some c => some (if b then c + 1 else c)
    | _, _ => none
theorem cntA_rep {H : Hp} {x : V} {dx : D} (hx : RepF W H x dx) : ∀ {us : List V} {l : List D} {c : Nat}, RepFs W H us l → cntA dx l = some c → us.all flatV = true ∧ (us.countP fun z => eqV z x) = c
  | _, _, c, .nil, e => by cases e; exact ⟨rfl, rfl⟩
  | _, _, c, .cons (v := v) (d := d) (vs := us) (ds := ds) h r, e => by
    rw [cntA] at e
    cases e1 : eqA d dx with
    | none => rw [e1] at e; cases e
    | some b =>
      cases e2 : cntA dx ds with
      | none => rw [e1, e2] at e; cases e
      | some k =>
        rw [e1, e2] at e
        obtain ⟨h1, h2⟩ := cntA_rep hx r e2
        obtain ⟨q1, q2, q3⟩ := eqA_rep hx h e1
        refine ⟨by rw [List.all_cons, q1, h1]; rfl, ?_⟩
        rw [List.countP_cons, q3, h2]
        cases e
        cases b <;> rfl
def countO : List O → Option O
  | [o, .pure x] => if flatD x then (elemsO o).bind fun l => match o with
      | .pure (.tup _) => none
      | _ => (cntA x l).map fun c => .pure (.int (c : Nat))
    else none
  | _ => none
theorem flat_repV {H : Hp} {x : V} {d : D} (h : RepF W H x d) (f : flatD d = true) : flatV x = true := by
  cases h <;> first | rfl | cases f
theorem mt_countO (hK : X.K = W.K) : MtR X "list.count" (mO W countO) := by
  intro pins s σ H x xs v us Q I rx rs ⟨H0, os, o, ex, pr, e, gv⟩
  unfold countO at e
  split at e
  · rename_i oo d
    obtain ⟨a1, a2, e1, ⟨_, r1⟩, ⟨_, r2⟩⟩ := two_of pr
    cases e1
    split at e
    · rename_i hf
      have fx : RepF W H0 a2 d := by cases r2 with | pure q => exact q
      have go : ∀ l c, (oo = .pure (.lst l) ∨ oo = .lst l) → cntA d l = some c → o = .pure (.int (c : Nat)) → wpAny (model X.prog X.w) X.A (call (.builtin "list.count") (v :: us)) (EP X pins σ Q) X.xe s := by
        intro l c ho hc ho2
        subst ho2
        obtain ⟨p, ws, e2, hs, rf⟩ := sql_of ex r1 ho
        obtain ⟨h1, h2⟩ := cntA_rep fx rf hc
        rw [← hK] at hs
        exact mt_countF pins s σ H _ _ v us Q I rx rs ⟨p, ws, a2, e2, rfl, hs, flat_repV fx hf, h1, by rw [h2]; exact gv.atom ex (.int _)⟩
      obtain ⟨l, e2, e3⟩ := Option.bind_eq_some_iff.mp e
      unfold elemsO at e2
      split at e2
      · cases e2
        obtain ⟨c, h1, h2⟩ := Option.map_eq_some_iff.mp e3
        exact go _ c (.inl rfl) h1 h2.symm
      · cases e2
        obtain ⟨c, h1, h2⟩ := Option.map_eq_some_iff.mp e3
        exact go _ c (.inr rfl) h1 h2.symm
      · cases e3
      · cases e2
    · cases e
  · cases e
def idxA (x : D) : List D → Option Nat
  | [] => none
  | y :: ys => match eqA y x with
    | some true => if (anyA x ys).isSome then some 0 else none
    | some false => (idxA x ys).map (· + 1)
    | none => none
theorem idxA_rep {H : Hp} {x : V} {dx : D} (hx : RepF W H x dx) : ∀ {us : List V} {l : List D} {j : Nat}, RepFs W H us l → idxA dx l = some j → us.all flatV = true ∧ ∃ z, us[j]? = some z ∧ eqV z x = true ∧ ∀ (m : Nat) (z' : V), m < j → us[m]? = some z' → eqV z' x = false
  | _, _, j, .nil, e => by cases e
  | _, _, j, .cons (v := v) (d := d) (vs := us) (ds := ds) h r, e => by
    rw [idxA] at e
    cases e1 : eqA d dx with
    | none => rw [e1] at e; cases e
    | some b =>
      obtain ⟨q1, q2, q3⟩ := eqA_rep hx h e1
      rw [e1] at e
      cases b with
      | true =>
        simp only at e
        split at e
        · rename_i hs
          cases e
          obtain ⟨c, hc⟩ := Option.isSome_iff_exists.mp hs
          obtain ⟨h1, _⟩ := anyA_rep hx r hc
          exact ⟨by rw [List.all_cons, q1, h1]; rfl, v, rfl, q3, fun m z' hm => absurd hm (Nat.not_lt_zero _)⟩
        · cases e
      | false =>
        simp only at e
        obtain ⟨k, h1, h2⟩ := Option.map_eq_some_iff.mp e
        subst h2
        obtain ⟨g1, z, g2, g3, g4⟩ := idxA_rep hx r h1
        refine ⟨by rw [List.all_cons, q1, g1]; rfl, z, by simpa using g2, g3, fun m z' hm hz => ?_⟩
        cases m with
        | zero => simp at hz; subst hz; exact q3
        | succ m => exact g4 m z' (by omega) (by simpa using hz)
def lindexO : List O → Option O
  | [.pure (.lst l), .pure x] => if flatD x then (idxA x l).map fun c => .pure (.int (c : Nat)) else none
  | [.lst l, .pure x] => if flatD x then (idxA x l).map fun c => .pure (.int (c : Nat)) else none
  | _ => none
theorem mt_lindexO (hK : X.K = W.K) : MtR X "list.index" (mO W lindexO) := by
  intro pins s σ H x xs v us Q I rx rs ⟨H0, os, o, ex, pr, e, gv⟩
  have go : ∀ oo d l, os = [oo, .pure d] → (oo = .pure (.lst l) ∨ oo = .lst l) → flatD d = true → (idxA d l).map (fun c => O.pure (.int (c : Nat))) = some o → wpAny (model X.prog X.w) X.A (call (.builtin "list.index") (v :: us)) (EP X pins σ Q) X.xe s := by
    intro oo d l h0 ho hf hm
    subst h0
    obtain ⟨a1, a2, e1, ⟨_, r1⟩, ⟨_, r2⟩⟩ := two_of pr
    cases e1
    obtain ⟨c, h1, h2⟩ := Option.map_eq_some_iff.mp hm
    subst h2
    have fx : RepF W H0 a2 d := by cases r2 with | pure q => exact q
    obtain ⟨p, ws, e2, hs, rf⟩ := sql_of ex r1 ho
    obtain ⟨g1, z, g2, g3, g4⟩ := idxA_rep fx rf h1
    rw [← hK] at hs
    exact mt_index pins s σ H _ _ v us Q I rx rs ⟨p, ws, a2, c, z, e2, rfl, hs, flat_repV fx hf, g1, g2, g3, g4, gv.atom ex (.int _)⟩
  unfold lindexO at e
  split at e
  · split at e
    · rename_i hf; exact go _ _ _ rfl (.inl rfl) hf e
    · cases e
  · split at e
    · rename_i hf; exact go _ _ _ rfl (.inr rfl) hf e
    · cases e
  · cases e
end
end VI
namespace VI
open PySem PySem.Spec PyProof.Rows L2
/-! ### loops and comprehensions in general -/
theorem compL_one {own : List Nat} {t : T} {cond : G → Res Bool} {elt : E} {d y : D} {g g' : G} (h : compL own t cond elt [d] g [] = some ([y], g')) (ds acc : List D) (ha : acc.length < 16777216) : compL own t cond elt (d :: ds) g acc = compL own t cond elt ds g' (acc ++ [y]) := by
  simp only [compL] at h ⊢
  cases e1 : t d (wipeG own g) with
  | none => rw [e1] at h; cases h
  | some g1 =>
    rw [e1] at h
    simp only at h ⊢
    cases e2 : cond g1 with
    | stuck => rw [e2] at h; cases h
    | exc x g2 => rw [e2] at h; cases h
    | ok b g2 =>
      rw [e2] at h
      cases b with
      | false =>
        simp only at h
        split at h <;> simp at h
      | true =>
        simp only at h ⊢
        cases e3 : elt g2 with
        | stuck => rw [e3] at h; cases h
        | exc x g2 => rw [e3] at h; cases h
        | ok r g3 =>
          rw [e3] at h
          simp only at h ⊢
          cases e4 : frzs [r] g3 with
          | none => rw [e4] at h; simp at h
          | some p =>
            obtain ⟨ys, g4⟩ := p
            rw [e4] at h
            match ys with
            | [] => simp at h
            | [z] =>
              simp only at h ⊢
              by_cases hp : own.all (isPure g4) = true
              · simp only [hp, List.length_nil, and_true, ha, if_true] at h ⊢
                simp at h
                rw [h.1, h.2]
              · simp [hp] at h
            | z :: z2 :: zs => simp at h
theorem compL_none {own : List Nat} {t : T} {cond : G → Res Bool} {elt : E} {d : D} {g g' : G} (h : compL own t cond elt [d] g [] = some ([], g')) (ds acc : List D) : compL own t cond elt (d :: ds) g acc = compL own t cond elt ds g' acc := by
  simp only [compL] at h ⊢
  cases e1 : t d (wipeG own g) with
  | none => rw [e1] at h; cases h
  | some g1 =>
    rw [e1] at h
    simp only at h ⊢
    cases e2 : cond g1 with
    | stuck => rw [e2] at h; cases h
    | exc x g2 => rw [e2] at h; cases h
    | ok b g2 =>
      rw [e2] at h
      cases b with
      | false =>
        simp only at h ⊢
        by_cases hp : own.all (isPure g2) = true
        · simp only [hp, if_true] at h ⊢
          simp at h
          rw [h]
        · simp [hp] at h
      | true =>
        simp only at h ⊢
        cases e3 : elt g2 with
        | stuck => rw [e3] at h; cases h
        | exc x g2 => rw [e3] at h; cases h
        | ok r g3 =>
          rw [e3] at h
          simp only at h ⊢
          cases e4 : frzs [r] g3 with
          | none => rw [e4] at h; simp at h
          | some p =>
            obtain ⟨ys, g4⟩ := p
            rw [e4] at h
            match ys with
            | [] => simp at h
            | [z] =>
              simp only at h
              split at h <;> simp at h
            | z :: z2 :: zs => simp at h
/-- a comprehension over `as` without a condition: `G` says how the frame stands by the state of what the comprehension's own names hold -/
theorem comp_map {α σ : Type} {own : List Nat} {t : T} {cond : G → Res Bool} {elt : E} (Gf : σ → G) (I : σ → Prop) (enc f : α → D) : ∀ (as : List α), (∀ a ∈ as, ∀ s, I s → ∃ s', I s' ∧ compL own t cond elt [enc a] (Gf s) [] = some ([f a], Gf s')) →
    ∀ (acc : List D), acc.length + as.length < 16777216 → ∀ s, I s → ∃ s', I s' ∧ compL own t cond elt (as.map enc) (Gf s) acc = some (acc ++ as.map f, Gf s')
  | [], _, acc, _, s, hs => ⟨s, hs, by simp [compL]⟩
  | a :: as, h, acc, hl, s, hs => by
    obtain ⟨s1, i1, e1⟩ := h a (by simp) s hs
    obtain ⟨s2, i2, e2⟩ := comp_map Gf I enc f as (fun b hb => h b (List.mem_cons_of_mem _ hb)) (acc ++ [f a]) (by simp at hl ⊢; omega) s1 i1
    refine ⟨s2, i2, ?_⟩
    rw [List.map_cons, compL_one e1 _ _ (by simp at hl; omega), e2]
    simp
/-- with a condition -/
theorem comp_filter {α σ : Type} {own : List Nat} {t : T} {cond : G → Res Bool} {elt : E} (Gf : σ → G) (I : σ → Prop) (enc f : α → D) (p : α → Bool) : ∀ (as : List α), (∀ a ∈ as, ∀ s, I s → ∃ s', I s' ∧ compL own t cond elt [enc a] (Gf s) [] = some (if p a then [f a] else [], Gf s')) →
    ∀ (acc : List D), acc.length + as.length < 16777216 → ∀ s, I s → ∃ s', I s' ∧ compL own t cond elt (as.map enc) (Gf s) acc = some (acc ++ (as.filter p).map f, Gf s')
  | [], _, acc, _, s, hs => ⟨s, hs, by simp [compL]⟩
  | a :: as, h, acc, hl, s, hs => by
    obtain ⟨s1, i1, e1⟩ := h a (by simp) s hs
    by_cases hp : p a = true
    · rw [if_pos hp] at e1
      obtain ⟨s2, i2, e2⟩ := comp_filter Gf I enc f p as (fun b hb => h b (List.mem_cons_of_mem _ hb)) (acc ++ [f a]) (by simp at hl ⊢; omega) s1 i1
      refine ⟨s2, i2, ?_⟩
      rw [List.map_cons, compL_one e1 _ _ (by simp at hl; omega), e2, List.filter_cons, if_pos hp]
      simp
    · rw [if_neg hp] at e1
      obtain ⟨s2, i2, e2⟩ := comp_filter Gf I enc f p as (fun b hb => h b (List.mem_cons_of_mem _ hb)) acc (by simp at hl ⊢; omega) s1 i1
      refine ⟨s2, i2, ?_⟩
      rw [List.map_cons, compL_none e1, e2, List.filter_cons, if_neg hp]
inductive All2 {α β : Type} (P : α → β → Prop) : List α → List β → Prop
  | nil : All2 P [] []
  | cons {a : α} {b : β} {as : List α} {bs : List β} : P a b → All2 P as bs → All2 P (a :: as) (b :: bs)
theorem All2.len {α β : Type} {P : α → β → Prop} {as : List α} {bs : List β} (h : All2 P as bs) : bs.length = as.length := by
  induction h with
  | nil => rfl
  | cons _ _ ih => simp [ih]
theorem All2.mem {α β : Type} {P : α → β → Prop} {as : List α} {bs : List β} (h : All2 P as bs) : ∀ b ∈ bs, ∃ a ∈ as, P a b := by
  induction h with
  | nil => simp
  | cons p _ ih =>
    intro b hb
    rcases List.mem_cons.mp hb with rfl | hb
    · exact ⟨_, by simp, p⟩
    · obtain ⟨a, ha, q⟩ := ih b hb
      exact ⟨a, List.mem_cons_of_mem _ ha, q⟩
/-- a comprehension whose items are not told one by one: each has what `P` says -/
theorem comp_ex {α β σ : Type} {own : List Nat} {t : T} {cond : G → Res Bool} {elt : E} (Gf : σ → G) (I : σ → Prop) (enc : α → D) (out : β → D) (P : α → β → Prop) : ∀ (as : List α), (∀ a ∈ as, ∀ s, I s → ∃ s' b, I s' ∧ P a b ∧ compL own t cond elt [enc a] (Gf s) [] = some ([out b], Gf s')) →
    ∀ (acc : List D), acc.length + as.length < 16777216 → ∀ s, I s → ∃ (s' : σ) (bs : List β), I s' ∧ All2 P as bs ∧ compL own t cond elt (as.map enc) (Gf s) acc = some (acc ++ bs.map out, Gf s')
  | [], _, acc, _, s, hs => ⟨s, [], hs, .nil, by simp [compL]⟩
  | a :: as, h, acc, hl, s, hs => by
    obtain ⟨s1, b, i1, p1, e1⟩ := h a (by simp) s hs
    obtain ⟨s2, bs, i2, p2, e2⟩ := comp_ex Gf I enc out P as (fun b hb => h b (List.mem_cons_of_mem _ hb)) (acc ++ [out b]) (by simp at hl ⊢; omega) s1 i1
    refine ⟨s2, b :: bs, i2, .cons p1 p2, ?_⟩
    rw [List.map_cons, compL_one e1 _ _ (by simp at hl; omega), e2]
    simp
theorem loop_one {t : T} {body : S} {d : D} {g g' : G} (h : loopS t body [d] g = .ok .next g') (ds : List D) : loopS t body (d :: ds) g = loopS t body ds g' ∨ loopS t body (d :: ds) g = .ok .next g' := by
  simp only [loopS] at h ⊢
  cases e1 : t d g with
  | none => rw [e1] at h; cases h
  | some g1 =>
    rw [e1] at h
    simp only at h ⊢
    cases e2 : body g1 with
    | stuck => rw [e2] at h; cases h
    | exc x g2 => rw [e2] at h; cases h
    | ok f g2 =>
      rw [e2] at h
      cases f with
      | next => simp only [Res.bind] at h ⊢; cases h; exact .inl rfl
      | cont => simp only [Res.bind] at h ⊢; cases h; exact .inl rfl
      | brk => simp only [Res.bind] at h ⊢; cases h; exact .inr rfl
      | ret o => simp only [Res.bind] at h; cases h
/-- one turn that goes on -/
def turnS (t : T) (body : S) (d : D) (g : G) : Option G := match t d g with
  | some g1 => match body g1 with
    | .ok .next g2 => some g2
    | .ok .cont g2 => some g2
    | _ => none
  | none => none
theorem loop_turn {t : T} {body : S} {d : D} {g g' : G} (h : turnS t body d g = some g') (ds : List D) : loopS t body (d :: ds) g = loopS t body ds g' := by
  unfold turnS at h
  simp only [loopS]
  cases e1 : t d g with
  | none => rw [e1] at h; cases h
  | some g1 =>
    rw [e1] at h
    simp only at h ⊢
    cases e2 : body g1 with
    | stuck => rw [e2] at h; cases h
    | exc x g2 => rw [e2] at h; cases h
    | ok f g2 =>
      rw [e2] at h
      cases f with
      | next => simp only [Option.some.injEq] at h; subst h; rfl
      | cont => simp only [Option.some.injEq] at h; subst h; rfl
      | brk => cases h
      | ret o => cases h
def turnF : Res Fl → Option G
  | .ok .next g2 => some g2
  | .ok .cont g2 => some g2
  | _ => none
def turnD (body : S) : Option G → Option G
  | some g => turnF (body g)
  | none => none
theorem turn_a (t : T) (body : S) (d : D) (g : G) : turnS t body d g = turnD body (t d g) := by
  unfold turnS turnD
  cases t d g with
  | none => rfl
  | some g1 =>
    simp only
    cases body g1 with
    | ok f g2 => cases f <;> rfl
    | exc x g2 => rfl
    | stuck => rfl
theorem turnD_s (body : S) (g : G) : turnD body (some g) = turnF (body g) := rfl
theorem turnF_n (g : G) : turnF (.ok .next g) = some g := rfl
theorem turnF_c (g : G) : turnF (.ok .cont g) = some g := rfl
/-- a loop that goes through all its items: `Gf` the frame by the state, `R` what holds of the state -/
theorem loop_inv {α σ : Type} {t : T} {body : S} (Gf : σ → G) (enc : α → D) (R : List α → σ → Prop) : ∀ (as : List α), (∀ a r s, a :: r <:+ as → R (a :: r) s → ∃ s', R r s' ∧ turnS t body (enc a) (Gf s) = some (Gf s')) →
    ∀ s, R as s → ∃ s', R [] s' ∧ loopS t body (as.map enc) (Gf s) = .ok .next (Gf s')
  | [], _, s, hs => ⟨s, hs, by simp [loopS]⟩
  | a :: as, h, s, hs => by
    obtain ⟨s1, i1, e1⟩ := h a as s (List.suffix_refl _) hs
    obtain ⟨s2, i2, e2⟩ := loop_inv Gf enc R as (fun b r s hb => h b r s (hb.trans (List.suffix_cons a as))) s1 i1
    exact ⟨s2, i2, by rw [List.map_cons, loop_turn e1, e2]⟩
end VI
namespace VI
open PySem PySem.Spec PyProof.Rows L2
section
variable {W : Wd} {vs : List (Option V)} {Wx : WX} {X : Cx} {n : Nat}
/-! ### list(range(a, b)) -/
def rgOk (i j : Int) : Bool := decide (-(2 ^ 62) ≤ i) && (decide (i < 2 ^ 62) && (decide (-(2 ^ 62) ≤ j) && (decide (j < 2 ^ 62) && decide ((j - i).toNat ≤ 2 ^ 24))))
def rgL (i j : Int) : List D := (List.range (j - i).toNat).map fun k : Nat => D.int (i + (k : Int))
def lrgO : O → O → Option O
  | .pure (.int i), .pure (.int j) => if rgOk i j then some (.lst (rgL i j)) else none
  | _, _ => none
theorem rgL_rep (H : Hp) (i j : Int) : RepFs W H (rgV i j) (rgL i j) := by
  unfold rgV rgL
  induction List.range (j - i).toNat with
  | nil => exact .nil
  | cons k ks ih => exact .cons (.int _) ih
theorem se_lrg {p p2 pos pos2 : Pos} {a b : Expr} {A B : E} {k : Nat} (cx : Ctx W k Wx X) (hg : Gl X "list") (hm : X.mg "list" = none) (hg2 : Gl X "range") (hm2 : X.mg "range" = none) (ha : SE W vs Wx X a A) (hb : SE W vs Wx X b B)
    (na : starEach [a, b] X.env = (false, eval a X.env) :: starEach [b] X.env := by rfl) (nb : starEach [b] X.env = (false, eval b X.env) :: starEach [] X.env := by rfl) (hp : (backTo pos2 (starEach [b] X.env)).any (·.1) = false := by rfl)
    (nc : starEach [.Call (.Name "range" p2) [a, b] [] pos2] X.env = (false, eval (.Call (.Name "range" p2) [a, b] [] pos2) X.env) :: starEach [] X.env := by rfl) :
    SE W vs Wx X (.Call (.Name "list" p) [.Call (.Name "range" p2) [a, b] [] pos2] [] pos) (bin lrgO A B) := by
  refine pe_weak (pe_listRg cx.calm hg hm (prg_2 hg2 hm2 ha hb na nb hp) nc) fun σ H Q q => ?_
  obtain ⟨H0, L, g, sp, en, post⟩ := tO_bin σ H Q q
  refine ⟨H0, L, g, sp, en, ?_⟩
  cases ea : A g with
  | stuck => rw [ea] at post; exact post.elim
  | exc x g' => rw [ea] at post; exact post
  | ok r g1 =>
    rw [ea] at post
    intro v H1 H01 Lr L1 st1 rr en1
    obtain ⟨H02, L2, g2, sp2, en2, post2⟩ := post v H1 H01 Lr L1 st1 rr en1
    refine ⟨H02, L2, g2, sp2, en2, ?_⟩
    cases eb : B g2 with
    | stuck => rw [eb] at post2; exact post2.elim
    | exc x g' => rw [eb] at post2; exact post2
    | ok s g3 =>
      rw [eb] at post2
      intro w H2 H03 Ls L3 st2 rs en3
      obtain ⟨H04, ox, oy, Lx, Ly, o, ex, rx, ry, ef, gv⟩ := post2 w H2 H03 Ls L3 st2 rs en3
      cases rx with
      | pure rx =>
        cases rx with
        | int i =>
          cases ry with
          | pure ry =>
            cases ry with
            | int j =>
              simp only [lrgO] at ef
              by_cases hr : rgOk i j = true
              · rw [if_pos hr] at ef
                cases ef
                simp only [rgOk, Bool.and_eq_true, decide_eq_true_eq] at hr
                exact ⟨i, j, rfl, rfl, ⟨hr.1, hr.2.1, hr.2.2.1, hr.2.2.2.1, hr.2.2.2.2⟩, fun q hq => gv.newL ex (rgL_rep H04 i j) hq⟩
              · rw [if_neg hr] at ef; cases ef
            | _ => cases ef
          | _ => cases ef
        | _ => cases ef
      | _ => cases ef
/-! ### {'a': .., 'b': ..} -/
def dispR (ks : List Str) : Option (List D × G) → Res R
  | some (ds, g) => if ks.length = ds.length ∧ ks.length ≤ 15 ∧ ks.Nodup then .ok (.val (.dic ((ks.map D.str).zip ds))) g else .stuck
  | none => .stuck
def dispC (ks : List Str) (rs : List R) (g : G) : Res R := dispR ks (frzs rs g)
def dispE (ks : List Str) (A : G → Res (List R)) : E := fun g => (A g).bind (dispC ks)
structure SD (W : Wd) (vs : List (Option V)) (Wx : WX) (X : Cx) (pos : Pos) (keys : List (Option Expr)) (values : List Expr) (ks : List Str) (As : List E) : Prop where
  ex : ∃ trs, PPs X pos keys values trs ∧ keys.all (·.isSome) = true ∧ keys.length = values.length ∧ keys.length = ks.length ∧
    ∀ σ H (R : List V → Hp → Prop) (Q : List (V × V) → Hp → Prop), (∀ us H2, us.length = ks.length → R us H2 → Q ((ks.zip us).map fun p => (V.str p.1, p.2)) H2) → tA W vs Wx (evs As) σ H R → tPairs trs σ H Q
theorem sd_nil {pos : Pos} : SD W vs Wx X pos [] [] [] [] := ⟨[], pps_nil, rfl, rfl, rfl, fun σ H R Q hq ⟨H0, L, g, sp, en, post⟩ => hq [] H rfl (post [] H H0 [] L (Step.refl sp) .nil en)⟩
theorem sd_cons {pos p2 : Pos} {k : Str} {j : Nat} {v : Expr} {keys : List (Option Expr)} {values : List Expr} {ks : List Str} {A : E} {As : List E} (hv : SE W vs Wx X v A) (hr : SD W vs Wx X pos keys values ks As) :
    SD W vs Wx X pos (some (.Constant (.str k) j p2) :: keys) (v :: values) (k :: ks) (A :: As) := by
  obtain ⟨trs, h1, h2, h3, h4, h5⟩ := hr
  refine ⟨(tC (.str k), tE W vs Wx A) :: trs, pps_cons pe_str hv h1, by simp [h2], by simp [h3], by simp [h4], fun σ H R Q hq q => ?_⟩
  obtain ⟨H0, L, g, sp, en, post⟩ := q
  show tE W vs Wx A σ H _
  refine ⟨H0, L, g, sp, en, ?_⟩
  rw [evs] at post
  cases ea : A g with
  | stuck => rw [ea] at post; exact post.elim
  | exc x g' => rw [ea] at post; exact post
  | ok r g1 =>
    rw [ea] at post
    intro v H1 H01 Lr L1 st1 rr en1
    simp only [Res.bind] at post
    have key : tA W vs Wx (evs As) σ H1 (fun us H2 => R (v :: us) H2) := by
      refine ⟨H01, L1, g1, st1.sep.right, en1, ?_⟩
      cases eb : evs As g1 with
      | stuck => rw [eb] at post; exact post.elim
      | exc x g' =>
        rw [eb] at post
        intro c d H' H0' L' st2 rx en2
        exact post c d H' H0' L' (st1.then st2).right rx en2
      | ok s g2 =>
        rw [eb] at post
        intro w H2 H02 Ls L2 st2 rs en2
        have st := st1.then st2
        have rr2 : RepR W H02 H2 σ v r Lr := rr.mono st2.ex0 (Step.keepL st1.sep st2)
        exact post (v :: w) H2 H02 (Lr ++ Ls) L2 (by simpa [List.append_assoc] using st) (.cons rr2 rs) en2
    exact h5 σ H1 _ _ (fun us H2 e q => hq (v :: us) H2 (by simp [e]) q) key
theorem mergeK_new : ∀ (kvs acc : List (Key × V)), (acc.map (·.1) ++ kvs.map (·.1)).Nodup → mergeK acc kvs = acc ++ kvs
  | [], acc, _ => by simp [mergeK]
  | p :: kvs, acc, h => by
    have hv : valV acc p.1 = none := by
      cases e : valV acc p.1 with
      | none => rfl
      | some v =>
        exfalso
        have ha : (acc.any fun kv => decide (kv.1 = p.1)) = true := by rw [valV_any, e]; rfl
        obtain ⟨q, hq, e2⟩ := List.any_eq_true.mp ha
        have := (List.nodup_append.mp h).2.2 q.1 (List.mem_map_of_mem hq) p.1 (by simp)
        exact this (by simpa using e2)
    have e1 : mergeK acc (p :: kvs) = mergeK (putK acc p.1 p.2) kvs := rfl
    rw [e1, putK_new _ hv, mergeK_new kvs _ (by simpa using h)]
    simp
theorem se_disp {pos : Pos} {keys : List (Option Expr)} {values : List Expr} {ks : List Str} {As : List E} (h : SD W vs Wx X pos keys values ks As) (h0 : ks ≠ []) (hk15 : ks.length ≤ 15) : SE W vs Wx X (.Dict keys values pos) (dispE ks (evs As)) := by
  obtain ⟨trs, h1, h2, h3, h4, h5⟩ := h
  refine pe_weak (pe_disp h1 h2 h3 (fun e => h0 (List.length_eq_zero_iff.mp (by rw [← h4, e]; rfl))) (by omega)) fun σ H Q q => ?_
  obtain ⟨H0, L, g, sp, en, post⟩ := q
  intro p hp
  have s2 := step_newL (o := .dK []) sp.ex hp
  have sp2 : Sep H0 H (L ++ []) := by simpa using sp
  have s3 : Step H0 H L H0 (upd H p (.dK [])) ([p] ++ L) := by
    have : Step H0 H L H0 (upd H p (.dK [])) (L ++ [p]) := by simpa using Step.frame sp2 s2
    exact this.perm List.perm_append_comm
  have en' := en.mono (Ex.refl _) (Step.keepL sp2 s2)
  have hpL : p ∉ L := fun hm => by
    have := (List.nodup_append.mp s3.sep.nd).2.2 p (by simp) p hm
    exact this rfl
  have key : tA W vs Wx (evs As) σ (upd H p (.dK [])) (fun (us : List V) (H2 : Hp) => us.length = ks.length → H2 p = some (.dK []) ∧ ∃ kvs : List (Key × V), (ks.zip us).map (fun q : Str × V => (V.str q.1, q.2)) = kvs.map (fun kv => (kV kv.1, kv.2)) ∧ kvs.length ≤ 15 ∧ Q (.ref p) (upd H2 p (.dK (mergeK [] kvs)))) := by
    refine ⟨H0, L, g, s3.sep.right, en', ?_⟩
    unfold dispE at post
    cases ea : evs As g with
    | stuck => rw [ea] at post; exact post.elim
    | exc x g' =>
      rw [ea] at post
      intro c d H' H0' L' st rx en1
      exact post c d H' H0' L' (s3.trans (Step.frame s3.sep st)).right rx en1
    | ok rs g1 =>
      rw [ea] at post
      intro us H1 H01 Lr L1 st1 rr en1 hl
      have kp : H1 p = some (.dK []) := st1.keep p _ upd_same hpL
      refine ⟨kp, ?_⟩
      simp only [Res.bind, dispC] at post
      cases ef : frzs rs g1 with
      | none => rw [ef] at post; exact post.elim
      | some pr =>
        obtain ⟨ds, g2⟩ := pr
        rw [ef] at post
        simp only [dispR] at post
        by_cases hc : ks.length = ds.length ∧ ks.length ≤ 15 ∧ ks.Nodup
        · rw [if_pos hc] at post
          obtain ⟨H02, L2, s4, rf, en2⟩ := frzs_ok rr st1.sep en1 ef
          have st2 : Step H0 H L H02 H1 ([p] ++ L2) := s3.trans (Step.frame s3.sep (st1.trans s4))
          refine ⟨(ks.map (Sum.inr : Str → Key)).zip us, ?_, by simp; omega, ?_⟩
          · clear post en1 en2 rr rf ef
            rw [List.zip_map_left, List.map_map]
            rfl
          · have hnd : (([] : List (Key × V)).map (·.1) ++ ((ks.map (Sum.inr : Str → Key)).zip us).map (·.1)).Nodup := by
              rw [List.map_nil, List.nil_append]
              have : ((ks.map (Sum.inr : Str → Key)).zip us).map (·.1) = ks.map (Sum.inr : Str → Key) := List.map_fst_zip (by simp [hl])
              rw [this]
              show List.Pairwise (· ≠ ·) (ks.map (Sum.inr : Str → Key))
              rw [List.pairwise_map]
              exact List.Pairwise.imp (fun h e => h (Sum.inr.inj e)) hc.2.2
            rw [mergeK_new _ _ hnd, List.nil_append]
            have spp : Sep H02 H1 (L2 ++ [p]) := st2.sep.perm List.perm_append_comm
            have sw : Step H02 H1 [p] H02 (upd H1 p (.dK ((ks.map (Sum.inr : Str → Key)).zip us))) [p] := step_list spp.right
            have sf := Step.frame spp sw
            have sf2 : Step H0 H L H02 (upd H1 p (.dK ((ks.map (Sum.inr : Str → Key)).zip us))) ([p] ++ L2) := (st2.trans (sf.from fun a => by simp [or_comm])).perm List.perm_append_comm
            refine post (.ref p) _ H02 [p] L2 sf2 (.dic upd_same ?_) (en2.mono (Ex.refl _) (Step.keepL spp sw))
            have gen : ∀ (ks : List Str) (us : List V) (ds : List D), ks.length = ds.length → RepFs W H02 us ds → RepFk W H02 ((ks.map (Sum.inr : Str → Key)).zip us) ((ks.map D.str).zip ds) := by
              intro ks
              induction ks with
              | nil => intro us ds _ _; exact .nil
              | cons k ks ih =>
                intro us ds e r
                cases r with
                | nil => simp at e
                | cons a r => exact .cons (k := .inr k) a (ih _ _ (by simpa using e) r)
            exact gen ks us ds hc.1 rf
        · rw [if_neg hc] at post; exact post.elim
  exact h5 σ _ _ _ (fun us H2 e q => by
    obtain ⟨a, kvs, b, c, d⟩ := q e
    exact ⟨a, kvs, b, c, d⟩) key
/-! ### C.__init__(self, ..) -/
def CInitAt (W : Wd) (C : Callee) (P : Program) (w : World) (mg : Str → Option Value) (base : Heap) (k : Nat) (x m : Str) (fn : Nat) (ar : Nat) : Prop :=
  ∃ (Ca f : Addr) (fd : FuncData) (ps : List Str), mg x = some (.ref Ca) ∧ ClX.CRead W.K Ca (.type "type") ∧ PySem.W.findCls W.K (.ref Ca) (.type "type") m = some (.val (.ref f)) ∧ PySem.W.keepIn W.K (.ref f) = true ∧ FnOk P w W.K mg base (L2.CX P w) k f fd ps (spD W C fn ar) ∧ Binds W.K fd ps []
theorem pe_cfn {CX : CXT} {k : Nat} {f C : Addr} {fd : FuncData} {ps : List Str} {sp : Sp} {E : L2.St → XK} {x m : Str} {p pos apos : Pos} {e : Expr} {es : List Expr} {t : TA} {pl : Sem Bool} (hg : Gl X x) (hm : X.mg x = some (.ref C)) (r : ClX.CRead X.K C (.type "type")) (hf : PySem.W.findCls X.K (.ref C) (.type "type") m = some (.val (.ref f)))
    (F : FnOk X.prog X.w X.K X.mg X.base CX k f fd ps sp) (hr : Room k X.A) (hk : PySem.W.keepIn X.K (.ref f) = true) (hb : Binds X.K fd ps []) (hx : ∀ σ, PassesAt CX X σ (E σ)) (ha : PA X (e :: es) t)
    (hdb : (x == ("__debug__" : Str)) = false := by decide) (hst : starEach (e :: es) X.env = (false, eval e X.env) :: starEach es X.env := by rfl) (hpl : (backTo pos (starEach es X.env)).any (·.1) = false := by rfl)
    (ht : eval (.Call (.Attribute (.Name x p) m apos) (e :: es) [] pos) X.env = (do
      let ov ← eval (.Name x p) X.env
      standAt apos.atName
      let (f, first) ← holding [ov] (getMethod ov m pl)
      callWith pos f first (backTo pos (starEach (e :: es) X.env)) (backToKw pos (keywordEach [] X.env))) := by rfl) :
    PE X (.Call (.Attribute (.Name x p) m apos) (e :: es) [] pos) (tCallS sp E t) := by
  refine ⟨fun pins s σ H Q I h => ?_⟩
  refine PySem.W.methodCall_KW (pl := pl) (ld_glob I hg hm ?_ hdb) ht
  refine PySem.W.method_cls I.kIn r.ga (ClX.getcval_ok (v := .ref f) I r ⟨hf, rfl⟩ fun s2 I2 => ?_)
  refine PySem.W.callWith_K (h₀ := X.base) I.ok.mod.kin hk (thn (ha.run pos pins s2 σ H _ I2 h) fun us s3 ⟨vs, H3, I3, rv, q⟩ => ⟨I3.kIn, ?_⟩) hst hpl
  exact run_fnS F hr hb (hx σ) I3 rv q
theorem se_cinit {C : Callee} {k m fn : Nat} {x mm : Str} {p pos apos : Pos} {e : Expr} {es : List Expr} {As : List E} {pl : Sem Bool} (cx : Ctx W k Wx X) (hf : CInitAt W C X.prog X.w X.mg X.base k x mm fn m) (ha : SA W vs Wx X (e :: es) (evs As)) (hm : As.length = m) (hg : Gl X x)
    (hdb : (x == ("__debug__" : Str)) = false := by decide) (hst : starEach (e :: es) X.env = (false, eval e X.env) :: starEach es X.env := by rfl) (hpl : (backTo pos (starEach es X.env)).any (·.1) = false := by rfl)
    (ht : eval (.Call (.Attribute (.Name x p) mm apos) (e :: es) [] pos) X.env = (do
      let ov ← eval (.Name x p) X.env
      standAt apos.atName
      let (f, first) ← holding [ov] (getMethod ov mm pl)
      callWith pos f first (backTo pos (starEach (e :: es) X.env)) (backToKw pos (keywordEach [] X.env))) := by rfl) :
    SE W vs Wx X (.Call (.Attribute (.Name x p) mm apos) (e :: es) [] pos) (callA C fn As) := by
  obtain ⟨Ca, f, fd, ps, h1, h2, h3, h4, F, b⟩ := hf
  subst hm
  rw [← cx.K] at h2 h3 h4 F b
  exact pe_weak (pe_cfn hg h1 h2 h3 F cx.room h4 b (fun σ => passAt cx.tk σ) ha hdb hst hpl ht) fun σ H Q q => tA_callA q
/-! ### int(x) -/
def intTO : List O → Option O
  | [.pure (.int i)] => some (.pure (.int i))
  | [.pure (.bl k)] => some (.pure (.int (if k then 1 else 0)))
  | [.pure (.str a)] => if a.length ≤ 640 then (PySem.intText? a).map fun n => .pure (.int n) else none
  | _ => none
theorem cr_intO : CallR X (.type "int") (cO W intTO) := by
  intro pins s σ H us ws Q I r ⟨H0, os, o, ex, pr, e, gv⟩
  unfold intTO at e
  split at e
  · cases e
    obtain ⟨v, e1, _, r1⟩ := one_of pr
    exact call_int1 pins s σ H us ws Q I r (.inl ⟨_, by rw [e1, atom_int r1], gv.atom ex (.int _)⟩)
  · cases e
    obtain ⟨v, e1, _, r1⟩ := one_of pr
    exact call_int1 pins s σ H us ws Q I r (.inr ⟨_, by rw [e1, atom_bl r1], gv.atom ex (.int _)⟩)
  · split at e
    · rename_i a hl
      obtain ⟨n, e1, e2⟩ := Option.map_eq_some_iff.mp e
      cases e2
      obtain ⟨v, e3, _, r1⟩ := one_of pr
      exact call_int_str pins s σ H us ws Q I r ⟨a, n, by rw [e3, atom_str r1], e1, hl, gv.atom ex (.int _)⟩
    · cases e
  · cases e
end
end VI
namespace VI
open PySem PySem.Spec PyProof.Rows L2
theorem valIs_ok {f : Option PySem.W.CFound} {u : Value} (h : valIs f u = true) : f = some (.val u) := by
  unfold valIs at h
  split at h
  · rw [of_decide_eq_true h]
  · cases h
theorem fx_at {l : List FX} {K : PySem.W.Frag} (h : fxs l K = true) (i : Nat) {f : FX} (e : l[i]? = some f) : f.ok K = true :=
  List.all_eq_true.mp h f (List.mem_of_getElem? e)
theorem fx_l {a b : List FX} {K : PySem.W.Frag} (h : fxs (a ++ b) K = true) : fxs a K = true := by
  unfold fxs at *
  rw [List.all_append, Bool.and_eq_true] at h
  exact h.1
theorem fx_r {a b : List FX} {K : PySem.W.Frag} (h : fxs (a ++ b) K = true) : fxs b K = true := by
  unfold fxs at *
  rw [List.all_append, Bool.and_eq_true] at h
  exact h.2
def wdOf (K : PySem.W.Frag) : Wd := ⟨K, fun c => some (clsAt K c)⟩
section
variable {K : PySem.W.Frag} {h : Heap} {mg : Str → Option Value}
theorem fx_glo (X : K.In h) (G : h.Ns mainGlobals mg) {x : Str} (c : (FX.glo x).ok K = true) : mg x = some (.ref (clsAt K x)) := He.glo_ok X G c
theorem fx_free (X : K.In h) (G : h.Ns mainGlobals mg) {x : Str} (c : (FX.fre x).ok K = true) : mg x = none := He.free_ok X G c
theorem fx_cls {x : Str} (c : (FX.cls x).ok K = true) : Cls K (clsAt K x) := He.cls_ok c
theorem fx_noat {x f : Str} (c : (FX.noat x f).ok K = true) : NoAttr K (clsAt K x) f := He.noat_ok c
theorem fx_met {x m o : Str} (c : (FX.met x m o).ok K = true) : Meth K (clsAt K x) m (metAt K o m) := by
  simp only [FX.ok, Bool.and_eq_true] at c
  exact ⟨He.eqO_ok c.1, c.2.1, c.2.2⟩
theorem fx_mak {x o : Str} (c : (FX.mak x o).ok K = true) : Mk K (clsAt K x) (metAt K o "__init__") := by
  simp only [FX.ok, Bool.and_eq_true] at c
  exact ⟨c.1, He.eqO_ok c.2.1, c.2.2.1, c.2.2.2⟩
theorem fx_mk0 {x : Str} (c : (FX.mk0 x).ok K = true) : Mk0 K (clsAt K x) := by
  simp only [FX.ok, Bool.and_eq_true] at c
  exact ⟨c.1, He.eqO_ok c.2.1, c.2.2⟩
theorem fx_isi {x d : Str} {b : Bool} (c : (FX.isi x d b).ok K = true) (c1 : (FX.cls x).ok K = true) (c2 : (FX.inst x).ok K = true) (c3 : FX.gst.ok K = true) : IsAt (wdOf K) x d b := by
  simp only [FX.ok, Bool.and_eq_true, decide_eq_true_eq] at c2 c3
  exact ⟨clsAt K x, clsAt K d, rfl, rfl, fx_cls c1, He.eqO_ok c2.1, He.eqO_ok c3.1, c3.2, c2.2, of_decide_eq_true c⟩
theorem fx_cin {x m o : Str} (c : (FX.cin x m o).ok K = true) : ClX.CRead K (clsAt K x) (.type "type") ∧ PySem.W.findCls K (.ref (clsAt K x)) (.type "type") m = some (.val (.ref (metAt K o m))) := by
  simp only [FX.ok, Bool.and_eq_true] at c
  exact ⟨⟨c.1, He.eqO_ok c.2.1⟩, valIs_ok c.2.2⟩
theorem fx_new (X : K.In h) (G : h.Ns mainGlobals mg) {x : Str} (c : (FX.mk0 x).ok K = true) (g : (FX.glo x).ok K = true) : NewAt (wdOf K) mg x x := ⟨clsAt K x, rfl, fx_mk0 c, fx_glo X G g⟩
theorem fx_clsv (X : K.In h) (G : h.Ns mainGlobals mg) {x : Str} (g : (FX.glo x).ok K = true) : ∃ u v, mg x = some u ∧ RelV v u ∧ ∀ H, RepF (wdOf K) H v (.cls x) := ⟨.ref (clsAt K x), .ref (clsAt K x), fx_glo X G g, rfl, fun _ => .cls rfl⟩
theorem fx_str (X : K.In h) (G : h.Ns mainGlobals mg) {x z : Str} (c : (FX.st x z).ok K = true) : ∃ u v, mg x = some u ∧ RelV v u ∧ ∀ H, RepF (wdOf K) H v (.str z) := by
  obtain ⟨t, e⟩ := He.str_ok X G c
  exact ⟨_, .str z, e, ⟨t, rfl⟩, fun _ => .str z⟩
theorem fx_int (X : K.In h) (G : h.Ns mainGlobals mg) {x : Str} {i : Int} (c : (FX.it x i).ok K = true) : ∃ u v, mg x = some u ∧ RelV v u ∧ ∀ H, RepF (wdOf K) H v (.int i) := by
  obtain ⟨t, e⟩ := He.int_ok X G c
  exact ⟨_, .int i, e, ⟨t, rfl⟩, fun _ => .int i⟩
theorem fx_tup (X : K.In h) (G : h.Ns mainGlobals mg) {x : Str} {l : List Str} (c : (FX.tu x l).ok K = true) : ∃ u v, mg x = some u ∧ RelV v u ∧ ∀ H, RepF (wdOf K) H v (.tup (l.map D.str)) := by
  simp only [FX.ok, Bool.and_eq_true] at c
  refine ⟨_, .ref (clsAt K x), He.glo_ok X G c.1, rfl, fun H => .tup (He.tupB_ok c.2 H) ?_⟩
  clear c
  induction l with
  | nil => exact .nil
  | cons s l ih => exact .cons (.str s) ih
end
theorem fun_of {K : PySem.W.Frag} {x q : Str} {st : Stmt} {f : Addr} {fd : FuncData} (F : FunD K x q (defArgs st) (defBody st) (defScope st) [] [] f fd) : Fun K x q st f fd := by
  obtain ⟨oc, od, dV, kV, doc, pm, an, cdv, ct, osl, e, lk, hc, hd, _⟩ := F.ex
  have : dV = .none := by
    rcases hd with ⟨_, e⟩ | ⟨e, _⟩
    · exact e
    · exact absurd rfl e
  subst this
  exact ⟨⟨oc, od, kV, doc, pm, an, cdv, ct, osl, e, lk, hc⟩, F.kp⟩
/-- the law's end: what is asked of its def at each world -/
theorem law_end {l : PySem.W.OpenLaw} {n k : Nat} {q : Program} {loose : List Str} {XP : (Str → Option Value) → Heap → Prop} {YP : World → Heap → Prop} {d : DefRec} {x : Str}
    (h1 : l.most = some n) (h2 : n ≤ sizeLine) (h3 : d.params.defaults = []) (h4 : Room k callerA)
    (F : ∀ (w : World) (mg : Str → Option Value) (f : Addr) (h : Heap), YP w h → h.Ns mainGlobals mg → mg d.name = some (.ref f) → ∃ (K : PySem.W.Frag) (fd : FuncData) (sp : Sp), K.In h ∧
      (∀ (s : Shared) (u : Value), BindsTo s fd ⟨[u], []⟩ [(x, u)]) ∧
      (∀ (H : Hp) (a : Addr) (ns : List Int), ns.length ≤ n → SqL K H a (ns.map V.int) → sp [.ref a] H (fun v _ => v = .bl true) fun _ _ _ => False) ∧
      ∀ b : Heap, K.In b → b.Ns mainGlobals mg → FnOk l.prog w K mg b (L2.CX l.prog w) k f fd [x] sp) :
    PySem.W.WalkO q loose XP YP l.row.toRowW d [] fun f vs => PySem.call f vs := by
  apply Att.attach_call h1 h3
  intro w _ s1 mg mb f _ _ _ _ a vs ns G Y _ _ _ hm ha hi hl hg
  obtain ⟨K, fd, sp, kx, hb, hs, hf⟩ := F w mg f _ Y G.T.g hm
  refine law_call kx G.T.g G.T.b G.T.builtins ?_ hg ha hi (Nat.le_trans hl h2) h4 hf hb ?_ ?_
  · exact G.T.nolimit
  · exact fun H _ S => hs H a ns hl S
  · rintro H e s' ⟨_, _, _, _, _, _, _, _, _, _, _, _, z⟩
    exact z
end VI
namespace VI
open PySem PySem.Spec PyProof.Rows L2
section
variable {W : Wd} {vs : List (Option V)} {Wx : WX} {X : Cx} {n : Nat}
/-! ### a name read for the last time: what it holds goes out of it -/
def mvC (j : Nat) (g : G) : Option Slot → Res R
  | some (.loc (.pure d)) => .ok (.val (.pure d)) g
  | some (.par (.pure d)) => .ok (.val (.pure d)) g
  | some (.loc .hole) => .stuck
  | some (.loc o) => .ok (.val o) (g.set j (.loc .hole))
  | _ => .stuck
def mvE (j : Nat) : E := fun g => mvC j g g[j]?
theorem se_mv (i : Nat) {x : Str} {pos : Pos} (h : PE X (.Name x pos) (tVar i)) : SE W vs Wx X (.Name x pos) (mvE i) := by
  refine pe_weak h fun σ H Q ⟨H0, L, g, sp, en, post⟩ => ?_
  unfold mvE at post
  cases eg : g[i]? with
  | none => rw [eg] at post; exact post.elim
  | some sl =>
    rw [eg] at post
    have pure : ∀ d, sl.obj = some (.pure d) → PostE W vs Wx σ H0 H L (.ok (.val (.pure d)) g) Q → tVar i σ H Q := fun d ho p => by
      obtain ⟨v, La, Lo, Lb, e1, e2, e3, e4⟩ := en.at eg ho
      refine ⟨v, e1, ?_⟩
      cases e2 with
      | pure f => exact p v H H0 [] L (Step.refl sp) (.pure f) en
    have move : ∀ o, sl = .loc o → PostE W vs Wx σ H0 H L (.ok (.val o) (g.set i (.loc .hole))) Q → tVar i σ H Q := fun o ho p => by
      subst ho
      obtain ⟨v, La, Lo, Lb, e1, e2, e3, e4⟩ := en.at eg rfl
      refine ⟨v, e1, ?_⟩
      have en2 := e4 H0 H (Ex.refl _) (fun _ _ _ q => q) .hole [] .hole
      subst e3
      have sp2 : Sep H0 H (Lo ++ (La ++ Lb)) := sp.perm (perm_mid La Lo Lb)
      refine p v H H0 Lo (La ++ ([] ++ Lb)) ?_ e2 en2
      exact (Step.refl sp).perm (by simpa using perm_mid La Lo Lb)
    cases sl with
    | un => exact post.elim
    | par o =>
      cases o with
      | pure d => exact pure d rfl post
      | _ => exact post.elim
    | loc o =>
      cases o with
      | pure d => exact pure d rfl post
      | hole => exact post.elim
      | lst l => exact move _ rfl post
      | dic l => exact move _ rfl post
      | ins c fs => exact move _ rfl post
      | lls l => exact move _ rfl post
      | dct l => exact move _ rfl post
      | tpl l => exact move _ rfl post
section
variable (i : Nat) (g : G)
theorem mvE_a : mvE i g = mvC i g g[i]? := rfl
theorem mvC_pd (d : D) : mvC i g (some (.par (.pure d))) = .ok (.val (.pure d)) g := rfl
theorem mvC_ld (d : D) : mvC i g (some (.loc (.pure d))) = .ok (.val (.pure d)) g := rfl
theorem mvC_ll (l : List D) : mvC i g (some (.loc (.lst l))) = .ok (.val (.lst l)) (g.set i (.loc .hole)) := rfl
theorem mvC_lm (l : List (D × D)) : mvC i g (some (.loc (.dic l))) = .ok (.val (.dic l)) (g.set i (.loc .hole)) := rfl
theorem mvC_lx (l : List (D × D)) : mvC i g (some (.loc (.dct l))) = .ok (.val (.dct l)) (g.set i (.loc .hole)) := rfl
theorem mvC_lt (os : List O) : mvC i g (some (.loc (.tpl os))) = .ok (.val (.tpl os)) (g.set i (.loc .hole)) := rfl
theorem mvC_li (c : Str) (fs : List (Str × O)) : mvC i g (some (.loc (.ins c fs))) = .ok (.val (.ins c fs)) (g.set i (.loc .hole)) := rfl
end
section
variable (g : G)
theorem dispE_a (ks : List Str) (A : G → Res (List R)) : dispE ks A g = (A g).bind (dispC ks) := rfl
theorem dispC_a (ks : List Str) (rs : List R) : dispC ks rs g = dispR ks (frzs rs g) := rfl
theorem into_b (b : Bool) : intTO [.pure (.bl b)] = some (.pure (.int (if b then 1 else 0))) := rfl
theorem into_i (i : Int) : intTO [.pure (.int i)] = some (.pure (.int i)) := rfl
end
/-! ### a < b < c, step by step -/
def chB4 (f' : O → O → Option O) (d : D) (w : R) (g : G) : Res R := outE ((ob g w).bind (f' (.pure d))) g
def chB3 (f' : O → O → Option O) (C : E) (d : D) (g : G) : Option O → Res R
  | some (.pure (.bl true)) => (C g).bind (chB4 f' d)
  | some (.pure (.bl false)) => .ok (.val (.pure (.bl false))) g
  | _ => .stuck
def chB2 (f f' : O → O → Option O) (C : E) (g : G) : Option O → Option O → Res R
  | some x, some (.pure d) => chB3 f' C d g (f x (.pure d))
  | _, _ => .stuck
def chB1 (f f' : O → O → Option O) (C : E) (r s : R) (g : G) : Res R := chB2 f f' C g (ob g r) (ob g s)
def chA1 (f f' : O → O → Option O) (B C : E) (r : R) (g : G) : Res R := (B g).bind (chB1 f f' C r)
section
variable (f f' : O → O → Option O) (A B C : E) (g : G)
theorem chE_a : chE f f' A B C g = (A g).bind (chA1 f f' B C) := by
  unfold chE
  congr 1
  funext r g1
  unfold chA1
  congr 1
  funext s g2
  unfold chB1
  rcases ob g2 r with _ | x
  · rfl
  · rcases ob g2 s with _ | y
    · rfl
    · cases y with
      | pure d =>
        simp only [chB2]
        rcases f x (.pure d) with _ | o
        · rfl
        · cases o with
          | pure e => cases e with
            | bl b =>
              cases b
              · rfl
              · simp only [chB3]
                congr 1
                funext w g3
                unfold chB4
                cases (ob g3 w).bind (f' (.pure d)) <;> rfl
            | _ => rfl
          | _ => rfl
      | _ => rfl
theorem chA1_a (r : R) : chA1 f f' B C r g = (B g).bind (chB1 f f' C r) := rfl
theorem chB1_a (r s : R) : chB1 f f' C r s g = chB2 f f' C g (ob g r) (ob g s) := rfl
theorem chB2_s (x : O) (d : D) : chB2 f f' C g (some x) (some (.pure d)) = chB3 f' C d g (f x (.pure d)) := rfl
theorem chB3_t (d : D) : chB3 f' C d g (some (.pure (.bl true))) = (C g).bind (chB4 f' d) := rfl
theorem chB3_f (d : D) : chB3 f' C d g (some (.pure (.bl false))) = .ok (.val (.pure (.bl false))) g := rfl
theorem chB4_a (d : D) (w : R) : chB4 f' d w g = outE ((ob g w).bind (f' (.pure d))) g := rfl
end
/-! ### a loop over what a name holds: the other slots -/
def lkS : Slot → Slot
  | .loc .hole => .par .hole
  | .loc (.tpl os) => if os.any isHole then .par (.tpl os) else .loc (.tpl os)
  | s => s
def unS (s : Slot) : Slot → Slot
  | .par o => match s with
    | .par _ => .par o
    | _ => .loc o
  | t => t
def NoH (s : Slot) : Prop := s ≠ .loc .hole ∧ ∀ os, s ≠ .loc (.tpl os)
theorem lock_n : lockG [] = [] := rfl
theorem lock_c (s : Slot) (g : G) : lockG (s :: g) = lkS s :: lockG g := by
  show List.map _ (s :: g) = _
  rw [List.map_cons]
  congr 1
theorem unlk_n (g : G) : unlkG g [] = [] := by cases g <;> first | rfl | (rename_i s r; cases s <;> rfl)
theorem unlk_c (s t : Slot) (g g' : G) : unlkG (s :: g) (t :: g') = unS s t :: unlkG g g' := by
  cases s <;> cases t <;> simp [unlkG, unS]
theorem lk_p (o : O) : lkS (.par o) = .par o := rfl
theorem lk_u : lkS .un = .un := rfl
theorem lk_d (d : D) : lkS (.loc (.pure d)) = .loc (.pure d) := rfl
theorem lk_l (l : List D) : lkS (.loc (.lst l)) = .loc (.lst l) := rfl
theorem lk_m (l : List (D × D)) : lkS (.loc (.dic l)) = .loc (.dic l) := rfl
theorem lk_i (c : Str) (fs : List (Str × O)) : lkS (.loc (.ins c fs)) = .loc (.ins c fs) := rfl
theorem lk_h : lkS (.loc .hole) = .par .hole := rfl
theorem lk_no {s : Slot} (h : NoH s) : lkS s = s := by
  cases s with
  | loc o => cases o with
    | hole => exact absurd rfl h.1
    | tpl os => exact absurd rfl (h.2 os)
    | _ => rfl
  | _ => rfl
theorem Fre.no {s : Slot} (h : Fre s) : NoH s := by
  rcases h with rfl | ⟨d, rfl⟩
  · exact ⟨(by intro e; cases e), (by intro os e; cases e)⟩
  · exact ⟨(by intro e; cases e), (by intro os e; cases e)⟩
theorem lk_fr {s : Slot} (h : Fre s) : lkS s = s := lk_no h.no
theorem un_s (s : Slot) : unS s s = s := by cases s <;> rfl
theorem un_l (s : Slot) (o : O) : unS s (.loc o) = .loc o := rfl
theorem un_u (s : Slot) : unS s .un = .un := rfl
theorem un_pp (o o' : O) : unS (.par o') (.par o) = .par o := rfl
theorem un_lp (o o' : O) : unS (.loc o') (.par o) = .loc o := rfl
theorem un_fr {t : Slot} (h : Fre t) (s : Slot) : unS s t = t := by
  rcases h with rfl | ⟨d, rfl⟩ <;> rfl
theorem no_p (o : O) : NoH (.par o) := ⟨(by intro e; cases e), (by intro os e; cases e)⟩
theorem no_u : NoH .un := ⟨(by intro e; cases e), (by intro os e; cases e)⟩
theorem no_d (d : D) : NoH (.loc (.pure d)) := ⟨(by intro e; cases e), (by intro os e; cases e)⟩
theorem no_l (l : List D) : NoH (.loc (.lst l)) := ⟨(by intro e; cases e), (by intro os e; cases e)⟩
theorem no_m (l : List (D × D)) : NoH (.loc (.dic l)) := ⟨(by intro e; cases e), (by intro os e; cases e)⟩
theorem no_i (c : Str) (fs : List (Str × O)) : NoH (.loc (.ins c fs)) := ⟨(by intro e; cases e), (by intro os e; cases e)⟩
end
end VI
namespace VI
open PySem PySem.Spec PyProof.Rows L2
section
variable {W : Wd} {vs : List (Option V)} {Wx : WX} {X : Cx} {n : Nat}
/-! ### d.get(k), d.get(k, e) -/
def dgetO (x y z : O) : Option O := match dicOf x, y, z with
  | some l, .pure kd, .pure e => (keyOf kd).map fun k => .pure ((lookD l k).getD e)
  | _, _, _ => none
def getD1 (g : G) (r s : R) : Option O := match ob g r, ob g s with
  | some x, some y => dgetO x y (.pure .non)
  | _, _ => none
def getE1 (A B : E) : E := fun g => (A g).bind fun r g1 => match (ob g1 r).bind dicOf with
  | some _ => (B g1).bind fun s g2 => outE (getD1 g2 r s) g2
  | none => .stuck
def getD2 (g : G) (r s t : R) : Option O := match ob g r, ob g s, ob g t with
  | some x, some y, some z => dgetO x y z
  | _, _, _ => none
def getE2 (A B C : E) : E := fun g => (A g).bind fun r g1 => match (ob g1 r).bind dicOf with
  | some _ => (B g1).bind fun s g2 => (C g2).bind fun t g3 => outE (getD2 g3 r s t) g3
  | none => .stuck
theorem dict_at {H0 H : Hp} {v : V} {o : O} {L : List Addr} {l : List (D × D)} (e : Ex H0 H) (h : RepO W H0 H v o L) (hc : dicOf o = some l) : ∃ a kvs, v = .ref a ∧ H a = some (.dK kvs) ∧ RepFk W H0 kvs l := by
  cases h with
  | pure f => cases f with
    | dic h1 h2 => cases hc; exact ⟨_, _, rfl, e _ _ h1, h2⟩
    | _ => cases hc
  | dic h1 h2 => cases hc; exact ⟨_, _, rfl, h1, h2⟩
  | _ => cases hc
theorem dget_ok {H0 H : Hp} {v w u : V} {x y z o : O} {Lx Ly Lz : List Addr} {Q : VK} (e : Ex H0 H) (hx : RepO W H0 H v x Lx) (hy : RepO W H0 H w y Ly) (hz : RepO W H0 H u z Lz) (ef : dgetO x y z = some o) (gv : Gives W H0 H o Q) : ∃ a r, v = .ref a ∧ DGet H a w r ∧ Q (r.getD u) H := by
  unfold dgetO at ef
  split at ef
  · rename_i l kd ed hl
    obtain ⟨k, e1, e2⟩ := Option.map_eq_some_iff.mp ef
    subst e2
    obtain ⟨a, kvs, h1, h2, h3⟩ := dict_at e hx hl
    cases hy with
    | pure hy =>
      cases hz with
      | pure hz =>
        obtain ⟨h4, _⟩ := key_rep hy e1
        obtain ⟨h5, h6⟩ := RepFk.val k h3
        refine ⟨a, valV kvs k, h1, .inl ⟨kvs, k, .inl h2, h4, rfl⟩, ?_⟩
        cases hd : lookD l k with
        | none =>
          rw [hd] at gv
          rw [h6 hd]
          exact gv.atom e hz
        | some d =>
          rw [hd] at gv
          obtain ⟨v', h7, h8⟩ := h5 d hd
          rw [h7]
          exact gv.atom e h8
  · cases ef
theorem isD_of {H0 H : Hp} {v : V} {o : O} {L : List Addr} {l : List (D × D)} (e : Ex H0 H) (h : RepO W H0 H v o L) (hc : dicOf o = some l) : ∃ a, v = .ref a ∧ IsD H a := by
  obtain ⟨a, kvs, h1, h2, _⟩ := dict_at e h hc
  exact ⟨a, h1, .inl ⟨kvs, .inl h2⟩⟩
theorem se_get1 {k : Nat} {apos cpos : Pos} {o e : Expr} {A B : E} (cx : Ctx W k Wx X) (ho : SE W vs Wx X o A) (he : SE W vs Wx X e B) (m : M1 X o "get" apos e cpos := by exact ⟨by rfl, by rfl, by rfl, by rfl⟩) : SE W vs Wx X (.Call (.Attribute o "get" apos) [e] [] cpos) (getE1 A B) := by
  refine pe_weak (pe_dget1 (hu_of cx.room) ho he m) fun σ H Q q => ?_
  obtain ⟨H0, L, g, sp, en, post⟩ := q
  refine ⟨H0, L, g, sp, en, ?_⟩
  unfold getE1 at post
  cases ea : A g with
  | stuck => rw [ea] at post; exact post.elim
  | exc x g' => rw [ea] at post; exact post
  | ok r g1 =>
    rw [ea] at post
    intro v H1 H01 Lr L1 st1 rr en1
    simp only [Res.bind] at post
    cases ed : (ob g1 r).bind dicOf with
    | none => rw [ed] at post; exact post.elim
    | some l =>
      rw [ed] at post
      simp only at post
      obtain ⟨ox, e1, e2⟩ := Option.bind_eq_some_iff.mp ed
      obtain ⟨Lo, ro, _⟩ := ob_rep en1 rr e1
      obtain ⟨a, ha, hd⟩ := isD_of st1.sep.ex ro e2
      refine ⟨a, ha, hd, H01, L1, g1, st1.sep.right, en1, ?_⟩
      cases eb : B g1 with
      | stuck => rw [eb] at post; exact post.elim
      | exc x g' =>
        rw [eb] at post
        intro c d H' H0' L' st2 rx en2
        exact post c d H' H0' L' (st1.then st2).right rx en2
      | ok s g2 =>
        rw [eb] at post
        intro w H2 H02 Ls L2 st2 rs en2
        have st := st1.then st2
        have rr2 : RepR W H02 H2 σ v r Lr := rr.mono st2.ex0 (Step.keepL st1.sep st2)
        simp only at post
        cases ef : getD1 g2 r s with
        | none => rw [ef] at post; exact post.elim
        | some o =>
          rw [ef] at post
          unfold getD1 at ef
          cases e3 : ob g2 r with
          | none => rw [e3] at ef; cases ef
          | some x =>
            cases e4 : ob g2 s with
            | none => rw [e3, e4] at ef; cases ef
            | some y =>
              rw [e3, e4] at ef
              simp only at ef
              obtain ⟨Lx, hx, _⟩ := ob_rep en2 rr2 e3
              obtain ⟨Ly, hy, _⟩ := ob_rep en2 rs e4
              have gv := gives_of (Lt := Lr ++ Ls) (by simpa [List.append_assoc] using st) en2 post
              obtain ⟨a2, r2, h1, h2, h3⟩ := dget_ok st2.sep.ex hx hy (.pure .non) ef gv
              rw [ha] at h1
              cases h1
              exact ⟨r2, h2, h3⟩
theorem se_get2 {k : Nat} {apos cpos : Pos} {o e f : Expr} {A B C : E} (cx : Ctx W k Wx X) (ho : SE W vs Wx X o A) (he : SE W vs Wx X e B) (hf : SE W vs Wx X f C) (m : M2 X o "get" apos e f cpos := by exact ⟨by rfl, by rfl, by rfl, by rfl⟩) : SE W vs Wx X (.Call (.Attribute o "get" apos) [e, f] [] cpos) (getE2 A B C) := by
  refine pe_weak (pe_dget2 (hu_of cx.room) ho he hf m) fun σ H Q q => ?_
  obtain ⟨H0, L, g, sp, en, post⟩ := q
  refine ⟨H0, L, g, sp, en, ?_⟩
  unfold getE2 at post
  cases ea : A g with
  | stuck => rw [ea] at post; exact post.elim
  | exc x g' => rw [ea] at post; exact post
  | ok r g1 =>
    rw [ea] at post
    intro v H1 H01 Lr L1 st1 rr en1
    simp only [Res.bind] at post
    cases ed : (ob g1 r).bind dicOf with
    | none => rw [ed] at post; exact post.elim
    | some l =>
      rw [ed] at post
      simp only at post
      obtain ⟨ox, e1, e2⟩ := Option.bind_eq_some_iff.mp ed
      obtain ⟨Lo, ro, _⟩ := ob_rep en1 rr e1
      obtain ⟨a, ha, hd⟩ := isD_of st1.sep.ex ro e2
      refine ⟨a, ha, hd, H01, L1, g1, st1.sep.right, en1, ?_⟩
      cases eb : B g1 with
      | stuck => rw [eb] at post; exact post.elim
      | exc x g' =>
        rw [eb] at post
        intro c d H' H0' L' st2 rx en2
        exact post c d H' H0' L' (st1.then st2).right rx en2
      | ok s g2 =>
        rw [eb] at post
        intro w H2 H02 Ls L2 st2 rs en2
        have st := st1.then st2
        have rr2 : RepR W H02 H2 σ v r Lr := rr.mono st2.ex0 (Step.keepL st1.sep st2)
        refine ⟨H02, L2, g2, st2.sep.right, en2, ?_⟩
        simp only at post
        cases ec : C g2 with
        | stuck => rw [ec] at post; exact post.elim
        | exc x g' =>
          rw [ec] at post
          intro c d H' H0' L' st3 rx en3
          exact post c d H' H0' L' ((show Step H0 H L H02 H2 ((Lr ++ Ls) ++ L2) by simpa [List.append_assoc] using st).then st3).right rx en3
        | ok t g3 =>
          rw [ec] at post
          intro u H3 H03 Lt L3 st3 rt en3
          have spq : Sep H02 H2 ((Lr ++ Ls) ++ L2) := by simpa [List.append_assoc] using st.sep
          have stt : Step H0 H L H03 H3 ((Lr ++ Ls) ++ (Lt ++ L3)) := (show Step H0 H L H02 H2 ((Lr ++ Ls) ++ L2) by simpa [List.append_assoc] using st).then st3
          have kl := Step.keepL spq st3
          have rr3 : RepR W H03 H3 σ v r Lr := rr2.mono st3.ex0 fun a ha => kl a (List.mem_append_left _ ha)
          have rs3 : RepR W H03 H3 σ w s Ls := rs.mono st3.ex0 fun a ha => kl a (List.mem_append_right _ ha)
          simp only at post
          cases ef : getD2 g3 r s t with
          | none => rw [ef] at post; exact post.elim
          | some o =>
            rw [ef] at post
            unfold getD2 at ef
            cases e3 : ob g3 r with
            | none => rw [e3] at ef; cases ef
            | some x =>
              cases e4 : ob g3 s with
              | none => rw [e3, e4] at ef; cases ef
              | some y =>
                cases e5 : ob g3 t with
                | none => rw [e3, e4, e5] at ef; cases ef
                | some z =>
                  rw [e3, e4, e5] at ef
                  simp only at ef
                  obtain ⟨Lx, hx, _⟩ := ob_rep en3 rr3 e3
                  obtain ⟨Ly, hy, _⟩ := ob_rep en3 rs3 e4
                  obtain ⟨Lz, hz, _⟩ := ob_rep en3 rt e5
                  have gv := gives_of (Lt := (Lr ++ Ls) ++ Lt) (by simpa [List.append_assoc] using stt) en3 post
                  obtain ⟨a2, r2, h1, h2, h3⟩ := dget_ok st3.sep.ex hx hy hz ef gv
                  rw [ha] at h1
                  cases h1
                  exact ⟨r2, h2, h3⟩
/-! step by step -/
def getI1 (r s : R) (g : G) : Res R := outE (getD1 g r s) g
def getH1 (B : E) (r : R) (g : G) : Option (List (D × D)) → Res R
  | some _ => (B g).bind (getI1 r)
  | none => .stuck
def getG1 (B : E) (r : R) (g : G) : Res R := getH1 B r g ((ob g r).bind dicOf)
theorem getE1_a (A B : E) (g : G) : getE1 A B g = (A g).bind (getG1 B) := by
  unfold getE1
  congr 1
theorem getG1_a (B : E) (r : R) (g : G) : getG1 B r g = getH1 B r g ((ob g r).bind dicOf) := rfl
theorem getH1_s (B : E) (r : R) (g : G) (l : List (D × D)) : getH1 B r g (some l) = (B g).bind (getI1 r) := rfl
theorem getI1_a (r s : R) (g : G) : getI1 r s g = outE (getD1 g r s) g := rfl
theorem getD1_a (g : G) (r s : R) : getD1 g r s = (ob g r).bind fun x => (ob g s).bind fun y => dgetO x y (.pure .non) := by
  unfold getD1; cases ob g r <;> cases ob g s <;> rfl
def getI2 (r s t : R) (g : G) : Res R := outE (getD2 g r s t) g
def getJ2 (C : E) (r s : R) (g : G) : Res R := (C g).bind (getI2 r s)
def getH2 (B C : E) (r : R) (g : G) : Option (List (D × D)) → Res R
  | some _ => (B g).bind (getJ2 C r)
  | none => .stuck
def getG2 (B C : E) (r : R) (g : G) : Res R := getH2 B C r g ((ob g r).bind dicOf)
theorem getE2_a (A B C : E) (g : G) : getE2 A B C g = (A g).bind (getG2 B C) := by
  unfold getE2
  congr 1
theorem getG2_a (B C : E) (r : R) (g : G) : getG2 B C r g = getH2 B C r g ((ob g r).bind dicOf) := rfl
theorem getH2_s (B C : E) (r : R) (g : G) (l : List (D × D)) : getH2 B C r g (some l) = (B g).bind (getJ2 C r) := rfl
theorem getJ2_a (C : E) (r s : R) (g : G) : getJ2 C r s g = (C g).bind (getI2 r s) := rfl
theorem getI2_a (r s t : R) (g : G) : getI2 r s t g = outE (getD2 g r s t) g := rfl
theorem getD2_a (g : G) (r s t : R) : getD2 g r s t = (ob g r).bind fun x => (ob g s).bind fun y => (ob g t).bind fun z => dgetO x y z := by
  unfold getD2; cases ob g r <;> cases ob g s <;> cases ob g t <;> rfl
theorem dicOf_l (l : List (D × D)) : dicOf (.dic l) = some l := rfl
theorem dicOf_p (l : List (D × D)) : dicOf (.pure (.dic l)) = some l := rfl
/-! ### any, all of truths -/
def blsD : List D → Option (List Bool)
  | [] => some []
  | .bl s :: l => (blsD l).map fun r => s :: r
  | _ :: _ => none
theorem blsD_rep {H : Hp} : ∀ {us : List V} {l : List D} {ys : List Bool}, RepFs W H us l → blsD l = some ys → us = ys.map V.bl
  | _, _, ys, .nil, e => by cases e; rfl
  | _, _, ys, .cons (d := d) h r, e => by
    cases h with
    | bl b =>
      rw [blsD] at e
      obtain ⟨r', e1, e2⟩ := Option.map_eq_some_iff.mp e
      subst e2
      rw [List.map_cons, blsD_rep r e1]
    | _ => cases e
def anyO : List O → Option O
  | [.pure (.lst l)] => (blsD l).map fun ys => .pure (.bl (ys.any id))
  | [.lst l] => (blsD l).map fun ys => .pure (.bl (ys.any id))
  | _ => none
def allO : List O → Option O
  | [.pure (.lst l)] => (blsD l).map fun ys => .pure (.bl (ys.all id))
  | [.lst l] => (blsD l).map fun ys => .pure (.bl (ys.all id))
  | _ => none
theorem cr_anyO (hK : X.K = W.K) (hc : X.calm = true) : CallR X (.builtin "any") (cO W anyO) := by
  intro pins s σ H us ws Q I r ⟨H0, os, o, ex, pr, e, gv⟩
  have go : ∀ (oo : O) l ys, os = [oo] → (oo = .pure (.lst l) ∨ oo = .lst l) → blsD l = some ys → o = .pure (.bl (ys.any id)) → wpAny (model X.prog X.w) X.A (call (.builtin "any") ws) (EP X pins σ Q) X.xe s := by
    intro oo l ys e1 h e2 e3
    subst e1 e3
    obtain ⟨v, e4, _, r1⟩ := one_of pr
    obtain ⟨p, us', e5, hs, rf⟩ := sql_of ex r1 h
    refine cr_any hc pins s σ H us ws Q I r ⟨p, ys, by rw [e4, e5], ?_, gv.atom ex (.bl _)⟩
    rw [← blsD_rep rf e2, hK]; exact hs
  unfold anyO at e
  split at e
  · obtain ⟨ys, h1, h2⟩ := Option.map_eq_some_iff.mp e
    exact go _ _ ys rfl (.inl rfl) h1 h2.symm
  · obtain ⟨ys, h1, h2⟩ := Option.map_eq_some_iff.mp e
    exact go _ _ ys rfl (.inr rfl) h1 h2.symm
  · cases e
theorem cr_allO (hK : X.K = W.K) (hc : X.calm = true) : CallR X (.builtin "all") (cO W allO) := by
  intro pins s σ H us ws Q I r ⟨H0, os, o, ex, pr, e, gv⟩
  have go : ∀ (oo : O) l ys, os = [oo] → (oo = .pure (.lst l) ∨ oo = .lst l) → blsD l = some ys → o = .pure (.bl (ys.all id)) → wpAny (model X.prog X.w) X.A (call (.builtin "all") ws) (EP X pins σ Q) X.xe s := by
    intro oo l ys e1 h e2 e3
    subst e1 e3
    obtain ⟨v, e4, _, r1⟩ := one_of pr
    obtain ⟨p, us', e5, hs, rf⟩ := sql_of ex r1 h
    refine cr_all hc pins s σ H us ws Q I r ⟨p, ys, by rw [e4, e5], ?_, gv.atom ex (.bl _)⟩
    rw [← blsD_rep rf e2, hK]; exact hs
  unfold allO at e
  split at e
  · obtain ⟨ys, h1, h2⟩ := Option.map_eq_some_iff.mp e
    exact go _ _ ys rfl (.inl rfl) h1 h2.symm
  · obtain ⟨ys, h1, h2⟩ := Option.map_eq_some_iff.mp e
    exact go _ _ ys rfl (.inr rfl) h1 h2.symm
  · cases e
theorem blsD_map (l : List Bool) : blsD (l.map D.bl) = some l := by
  induction l with
  | nil => rfl
  | cons b l ih => rw [List.map_cons, blsD, ih]; rfl
theorem any_l (l : List Bool) : anyO [.lst (l.map D.bl)] = some (.pure (.bl (l.any id))) := by simp [anyO, blsD_map]
theorem all_l (l : List Bool) : allO [.lst (l.map D.bl)] = some (.pure (.bl (l.all id))) := by simp [allO, blsD_map]
end
end VI
namespace VI
open PySem PySem.Spec PyProof.Rows L2
/-! ### the text of words, split again -/
def sp1 : Str := Str.ofString " "
theorem sp1_eq : sp1 = ⟨#[32]⟩ := by decide +kernel
def NoSp (s : Str) : Prop := 32 ∉ s.cps.toList
theorem join_cons2 (s a b : Str) (l : List Str) : Str.join s (a :: b :: l) = a ++ s ++ Str.join s (b :: l) := rfl
theorem cps_app (a b : Str) : (a ++ b).cps.toList = a.cps.toList ++ b.cps.toList := by
  show (a.cps ++ b.cps).toList = _
  simp
theorem cut32 : ∀ {p q r s : List Nat}, 32 ∉ p → 32 ∉ q → p ++ 32 :: r = q ++ 32 :: s → p = q ∧ r = s
  | [], [], r, s, _, _, h => by simpa using h
  | [], y :: q, r, s, _, hq, h => by
    simp at h; exact absurd h.1 (by simp at hq; omega)
  | x :: p, [], r, s, hp, _, h => by
    simp at h; exact absurd h.1 (by simp at hp; omega)
  | x :: p, y :: q, r, s, hp, hq, h => by
    simp only [List.cons_append, List.cons.injEq] at h
    simp only [List.mem_cons, not_or] at hp hq
    obtain ⟨e1, e2⟩ := cut32 hp.2 hq.2 h.2
    exact ⟨by rw [h.1, e1], e2⟩
theorem join_inj : ∀ {ps qs : List Str}, ps ≠ [] → qs ≠ [] → (∀ p ∈ ps, NoSp p) → (∀ q ∈ qs, NoSp q) → Str.join sp1 ps = Str.join sp1 qs → ps = qs
  | [], _, h, _, _, _, _ => absurd rfl h
  | _, [], _, h, _, _, _ => absurd rfl h
  | [p], [q], _, _, _, _, h => by rw [show p = q from h]
  | [p], q :: q2 :: qs, _, _, hp, _, h => by
    have h1 : p.cps.toList = (q ++ sp1 ++ Str.join sp1 (q2 :: qs)).cps.toList := congrArg (fun s : Str => s.cps.toList) h
    rw [cps_app, cps_app, sp1_eq] at h1
    have := hp p (by simp)
    unfold NoSp at this
    rw [h1] at this
    simp at this
  | p :: p2 :: ps, [q], _, _, _, hq, h => by
    have h1 : (p ++ sp1 ++ Str.join sp1 (p2 :: ps)).cps.toList = q.cps.toList := congrArg (fun s : Str => s.cps.toList) h
    rw [cps_app, cps_app, sp1_eq] at h1
    have := hq q (by simp)
    unfold NoSp at this
    rw [← h1] at this
    simp at this
  | p :: p2 :: ps, q :: q2 :: qs, _, _, hp, hq, h => by
    have h1 : (p ++ sp1 ++ Str.join sp1 (p2 :: ps)).cps.toList = (q ++ sp1 ++ Str.join sp1 (q2 :: qs)).cps.toList := congrArg (fun s : Str => s.cps.toList) h
    rw [cps_app, cps_app, cps_app, cps_app, sp1_eq] at h1
    simp only [List.append_assoc, List.cons_append, List.nil_append] at h1
    obtain ⟨e1, e2⟩ := cut32 (hp p (by simp)) (hq q (by simp)) h1
    have e3 := join_inj (ps := p2 :: ps) (qs := q2 :: qs) (by simp) (by simp) (fun x hx => hp x (List.mem_cons_of_mem _ hx)) (fun x hx => hq x (List.mem_cons_of_mem _ hx)) (by rw [sp1_eq]; exact str_ext e2)
    rw [str_ext e1, e3]
theorem split_join {ps : List Str} (h0 : ps ≠ []) (h : ∀ p ∈ ps, NoSp p) : Txt.split (Str.join sp1 ps) sp1 = ps := by
  have j := StrLaws.join_split (Str.join sp1 ps) sp1
  have f : ∀ q ∈ Txt.split (Str.join sp1 ps) sp1, NoSp q := by rw [sp1_eq]; exact StrLaws.split_free _ 32
  refine join_inj ?_ h0 f h j
  intro e
  rw [e] at j
  match ps, h0, j with
  | [p], _, j =>
    have : p = Str.empty := j.symm
    subst this
    simp [Str.join] at e
    revert e; decide +kernel
  | p :: q :: r, _, j =>
    have h1 : (Str.empty).cps.toList = (p ++ sp1 ++ Str.join sp1 (q :: r)).cps.toList := congrArg (fun s : Str => s.cps.toList) j
    rw [cps_app, cps_app, sp1_eq] at h1
    have h2 : (Str.empty).cps.toList = [] := rfl
    rw [h2] at h1
    simp at h1
theorem join_app : ∀ {a b : List Str}, a ≠ [] → b ≠ [] → Str.join sp1 (a ++ b) = Str.join sp1 a ++ sp1 ++ Str.join sp1 b
  | [], _, h, _ => absurd rfl h
  | [x], b, _, hb => by
    cases b with
    | nil => exact absurd rfl hb
    | cons y b => rfl
  | x :: y :: a, b, _, hb => by
    have := join_app (a := y :: a) (b := b) (by simp) hb
    show x ++ sp1 ++ Str.join sp1 ((y :: a) ++ b) = x ++ sp1 ++ Str.join sp1 (y :: a) ++ sp1 ++ Str.join sp1 b
    rw [this]
    simp only [Str.append_assoc]
section
variable {W : Wd} {vs : List (Option V)} {Wx : WX} {X : Cx} {n : Nat}
/-! ### a walk over a text -/
def txtI : List O → Option (List D)
  | [.pure (.str s)] => some (sgnD s)
  | _ => none
theorem feeds_txt {Hb Hm : Hp} {Lm : List Addr} {y : Str} : Feeds W Hb Hm Lm (Its y) [.str y] [.pure (.str y)] (sgnD y) := by
  intro i H0 H La _ ex ro _
  refine ⟨fun d hd => ?_, fun hl => by
    rw [hl]
    show y.cps.size ≤ (sgnD y).length
    simp [sgnD]⟩
  unfold sgnD at hd
  rw [List.getElem?_map] at hd
  cases hc : y.cps.toList[i]? with
  | none => rw [hc] at hd; cases hd
  | some c =>
    rw [hc] at hd
    cases hd
    have hi : y.cps[i]? = some c := by rw [← Array.getElem?_toList]; exact hc
    refine ⟨?_, fun x H' hx => ?_⟩
    · show i < y.cps.size
      exact (Array.getElem?_eq_some_iff.mp hi).1
    · obtain ⟨e, c', h1, rfl⟩ := hx
      subst e
      rw [hi] at h1; cases h1
      exact ⟨H0, Step.refl (Sep.nil ex), .str _⟩
theorem si_txt {k : Nat} {tg e : Expr} {A : E} (cx : Ctx W k Wx X) (h : SE W vs Wx X e A) : SI W vs Wx X tg e (evs [A]) txtI := by
  refine pi_weak (pi_str h) fun σ H Q q => ?_
  obtain ⟨H0, L, g, sp, en, post⟩ := q
  refine tA_one (R' := fun x H1 => ∃ y, x = .str y ∧ Q (Its y) H1) ⟨H0, L, g, sp, en, ?_⟩
  cases ea : evs [A] g with
  | stuck => rw [ea] at post; exact post.elim
  | exc x g' => rw [ea] at post; exact post
  | ok rs g1 =>
    rw [ea] at post
    obtain ⟨os, g2', ds, e1, e2, kk⟩ := post
    intro us H1 H01 Lr L1 st rr en1 v hv
    subst hv
    obtain ⟨La, L2, ro, en2, pm⟩ := takes_ok rr en1 e1
    obtain ⟨y, ho, hd⟩ : ∃ y, os = [.pure (.str y)] ∧ ds = sgnD y := by
      unfold txtI at e2
      split at e2
      · exact ⟨_, rfl, by cases e2; rfl⟩
      · cases e2
    subst ho hd
    obtain ⟨v', e3, ro1⟩ := ro.one
    cases e3
    have e4 : v = .str y := by
      cases ro1 with
      | pure f => cases f; rfl
    subst e4
    exact ⟨y, rfl, kk _ _ H1 H01 La L2 (st.perm pm) ro en2 rr.toks feeds_txt⟩
end
/-! ### n += k, step by step -/
def augD (f : Int → Int → Int) (i : Nat) (a : Int) (g1 : G) : Option O → Res Fl
  | some (.pure (.int b)) => asgB (storeS i (.pure (.int (f a b))) g1)
  | _ => .stuck
def augE (f : Int → Int → Int) (i : Nat) (a : Int) (r : R) (g1 : G) : Res Fl := augD f i a g1 (ob g1 r)
def augC (f : Int → Int → Int) (i : Nat) (A : E) (g : G) : Option O → Res Fl
  | some (.pure (.int a)) => (A g).bind (augE f i a)
  | _ => .stuck
theorem augS_a (f : Int → Int → Int) (i : Nat) (A : E) (g : G) : augS f i A g = augC f i A g (ob g (.slot i)) := by
  unfold augS
  generalize ob g (.slot i) = x
  cases x with
  | none => rfl
  | some o => cases o with
    | pure d => cases d with
      | int a =>
        rfl
      | _ => rfl
    | _ => rfl
theorem augC_i (f : Int → Int → Int) (i : Nat) (A : E) (g : G) (a : Int) : augC f i A g (some (.pure (.int a))) = (A g).bind (augE f i a) := rfl
theorem augE_a (f : Int → Int → Int) (i : Nat) (a : Int) (r : R) (g1 : G) : augE f i a r g1 = augD f i a g1 (ob g1 r) := rfl
theorem augD_i (f : Int → Int → Int) (i : Nat) (a b : Int) (g1 : G) : augD f i a g1 (some (.pure (.int b))) = asgB (storeS i (.pure (.int (f a b))) g1) := rfl
end VI
namespace VI
open PySem PySem.Spec PyProof.Rows L2
/-! ### sets of texts: what stays true of the table -/
def TabR (w : World) (t : SetTable) : Prop := Ris t.place.toList ∧ (w.params.followText "set-order" = true ∨ t.led = true)
theorem tail_tabR {w : World} {ep : Nat} {es : Array (Int × Value)} {t : SetTable} (b : Bool) (h : TabR w t) : TabR w (Froz.tailTx ep es t b).2.2 := by
  unfold Froz.tailTx
  split
  · exact ⟨relayAll_ris _ _ _, h.2.imp id fun e => by rw [← e]; exact relayAll_led _ _ _⟩
  · exact h
theorem add_tabR {w : World} {D : Froz.SD} (k : Int) (v : Value) (h : TabR w D.2.2) : TabR w (Froz.addTx k v D).2.2 := by
  have r := layNew_ris D.2.2 D.1 k v h.1
  have l := layNew_led D.2.2 D.1 k v
  unfold Froz.addTx
  refine tail_tabR _ ?_
  split
  · exact ⟨r, h.2.imp id fun e => by show (layNew D.2.2 D.1 k v).2.1.led = true; rw [l]; exact e⟩
  · exact ⟨r, h.2.imp id fun e => by rw [l]; exact e⟩
section
open PySem.Froz
variable {P : Program} {w : World} {A : Around} {E : Value → Shared → Prop} {s : Shared}
/-- a text that is in already -/
theorem add_old {a : Addr} {T : String} {D : Froz.SD} {l : List Str} {k : Str} {u : Tok} {Q : Bool → Shared → Prop} (ho : s.heap.get? a = some (sObj T D)) (F : TxOk P w D l) (hk : k ∈ l) (hb : l.length < scanBound)
    (h : Q false s) : wpAny (model P w) A (setAddHashed a (.str k u) (hashStr w k)) Q E s := by
  rcases D with ⟨es, ep, t⟩
  have d0 : (sObj T (es, ep, t)).data = .set es ep t := rfl
  have sz : es.size < scanBound := by rw [show es.size = l.length from F.sz]; exact hb
  have fit : t.fits es.size = true := F.fit
  have el : ElemsOf (strKind P w) es.toList := F.el
  obtain ⟨e, he, hp⟩ := (F.mem k).mp hk
  unfold setAddHashed setAddHashedIn
  apply wpAny_holding
  apply wpAny_bind
  apply wpAny_setState_of ho d0 fit
  dsimp only
  rw [byScan_of rfl sz el]
  simp only [↓reduceIte]
  unfold setAddByScan
  apply wpAny_bind
  apply wpAny_bind
  apply wpAny_rule
  apply wpAny_bind
  apply wpAny_setScan_of (knd := strKind P w) (k := k) (is_str k u) ho d0 fit el
  cases f : List.findIdx? (fun e => (strKind P w).is k e.2) es.toList with
  | none => exact absurd (List.findIdx?_eq_none_iff.mp f e he) (by rw [hp]; decide)
  | some j =>
    dsimp only
    exact wpAny_pure (wpAny_pure h)
end
/-- the texts met, each once -/
def metS (l : List Str) (x : Str) : List Str := if x ∈ l then l else x :: l
theorem metS_len (l : List Str) (x : Str) : (metS l x).length ≤ l.length + 1 := by unfold metS; split <;> simp
theorem getD_drop {xs : List Str} {i : Nat} (h : i < xs.length) : xs.drop i = xs.getD i Str.empty :: xs.drop (i + 1) := by
  rw [List.drop_eq_getElem_cons h]
  simp [h]
section
open PySem.Froz
variable {P : Program} {w : World} {A : Around} {R : Result → Shared → Prop} {I : Addr} {fp wr : List Addr} {G : Array GenState → Array GenState → Prop} {n : Nat} {Pv : Nat → Value → Prop} {St : Nat → Shared → Prop}
theorem loopTx (Wk : WalksS P w A.in1 I fp wr G n Pv St) (S : Addr) (nf : S ∉ fp) (xs : List Str) (hn : xs.length = n) (room : n + 1 < scanBound) (vl : ∀ i v, Pv i v → ∃ t, v = .str (xs.getD i Str.empty) t) :
    ∀ (m i : Nat) (s : Shared) (D : Froz.SD) (l : List Str), n - i = m → i ≤ n → St i s → s.heap.get? S = some (sObj "set" D) → TxOk P w D l → TabR w D.2.2 → l.length ≤ i →
      (∀ s' D', Moved (S :: wr) G s s' → s'.heap.get? S = some (sObj "set" D') → TxOk P w D' ((xs.drop i).foldl metS l) → TabR w D'.2.2 → R (.ok (.ret .none)) s') →
      codeAny (model P w) A (.builtin "set.update.loop" ⟨[.ref S, .ref I], []⟩) R s := by
  have nw : S ∉ wr := fun z => nf (Wk.sub _ z)
  have up : ∀ b ∈ wr, b ∈ S :: wr := fun b z => List.mem_cons_of_mem _ z
  intro m
  induction m with
  | zero =>
    intro i s D l hm hi hs ho F T hl hR
    obtain rfl : i = n := by omega
    apply codeAny_builtin PyProof.Rows.F.entry_set_update_loop
    rw [Around.under_plainId PyProof.Rows.F.plain_set_update_loop _]
    show wpAny _ A.in1 (pyNext (.ref I) >>= _) _ _ s
    apply wpAny_bind
    apply Wk.done s _ _ hs
    intro s' mv
    show wpAny _ A.in1 (ret Value.none) _ _ s'
    refine wpAny_pure (hR s' D (mv.mono up) (mv.heap S _ nw ho) ?_ T)
    rw [List.drop_eq_nil_of_le (by omega)]
    exact F
  | succ m ih =>
    intro i s D l hm hi hs ho F T hl hR
    have lt : i < n := by omega
    apply codeAny_builtin PyProof.Rows.F.entry_set_update_loop
    rw [Around.under_plainId PyProof.Rows.F.plain_set_update_loop _]
    show wpAny _ A.in1 (pyNext (.ref I) >>= _) _ _ s
    apply wpAny_bind
    apply Wk.item i s _ _ lt hs
    intro v s' hv hs' mv
    obtain ⟨t, rfl⟩ := vl i v hv
    have ho' := mv.heap S _ nw ho
    have go : ∀ (D' : Froz.SD) (l' : List Str) (s2 : Shared), s2.heap.get? S = some (sObj "set" D') → TxOk P w D' l' → TabR w D'.2.2 → l' = metS l (xs.getD i Str.empty) → St (i + 1) s2 → Moved (S :: wr) G s s2 →
        codeAny (model P w) A (.builtin "set.update.loop" ⟨[.ref S, .ref I], []⟩) R s2 := fun D' l' s2 o2 F2 T2 e2 st2 mv2 => by
      refine ih (i + 1) s2 D' l' (by omega) lt st2 o2 F2 T2 (by rw [e2]; have := metS_len l (xs.getD i Str.empty); omega) fun s3 D3 mv3 o3 F3 T3 => ?_
      refine hR s3 D3 (Moved.trans Wk.gtrans mv2 mv3) o3 ?_ T3
      rw [getD_drop (by omega), List.foldl_cons, ← e2]
      exact F3
    show wpAny _ A.in1 (holding [Value.str (xs.getD i Str.empty) t] (setAdd S (.str (xs.getD i Str.empty) t)) >>= _) _ _ s'
    apply wpAny_bind
    apply wpAny_holding
    unfold setAdd
    apply wpAny_holding
    apply wpAny_bind
    apply (strKind P w).pyHash (k := xs.getD i Str.empty) (is_str _ _)
    by_cases hk : xs.getD i Str.empty ∈ l
    · refine add_old (s := { s' with toks := s'.toks + 1 }) ho' F hk (by omega) ?_
      refine wpAny_pure ⟨plainId_quiet PyProof.Rows.F.plain_set_update_loop _, ?_⟩
      refine go D l { s' with toks := s'.toks + 1 } ho' F T (by unfold metS; rw [if_pos hk]) ?_ ?_
      · exact Wk.frame _ s' _ _ hs' (Nat.le_succ _) fun b hb o e => e
      · exact (mv.mono up).then_heap (Nat.le_succ _) fun b o hb e => e
    · refine add_x (s := { s' with toks := s'.toks + 1 }) ho' F hk (by omega) ?_
      refine wpAny_pure ⟨plainId_quiet PyProof.Rows.F.plain_set_update_loop _, ?_⟩
      have o2 : (s'.heap.update S (fun _ => sObj "set" (addTx (hashStr w (xs.getD i Str.empty)) (.str (xs.getD i Str.empty) t) D))).get? S = some (sObj "set" (addTx (hashStr w (xs.getD i Str.empty)) (.str (xs.getD i Str.empty) t) D)) := get_upd _ ho' rfl
      refine go _ (xs.getD i Str.empty :: l) { s' with heap := s'.heap.update S (fun _ => sObj "set" (addTx (hashStr w (xs.getD i Str.empty)) (.str (xs.getD i Str.empty) t) D)), toks := s'.toks + 1 } o2 (add_ok t F) (add_tabR _ _ T) (by unfold metS; rw [if_neg hk]) ?_ ?_
      · refine Wk.frame _ s' _ _ hs' (Nat.le_succ _) fun b hb o e => ?_
        exact (Heap.get?_update_other _ _ (fun z : S = b => nf (by rw [z]; exact hb))).trans e
      · refine (mv.mono up).then_heap (Nat.le_succ _) fun b o hb e => ?_
        exact (Heap.get?_update_other _ _ (fun z : S = b => hb (by rw [← z]; exact List.mem_cons_self))).trans e
end
/-- the empty set as it is made -/
abbrev setE (w : World) : Obj := { cls := .type "set", dict := none, data := .set #[] 0 (.fresh 0 0 (!w.params.followText "set-order")) }
theorem setE_tab (w : World) : TabR w (.fresh 0 0 (!w.params.followText "set-order")) := by
  refine ⟨List.Pairwise.nil, ?_⟩
  show _ ∨ (!w.params.followText "set-order") = true
  cases w.params.followText "set-order" with
  | false => exact .inr rfl
  | true => exact .inl rfl
section
open PySem.Froz
variable {P : Program} {w : World} {A : Around} {E : Value → Shared → Prop} {s : Shared}
theorem call_set_txs {l : Addr} {items : Array Value} {xs : List Str} {Q : Value → Shared → Prop} (hh : A.handled = none) (hl : s.heap.IsList l items) (hx : PyProof.Rows.StrsAre items.toList xs) (room : xs.length + 1 < scanBound)
    (h : ∀ (h' : Heap) (tk : Nat) (D : Froz.SD), h'.get? s.heap.objs.size = some (sObj "set" D) → TxOk P w D (xs.foldl metS []) → TabR w D.2.2 → (∀ b o, b < s.heap.objs.size → s.heap.get? b = some o → h'.get? b = some o) →
      Q (.ref s.heap.objs.size) { s with heap := h', toks := tk }) : wpAny (model P w) A (call (.type "set") [.ref l]) Q E s := by
  obtain ⟨c, tl, mro⟩ := PySem.F.called_set.mro
  have made := PySem.F.called_set.made
  have sub := PySem.F.called_set.sub
  apply wpAny_call
  apply codeAny_of_tree
  show wpAny _ _ (callAny (.type "set") _) _ _ _
  refine wpAny_pure ⟨Code.quiet_builtin _ (by decide +kernel), ?_⟩
  apply codeAny_builtin PySem.F.entry_type_call
  rw [Around.under_plain (weight_type_call_type "set" [.ref l] []) rfl]
  have u1 := PySem.F.called_set.notType
  have u2 := PySem.F.called_set.canCreate
  have u3 := PySem.F.typeCall_set_1 (.ref l)
  repeat (any_goals (first | wp_step | assumption))
  refine codeAny_mono (code_set_led1 (.ref l) (E := E) (Q₁ := fun r s₁ => r = .ref s.heap.objs.size ∧ s₁ = { s with heap := s.heap.push (setE w) }) ⟨rfl, rfl⟩) fun r s₁ g1 => ?_
  rcases r with e | fl
  · exact g1
  cases fl with
  | ret obj =>
    obtain ⟨rfl, rfl⟩ := g1
    have oS : (s.heap.push (setE w)).get? s.heap.objs.size = some (setE w) := Heap.get?_push_size _ rfl
    have tS : Shared.TypeIs { s with heap := s.heap.push (setE w) } (.ref s.heap.objs.size) "set" := ⟨_, oS, rfl⟩
    have v1 := PySem.F.called_set.init.lookup
    have v2 := PySem.F.called_set.init.bind (.ref s.heap.objs.size)
    repeat (any_goals (first | wp_step | assumption))
    refine codeAny_mono (codeAny_call_builtin (R := wants (fun r s₂ => r = .none ∧ ∃ h' tk D, s₂ = { s with heap := h', toks := tk } ∧ h'.get? s.heap.objs.size = some (sObj "set" D) ∧ TxOk P w D (xs.foldl metS []) ∧ TabR w D.2.2 ∧
      (∀ b o, b < s.heap.objs.size → s.heap.get? b = some o → h'.get? b = some o)) E) PySem.F.called_set.init.plain PySem.F.entry_set_init (check_set_init_1 tS ?_)) fun r₂ s₂ g2 => ?_
    · obtain ⟨⟨ocls, odict, odata, oslots⟩, hol, hcl, nl, hdl⟩ := hl
      dsimp only at hcl hdl
      subst hcl hdl
      have ol' : (s.heap.push (setE w)).get? l = some { cls := .type "list", dict := odict, data := .seq items nl, slots := oslots } := Heap.get?_push_of_some _ hol
      have w1 := PySem.F.sub_list_set
      have w2 := PySem.F.sub_list_frozenset
      have w3 : (Value.type "list" == Value.type "dict") = false := by decide
      have il : (s.heap.push (setE w)).IsList l items := ⟨_, ol', rfl, nl, rfl⟩
      unfold Builtin.«set.__init__» noKeywords Builtin.Frozenset.updateFrom
      generalize e0 : pyIter = PI
      wp_walk
      subst e0
      apply wpAny_pyIter_list il
      apply wpAny_bind
      apply wpAny_runValue
      have lS : l < s.heap.objs.size := Heap.lt_size hol
      have zS : (s.heap.push (setE w)).objs.size = s.heap.objs.size + 1 := Heap.size_push ..
      have hh3 : A.in1.in1.in1.handled = none := by simp [hh]
      have nI : l ≠ (s.heap.push (setE w)).objs.size := fun z => by rw [zS] at z; rw [z] at lS; exact absurd lS (Nat.not_lt_of_le (Nat.le_succ _))
      have nf : s.heap.objs.size ∉ [(s.heap.push (setE w)).objs.size, l] := by
        rw [zS]
        intro z
        rcases List.mem_cons.mp z with z | z
        · exact absurd z.symm (Nat.succ_ne_self _)
        · rw [List.mem_singleton.mp z] at lS; exact absurd lS (Nat.lt_irrefl _)
      have len : xs.length = items.size := by rw [← PyProof.Rows.StrsAre.len_eq hx, Array.length_toList]
      have vl : ∀ (i : Nat) (v : Value), items[i]? = some v → ∃ t, v = .str (xs.getD i Str.empty) t := fun i v q => SS.strs_at hx i v ((Array.getElem?_toList ..).trans q)
      refine loopTx ((Walks.list hh3 _ l nI items).toS) s.heap.objs.size nf xs len (by omega) vl (items.size - 0) 0 _ (#[], 0, .fresh 0 0 (!w.params.followText "set-order")) [] rfl (Nat.zero_le _)
        ⟨⟨_, Heap.get?_push_size _ rfl, rfl, rfl⟩, il.push _⟩ (Heap.get?_push_of_some _ oS) (TxOk.nil rfl) (setE_tab w) (Nat.le_refl _) ?_
      rintro ⟨h', g', d', tk', os'⟩ D' mv o' F' T'
      have q1 : g' = s.gens := mv.gens
      have q2 : d' = s.drawn := mv.drawn
      have q3 : os' = s.os := mv.os
      subst q1 q2 q3
      show wpAny _ _ _ _ _ _
      apply wpAny_pure
      show wpAny _ _ (ret Value.none) _ _ _
      refine wpAny_pure ⟨rfl, h', tk', D', rfl, o', F', T', fun b o hb e => ?_⟩
      refine mv.heap b o ?_ (Heap.get?_push_of_some _ (Heap.get?_push_of_some _ e))
      intro z
      rcases List.mem_cons.mp z with z | z
      · rw [z] at hb; exact absurd hb (Nat.lt_irrefl _)
      · have z := List.mem_singleton.mp z
        rw [z] at hb
        exact absurd (Nat.lt_of_lt_of_eq hb rfl) (Nat.not_lt_of_le (Nat.le_of_lt (Nat.lt_of_lt_of_eq (Nat.lt_succ_self _) zS.symm)))
    · rcases r₂ with e | fl₂
      · exact g2
      cases fl₂ with
      | ret r =>
        obtain ⟨rfl, h', tk, D, rfl, o2, F2, T2, k2⟩ := g2
        repeat (any_goals (first | wp_step | assumption))
        exact h h' tk D o2 F2 T2 k2
      | _ => exact g2.elim
  | _ => exact g1.elim
end
end VI
namespace VI
open PySem PySem.Spec PyProof.Rows L2
/-! ### the members of a set of texts, as a list of texts -/
theorem perm_all {α : Type} [DecidableEq α] : ∀ (l m : List α), l.Nodup → (∀ x ∈ l, x ∈ m) → m.length = l.length → m.Perm l
  | [], m, _, _, h => by rw [List.eq_nil_of_length_eq_zero h]
  | x :: l, m, nd, hs, h => by
    have hx := hs x (by simp)
    have p := List.perm_cons_erase hx
    obtain ⟨n1, n2⟩ := List.nodup_cons.mp nd
    refine p.trans (List.Perm.cons x (perm_all l (m.erase x) n2 (fun y hy => ?_) ?_))
    · have ne : y ≠ x := fun e => n1 (e ▸ hy)
      exact (List.mem_erase_of_ne ne).mpr (hs y (List.mem_cons_of_mem _ hy))
    · have := p.length_eq
      simp only [List.length_cons] at this h
      omega
theorem metS_nodup : ∀ (xs l : List Str), l.Nodup → (xs.foldl metS l).Nodup
  | [], l, h => h
  | x :: xs, l, h => by
    refine metS_nodup xs _ ?_
    unfold metS
    split
    · exact h
    · rename_i hx; exact List.nodup_cons.mpr ⟨hx, h⟩
theorem metS_mem : ∀ (xs l : List Str) (y : Str), y ∈ xs.foldl metS l ↔ y ∈ l ∨ y ∈ xs
  | [], l, y => by simp
  | x :: xs, l, y => by
    rw [List.foldl_cons, metS_mem xs]
    unfold metS
    split
    · rename_i hx
      constructor
      · rintro (h | h)
        · exact .inl h
        · exact .inr (List.mem_cons_of_mem _ h)
      · rintro (h | h)
        · exact .inl h
        · rcases List.mem_cons.mp h with rfl | h
          · exact .inl hx
          · exact .inr h
    · simp only [List.mem_cons]
      constructor
      · rintro ((h | h) | h)
        · exact .inr (.inl h)
        · exact .inl h
        · exact .inr (.inr h)
      · rintro (h | h | h)
        · exact .inl (.inr h)
        · exact .inl (.inl h)
        · exact .inr h
def txOf : Value → Str
  | .str x _ => x
  | _ => Str.empty
theorem strsAre_tx : ∀ (vs : List Value), (∀ v ∈ vs, ∃ x t, v = Value.str x t) → PyProof.Rows.StrsAre vs (vs.map txOf)
  | [], _ => .nil
  | v :: vs, h => by
    obtain ⟨x, t, rfl⟩ := h v (by simp)
    exact .cons x t (strsAre_tx vs fun u hu => h u (List.mem_cons_of_mem _ hu))
section
open PySem.Froz
variable {P : Program} {w : World}
theorem members_tx {D : Froz.SD} {l : List Str} (F : TxOk P w D l) (nd : l.Nodup) {vs : List Value} (p : vs.Perm (D.1.toList.map (·.2))) : PyProof.Rows.StrsAre vs (vs.map txOf) ∧ (vs.map txOf).Perm l := by
  have sh : ∀ e ∈ D.1.toList, ∃ x t, e.2 = Value.str x t := fun e he => by
    obtain ⟨⟨k, hk, _⟩, _⟩ := F.el e he
    obtain ⟨t, ht⟩ := Value.isStrOf_shape hk
    exact ⟨k, t, ht⟩
  refine ⟨strsAre_tx vs fun v hv => ?_, ?_⟩
  · obtain ⟨e, he, rfl⟩ := List.mem_map.mp (p.mem_iff.mp hv)
    exact sh e he
  · refine perm_all l _ nd (fun x hx => ?_) ?_
    · obtain ⟨e, he, hk⟩ := (F.mem x).mp hx
      obtain ⟨t, ht⟩ := Value.isStrOf_shape hk
      refine List.mem_map.mpr ⟨e.2, p.mem_iff.mpr (List.mem_map_of_mem he), ?_⟩
      rw [ht]; rfl
    · rw [List.length_map, p.length_eq, List.length_map, Array.length_toList]
      exact F.sz
end
section
open PySem.Froz
variable {P : Program} {w : World} {A : Around} {E : Value → Shared → Prop} {s : Shared}
theorem sorted_txs {a : Addr} {D : Froz.SD} {l : List Str} {Q : Value → Shared → Prop} (hh : A.handled = none) (ho : s.heap.get? a = some (sObj "set" D)) (F : TxOk P w D l) (nd : l.Nodup) (T : TabR w D.2.2) (h64 : l.length < 64)
    (hQ : ∀ s' p (out : Array Value) (c : Nat) (ys : List Str), (∀ b o, s.heap.get? b = some o → s'.heap.get? b = some o) → s'.gens = s.gens → s'.os = s.os → s.heap.objs.size ≤ p → s'.heap.get? p = some (seqObj "list" out c) →
      PyProof.Rows.StrsAre out.toList ys → ys.Perm l → sortedS ys = true → Q (.ref p) s') : wpAny (model P w) A (call (.builtin "sorted") [.ref a]) Q E s := by
  rcases D with ⟨es, ep, t⟩
  have sz : es.size = l.length := F.sz
  apply Calls.call_function_entry kind_sorted plain_sorted entry_sorted (args_sorted1 _)
  unfold Builtin.«sorted»
  apply wpAny_bind (m := checkCount "sorted" 1 1 _)
  apply wpAny_pure
  apply wpAny_bind
  apply collect_set (A := A.in1) hh ⟨_, ho, rfl, rfl⟩ F.fit (by rw [sz]; unfold scanBound; omega) T.1 T.2
  intro s1 vs k1 z1 g1 o1 pm
  obtain ⟨hS, hp⟩ := members_tx F nd pm
  have vl : vs.length = l.length := by have := hp.length_eq; rwa [List.length_map] at this
  refine wpAny_bind (wpAny_newList ?_ (by rw [vl, sizeLine_eq]; omega))
  have oL : (s1.heap.push (seqObj "list" vs.toArray 0)).get? s1.heap.objs.size = some (seqObj "list" vs.toArray 0) := Heap.get?_push_size _ rfl
  apply wpAny_bind
  apply wpAny_holding
  refine wpAny_call_entry slot_list_sort ⟨_, oL, rfl⟩ entry_list_sort (list_sort_treeK strKind_oneLt oL hS.keysOf (fun v₁ v₂ rest e => keyKind_strs (by rw [← e]; exact hS)) (by rw [vl]; exact h64) fun st' a1 a2 => ⟨_, rfl, ?_⟩) (args_list_sort _)
  obtain ⟨ys, b1, b2, b3⟩ := sorted_out_str hS a1 a2
  obtain ⟨c, hc⟩ := sortedHeap_at (vs := vs) (out := (arrOf st').map (·.2)) oL
  refine wpAny_pure ⟨_, rfl, hQ _ s1.heap.objs.size _ c ys (fun b u e => ?_) g1 o1 z1 hc b1 (b2.trans hp) b3⟩
  have q := k1 b u e
  have lt := Heap.lt_size q
  show (sortedHeap (s1.heap.push (seqObj "list" vs.toArray 0)) s1.heap.objs.size vs _).get? b = some u
  rw [sortedHeap_old (Nat.ne_of_lt lt) (by rw [size_push']; exact Nat.lt_succ_of_lt lt)]
  exact Heap.get?_push_of_some _ q
end
end VI
namespace VI
open PySem PySem.Spec PyProof.Rows L2
section
variable {X : Cx}
/-! ### sorted(set(xs)) -/
def tSortSet (K : PySem.W.Frag) (ta : TE) : TE := fun σ H Q => ta σ H fun x H1 => ∃ l, ∃ xs : List Str, x = .ref l ∧ SqL K H1 l (xs.map V.str) ∧ xs.length < 64 ∧
  ∀ (ys : List Str) (p : Addr), ys.Perm (xs.foldl metS []) → sortedS ys = true → H1 p = none → Q (.ref p) (upd H1 p (.lst (ys.map V.str)))
theorem pe_sortSet {a : Expr} {ta : TE} {p p2 q pos : Pos} (hc : X.calm = true) (hg : Gl X "sorted") (hm : X.mg "sorted" = none) (hg2 : Gl X "set") (hm2 : X.mg "set" = none) (ha : PE X a ta)
    (na : starEach [a] X.env = (false, eval a X.env) :: starEach [] X.env := by rfl) : PE X (.Call (.Name "sorted" p) [.Call (.Name "set" p2) [a] [] q] [] pos) (tSortSet X.K ta) := by
  refine ⟨fun pins s σ H Q I h => ?_⟩
  refine Call_ (ld_blt (u := .builtin "sorted") I hg hm (by decide +kernel) ?_)
  refine callWith_builtin1 (args_cons ?_ rfl) rfl rfl
  refine Call_ (ld_blt I hg2 hm2 boot_set ?_)
  refine callWith_type1 (args_cons (thn (ha.run pins s σ H _ I h) fun v s1 ⟨x, H1, I1, r1, q1⟩ => args_nil ?_) na) na rfl
  obtain ⟨l, xs, rfl, hq, h1, q1⟩ := q1
  cases r1
  obtain ⟨its, r, pl, hz⟩ := I1.list hq
  have hS := strsAre_of r
  refine call_set_txs (I1.ok.hd hc) pl.isList (by simpa using hS) (by unfold scanBound; omega) fun h' tk D o2 F T k2 => ?_
  apply args_nil
  have I2 : Inv X pins σ H1 { s1 with heap := h', toks := tk } := I1.kept fun b o e => k2 b o (Heap.lt_size e) e
  have ln : (xs.foldl metS []).length ≤ xs.length := by
    have : ∀ (xs l : List Str), (xs.foldl metS l).length ≤ l.length + xs.length := fun xs => by
      induction xs with
      | nil => simp
      | cons x xs ih => intro l; have := ih (metS l x); have := metS_len l x; simp only [List.foldl_cons, List.length_cons]; omega
    simpa using this xs []
  have o3 : ({ s1 with heap := h', toks := tk } : Shared).heap.get? s1.heap.objs.size = some (Froz.sObj "set" D) := o2
  generalize ({ s1 with heap := h', toks := tk } : Shared) = s2 at I2 o3 ⊢
  refine sorted_txs (s := s2) (I2.ok.hd hc) o3 F (metS_nodup xs [] (by simp)) T (by omega) fun s' p out c ys k g o hp hget hi pm hs => ?_
  have hlen : (ys.map V.str).length ≤ sizeLine := by rw [List.length_map, pm.length_eq, sizeLine_eq]; omega
  have hn : H1 p = none := I2.hok.fresh hp
  have J : Inv X pins σ (upd H1 p (.lst (ys.map V.str))) { s2 with heap := s'.heap, gens := s'.gens, drawn := s'.drawn, toks := s'.toks } :=
    I2.call (ch := []) (Un.laid k hp hn) (I2.hok.laid k hp ⟨hlen, out.toList, c, vals_of_strs hi, hget⟩) (by rw [g]; exact I2.bare) (fun _ z => nomatch z)
  have e : s' = { s2 with heap := s'.heap, gens := s'.gens, drawn := s'.drawn, toks := s'.toks } := by
    rcases s' with ⟨_, _, _, _, _⟩
    dsimp only at o
    subst o
    rfl
  rw [e]
  exact ⟨.ref p, _, J, rfl, q1 ys p pm hs hn⟩
end
end VI
namespace VI
open PySem PySem.Spec PyProof.Rows L2
/-! ### the order of texts -/
theorem ltC_anti : ∀ {a b : List Nat}, ltCps a b = false → ltCps b a = false → a = b
  | [], [], _, _ => rfl
  | [], _ :: _, h, _ => by simp [ltCps] at h
  | _ :: _, [], _, h => by simp [ltCps] at h
  | x :: a, y :: b, h1, h2 => by
    simp only [ltCps, Bool.or_eq_false_iff, decide_eq_false_iff_not, Bool.and_eq_false_iff, beq_eq_false_iff_ne] at h1 h2
    have e : x = y := by omega
    subst e
    have i1 : ltCps a b = false := h1.2.resolve_left (fun z => z rfl)
    have i2 : ltCps b a = false := h2.2.resolve_left (fun z => z rfl)
    rw [ltC_anti i1 i2]
theorem leC_trans : ∀ {a b c : List Nat}, ltCps b a = false → ltCps c b = false → ltCps c a = false
  | [], _, [], _, _ => rfl
  | [], _, _ :: _, _, _ => by simp [ltCps]
  | _ :: _, [], _, h, _ => by simp [ltCps] at h
  | _ :: _, _ :: _, [], _, h => by simp [ltCps] at h
  | x :: a, y :: b, z :: c, h1, h2 => by
    simp only [ltCps, Bool.or_eq_false_iff, decide_eq_false_iff_not, Bool.and_eq_false_iff, beq_eq_false_iff_ne] at h1 h2 ⊢
    refine ⟨by omega, ?_⟩
    by_cases e : z = x
    · right
      have e1 : y = x := by omega
      have e2 : z = y := by omega
      exact leC_trans (h1.2.resolve_left (fun w => w e1)) (h2.2.resolve_left (fun w => w e2))
    · exact .inl e
def leT (a b : Str) : Prop := ltCps b.cps.toList a.cps.toList = false
theorem rising_pw : ∀ (l : List Str) (p : Str), risingS p l = true → (p :: l).Pairwise leT
  | [], p, _ => by simp
  | x :: l, p, h => by
    simp only [risingS, Bool.and_eq_true, Bool.not_eq_true'] at h
    have ih := rising_pw l x h.2
    refine List.pairwise_cons.mpr ⟨fun y hy => ?_, ih⟩
    rcases List.mem_cons.mp hy with rfl | hy
    · exact h.1
    · exact leC_trans h.1 ((List.pairwise_cons.mp ih).1 y hy)
theorem sortedS_pw {l : List Str} (h : sortedS l = true) : l.Pairwise leT := by
  cases l with
  | nil => exact .nil
  | cons x l => exact rising_pw l x h
theorem sorted_one : ∀ {a b : List Str}, a.Pairwise leT → b.Pairwise leT → a.Perm b → a = b
  | [], b, _, _, p => p.nil_eq
  | x :: a, [], _, _, p => by have := p.length_eq; simp at this
  | x :: a, y :: b, ha, hb, p => by
    have h1 := (List.pairwise_cons.mp ha)
    have h2 := (List.pairwise_cons.mp hb)
    have e : x = y := by
      by_cases e : x = y
      · exact e
      · have m1 : x ∈ b := by
          rcases List.mem_cons.mp (p.mem_iff.mp (List.mem_cons_self)) with z | z
          · exact absurd z e
          · exact z
        have m2 : y ∈ a := by
          rcases List.mem_cons.mp (p.mem_iff.mpr (List.mem_cons_self)) with z | z
          · exact absurd z.symm e
          · exact z
        exact str_ext (ltC_anti (h2.1 x m1) (h1.1 y m2))
    subst e
    rw [sorted_one h1.2 h2.2 (List.Perm.cons_inv p)]
def putS (x : Str) : List Str → List Str
  | [] => [x]
  | y :: l => if ltCps y.cps.toList x.cps.toList = true then y :: putS x l else x :: y :: l
def sortT : List Str → List Str
  | [] => []
  | x :: l => putS x (sortT l)
theorem putS_perm (x : Str) : ∀ l : List Str, (putS x l).Perm (x :: l)
  | [] => .refl _
  | y :: l => by
    unfold putS
    split
    · exact ((putS_perm x l).cons y).trans (.swap x y l)
    · exact .refl _
theorem sortT_perm : ∀ l : List Str, (sortT l).Perm l
  | [] => .refl _
  | x :: l => (putS_perm x _).trans ((sortT_perm l).cons x)
theorem ltC_asymm : ∀ {a b : List Nat}, ltCps a b = true → ltCps b a = false
  | [], [], h => by simp [ltCps] at h
  | [], _ :: _, _ => by simp [ltCps]
  | _ :: _, [], h => by simp [ltCps] at h
  | x :: a, y :: b, h => by
    simp only [ltCps, Bool.or_eq_true, decide_eq_true_eq, Bool.and_eq_true, beq_iff_eq] at h
    simp only [ltCps, Bool.or_eq_false_iff, decide_eq_false_iff_not, Bool.and_eq_false_iff, beq_eq_false_iff_ne]
    rcases h with h | ⟨e, h⟩
    · exact ⟨by omega, .inl (by omega)⟩
    · exact ⟨by omega, .inr (ltC_asymm h)⟩
theorem putS_pw (x : Str) : ∀ l : List Str, l.Pairwise leT → (putS x l).Pairwise leT
  | [], _ => by simp [putS]
  | y :: l, h => by
    obtain ⟨h1, h2⟩ := List.pairwise_cons.mp h
    unfold putS
    split
    · rename_i c
      refine List.pairwise_cons.mpr ⟨fun z hz => ?_, putS_pw x l h2⟩
      rcases List.mem_cons.mp ((putS_perm x l).mem_iff.mp hz) with rfl | hz
      · exact ltC_asymm c
      · exact h1 z hz
    · rename_i c
      have c' : leT x y := by unfold leT; simpa using c
      refine List.pairwise_cons.mpr ⟨fun z hz => ?_, h⟩
      rcases List.mem_cons.mp hz with rfl | hz
      · exact c'
      · exact leC_trans c' (h1 z hz)
theorem sortT_pw : ∀ l : List Str, (sortT l).Pairwise leT
  | [] => .nil
  | x :: l => putS_pw x _ (sortT_pw l)
theorem sorted_is {ys xs : List Str} (p : ys.Perm xs) (h : sortedS ys = true) : ys = sortT xs := sorted_one (sortedS_pw h) (sortT_pw xs) (p.trans (sortT_perm xs).symm)
end VI
namespace VI
open PySem PySem.Spec PyProof.Rows L2
/-! ### sorted(set(..)) as a combinator -/
def txsD : List D → Option (List Str)
  | [] => some []
  | .str s :: l => (txsD l).map (s :: ·)
  | _ :: _ => none
theorem txsD_map : ∀ xs : List Str, txsD (xs.map D.str) = some xs
  | [] => rfl
  | x :: xs => by rw [List.map_cons, txsD, txsD_map xs]; rfl
theorem txsD_is : ∀ {l : List D} {xs : List Str}, txsD l = some xs → l = xs.map D.str
  | [], xs, h => by cases h; rfl
  | .str s :: l, xs, h => by
    rw [txsD] at h
    obtain ⟨ys, h1, h2⟩ := Option.map_eq_some_iff.mp h
    subst h2
    rw [List.map_cons, ← txsD_is h1]
  | .non :: l, xs, h => by cases h
  | .bl _ :: l, xs, h => by cases h
  | .int _ :: l, xs, h => by cases h
  | .tup _ :: l, xs, h => by cases h
  | .lst _ :: l, xs, h => by cases h
  | .dic _ :: l, xs, h => by cases h
  | .set _ :: l, xs, h => by cases h
  | .ins _ _ :: l, xs, h => by cases h
  | .ty _ :: l, xs, h => by cases h
  | .cls _ :: l, xs, h => by cases h
def nubT (xs : List Str) : List Str := sortT (xs.foldl metS [])
def ssetL (l : List D) : Option O := (txsD l).bind fun xs => if xs.length < 64 then some (.lst ((nubT xs).map D.str)) else none
def ssetO : O → Option O
  | .lst l => ssetL l
  | .pure (.lst l) => ssetL l
  | _ => none
theorem sset_l (xs : List Str) (h : xs.length < 64) : ssetO (.lst (xs.map D.str)) = some (.lst ((nubT xs).map D.str)) := by
  unfold ssetO ssetL
  simp only [txsD_map, Option.bind_some, if_pos h]
theorem sset_ll (xs ys : List Str) (h : xs.length + ys.length < 64) : ssetO (.lst (xs.map D.str ++ ys.map D.str)) = some (.lst ((nubT (xs ++ ys)).map D.str)) := by
  rw [← List.map_append]
  exact sset_l _ (by rw [List.length_append]; exact h)
theorem add_sl (xs ys : List Str) (h : xs.length + ys.length ≤ 16777216) : addO (.lst (xs.map D.str)) (.lst (ys.map D.str)) = some (.lst ((xs ++ ys).map D.str)) := by
  show (if (xs.map D.str).length + (ys.map D.str).length ≤ 16777216 then some (O.lst (xs.map D.str ++ ys.map D.str)) else none) = _
  rw [if_pos (by simpa using h), List.map_append]
theorem strs_repU {W : Wd} {H : Hp} : ∀ {us : List V} {xs : List Str}, RepFs W H us (xs.map D.str) → us = xs.map V.str
  | _, [], .nil => rfl
  | _, x :: xs, .cons a r => by
    cases a
    rw [List.map_cons, ← strs_repU r]
theorem reps_strsU {W : Wd} {H : Hp} : ∀ xs : List Str, RepFs W H (xs.map V.str) (xs.map D.str)
  | [] => .nil
  | x :: xs => .cons (.str x) (reps_strsU xs)
section
variable {W : Wd} {X : Cx} {vs : List (Option V)} {Wx : WX} {n : Nat}
theorem se_sset {a : Expr} {A : E} {p p2 q pos : Pos} (cx : Ctx W n Wx X) (hg : Gl X "sorted") (hm : X.mg "sorted" = none) (hg2 : Gl X "set") (hm2 : X.mg "set" = none) (ha : SE W vs Wx X a A)
    (na : starEach [a] X.env = (false, eval a X.env) :: starEach [] X.env := by rfl) : SE W vs Wx X (.Call (.Name "sorted" p) [.Call (.Name "set" p2) [a] [] q] [] pos) (una ssetO A) := by
  refine pe_weak (pe_sortSet cx.calm hg hm hg2 hm2 ha na) fun σ H Q qq => ?_
  unfold tSortSet
  obtain ⟨H0, L, g, sp, en, post⟩ := tO_una σ H Q qq
  refine ⟨H0, L, g, sp, en, ?_⟩
  cases ea : A g with
  | stuck => rw [ea] at post; exact post.elim
  | exc x g' => rw [ea] at post; exact post
  | ok r g1 =>
    rw [ea] at post
    intro v H1 H01 Lr L1 st1 rr en1
    obtain ⟨H02, ox, Lx, o, ex, ro, ef, gv⟩ := post v H1 H01 Lr L1 st1 rr en1
    have key : ∀ l, (ox = .pure (.lst l) ∨ ox = .lst l) → ssetL l = some o → ∃ l, ∃ xs : List Str, v = .ref l ∧ SqL X.K H1 l (xs.map V.str) ∧ xs.length < 64 ∧
        ∀ (ys : List Str) (p : Addr), ys.Perm (xs.foldl metS []) → sortedS ys = true → H1 p = none → Q (.ref p) (upd H1 p (.lst (ys.map V.str))) := fun l h e => by
      unfold ssetL at e
      obtain ⟨xs, e1, e2⟩ := Option.bind_eq_some_iff.mp e
      split at e2
      · rename_i h64
        cases e2
        obtain ⟨p, us, e3, hs, rf⟩ := sql_of ex ro h
        rw [txsD_is e1] at rf
        have e4 := strs_repU rf
        subst e4
        refine ⟨p, xs, e3, by rw [cx.K]; exact hs, h64, fun ys p2 pm hs2 hp => ?_⟩
        have e5 : ys = nubT xs := sorted_is pm hs2
        subst e5
        exact gv.newL ex (reps_strsU _) hp
      · cases e2
    unfold ssetO at ef
    split at ef
    · exact key _ (.inr rfl) ef
    · exact key _ (.inl rfl) ef
    · cases ef
end
/-! ### what it holds -/
theorem putS_nodup {x : Str} : ∀ {l : List Str}, (x :: l).Nodup → (putS x l).Nodup := fun h => (putS_perm _ _).nodup_iff.mpr h
theorem nub_mem (xs : List Str) (x : Str) : x ∈ nubT xs ↔ x ∈ xs := by
  unfold nubT
  rw [(sortT_perm _).mem_iff]
  have := metS_mem xs [] x
  simpa using this
theorem nub_nodup (xs : List Str) : (nubT xs).Nodup := (sortT_perm _).nodup_iff.mpr (metS_nodup xs [] (by simp))
/-- two lists of the same texts -/
theorem nub_eq {xs ys : List Str} (h : ∀ x, x ∈ xs ↔ x ∈ ys) : nubT xs = nubT ys := by
  refine sorted_one (sortT_pw _) (sortT_pw _) ?_
  exact (List.perm_ext_iff_of_nodup (nub_nodup xs) (nub_nodup ys)).mpr fun x => by rw [nub_mem, nub_mem, h]
theorem nub_len (xs : List Str) : (nubT xs).length ≤ xs.length := by
  unfold nubT
  rw [(sortT_perm _).length_eq]
  have : ∀ (xs l : List Str), (xs.foldl metS l).length ≤ l.length + xs.length := fun xs => by
    induction xs with
    | nil => simp
    | cons x xs ih => intro l; have := ih (metS l x); have := metS_len l x; simp only [List.foldl_cons, List.length_cons]; omega
  simpa using this xs []
theorem nub_nil : nubT [] = [] := rfl
theorem nub_one (x : Str) : nubT [x] = [x] := rfl
end VI
namespace VI
open PySem PySem.Spec PyProof.Rows L2
/-! ### for k, v in d.items(), d a new dict -/
section
variable {W : Wd} {X : Cx} {vs : List (Option V)} {Wx : WX} {n : Nat}
theorem pe_lock {e : Expr} {td : TE} (he : PE X e td) : PE X e (fun σ H Q => td σ H fun x H1 => ∃ (d : Addr) (kvs : List (Key × V)), x = .ref d ∧ H1 d = some (.dK kvs) ∧ ∀ od, Q x (upd H1 d (.frz od (.dK kvs)))) := by
  refine ⟨fun pins s σ H Q I h => ?_⟩
  refine wpAny_mono (he.run pins s σ H _ I h) (fun v s1 q => ?_) (fun _ _ z => z)
  obtain ⟨x, H1, I1, r1, d, kvs, ex, hd, q⟩ := q
  obtain ⟨od, I2⟩ := I1.lock hd trivial
  exact ⟨x, _, I2, r1, q od⟩
def itsD (l : List (D × D)) : List D := l.map fun q => .tup [q.1, q.2]
def itmE (A : E) : E := fun g => (A g).bind fun r g1 => match r with
  | .val (.dic l) => .ok (.val (.pure (.set (itsD l)))) g1
  | _ => .stuck
def setI : List O → Option (List D)
  | [.pure (.set l)] => some l
  | _ => none
theorem fk_at {H : Hp} : ∀ {kvs : List (Key × V)} {l : List (D × D)} {i : Nat}, RepFk W H kvs l → kvs.length = l.length ∧ ∀ k v, kvs[i]? = some (k, v) → ∃ d, l[i]? = some (kD k, d) ∧ RepF W H v d
  | _, _, i, .nil => ⟨rfl, fun k v h => by simp at h⟩
  | _, _, 0, .cons (vs := ks) a r => ⟨by simp [(fk_at (i := 0) r).1], fun k v h => by
      simp only [List.getElem?_cons_zero, Option.some.injEq, Prod.mk.injEq] at h
      obtain ⟨rfl, rfl⟩ := h
      exact ⟨_, by simp, a⟩⟩
  | _, _, i + 1, .cons a r => ⟨by simp [(fk_at (i := i) r).1], fun k v h => by
      obtain ⟨d, h1, h2⟩ := (fk_at (i := i) r).2 k v (by simpa using h)
      exact ⟨d, by simpa using h1, h2⟩⟩
theorem kV_rep {H : Hp} (k : Key) : RepF W H (kV k) (kD k) := by
  cases k with
  | inl i => exact .int i
  | inr s => exact .str s
theorem feeds_items {Hb Hm : Hp} {Lm : List Addr} {p : Addr} {od : Obj} {kvs : List (Key × V)} {l : List (D × D)} (hp : Hb p = some (.frz od (.dK kvs))) (rf : RepFk W Hb kvs l) {us : List V} {os : List O} : Feeds W Hb Hm Lm (Iti p od kvs) us os (itsD l) := by
  intro i H0 H La eb ex ro _
  have hH : H p = some (.frz od (.dK kvs)) := ex _ _ (eb _ _ hp)
  have ln := (fk_at (i := 0) rf).1
  refine ⟨fun d hd => ?_, fun hl => ⟨hH, by rw [hl]; simp [itsD, ln]⟩⟩
  have hi : i < l.length := by
    have := (List.getElem?_eq_some_iff.mp hd).1
    simpa [itsD] using this
  refine ⟨⟨hH, by omega⟩, fun x H' hy => ?_⟩
  obtain ⟨T, k, v, hk, rfl, hT, rfl⟩ := hy
  obtain ⟨d', h1, h2⟩ := (fk_at (i := i) rf).2 k v hk
  have ed : d = .tup [kD k, d'] := by
    simp only [itsD, List.getElem?_map, h1, Option.map_some, Option.some.injEq] at hd
    exact hd.symm
  subst ed
  have st := step_new0 (o := .tup [kV k, v]) ex hT
  exact ⟨_, st, .tup (SqT.of upd_same) (.cons (kV_rep k) (.cons ((h2.mono eb).mono st.ex0) .nil))⟩
theorem si_items {e : Expr} {A : E} {kk : Nat} {elts : List Expr} {tpos apos cpos : Pos} (he : SE W vs Wx X e A) (hbase : attributeBase e "items" X.env (eval e X.env) = eval e X.env := by rfl) (hline : (apos.endLine == cpos.line) = true := by rfl) :
    SI W vs Wx X (.Tuple elts kk tpos) (.Call (.Attribute e "items" apos) [] [] cpos) (evs [itmE A]) setI := by
  refine pi_weak (pi_items (pe_lock he) hbase hline) fun σ H Q q => ?_
  obtain ⟨H0, L, g, sp, en, post⟩ := q
  refine ⟨H0, L, g, sp, en, ?_⟩
  have ev : ∀ (a : E) (g : G), evs [a] g = (a g).bind fun r g1 => .ok [r] g1 := fun a g => by simp only [evs]; congr 1
  rw [ev] at post
  unfold itmE at post
  cases ea : A g with
  | stuck => rw [ea] at post; exact post.elim
  | exc x g' => rw [ea] at post; exact post
  | ok r g1 =>
    rw [ea] at post
    intro v H1 H01 Lr L1 st1 rr en1
    simp only [Res.bind] at post
    cases r with
    | slot i => exact post.elim
    | sub i j => exact post.elim
    | val o =>
      cases o with
      | pure d => exact post.elim
      | lst l => exact post.elim
      | ins c fs => exact post.elim
      | hole => exact post.elim
      | lls l => exact post.elim
      | dct l => exact post.elim
      | tpl l => exact post.elim
      | dic l =>
        simp only [Res.bind] at post
        cases rr with
        | @dic p kvs _ hp rf =>
          refine ⟨p, kvs, rfl, hp, fun od => ⟨p, od, kvs, rfl, upd_same, ?_⟩⟩
          obtain ⟨os, g2, ds, e1, e2, kq⟩ := post
          simp only [takes, Option.map_some, Option.some.injEq, Prod.mk.injEq] at e1
          obtain ⟨rfl, rfl⟩ := e1
          cases e2
          have sp1 := st1.sep
          have h01 : H01 p = none := (sp1.own p (by simp)).1
          have ex0 : Ex H01 (upd H01 p (.frz od (.dK kvs))) := Ex.new h01
          have nd := sp1.nd
          have hpL : p ∉ L1 := by
            have := List.nodup_cons.mp (show (p :: L1).Nodup from nd)
            exact this.1
          have st2 : Step H01 H1 ([p] ++ L1) (upd H01 p (.frz od (.dK kvs))) (upd H1 p (.frz od (.dK kvs))) L1 := by
            refine ⟨ex0, fun a u hu hn => ?_, fun a ha => ?_, fun a ha => .inl (List.mem_append_right _ ha), ⟨fun a u hu => ?_, (List.nodup_cons.mp (show (p :: L1).Nodup from nd)).2, fun q hq => ?_⟩⟩
            · rw [upd_ne (fun z => hn (by rw [z]; simp))]
              exact hu
            · by_cases z : a = p
              · exact .inr (.inr (by rw [z]; simp))
              · rw [upd_ne z] at ha
                exact .inl ha
            · by_cases z : a = p
              · subst z
                rw [upd_same] at hu ⊢
                exact hu
              · rw [upd_ne z] at hu ⊢
                exact sp1.ex a u hu
            · have z : q ≠ p := fun z => hpL (z ▸ hq)
              rw [upd_ne z, upd_ne z]
              exact sp1.own q (List.mem_append_right _ hq)
          have rf2 := rf.mono ex0
          refine kq (Iti p od kvs) [.ref p] _ _ [] L1 (by simpa using st1.trans st2) (.cons (Lo := []) (L := []) (.pure (.set upd_same rf2)) .nil) (en1.mono ex0 fun a ha u hu => ?_) (.val .nil) (feeds_items upd_same rf2)
          have z : a ≠ p := fun z => hpL (by rw [← z]; exact ha)
          rw [upd_ne z]
          exact hu
end
end VI
namespace VI
open PySem PySem.Spec PyProof.Rows L2
/-! ### steps of items(); rstrip -/
def itmC (r : R) (g : G) : Res R := match r with
  | .val (.dic l) => .ok (.val (.pure (.set (itsD l)))) g
  | _ => .stuck
theorem itmE_a (A : E) (g : G) : itmE A g = (A g).bind itmC := rfl
theorem itmC_d (l : List (D × D)) (g : G) : itmC (.val (.dic l)) g = .ok (.val (.pure (.set (itsD l)))) g := rfl
theorem setI_a (l : List D) : setI [.pure (.set l)] = some l := rfl
def rstripO : List O → Option O
  | [.pure (.str a), .pure (.str b)] => if a.length ≤ 16777216 then some (.pure (.str (Txt.rstripChars a b))) else none
  | _ => none
section
variable {W : Wd} {X : Cx}
theorem mt_rstripO : MtR X "str.rstrip" (mO W rstripO) := by
  intro pins s σ H x xs v us Q I rx rs ⟨H0, os, o, ex, pr, e, gv⟩
  unfold rstripO at e
  split at e
  · obtain ⟨a1, a2, e1, ⟨_, r1⟩, ⟨_, r2⟩⟩ := two_of pr
    split at e
    · rename_i hz
      cases e
      cases e1
      exact mt_rstripChars pins s σ H _ _ v us Q I rx rs ⟨_, _, atom_str r1, by rw [atom_str r2], sizeL hz, gv.atom ex (.str _)⟩
    · cases e
  · cases e
end
theorem mul_s (a : Str) (j : Int) (h1 : a.length ≤ 100) (h2 : 0 ≤ j) (h3 : j ≤ 10000) : mulO (.pure (.str a)) (.pure (.int j)) = some (.pure (.str (Txt.mul a j))) := by
  show (if a.length ≤ 100 ∧ 0 ≤ j ∧ j ≤ 10000 then _ else none) = _
  rw [if_pos ⟨h1, h2, h3⟩]
end VI
namespace VI
open PySem PySem.Spec PyProof.Rows L2
/-! ### blanks -/
def sps : Nat → Str
  | 0 => Str.ofString ""
  | n + 1 => sps n ++ sp1
theorem sps_cps : ∀ n : Nat, (sps n).cps.toList = List.replicate n 32
  | 0 => by decide
  | n + 1 => by
    rw [sps, cps_app, sps_cps n, sp1_eq, List.replicate_succ']
theorem sps_len (n : Nat) : (sps n).length = n := by
  have := congrArg List.length (sps_cps n)
  simpa [Str.length] using this
theorem rstrip_sps {s : Str} (n : Nat) (h : ∃ b c, s.cps.toList = b ++ [c] ∧ c ≠ 32) : Txt.rstripChars (s ++ sps n) sp1 = s := by
  obtain ⟨b, c, e, hc⟩ := h
  unfold Txt.rstripChars
  rw [PyProof.Rows.stripBy_eq]
  have ex : (s ++ sps n).cps.toList = b ++ [c] ++ List.replicate n 32 := by rw [cps_app, e, sps_cps]
  have e0 : PySem.stripLo (sp1.cps.contains) false (s ++ sps n) = 0 := rfl
  have ht : ((s ++ sps n).cps.toList.reverse.takeWhile sp1.cps.contains) = List.replicate n 32 := by
    rw [ex, List.reverse_append, List.reverse_append, List.reverse_replicate, sp1_eq]
    have pc : ∀ k : Nat, (#[32] : Array Nat).contains k = decide (k = 32) := fun k => by simp
    have tw : ∀ (m : Nat) (l : List Nat), (List.replicate m 32 ++ l).takeWhile (#[32] : Array Nat).contains = List.replicate m 32 ++ l.takeWhile (#[32] : Array Nat).contains := fun m l => by
      induction m with
      | zero => rfl
      | succ m ih =>
        rw [List.replicate_succ, List.cons_append, List.takeWhile_cons, pc, decide_eq_true rfl, if_pos rfl, ih]
        rfl
    rw [tw]
    show List.replicate n 32 ++ (c :: b.reverse).takeWhile (#[32] : Array Nat).contains = List.replicate n 32
    rw [List.takeWhile_cons, pc, decide_eq_false hc]
    simp
  apply str_ext
  have hl : (s ++ sps n).length = b.length + 1 + n := by
    have := congrArg List.length ex
    simp only [List.length_append, List.length_replicate, List.length_cons, List.length_nil] at this
    exact this
  have hh : PySem.stripHi (sp1.cps.contains) true (s ++ sps n) 0 = b.length + 1 := by
    show (s ++ sps n).length - (((s ++ sps n).cps.toList.drop 0).reverse.takeWhile sp1.cps.contains).length = _
    rw [List.drop_zero, ht, List.length_replicate, hl]
    omega
  rw [e0, hh]
  show ((s ++ sps n).cps.extract 0 (b.length + 1)).toList = s.cps.toList
  rw [Array.toList_extract, ex, e]
  show ((b ++ [c] ++ List.replicate n 32).drop 0).take (b.length + 1 - 0) = b ++ [c]
  rw [List.drop_zero]
  exact List.take_left' (by simp)
theorem join_push : ∀ (A : List Str) (x y : Str), Str.join sp1 (A ++ [x]) ++ y = Str.join sp1 (A ++ [x ++ y])
  | [], x, y => rfl
  | [a], x, y => by
    show a ++ sp1 ++ x ++ y = a ++ sp1 ++ (x ++ y)
    rw [Str.append_assoc]
  | a :: b :: A, x, y => by
    have := join_push (b :: A) x y
    show a ++ sp1 ++ Str.join sp1 ((b :: A) ++ [x]) ++ y = a ++ sp1 ++ Str.join sp1 ((b :: A) ++ [x ++ y])
    rw [Str.append_assoc, this]
theorem str_nil (x : Str) : x ++ Str.ofString "" = x := str_ext (by rw [cps_app]; simp [show (Str.ofString "").cps.toList = [] by decide])
theorem nil_str (x : Str) : Str.ofString "" ++ x = x := str_ext (by rw [cps_app]; simp [show (Str.ofString "").cps.toList = [] by decide])
theorem join_blank (A : List Str) (h : A ≠ []) : Str.join sp1 A ++ sp1 = Str.join sp1 (A ++ [Str.ofString ""]) := by
  rw [join_app h (by simp)]
  show _ = Str.join sp1 A ++ sp1 ++ Str.ofString ""
  rw [str_nil]
theorem join_sps (A : List Str) (h : A ≠ []) : ∀ n : Nat, Str.join sp1 A ++ sps n = Str.join sp1 (A ++ List.replicate n (Str.ofString ""))
  | 0 => by simp [sps, str_nil]
  | n + 1 => by
    rw [sps, ← Str.append_assoc, join_sps A h n, join_blank _ (by simp [h]), List.append_assoc, List.replicate_succ']
theorem sps_join : ∀ n : Nat, sps n = Str.join sp1 (List.replicate (n + 1) (Str.ofString ""))
  | 0 => rfl
  | n + 1 => by
    rw [sps, sps_join n, join_blank _ (by simp), ← List.replicate_succ']
theorem mul_sps : ∀ q : Fin 4, Txt.mul sp1 (q.val : Int) = sps q.val := by decide +kernel
theorem cut_sps : ∀ q : Fin 3, cutS (Str.ofString "  ") none (some (q.val : Int)) = sps q.val := by decide +kernel
end VI
namespace VI
open PySem PySem.Spec PyProof.Rows L2
/-! ### own lists in an own list; a name frozen -/
section
variable {W : Wd} {X : Cx} {vs : List (Option V)} {Wx : WX} {n : Nat}
def frzE (i : Nat) : E := fun g => match frzs [.slot i] g with
  | some ([d], g2) => .ok (.val (.pure d)) g2
  | _ => .stuck
theorem se_frz (i : Nat) {x : Str} {pos : Pos} (h : PE X (.Name x pos) (tVar i)) : SE W vs Wx X (.Name x pos) (frzE i) := by
  refine pe_weak h fun σ H Q ⟨H0, L, g, sp, en, post⟩ => ?_
  unfold frzE at post
  cases ef : frzs [.slot i] g with
  | none => rw [ef] at post; exact post.elim
  | some pr =>
    obtain ⟨ds, g2⟩ := pr
    rw [ef] at post
    cases eo : ob g (.slot i) with
    | none => rw [frzs, eo] at ef; cases ef
    | some o =>
      have eo2 := eo
      simp only [ob, Option.bind_eq_some_iff] at eo
      obtain ⟨sl, eo1, eo3⟩ := eo
      obtain ⟨v, La, Lo, Lb, h1, h2, h3, h4⟩ := en.at eo1 eo3
      refine ⟨v, h1, ?_⟩
      have rr : RepRs W H0 H σ [v] [.slot i] [] := .cons (r := .slot i) (Lr := []) (L := []) ⟨h1, rfl⟩ .nil
      obtain ⟨H02, L2, s2, rf, en2⟩ := frzs_ok rr (by simpa using sp) en ef
      cases rf with
      | cons rd r2 =>
        cases r2
        exact post v H H02 [] L2 (by simpa using s2) (.pure rd) en2
def llsE : E := fun g => .ok (.val (.lls [[]])) g
theorem step_upd {H0 H : Hp} {L : List Addr} {p : Addr} {o : HO} (sp : Sep H0 H L) (hp : p ∈ L) : Step H0 H L H0 (upd H p o) L := by
  refine ⟨Ex.refl _, fun a u h hn => ?_, fun a h => .inl h, fun a h => .inl h, ⟨fun a u h => ?_, sp.nd, fun q hq => ⟨(sp.own q hq).1, ?_⟩⟩⟩
  · rw [upd_ne (fun z => hn (by rw [z]; exact hp))]; exact h
  · rw [upd_ne (fun z => by rw [z, (sp.own p hp).1] at h; cases h)]; exact sp.ex a u h
  · by_cases z : q = p
    · rw [z]; exact ⟨_, upd_same⟩
    · rw [upd_ne z]; exact (sp.own q hq).2
theorem step_more {H0 H : Hp} {L : List Addr} {q : Addr} {o : HO} (sp : Sep H0 H L) (hq : H q = none) : Step H0 H L H0 (upd H q o) (L ++ [q]) := by
  have s := Step.frame (La := L) (Lb := []) (by simpa using sp) (step_newL (o := o) sp.ex hq)
  simpa using s
theorem se_lls {p1 p2 : Pos} (hs : starEach [Expr.List [] p1] X.env = (false, eval (Expr.List [] p1) X.env) :: starEach [] X.env := by rfl) : SE W vs Wx X (.List [.List [] p1] p2) llsE := by
  refine pe_weak (pe_lst (pa_cons (pe_lst pa_nil) pa_nil hs)) fun σ H Q ⟨H0, L, g, sp, en, post⟩ => ?_
  refine ⟨by simp, fun q hq => ⟨by simp; exact size1000 (by omega), fun p hp => ?_⟩⟩
  have s1 := step_more (o := .lst []) sp hq
  have s2 := step_more (o := .lst [V.ref q]) s1.sep hp
  have s3 : Step H0 H L H0 (upd (upd H q (.lst [])) p (.lst [V.ref q])) ([p, q] ++ L) := by
    refine (s1.trans s2).perm ?_
    have a1 : (L ++ [q] ++ [p]).Perm ([p] ++ (L ++ [q])) := List.perm_append_comm
    exact a1.trans (List.Perm.append_left [p] List.perm_append_comm)
  have hne : q ≠ p := fun z => by subst z; rw [upd_same] at hp; cases hp
  have kp : ∀ a ∈ L, ∀ u, H a = some u → upd (upd H q (.lst [])) p (.lst [V.ref q]) a = some u := fun a ha u hu => by
    have z1 : a ≠ q := fun z => by rw [z, hq] at hu; cases hu
    have z2 : a ≠ p := fun z => by rw [← z, upd_ne z1, hu] at hp; cases hp
    rw [upd_ne z2, upd_ne z1]; exact hu
  refine post _ _ H0 [p, q] L s3 (.lls (qs := [q]) upd_same (.cons (us := []) ?_ .nil .nil)) (en.mono (Ex.refl _) kp)
  rw [upd_ne hne, upd_same]
theorem RepLL.add {H0 H : Hp} {q : Addr} {us : List V} {ds : List D} (h : H q = some (.lst us)) (r : RepFs W H0 us ds) : ∀ {qs : List Addr} {ls : List (List D)}, RepLL W H0 H qs ls → RepLL W H0 H (qs ++ [q]) (ls ++ [ds])
  | _, _, .nil => .cons h r .nil
  | _, _, .cons a b t => .cons a b (RepLL.add h r t)
theorem RepLL.last {H0 H : Hp} : ∀ {qs : List Addr} {ls : List (List D)} {m : List D}, RepLL W H0 H qs (ls ++ [m]) → ∃ qs' q us, qs = qs' ++ [q] ∧ RepLL W H0 H qs' ls ∧ H q = some (.lst us) ∧ RepFs W H0 us m
  | _, [], m, .cons (q := q) a b t => by
    cases t
    exact ⟨[], q, _, rfl, .nil, a, b⟩
  | _, l :: ls, m, .cons (q := q0) a b t => by
    obtain ⟨qs', q, us, e, r, h1, h2⟩ := RepLL.last t
    subst e
    exact ⟨q0 :: qs', q, us, rfl, .cons a b r, h1, h2⟩
/-- x.append([]) -/
def lapE (i : Nat) : E := fun g => match g[i]? with
  | some (.loc (.lls l)) => if l.length < 16777216 then .ok (.val (.pure .non)) (g.set i (.loc (.lls (l ++ [[]])))) else .stuck
  | _ => .stuck
theorem RepLL.len {H0 H : Hp} : ∀ {qs : List Addr} {ls : List (List D)}, RepLL W H0 H qs ls → qs.length = ls.length
  | _, _, .nil => rfl
  | _, _, .cons _ _ t => by simp [RepLL.len t]
theorem tyV_l {K : PySem.W.Frag} {H : Hp} {p : Addr} {us : List V} (h : H p = some (.lst us)) : tyV K "list" (.ref p) H := .inl ⟨rfl, _, SqL.of h⟩
theorem se_lap {i : Nat} {x : Str} {pos apos cpos p1 : Pos} (hx : PE X (.Name x pos) (tVar i))
    (hs : starEach [Expr.List [] p1] X.env = (false, eval (Expr.List [] p1) X.env) :: starEach [] X.env := by rfl)
    (run : ∀ {r : V → List V → Hp → VK → Prop} {to : TE} {t : TA}, MtR X "list.append" r → PE X (.Name x pos) to → PA X [.List [] p1] t → PE X (.Call (.Attribute (.Name x pos) "append" apos) [.List [] p1] [] cpos) (tBM X.K "list" r to t)) :
    SE W vs Wx X (.Call (.Attribute (.Name x pos) "append" apos) [.List [] p1] [] cpos) (lapE i) := by
  refine pe_weak (run mt_append hx (pa_cons (pe_lst pa_nil) pa_nil hs)) fun σ H Q ⟨H0, L, g, sp, en, post⟩ => ?_
  unfold lapE at post
  split at post
  · rename_i l hg
    split at post
    · rename_i hz
      obtain ⟨v, La, Lo, Lb, h1, h2, h3, h4⟩ := en.at hg rfl
      cases h2 with
      | @lls p qs _ hp rl =>
        subst h3
        refine ⟨.ref p, h1, tyV_l hp, by simp, fun q hq => ?_⟩
        have hne : p ≠ q := fun z => by rw [z, hq] at hp; cases hp
        have hp2 : upd H q (.lst []) p = some (.lst (qs.map .ref)) := by rw [upd_ne hne]; exact hp
        refine ⟨p, qs.map .ref, .ref q, rfl, rfl, hp2, by rw [List.length_map, rl.len]; exact ltL hz, ?_⟩
        have s1 := step_more (o := .lst []) sp hq
        have s2 := step_upd (o := .lst (qs.map V.ref ++ [V.ref q])) (p := p) s1.sep (by simp)
        have pm : (La ++ (p :: qs ++ Lb) ++ [q]).Perm (La ++ ((p :: (qs ++ [q])) ++ Lb)) := by
          have a1 : ((p :: qs) ++ (Lb ++ [q])).Perm ((p :: qs) ++ ([q] ++ Lb)) := List.Perm.append_left _ List.perm_append_comm
          simpa [List.append_assoc] using List.Perm.append_left La a1
        have s3 := (s1.trans s2).perm pm
        have own : ∀ a, a ∈ La ++ (p :: qs ++ Lb) → ∃ o, H a = some o := fun a ha => (sp.own a ha).2
        have nq : ∀ a, a ∈ La ++ (p :: qs ++ Lb) → a ≠ q := fun a ha z => by
          obtain ⟨o, e⟩ := own a ha
          rw [z, hq] at e; cases e
        have nd := sp.nd
        have np : ∀ a, a ∈ qs → a ≠ p := fun a ha z => by
          subst z
          have := (List.nodup_append.mp nd).2.1
          have := (List.nodup_cons.mp (show (a :: (qs ++ Lb)).Nodup from this)).1
          exact this (List.mem_append_left _ ha)
        have np2 : ∀ a, a ∈ La ++ Lb → a ≠ p := fun a ha z => by
          subst z
          rcases List.mem_append.mp ha with q1 | q1
          · exact (List.nodup_append.mp nd).2.2 a q1 a (by simp) rfl
          · have := (List.nodup_append.mp nd).2.1
            have := (List.nodup_cons.mp (show (a :: (qs ++ Lb)).Nodup from this)).1
            exact this (List.mem_append_right _ q1)
        have en2 := h4 H0 (upd (upd H q (.lst [])) p (.lst (qs.map V.ref ++ [V.ref q]))) (Ex.refl _) (fun a ha u hu => by
          rw [upd_ne (np2 a ha), upd_ne (nq a (by rcases List.mem_append.mp ha with q1 | q1 <;> simp [q1]))]; exact hu) (.lls (l ++ [[]])) (p :: (qs ++ [q])) (.lls (by rw [upd_same]; simp) ?_)
        · exact post .non _ H0 [] _ (by simpa using s3) (.pure .non) en2
        · refine RepLL.add (us := []) (by rw [upd_ne (Ne.symm hne), upd_same]) .nil (rl.mono (Ex.refl _) fun a ha u hu => ?_)
          rw [upd_ne (np a ha), upd_ne (nq a (by simp [ha]))]; exact hu
    · exact post.elim
  · exact post.elim
/-- x[-1].append(y) -/
def lasE (i j : Nat) : E := fun g => match g[i]?, (g[j]?).bind Slot.obj with
  | some (.loc (.lls l)), some (.pure d) => match l.getLast? with
    | some m => if m.length < 16777216 then .ok (.val (.pure .non)) (g.set i (.loc (.lls (l.dropLast ++ [m ++ [d]])))) else .stuck
    | none => .stuck
  | _, _ => .stuck
theorem atI_last {α : Type} (l : List α) (x : α) : L2.atI (l ++ [x]) (-1) = some x := by
  unfold L2.atI
  have : L2.ixN (l ++ [x]).length (-1) = some l.length := by
    unfold L2.ixN
    simp
    omega
  rw [this]
  simp
theorem se_las {i j : Nat} {x y : Str} {pos apos cpos spos upos ypos kpos : Pos} {kk : _} (hx : PE X (.Name x pos) (tVar i)) (hy : PE X (.Name y ypos) (tVar j)) (hb : PlainIx (.UnaryOp .USub (.Constant (.int 1) kk kpos) upos))
    (hs : starEach [Expr.Name y ypos] X.env = (false, eval (Expr.Name y ypos) X.env) :: starEach [] X.env := by rfl)
    (run : ∀ {r : V → List V → Hp → VK → Prop} {to : TE} {t : TA}, MtR X "list.append" r → PE X (.Subscript (.Name x pos) (.UnaryOp .USub (.Constant (.int 1) kk kpos) upos) spos) to → PA X [.Name y ypos] t → PE X (.Call (.Attribute (.Subscript (.Name x pos) (.UnaryOp .USub (.Constant (.int 1) kk kpos) upos) spos) "append" apos) [.Name y ypos] [] cpos) (tBM X.K "list" r to t)) :
    SE W vs Wx X (.Call (.Attribute (.Subscript (.Name x pos) (.UnaryOp .USub (.Constant (.int 1) kk kpos) upos) spos) "append" apos) [.Name y ypos] [] cpos) (lasE i j) := by
  refine pe_weak (run mt_append (pe_ix ix_list hx (pe_un un_neg pe_int) hb) (pa_cons hy pa_nil hs)) fun σ H Q ⟨H0, L, g, sp, en, post⟩ => ?_
  unfold lasE at post
  split at post
  · rename_i l d hg hd
    split at post
    · rename_i m hm
      split at post
      · rename_i hz
        obtain ⟨slj, ej1, ej2⟩ := Option.bind_eq_some_iff.mp hd
        obtain ⟨w, _, _, _, w1, w2, _, _⟩ := en.at ej1 ej2
        cases w2 with
        | pure wd =>
        obtain ⟨v, La, Lo, Lb, h1, h2, h3, h4⟩ := en.at hg rfl
        obtain ⟨l', rfl⟩ := List.getLast?_eq_some_iff.mp hm
        rw [List.dropLast_concat] at post
        cases h2 with
        | @lls p qs _ hp rl =>
          obtain ⟨qs', q, us, rfl, rl', hq, rf⟩ := rl.last
          subst h3
          have hmap : (qs' ++ [q]).map V.ref = qs'.map V.ref ++ [V.ref q] := by simp
          refine ⟨.ref p, h1, 1, rfl, p, _, -1, .ref q, rfl, rfl, SqL.of hp, by rw [hmap]; exact atI_last _ _, tyV_l hq, w, w1, q, us, w, rfl, rfl, hq, by rw [rf.len]; exact ltL hz, ?_⟩
          have s2 := step_upd (o := .lst (us ++ [w])) (p := q) sp (by simp)
          have nd := sp.nd
          have nd1 : (p :: (qs' ++ [q] ++ Lb)).Nodup := (List.nodup_append.mp nd).2.1
          have npq : p ≠ q := fun z => by
            have := (List.nodup_cons.mp nd1).1
            exact this (by simp [z])
          have nqs : ∀ a, a ∈ qs' → a ≠ q := fun a ha z => by
            have a1 := (List.nodup_cons.mp nd1).2
            have a2 := (List.nodup_append.mp a1).1
            exact (List.nodup_append.mp a2).2.2 a ha q (by simp) z
          have nq2 : ∀ a, a ∈ La ++ Lb → a ≠ q := fun a ha z => by
            subst z
            rcases List.mem_append.mp ha with q1 | q1
            · exact (List.nodup_append.mp nd).2.2 a q1 a (by simp) rfl
            · have a1 := (List.nodup_cons.mp nd1).2
              exact (List.nodup_append.mp a1).2.2 a (by simp) a q1 rfl
          have en2 := h4 H0 (upd H q (.lst (us ++ [w]))) (Ex.refl _) (fun a ha u hu => by rw [upd_ne (nq2 a ha)]; exact hu) (.lls (l' ++ [m ++ [d]])) (p :: (qs' ++ [q])) (.lls (by rw [upd_ne npq]; exact hp) ?_)
          · exact post .non _ H0 [] _ (by simpa using s2) (.pure .non) en2
          · refine RepLL.add (us := us ++ [w]) upd_same (rf.append (.cons wd .nil)) (rl'.mono (Ex.refl _) fun a ha u hu => ?_)
            rw [upd_ne (nqs a ha)]; exact hu
      · exact post.elim
    · exact post.elim
  · exact post.elim
end
end VI
namespace VI
open PySem PySem.Spec PyProof.Rows L2
/-! ### len(set(texts)) -/
section
variable {W : Wd} {X : Cx} {vs : List (Option V)} {Wx : WX} {n : Nat}
def tLenTx (K : PySem.W.Frag) (ta : TE) : TE := fun σ H Q => ta σ H fun x H1 => ∃ l, ∃ xs : List Str, x = .ref l ∧ SqL K H1 l (xs.map V.str) ∧ xs.length < 64 ∧ Q (.int (((xs.foldl metS []).length : Nat) : Int)) H1
theorem pe_lenTx {a : Expr} {ta : TE} {p p2 q pos : Pos} (hc : X.calm = true) (hg : Gl X "len") (hm : X.mg "len" = none) (hg2 : Gl X "set") (hm2 : X.mg "set" = none) (ha : PE X a ta)
    (na : starEach [a] X.env = (false, eval a X.env) :: starEach [] X.env := by rfl) : PE X (.Call (.Name "len" p) [.Call (.Name "set" p2) [a] [] q] [] pos) (tLenTx X.K ta) := by
  refine ⟨fun pins s σ H Q I h => ?_⟩
  refine Call_ (ld_blt (u := .builtin "len") I hg hm boot_len ?_)
  refine callWith_builtin1 (args_cons ?_ rfl) rfl rfl
  refine Call_ (ld_blt I hg2 hm2 boot_set ?_)
  refine callWith_type1 (args_cons (thn (ha.run pins s σ H _ I h) fun v s1 ⟨x, H1, I1, r1, q1⟩ => args_nil ?_) na) na rfl
  obtain ⟨l, xs, rfl, hq, h1, q1⟩ := q1
  cases r1
  obtain ⟨its, r, pl, hz⟩ := I1.list hq
  have hS := strsAre_of r
  refine call_set_txs (I1.ok.hd hc) pl.isList (by simpa using hS) (by unfold scanBound; omega) fun h' tk D o2 F T k2 => ?_
  apply args_nil
  have I2 : Inv X pins σ H1 { s1 with heap := h', toks := tk } := I1.kept fun b o e => k2 b o (Heap.lt_size e) e
  have ln : (xs.foldl metS []).length ≤ xs.length := by
    have : ∀ (xs l : List Str), (xs.foldl metS l).length ≤ l.length + xs.length := fun xs => by
      induction xs with
      | nil => simp
      | cons x xs ih => intro l; have := ih (metS l x); have := metS_len l x; simp only [List.foldl_cons, List.length_cons]; omega
    simpa using this xs []
  have hsz : D.1.size = (xs.foldl metS []).length := F.sz
  refine call_len_set o2 ⟨rfl, rfl, rfl⟩ rfl F.fit (by rw [hsz]; omega) ?_
  rw [hsz]
  exact ⟨.int _, H1, I2.tok _, ⟨_, rfl⟩, q1⟩
def slenL (l : List D) : Option O := (txsD l).bind fun xs => if xs.length < 64 then some (.pure (.int (((nubT xs).length : Nat) : Int))) else none
def slenO : O → Option O
  | .lst l => slenL l
  | .pure (.lst l) => slenL l
  | _ => none
theorem slen_p (xs : List Str) (h : xs.length < 64) : slenO (.pure (.lst (xs.map D.str))) = some (.pure (.int (((nubT xs).length : Nat) : Int))) := by
  unfold slenO slenL
  simp only [txsD_map, Option.bind_some, if_pos h]
theorem slen_l (xs : List Str) (h : xs.length < 64) : slenO (.lst (xs.map D.str)) = some (.pure (.int (((nubT xs).length : Nat) : Int))) := by
  unfold slenO slenL
  simp only [txsD_map, Option.bind_some, if_pos h]
theorem se_slen {a : Expr} {A : E} {p p2 q pos : Pos} (cx : Ctx W n Wx X) (hg : Gl X "len") (hm : X.mg "len" = none) (hg2 : Gl X "set") (hm2 : X.mg "set" = none) (ha : SE W vs Wx X a A)
    (na : starEach [a] X.env = (false, eval a X.env) :: starEach [] X.env := by rfl) : SE W vs Wx X (.Call (.Name "len" p) [.Call (.Name "set" p2) [a] [] q] [] pos) (una slenO A) := by
  refine pe_weak (pe_lenTx cx.calm hg hm hg2 hm2 ha na) fun σ H Q qq => ?_
  unfold tLenTx
  obtain ⟨H0, L, g, sp, en, post⟩ := tO_una σ H Q qq
  refine ⟨H0, L, g, sp, en, ?_⟩
  cases ea : A g with
  | stuck => rw [ea] at post; exact post.elim
  | exc x g' => rw [ea] at post; exact post
  | ok r g1 =>
    rw [ea] at post
    intro v H1 H01 Lr L1 st1 rr en1
    obtain ⟨H02, ox, Lx, o, ex, ro, ef, gv⟩ := post v H1 H01 Lr L1 st1 rr en1
    have key : ∀ l, (ox = .pure (.lst l) ∨ ox = .lst l) → slenL l = some o → ∃ l, ∃ xs : List Str, v = .ref l ∧ SqL X.K H1 l (xs.map V.str) ∧ xs.length < 64 ∧ Q (.int (((xs.foldl metS []).length : Nat) : Int)) H1 := fun l h e => by
      unfold slenL at e
      obtain ⟨xs, e1, e2⟩ := Option.bind_eq_some_iff.mp e
      split at e2
      · rename_i h64
        cases e2
        obtain ⟨p, us, e3, hs, rf⟩ := sql_of ex ro h
        rw [txsD_is e1] at rf
        have e4 := strs_repU rf
        subst e4
        have en : (nubT xs).length = (xs.foldl metS []).length := (sortT_perm _).length_eq
        rw [en] at gv
        exact ⟨p, xs, e3, by rw [cx.K]; exact hs, h64, gv.atom ex (.int _)⟩
      · cases e2
    unfold slenO at ef
    split at ef
    · exact key _ (.inr rfl) ef
    · exact key _ (.inl rfl) ef
    · cases ef
end
theorem foldS_nd : ∀ (xs l : List Str), (xs ++ l).Nodup → (xs.foldl metS l).length = xs.length + l.length
  | [], l, _ => by simp
  | x :: xs, l, h => by
    have hx : x ∉ l := fun q => by
      have := (List.nodup_cons.mp (show (x :: (xs ++ l)).Nodup from h)).1
      exact this (List.mem_append_right _ q)
    rw [List.foldl_cons]
    have e : metS l x = x :: l := by unfold metS; rw [if_neg hx]
    rw [e, foldS_nd xs (x :: l) ((List.perm_middle.nodup_iff).mpr h)]
    simp only [List.length_cons]
    omega
theorem nub_nd {xs : List Str} (h : xs.Nodup) : (nubT xs).length = xs.length := by
  unfold nubT
  rw [(sortT_perm _).length_eq, foldS_nd xs [] (by simpa using h)]
  simp
end VI
namespace VI
open PySem PySem.Spec PyProof.Rows L2
/-! ### steps of frozen names and nested lists; slices at a place -/
def frzF : Option (List D × G) → Res R
  | some ([d], g2) => .ok (.val (.pure d)) g2
  | _ => .stuck
theorem frzE_a (i : Nat) (g : G) : frzE i g = frzF (frzs [.slot i] g) := by
  unfold frzE frzF
  rfl
theorem frzF_s (d : D) (g : G) : frzF (some ([d], g)) = .ok (.val (.pure d)) g := rfl
theorem llsE_a (g : G) : llsE g = .ok (.val (.lls [[]])) g := rfl
theorem cut_to {α : Type} (l : List α) (k : Nat) (h : k ≤ l.length) : cutL l none (some (k : Int)) = l.take k := by
  unfold cutL
  rw [HT.sIx_none, HT.sIx_nat, Nat.min_eq_left h]
  simp
theorem cut_from {α : Type} (l : List α) (k : Nat) (h : k ≤ l.length) : cutL l (some (k : Int)) none = l.drop k := by
  unfold cutL
  rw [HT.sIx_none, HT.sIx_nat, Nat.min_eq_left h]
  exact List.take_of_length_le (by simp)
end VI
namespace VI
open PySem PySem.Spec PyProof.Rows L2
/-! ### x == [], whatever stands in x -/
section
variable {prog : Program} {w : World}
theorem eq_other_size (l b : Addr) (items items2 : Array Value) (n n2 : Nat) (dd dd2 : Option Addr) (sl sl2 : Array (Option Value)) (hsz : items.size ≠ items2.size) :
    MeetsIn prog w (Builtin.«list.__eq__» ⟨[.ref l, .ref b], []⟩)
      (fun A R s => (s.heap.get? l = some { cls := .type "list", dict := dd, data := .seq items n, slots := sl } ∧ s.heap.get? b = some { cls := .type "list", dict := dd2, data := .seq items2 n2, slots := sl2 }) ∧ R (.ok (.ret (.bool false))) s) := by
  intro A R s h
  obtain ⟨hp, g, d, tk, os⟩ := s
  obtain ⟨⟨hl, hb⟩, h⟩ := h
  have f3 := AutoSeq1.sub_list_list
  have hq : (items.size != items2.size) = true := by simp [hsz]
  wp_walk using wpAny_loadPart' hl, wpAny_loadPart' hb
  exact h
theorem rc_other_size {A : Around} {s : Shared} {l b : Addr} {items items2 : Array Value} (hl : s.heap.IsList l items) (hb : s.heap.IsList b items2) (hsz : items.size ≠ items2.size) (hu : A.units < cLine)
    (E Q : Value → Shared → Prop) (h : Q (.bool false) s) : wpAny (model prog w) A (richCompare .Eq (.ref l) (.ref b)) Q E s := by
  obtain ⟨⟨cls, dd, data, sl⟩, ho, hc, n, hd⟩ := id hl
  obtain ⟨⟨cls2, dd2, data2, sl2⟩, ho2, hc2, n2, hd2⟩ := id hb
  simp only at hc hd hc2 hd2
  subst hc hd hc2 hd2
  have ta : s.TypeIs (.ref l) "list" := ⟨_, ho, rfl⟩
  have tb : s.TypeIs (.ref b) "list" := ⟨_, ho2, rfl⟩
  refine wpAny_richCompare_same_room (op := .Eq) ta tb F.slot_list_eq (call_meetsIn F.slot_list_eq ta F.entry_list_eq (F.args_list_eq_2 _ _) (eq_other_size l b items items2 n n2 dd dd2 sl sl2 hsz) ⟨⟨ho, ho2⟩, ?_⟩) hu
  exact ⟨(fun x => nomatch x), h⟩
end
section
variable {W : Wd} {X : Cx}
def eqNilO : O → O → Option O
  | .lst l, .lst [] => some (.pure (.bl l.isEmpty))
  | .pure (.lst l), .lst [] => some (.pure (.bl l.isEmpty))
  | _, _ => none
theorem op_eqNil (hK : X.K = W.K) (hu : X.A.units + 64 < cLine) : OpR X (compareOp .Eq) (rO W eqNilO) := by
  intro pins s σ H x y v u Q I rx ry ⟨H0, ox, oy, Lx, Ly, o, ex, hx, hy, e, gv⟩
  have key : ∀ l : List D, (ox = .pure (.lst l) ∨ ox = .lst l) → oy = .lst [] → o = .pure (.bl l.isEmpty) → wpAny (model X.prog X.w) X.A (compareOp .Eq v u) (EP X pins σ Q) X.xe s := by
    intro l h1 h2 h3
    subst h2 h3
    obtain ⟨p, us, e1, hs, rf⟩ := sql_of ex hx h1
    obtain ⟨q, ws, e2, _, hq, rw2⟩ := own_list hy
    cases rw2
    subst e1 e2
    cases (show v = Value.ref p from rx)
    cases (show u = Value.ref q from ry)
    rw [← hK] at hs
    obtain ⟨is1, r1, p1, _⟩ := I.list hs
    obtain ⟨is2, r2, p2, _⟩ := I.list (SqL.of hq)
    cases r2
    have ln : is1.length = l.length := by rw [← r1.length, rf.len]
    cases l with
    | nil =>
      have hn : is1 = [] := List.eq_nil_of_length_eq_zero (by simpa using ln)
      subst hn
      exact SeqAt.rcP_lists (e := fun _ => true) p1.isList p2.isList rfl (by omega) (fun j h1 _ => by simp at h1) _ _ ⟨.bl true, H, I, rfl, gv.atom ex (.bl _)⟩
    | cons d l =>
      refine rc_other_size p1.isList p2.isList (by simp [ln]) (by omega) _ _ ⟨.bl false, H, I, rfl, gv.atom ex (.bl _)⟩
  unfold eqNilO at e
  split at e
  · cases e; exact key _ (.inr rfl) rfl rfl
  · cases e; exact key _ (.inl rfl) rfl rfl
  · cases e
end
theorem eqNil_l (l : List D) : eqNilO (.lst l) (.lst []) = some (.pure (.bl l.isEmpty)) := rfl
end VI
namespace VI
open PySem PySem.Spec PyProof.Rows L2
/-! ### f-strings of texts and whole numbers -/
section
variable {W : Wd} {vs : List (Option V)} {Wx : WX} {X : Cx} {n : Nat}
def fmtO : O → Option O
  | .pure (.str y) => if y.length ≤ 16777216 then some (.pure (.str y)) else none
  | .pure (.int i) => if i.natAbs.log2 < 1920 then some (.pure (.str (toString i : String))) else none
  | _ => none
theorem se_fmt {e : Expr} {A : E} {pos : Pos} (h : SE W vs Wx X e A) : SE W vs Wx X (.FormattedValue e (-1) none pos) (una fmtO A) := by
  refine pe_weak (pe_fmt h) fun σ H Q q => ?_
  obtain ⟨H0, L, g, sp, en, post⟩ := tO_una σ H Q q
  refine (show tFmt (tE W vs Wx A) σ H Q from ⟨H0, L, g, sp, en, ?_⟩)
  revert post
  cases A g with
  | stuck => exact id
  | exc x g' => exact id
  | ok r g1 =>
    intro post v H1 H01 Lr L1 st1 rr en1
    obtain ⟨H2, ox, Lx, o, ex, hx, e1, gv⟩ := post v H1 H01 Lr L1 st1 rr en1
    unfold fmtO at e1
    split at e1
    · rename_i y
      split at e1
      · rename_i hz
        cases e1
        exact .inl ⟨y, atom_str hx, sizeL hz, gv.atom ex (.str _)⟩
      · cases e1
    · rename_i i
      split at e1
      · rename_i hz
        cases e1
        exact .inr ⟨i, atom_int hx, hz, gv.atom ex (.str _)⟩
      · cases e1
    · cases e1
def joinE : List E → Str → E
  | [], acc, g => .ok (.val (.pure (.str acc))) g
  | a :: as, acc, g => (a g).bind fun r g1 => match r with
    | .val (.pure (.str y)) => if (acc ++ y).length ≤ 16777216 then joinE as (acc ++ y) g1 else .stuck
    | _ => .stuck
inductive SJ (W : Wd) (vs : List (Option V)) (Wx : WX) (X : Cx) : List Expr → List E → Prop where
  | nil : SJ W vs Wx X [] []
  | cons {e : Expr} {A : E} {es : List Expr} {As : List E} (h : SE W vs Wx X e A) (r : SJ W vs Wx X es As) : SJ W vs Wx X (e :: es) (A :: As)
theorem SJ.pj {es : List Expr} {As : List E} (h : SJ W vs Wx X es As) : PJ X es (As.map fun A => tE W vs Wx A) := by
  induction h with
  | nil => exact .nil
  | cons h r ih => exact .cons h ih
theorem tjs_of : ∀ (As : List E) (acc : Str) {σ : L2.St} {H : Hp} {Q : VK}, tE W vs Wx (joinE As acc) σ H Q → tJs (As.map fun A => tE W vs Wx A) acc σ H fun out H1 => Q (.str out) H1
  | [], acc, σ, H, Q, ⟨H0, L, g, sp, en, post⟩ => post (.str acc) H H0 [] L (Step.refl sp) (.pure (.str acc)) en
  | A :: As, acc, σ, H, Q, ⟨H0, L, g, sp, en, post⟩ => by
    refine (show tE W vs Wx A σ H _ from ⟨H0, L, g, sp, en, ?_⟩)
    rw [joinE] at post
    cases ea : A g with
    | stuck => rw [ea] at post; exact post.elim
    | exc x g' => rw [ea] at post; exact post
    | ok r g1 =>
      rw [ea] at post
      intro v H1 H01 Lr L1 st1 rr en1
      simp only [Res.bind] at post
      split at post
      · rename_i y
        have hv : v = .str y := atom_str rr
        split at post
        · rename_i hz
          refine ⟨y, hv, sizeL hz, tjs_of As (acc ++ y) ⟨H01, L1, g1, st1.sep.right, en1, ?_⟩⟩
          revert post
          cases joinE As (acc ++ y) g1 with
          | stuck => exact id
          | exc x g' =>
            intro post c d H' H0' L' st2 rx en2
            exact post c d H' H0' L' (st1.then st2).right rx en2
          | ok s g2 =>
            intro post w H2 H02 Ls L2 st2 rs en2
            have st := st1.then st2
            exact post w H2 H02 Ls L2 st.right rs en2
        · exact post.elim
      · exact post.elim
theorem se_joined {v1 v2 : Expr} {rest : List Expr} {pos : Pos} {As : List E} (h : SJ W vs Wx X (v1 :: v2 :: rest) As) : SE W vs Wx X (.JoinedStr (v1 :: v2 :: rest) pos) (joinE As Str.empty) :=
  pe_weak (pe_joined h.pj) fun σ H Q q => tjs_of As Str.empty q
end
/-! steps -/
def joinC (as : List E) (acc : Str) : R → G → Res R
  | .val (.pure (.str y)), g1 => if (acc ++ y).length ≤ 16777216 then joinE as (acc ++ y) g1 else .stuck
  | _, _ => .stuck
theorem joinE_c (a : E) (as : List E) (acc : Str) (g : G) : joinE (a :: as) acc g = (a g).bind (joinC as acc) := by
  rw [joinE]
  congr 1
  funext r g1
  cases r with
  | slot i => rfl
  | sub i j => rfl
  | val o => cases o with
    | pure d => cases d <;> rfl
    | _ => rfl
theorem joinE_n (acc : Str) (g : G) : joinE [] acc g = .ok (.val (.pure (.str acc))) g := rfl
theorem joinC_s (as : List E) (acc y : Str) (g : G) (h : (acc ++ y).length ≤ 16777216) : joinC as acc (.val (.pure (.str y))) g = joinE as (acc ++ y) g := by
  show (if (acc ++ y).length ≤ 16777216 then joinE as (acc ++ y) g else .stuck) = _
  rw [if_pos h]
theorem fmt_s (y : Str) (h : y.length ≤ 16777216) : fmtO (.pure (.str y)) = some (.pure (.str y)) := by simp [fmtO, h]
theorem fmt_i (i : Int) (h : i.natAbs.log2 < 1920) : fmtO (.pure (.int i)) = some (.pure (.str (toString i : String))) := by simp [fmtO, h]
end VI
namespace VI
open PySem PySem.Spec PyProof.Rows L2
/-! ### x == (), whatever stands in the tuple x -/
section
variable {W : Wd} {X : Cx}
def eqNilTO : O → O → Option O
  | .pure (.tup l), .pure (.tup []) => some (.pure (.bl l.isEmpty))
  | _, _ => none
theorem tup_isT {h : Heap} {a : Addr} {items : Array Value} (x : IsTup h a items) : h.IsTuple a items := by
  obtain ⟨o, h1, h2, n, h3⟩ := x
  exact ⟨o, h1, h2, n, h3⟩
theorem op_eqNilT (hK : X.K = W.K) (hu : X.A.units + 64 < cLine) : OpR X (compareOp .Eq) (rO W eqNilTO) := by
  intro pins s σ H x y v u Q I rx ry ⟨H0, ox, oy, Lx, Ly, o, ex, hx, hy, e, gv⟩
  unfold eqNilTO at e
  split at e
  · rename_i l
    cases e
    obtain ⟨p, us, e1, hs, rf⟩ := sqt_of ex hx
    obtain ⟨q, ws, e2, hq, rw2⟩ := sqt_of ex hy
    cases rw2
    subst e1 e2
    cases (show v = Value.ref p from rx)
    cases (show u = Value.ref q from ry)
    rw [← hK] at hs hq
    obtain ⟨is1, r1, p1, _⟩ := I.tuple hs
    obtain ⟨is2, r2, p2, _⟩ := I.tuple hq
    cases r2
    have ln : is1.length = l.length := by rw [← r1.length, rf.len]
    refine SeqAt.rcIn_tuples (e := fun _ => true) (tup_isT p1) (tup_isT p2) (by omega) (fun j h1 h2 => by simp at h2) ?_
    have : ((List.range (min is1.toArray.size ([] : List Value).toArray.size)).all (fun _ => true) && is1.toArray.size == ([] : List Value).toArray.size) = l.isEmpty := by
      cases l with
      | nil => have : is1 = [] := List.eq_nil_of_length_eq_zero (by simpa using ln)
               subst this; rfl
      | cons d l => simp [ln]
    rw [this]
    exact ⟨.bl l.isEmpty, H, I, rfl, gv.atom ex (.bl _)⟩
  · cases e
end
theorem eqNil_t (l : List D) : eqNilTO (.pure (.tup l)) (.pure (.tup [])) = some (.pure (.bl l.isEmpty)) := rfl
end VI
namespace VI
open PySem PySem.Spec PyProof.Rows L2
section
variable {W : Wd} {vs : List (Option V)} {Wx : WX} {X : Cx}
/-! ### raise -/
def RaiseAt (W : Wd) (mg : Str → Option Value) (x nm : Str) : Prop := ∃ C, W.cl nm = some C ∧ mg x = some (.ref C) ∧ PySem.W.excIn W.K C He.veBase "ValueError.__new__" = true ∧ PySem.W.keepIn W.K (.ref C) = true ∧
  PySem.W.subIn W.K (.ref C) (.type "BaseException") = some true ∧ PySem.W.typeIn W.K (.ref C) = some (.type "type")
def raiseS (nm : Str) : S := fun g => .exc (.ins nm []) g
theorem ss_raise {k : Nat} {x nm m : Str} {j : Nat} {p p2 pos pos' : Pos} (cx : Ctx W k Wx X) (h : RaiseAt W X.mg x nm) (hg : Gl X x) (hdb : (x == ("__debug__" : Str)) = false := by decide) :
    SS W vs Wx X (.Raise (some (.Call (.Name x p) [.Constant (.str m) j p2] [] pos)) none pos') (raiseS nm) := by
  obtain ⟨C, h1, h2, h3, h4, h5, h6⟩ := h
  rw [← cx.K] at h3 h4 h5 h6
  refine ps_weak (ps_raise cx.calm cx.tk (pmk_own PySem.F.excBase_ValueError h3 h2 h4 (raises_own h5 h6) hg hdb)) fun De σ H ⟨H0, L, g, sp, en, post⟩ => ?_
  exact post (.ref C) none σ H H0 L (Step.refl sp) ⟨nm, [], C, rfl, h1, rfl, .inl ⟨rfl, rfl⟩⟩ en
/-! ### the slot of a caught exception -/
theorem EnvR.put {H0 H : Hp} (x y z : Option V) : ∀ {vs : List (Option V)} {σ : L2.St} {g : G} {L : List Addr} (i : Nat), EnvR W H0 H vs σ g L → ∃ L', (∀ a ∈ L', a ∈ L) ∧ (L.Nodup → L'.Nodup) ∧ EnvR W H0 H (vs.set i x) (σ.set i y) (g.set i .un) L'
  | _, _, _, _, i, .nil => ⟨[], fun _ h => h, fun h => h, by simpa using EnvR.nil⟩
  | _, _, _, _, 0, .un (L := L) r => ⟨L, fun _ h => h, fun h => h, by simpa using EnvR.un r⟩
  | _, _, _, _, 0, .loc (Lo := Lo) (L := L) _ r => ⟨L, fun _ h => List.mem_append_right _ h, fun h => (List.nodup_append.mp h).2.1, by simpa using EnvR.un r⟩
  | _, _, _, _, 0, .par (Lo := Lo) (L := L) _ r => ⟨L, fun _ h => List.mem_append_right _ h, fun h => (List.nodup_append.mp h).2.1, by simpa using EnvR.un r⟩
  | _, _, _, _, i + 1, .un r => by
    obtain ⟨L', h1, h2, h3⟩ := EnvR.put x y z i r
    exact ⟨L', h1, h2, by simpa using EnvR.un h3⟩
  | _, _, _, _, i + 1, .loc (Lo := Lo) q r => by
    obtain ⟨L', h1, h2, h3⟩ := EnvR.put x y z i r
    refine ⟨Lo ++ L', fun a h => ?_, fun h => ?_, by simpa using EnvR.loc q h3⟩
    · rcases List.mem_append.mp h with h | h
      · exact List.mem_append_left _ h
      · exact List.mem_append_right _ (h1 a h)
    · obtain ⟨a1, a2, a3⟩ := List.nodup_append.mp h
      exact List.nodup_append.mpr ⟨a1, h2 a2, fun a ha b hb => a3 a ha b (h1 b hb)⟩
  | _, _, _, _, i + 1, .par (Lo := Lo) q r => by
    obtain ⟨L', h1, h2, h3⟩ := EnvR.put x y z i r
    refine ⟨Lo ++ L', fun a h => ?_, fun h => ?_, by simpa using EnvR.par q h3⟩
    · rcases List.mem_append.mp h with h | h
      · exact List.mem_append_left _ h
      · exact List.mem_append_right _ (h1 a h)
    · obtain ⟨a1, a2, a3⟩ := List.nodup_append.mp h
      exact List.nodup_append.mpr ⟨a1, h2 a2, fun a ha b hb => a3 a ha b (h1 b hb)⟩
theorem EnvR.hold {H0 H : Hp} (v : V) : ∀ {vs : List (Option V)} {σ : L2.St} {g : G} {L : List Addr} (i : Nat), EnvR W H0 H vs σ g L → ∃ L', (∀ a ∈ L', a ∈ L) ∧ (L.Nodup → L'.Nodup) ∧ EnvR W H0 H (vs.set i (some v)) (σ.set i (some v)) (g.set i (.par .hole)) L'
  | _, _, _, _, i, .nil => ⟨[], fun _ h => h, fun h => h, by simpa using EnvR.nil⟩
  | _, _, _, _, 0, .un (L := L) r => ⟨L, fun _ h => h, fun h => h, by simpa using EnvR.par (Lo := []) .hole r⟩
  | _, _, _, _, 0, .loc (Lo := Lo) (L := L) _ r => ⟨L, fun _ h => List.mem_append_right _ h, fun h => (List.nodup_append.mp h).2.1, by simpa using EnvR.par (Lo := []) .hole r⟩
  | _, _, _, _, 0, .par (Lo := Lo) (L := L) _ r => ⟨L, fun _ h => List.mem_append_right _ h, fun h => (List.nodup_append.mp h).2.1, by simpa using EnvR.par (Lo := []) .hole r⟩
  | _, _, _, _, i + 1, .un r => by
    obtain ⟨L', h1, h2, h3⟩ := EnvR.hold v i r
    exact ⟨L', h1, h2, by simpa using EnvR.un h3⟩
  | _, _, _, _, i + 1, .loc (Lo := Lo) q r => by
    obtain ⟨L', h1, h2, h3⟩ := EnvR.hold v i r
    refine ⟨Lo ++ L', fun a h => ?_, fun h => ?_, by simpa using EnvR.loc q h3⟩
    · rcases List.mem_append.mp h with h | h
      · exact List.mem_append_left _ h
      · exact List.mem_append_right _ (h1 a h)
    · obtain ⟨a1, a2, a3⟩ := List.nodup_append.mp h
      exact List.nodup_append.mpr ⟨a1, h2 a2, fun a ha b hb => a3 a ha b (h1 b hb)⟩
  | _, _, _, _, i + 1, .par (Lo := Lo) q r => by
    obtain ⟨L', h1, h2, h3⟩ := EnvR.hold v i r
    refine ⟨Lo ++ L', fun a h => ?_, fun h => ?_, by simpa using EnvR.par q h3⟩
    · rcases List.mem_append.mp h with h | h
      · exact List.mem_append_left _ h
      · exact List.mem_append_right _ (h1 a h)
    · obtain ⟨a1, a2, a3⟩ := List.nodup_append.mp h
      exact List.nodup_append.mpr ⟨a1, h2 a2, fun a ha b hb => a3 a ha b (h1 b hb)⟩
/-- a set-aside slot: the parameters' values may be told otherwise there -/
theorem EnvR.back {H0 H : Hp} (y : Option V) (v : V) : ∀ {vs : List (Option V)} {σ : L2.St} {g : G} {L : List Addr} (i : Nat), EnvR W H0 H (vs.set i (some v)) σ g L → ∃ L', (∀ a ∈ L', a ∈ L) ∧ (L.Nodup → L'.Nodup) ∧ EnvR W H0 H vs (σ.set i y) (g.set i .un) L' := by
  intro vs σ g L i h
  obtain ⟨L', h1, h2, h3⟩ := EnvR.put (vs[i]?.getD none) y y i h
  refine ⟨L', h1, h2, ?_⟩
  rw [List.set_set] at h3
  have : vs.set i (vs[i]?.getD none) = vs := by
    apply List.ext_getElem?
    intro j
    rw [List.getElem?_set]
    split
    · rename_i e; subst e
      split
      · rename_i hl; rw [List.getElem?_eq_getElem hl]; rfl
      · rename_i hl; rw [List.getElem?_eq_none (by omega)]
    · rfl
  rwa [this] at h3
def noneW : WX := fun _ _ _ _ => False
def CatchAt (W : Wd) (c d : Str) (b : Bool) : Prop := ∃ C Dd, W.cl c = some C ∧ W.cl d = some Dd ∧ PySem.W.exmOne W.K (.ref C) (.ref Dd) = some b
def tryH (i : Nat) : Res Fl → Res Fl
  | .ok f g => .ok f (g.set i .un)
  | _ => .stuck
def tryX (ct : Str → Option Bool) (i : Nat) (Hd : Str → List (Str × D) → S) (x : D) (g1 : G) : Res Fl := match x with
  | .ins nm fs => (match ct nm with
    | some true => tryH i (Hd nm fs (g1.set i (.par .hole)))
    | some false => .exc x g1
    | none => .stuck)
  | _ => .stuck
def tryS (B : S) (ct : Str → Option Bool) (i : Nat) (Hd : Str → List (Str × D) → S) : S := fun g => match B g with
  | .exc x g1 => tryX ct i Hd x g1
  | .ok f g1 => .ok f g1
  | .stuck => .stuck
def ctOf (T : ITab) (d c : Str) : Option Bool := itOf T c d
theorem Ctx.tr {k : Nat} (cx : Ctx W k Wx X) {W' : WX} {pn : List (Addr × Obj)} {xe : Value → Shared → Prop} (tk : Takes (X.tr pn xe) W') : Ctx W k W' (X.tr pn xe) := ⟨cx.K, cx.calm, cx.nd, tk, cx.room⟩
theorem Ctx.sui {k : Nat} (cx : Ctx W k Wx X) : Ctx W k noneW X := ⟨cx.K, cx.calm, cx.nd, takes_none5, cx.room⟩
def PostSx (W : Wd) (vs : List (Option V)) (Wx : WX) (H0 H : Hp) (L : List Addr) (x : D) (g' : G) : Prop := ∀ c d σ' H' H0' L', Step H0 H L H0' H' L' → RepX W H0' H' x c d → EnvR W H0' H' vs σ' g' L' → Wx c d σ' H'
/-- what a suite is shown to do -/
def SuiOk (W : Wd) (vs : List (Option V)) (X : Cx) (i : Nat) (suite : List Stmt) (Hd : Str → List (Str × D) → S) : Prop :=
  ∀ (a : Addr) (oe : Obj) (C : Addr) (d : Option Addr) (pn : List (Addr × Obj)) (nm : Str) (fs : List (Str × D)), Zc (.ref C) d oe → (∃ us, oe.data = .fields us) → W.cl nm = some C → (fs = [] → d = none) → SB W (vs.set i (some (.ref a))) noneW (X.suite a ((a, oe) :: pn)) suite (Hd nm fs)
theorem ss_try {k i : Nat} {x n : Str} {body suite : List Stmt} {b₀ : Stmt} {np pos pos' : Pos} {B : S} {Hd : Str → List (Str × D) → S} {T : ITab} {c : Str} (cx : Ctx W k Wx X)
    (hb : ∀ (W' : WX) (pn : List (Addr × Obj)) (xe : Value → Shared → Prop), Takes (X.tr pn xe) W' → PassesOwn (model X.prog X.w) X.A X.env xe → SB W vs W' (X.tr pn xe) body B)
    (hsu : SuiOk W vs X i (b₀ :: suite) Hd) (hT : ∀ {c d : Str} {b : Bool}, itOf T c d = some b → CatchAt W c d b)
    (hm : ∃ u v, X.mg x = some u ∧ RelV v u ∧ ∀ H, RepF W H v (.cls c)) (hg : Gl X x)
    (hs : X.stack = X.env :: X.outer) (hf : X.env.frame = some X.env.locals) (hi : X.N[i]? = some n) (hln : X.env.kindOf n = some .local) (hdb : (x == ("__debug__" : Str)) = false := by decide) :
    SS W vs Wx X (.Try body [.ExceptHandler (some (.Name x np)) (some n) (b₀ :: suite) pos'] [] [] pos) (tryS B (ctOf T c) i Hd) := by
  obtain ⟨u, v, hm, hr, hF⟩ := hm
  have hv : ∃ Dd, W.cl c = some Dd ∧ u = .ref Dd := by
    cases hF (fun _ => none) with
    | cls h => exact ⟨_, h, hr⟩
  obtain ⟨Dd, hDd, rfl⟩ := hv
  refine ps_weak (ps_try_as (c := .ref Dd) (tb := fun W' => tS W vs W' B) (ts := fun a cls d De σ H => ∃ nm fs C, W.cl nm = some C ∧ cls = .ref C ∧ (fs = [] → d = none) ∧ tS W (vs.set i (some (.ref a))) noneW (Hd nm fs) De σ H) hs hf cx.nd hi hln ⟨hg, hdb, .inl hm⟩ cx.tk hb ?_) ?_
  · intro a oe cls d pn hz hd
    refine ⟨fun pins s σ H De I ⟨nm, fs, C, h1, h2, h3, h4⟩ => ?_⟩
    subst h2
    exact (hsu a oe C d pn nm fs hz hd h1 h3).run pins s σ H De I h4
  · intro De σ H ⟨H0, L, g, sp, en, post⟩
    refine ⟨H0, L, g, sp, en, ?_⟩
    unfold tryS at post
    cases eb : B g with
    | stuck => rw [eb] at post; exact post
    | ok f g1 => rw [eb] at post; cases f <;> exact post
    | exc xd g1 =>
      rw [eb] at post
      simp only at post
      intro cls d σ' H' H0' L' st rx en'
      obtain ⟨nm, fs, C, rfl, h1, rfl, h2⟩ := id rx
      simp only [tryX] at post
      cases ec : ctOf T c nm with
      | none => simp only [ec] at post; exact post.elim
      | some b =>
        obtain ⟨C', D', k1, k2, k3⟩ := hT ec
        rw [h1] at k1; cases k1
        rw [hDd] at k2; cases k2
        rw [← cx.K] at k3
        refine ⟨b, k3, fun hb => ?_, fun hb => ?_⟩
        · subst hb
          intro a ha
          simp only [ec] at post
          have h3 : fs = [] → d = none := fun h => by
            rcases h2 with ⟨h2, _⟩ | ⟨dd, fvs, hd, hx, _⟩
            · exact h2
            · exact absurd h hx
          refine ⟨nm, fs, C, h1, rfl, h3, ?_⟩
          obtain ⟨L2, s1, s2, en2⟩ := EnvR.hold (.ref a) i en'
          have st2 := st.sub s1 (s2 st.sep.nd)
          refine ⟨H0', L2, g1.set i (.par .hole), st2.sep, en2, ?_⟩
          cases eh : Hd nm fs (g1.set i (.par .hole)) with
          | stuck => rw [eh] at post; exact post.elim
          | exc x2 g2 => rw [eh] at post; exact post.elim
          | ok f g2 =>
            rw [eh] at post
            simp only [tryH] at post
            cases f with
            | next =>
              intro σ2 H2 H02 L3 st3 en3
              obtain ⟨L4, t1, t2, en4⟩ := EnvR.back none (.ref a) i en3
              have st4 := (st2.trans st3).sub t1 (t2 st3.sep.nd)
              exact post _ _ _ _ st4 en4
            | brk =>
              intro σ2 H2 H02 L3 st3 en3
              obtain ⟨L4, t1, t2, en4⟩ := EnvR.back none (.ref a) i en3
              have st4 := (st2.trans st3).sub t1 (t2 st3.sep.nd)
              exact post _ _ _ _ st4 en4
            | cont =>
              intro σ2 H2 H02 L3 st3 en3
              obtain ⟨L4, t1, t2, en4⟩ := EnvR.back none (.ref a) i en3
              have st4 := (st2.trans st3).sub t1 (t2 st3.sep.nd)
              exact post _ _ _ _ st4 en4
            | ret o =>
              intro v2 σ2 H2 H02 Lo L3 st3 ro en3
              obtain ⟨L4, t1, t2, en4⟩ := EnvR.back none (.ref a) i en3
              have st4 : Step H0 H L H02 H2 (Lo ++ L4) := (st2.trans st3).sub (fun a h => by
                rcases List.mem_append.mp h with h | h
                · exact List.mem_append_left _ h
                · exact List.mem_append_right _ (t1 a h)) (by
                obtain ⟨a1, a2, a3⟩ := List.nodup_append.mp st3.sep.nd
                exact List.nodup_append.mpr ⟨a1, t2 a2, fun a ha b hb => a3 a ha b (t1 b hb)⟩)
              exact post _ _ _ _ _ _ st4 ro en4
        · subst hb
          simp only [ec] at post
          exact post _ _ _ _ _ _ st rx en'
end
end VI
namespace VI
open PySem PySem.Spec PyProof.Rows L2
section
variable {W : Wd} {vs : List (Option V)} {Wx : WX} {X : Cx}
/-! ### isinstance of a caught exception -/
def XisAt (W : Wd) (c d : Str) (b : Bool) : Prop := ∃ C Dd, W.cl c = some C ∧ W.cl d = some Dd ∧ ExcC W.K C ∧ PySem.W.kitOne W.K (.ref C) (.ref Dd) = some b
def XveAt (W : Wd) (c : Str) : Prop := ∃ C, W.cl c = some C ∧ ExcC W.K C ∧ PySem.W.kitOne W.K (.ref C) (.type "ValueError") = some true
def isXE (i : Nat) (fs : List (Str × D)) (b : Option Bool) : E := fun g => match g[i]?, fs, b with
  | some (.par .hole), [], some b => .ok (.val (.pure (.bl b))) g
  | _, _, _ => .stuck
def xve (T : List Str) (c : Str) : Option Bool := if T.contains c then some true else none
theorem xve_of {T : List Str} (h : ∀ c ∈ T, XveAt W c) {c : Str} {b : Bool} (e : xve T c = some b) : b = true ∧ XveAt W c := by
  unfold xve at e
  split at e
  · rename_i hc
    cases e
    exact ⟨rfl, h c (List.contains_iff_mem.mp hc)⟩
  · cases e
def xiAll (T : ITab) (c : Str) : List Str → Option Bool
  | [] => some false
  | d :: ds => match itOf T c d with
    | some true => some true
    | some false => xiAll T c ds
    | none => none
theorem isXE_ok {σ : L2.St} {H : Hp} {Q : VK} {a : Addr} {i : Nat} {fs : List (Str × D)} {b : Option Bool} (h : tE W vs Wx (isXE i fs b) σ H Q) (hv : vs[i]? = some (some (.ref a)) ∨ vs.length ≤ i) :
    ∃ c, fs = [] ∧ b = some c ∧ σ[i]? = some (some (.ref a)) ∧ Q (.bl c) H := by
  obtain ⟨H0, L, g, sp, en, post⟩ := h
  unfold isXE at post
  split at post
  · rename_i c h1
    have hv' : vs[i]? = some (some (.ref a)) := by
      rcases hv with hv | hv
      · exact hv
      · exfalso
        have : ∀ {vs : List (Option V)} {σ : L2.St} {g : G} {L : List Addr}, EnvR W H0 H vs σ g L → g.length = vs.length := by
          intro vs σ g L en
          induction en with
          | nil => rfl
          | un _ ih => simp [ih]
          | loc _ _ ih => simp [ih]
          | par _ _ ih => simp [ih]
        have hl := this en
        rw [List.getElem?_eq_none (by omega)] at h1
        cases h1
    have := env_par_val en h1
    exact ⟨c, rfl, rfl, this.trans hv', post _ _ _ [] L (Step.refl sp) (.pure (.bl c)) en⟩
  · exact post.elim
theorem set_at {i : Nat} {x : Option V} : (vs.set i x)[i]? = some x ∨ (vs.set i x).length ≤ i := by
  by_cases h : i < vs.length
  · left; rw [List.getElem?_set_self h]
  · right; simp; omega
/-- isinstance(e, C) in a suite -/
theorem ws_isx {i : Nat} {a C : Addr} {oe : Obj} {d : Option Addr} {pn : List (Addr × Obj)} {nm x y c : Str} {fs : List (Str × D)} {p p1 p2 pos : Pos} {T : ITab} (hK : X.K = W.K)
    (hz : Zc (.ref C) d oe) (hf : ∃ us, oe.data = .fields us) (hc : W.cl nm = some C) (hd : fs = [] → d = none)
    (hv : PE (X.suite a ((a, oe) :: pn)) (.Name x p1) (tVar i)) (hT : ∀ {c d : Str} {b : Bool}, itOf T c d = some b → XisAt W c d b)
    (hm : X.mg "isinstance" = none) (hg : Gl X "isinstance") (hmy : ∃ u v, X.mg y = some u ∧ RelV v u ∧ ∀ H, RepF W H v (.cls c)) (hgy : Gl X y) (hdy : (y == ("__debug__" : Str)) = false := by decide)
    (he : starEach (Expr.Name x p1 :: [.Name y p2]) X.env = (false, eval (.Name x p1) X.env) :: starEach [.Name y p2] X.env := by rfl) :
    SE W (vs.set i (some (.ref a))) noneW (X.suite a ((a, oe) :: pn)) (.Call (.Name "isinstance" p) [.Name x p1, .Name y p2] [] pos) (isXE i fs (itOf T nm c)) := by
  obtain ⟨u, v, h1, h2, h3⟩ := hmy
  have hv' : ∃ Dd, W.cl c = some Dd ∧ v = .ref Dd := by
    cases h3 (fun _ => none) with
    | cls h => exact ⟨_, h, rfl⟩
  obtain ⟨Dd, hDd, rfl⟩ := hv'
  cases hq : (match fs with | [] => itOf T nm c | _ => none) with
  | none =>
    refine ⟨fun pins s σ H Q I q => ?_⟩
    obtain ⟨b, e1, e2, _⟩ := isXE_ok q set_at
    subst e1
    rw [e2] at hq
    cases hq
  | some b =>
    have hfs : fs = [] := by cases fs with | nil => rfl | cons _ _ => cases hq
    subst hfs
    simp only at hq
    obtain ⟨C', D', k1, k2, k3, k4⟩ := hT hq
    rw [hc] at k1; cases k1
    rw [hDd] at k2; cases k2
    rw [← hK] at k3 k4
    have hd' := hd rfl
    subst hd'
    have pa : PA (X.suite a ((a, oe) :: pn)) [.Name x p1, .Name y p2] (tCons (tVar i) (tCons (tC (.ref Dd)) tNil)) := pa_cons hv (pa_cons (pe_glob hgy h1 h2 hdy) pa_nil) he
    refine pe_weak (pe_callB (call_isE k3 hz hf) hg hm (by rfl) pa) fun σ H Q q => ?_
    obtain ⟨b', _, e2, e3, e4⟩ := isXE_ok q set_at
    rw [hq] at e2; cases e2
    exact ⟨.ref a, e3, .ref Dd, .ref Dd, b, rfl, fun u h => h, k4, e4⟩
/-- isinstance(e, ValueError) -/
theorem ws_isve {i : Nat} {a C : Addr} {oe : Obj} {d : Option Addr} {pn : List (Addr × Obj)} {nm x : Str} {fs : List (Str × D)} {p p1 p2 pos : Pos} {T : List Str} (hK : X.K = W.K)
    (hz : Zc (.ref C) d oe) (hf : ∃ us, oe.data = .fields us) (hc : W.cl nm = some C) (hd : fs = [] → d = none)
    (hv : PE (X.suite a ((a, oe) :: pn)) (.Name x p1) (tVar i)) (hT : ∀ c ∈ T, XveAt W c)
    (hm : X.mg "isinstance" = none) (hg : Gl X "isinstance") (hmy : X.mg "ValueError" = none) (hgy : Gl X "ValueError")
    (he : starEach (Expr.Name x p1 :: [.Name "ValueError" p2]) X.env = (false, eval (.Name x p1) X.env) :: starEach [.Name "ValueError" p2] X.env := by rfl) :
    SE W (vs.set i (some (.ref a))) noneW (X.suite a ((a, oe) :: pn)) (.Call (.Name "isinstance" p) [.Name x p1, .Name "ValueError" p2] [] pos) (isXE i fs (xve T nm)) := by
  cases hq : (match fs with | [] => xve T nm | _ => none) with
  | none =>
    refine ⟨fun pins s σ H Q I q => ?_⟩
    obtain ⟨b, e1, e2, _⟩ := isXE_ok q set_at
    subst e1
    rw [e2] at hq
    cases hq
  | some b =>
    have hfs : fs = [] := by cases fs with | nil => rfl | cons _ _ => cases hq
    subst hfs
    simp only at hq
    obtain ⟨rfl, C', k1, k3, k4⟩ := xve_of hT hq
    rw [hc] at k1; cases k1
    rw [← hK] at k3 k4
    have hd' := hd rfl
    subst hd'
    have pa : PA (X.suite a ((a, oe) :: pn)) [.Name x p1, .Name "ValueError" p2] (tCons (tVar i) (tCons (tC (.ty "ValueError")) tNil)) := pa_cons hv (pa_cons (pe_bltn (v := .ty "ValueError") hgy hmy (by rfl) rfl) pa_nil) he
    refine pe_weak (pe_callB (call_isE k3 hz hf) hg hm (by rfl) pa) fun σ H Q q => ?_
    obtain ⟨b', _, e2, e3, e4⟩ := isXE_ok q set_at
    rw [hq] at e2; cases e2
    exact ⟨.ref a, e3, .ty "ValueError", .type "ValueError", true, rfl, fun u h => h, k4, e4⟩
/-! ### a tuple of classes -/
def rIsT (K : PySem.W.Frag) (Dd a : Addr) : List V → Hp → VK → Prop := fun xs H Q => ∃ (p : Addr) (us : List V) (cs : List Value) (b : Bool), xs = [.ref a, .ref p] ∧ H p = some (.tup us) ∧ (∀ ws, Vals us ws → ws = cs) ∧ PySem.W.kitAny K (.ref Dd) cs = some b ∧ Q (.bl b) H
theorem call_isT {a Dd : Addr} {oe : Obj} {pn : List (Addr × Obj)} (C : ExcC X.K Dd) (hz : Zc (.ref Dd) none oe) (hf : ∃ us, oe.data = .fields us) : CallR (X.suite a ((a, oe) :: pn)) (.builtin "isinstance") (rIsT X.K Dd a) := by
  intro pins s σ H xs us Q I r h
  obtain ⟨p, vs, cs, b, rfl, hp, hcs, e, q⟩ := h
  cases r with
  | cons rx rr =>
    cases rr with
    | cons rt rr =>
      cases rr
      cases rx
      rename_i u
      obtain rfl : u = Value.ref p := rt
      obtain ⟨hget, _⟩ := I.pin (a, oe) (List.mem_append.mpr (.inl List.mem_cons_self))
      obtain ⟨us, hv⟩ := hf
      have J : PySem.W.InstAt s.heap a oe Dd none := by
        obtain ⟨oc, od, oda, osl⟩ := oe
        obtain ⟨h1, h2⟩ := hz
        dsimp only at h1 h2 hv
        subst h1 h2 hv
        exact ⟨hget, rfl, rfl, trivial⟩
      obtain ⟨hl, its, hr, o, ho, hoc, n, hod⟩ := (I.hok p _ hp : ObjOk _ _ _ _ _ (.tup vs))
      have ei := hcs _ hr
      subst ei
      obtain ⟨oc, od, oda, osl⟩ := o
      dsimp only at hoc hod
      subst hoc hod
      exact PySem.W.kia_tup (PySem.W.handS_kitx_exc C.hg C.hk C.hs C.hd C.ha C.hn C.ht C.hm) I.kIn J ho e (fun z => nomatch z) fun tk => ⟨.bl b, H, I.kept (t' := tk) fun _ _ z => z, rfl, q⟩
inductive ClsArgs (W : Wd) (X : Cx) : List Expr → List Str → Prop
  | nil : ClsArgs W X [] []
  | cons {y c : Str} {p : Pos} {es : List Expr} {cs : List Str} (h : ∃ u v, X.mg y = some u ∧ RelV v u ∧ ∀ H, RepF W H v (.cls c)) (g : Gl X y) (r : ClsArgs W X es cs)
      (hd : (y == ("__debug__" : Str)) = false) (hs : starEach (Expr.Name y p :: es) X.env = (false, eval (.Name y p) X.env) :: starEach es X.env) : ClsArgs W X (.Name y p :: es) (c :: cs)
inductive ClsV (W : Wd) : List V → List Str → Prop
  | nil : ClsV W [] []
  | cons {Dd : Addr} {c : Str} {us : List V} {cs : List Str} : W.cl c = some Dd → ClsV W us cs → ClsV W (.ref Dd :: us) (c :: cs)
theorem ClsArgs.len : ∀ {es : List Expr} {cs : List Str}, ClsArgs W X es cs → es.length = cs.length
  | _, _, .nil => rfl
  | _, _, .cons _ _ r _ _ => by simp [r.len]
theorem ClsV.len : ∀ {us : List V} {cs : List Str}, ClsV W us cs → us.length = cs.length
  | _, _, .nil => rfl
  | _, _, .cons _ r => by simp [r.len]
theorem ClsArgs.pa {a : Addr} {pn : List (Addr × Obj)} : ∀ {es : List Expr} {cs : List Str}, ClsArgs W X es cs → ∃ us, ClsV W us cs ∧ PA (X.suite a pn) es (fun σ H Q => Q us H)
  | _, _, .nil => ⟨[], .nil, pa_nil⟩
  | _, _, .cons (c := c) h g r hd hs => by
    obtain ⟨u, v, h1, h2, h3⟩ := h
    obtain ⟨us, k1, k2⟩ := r.pa (a := a) (pn := pn)
    have hv' : ∃ Dd, W.cl c = some Dd ∧ v = .ref Dd := by
      cases h3 (fun _ => none) with
      | cls h => exact ⟨_, h, rfl⟩
    obtain ⟨Dd, hDd, rfl⟩ := hv'
    exact ⟨.ref Dd :: us, .cons hDd k1, pa_cons (X := X.suite a pn) (pe_glob (X := X.suite a pn) g h1 h2 hd) k2 hs⟩
theorem ClsV.kit {T : ITab} {nm : Str} {C : Addr} (hc : W.cl nm = some C) (hT : ∀ {c d : Str} {b : Bool}, itOf T c d = some b → XisAt W c d b) : ∀ {us : List V} {cs : List Str} {b : Bool}, ClsV W us cs → xiAll T nm cs = some b →
    ∃ ws, (∀ zs, Vals us zs → zs = ws) ∧ PySem.W.kitAny W.K (.ref C) ws = some b
  | _, _, b, .nil, e => by
    cases e
    exact ⟨[], fun zs h => by cases h; rfl, rfl⟩
  | _, _, b, .cons (Dd := Dd) (c := c) (cs := cs) h r, e => by
    rw [xiAll] at e
    cases hq : itOf T nm c with
    | none => rw [hq] at e; cases e
    | some b1 =>
      rw [hq] at e
      obtain ⟨C', D', k1, k2, k3, k4⟩ := hT hq
      rw [hc] at k1; cases k1
      rw [h] at k2; cases k2
      cases b1 with
      | true =>
        cases e
        obtain ⟨ws, w1⟩ : ∃ ws, ∀ zs, Vals _ zs → zs = ws := ClsV.vals r
        exact ⟨.ref Dd :: ws, fun zs hz => by cases hz with | cons a t => rw [w1 _ t]; exact congrArg (· :: _) a, by rw [PySem.W.kitAny, k4]⟩
      | false =>
        obtain ⟨ws, w1, w2⟩ := ClsV.kit hc hT r e
        exact ⟨.ref Dd :: ws, fun zs hz => by cases hz with | cons a t => rw [w1 _ t]; exact congrArg (· :: _) a, by rw [PySem.W.kitAny, k4]; exact w2⟩
where
  ClsV.vals {W : Wd} : ∀ {us : List V} {cs : List Str}, ClsV W us cs → ∃ ws, ∀ zs, Vals us zs → zs = ws
    | _, _, .nil => ⟨[], fun zs h => by cases h; rfl⟩
    | _, _, .cons (Dd := Dd) _ r => by
      obtain ⟨ws, w⟩ := ClsV.vals r
      exact ⟨.ref Dd :: ws, fun zs hz => by cases hz with | cons a t => rw [w _ t]; exact congrArg (· :: _) a⟩
theorem xiAll_ex {T : ITab} {nm : Str} {C : Addr} (hc : W.cl nm = some C) (hT : ∀ {c d : Str} {b : Bool}, itOf T c d = some b → XisAt W c d b) : ∀ {cs : List Str} {b : Bool}, cs ≠ [] → xiAll T nm cs = some b → ExcC W.K C
  | [], _, h, _ => absurd rfl h
  | c :: cs, b, _, e => by
    rw [xiAll] at e
    cases hq : itOf T nm c with
    | none => rw [hq] at e; cases e
    | some b1 =>
      obtain ⟨C', D', k1, k2, k3, k4⟩ := hT hq
      rw [hc] at k1; cases k1
      exact k3
theorem ws_isxt {i : Nat} {a C : Addr} {oe : Obj} {d : Option Addr} {pn : List (Addr × Obj)} {nm x : Str} {cs : List Str} {es : List Expr} {fs : List (Str × D)} {p p1 p2 pos : Pos} {k1 : _} {T : ITab} (hK : X.K = W.K)
    (hz : Zc (.ref C) d oe) (hf : ∃ us, oe.data = .fields us) (hc : W.cl nm = some C) (hd : fs = [] → d = none)
    (hv : PE (X.suite a ((a, oe) :: pn)) (.Name x p1) (tVar i)) (hT : ∀ {c d : Str} {b : Bool}, itOf T c d = some b → XisAt W c d b)
    (hm : X.mg "isinstance" = none) (hg : Gl X "isinstance") (hes : ClsArgs W X es cs) (hn : cs ≠ []) (hl : es.length ≤ 1000)
    (he : starEach (Expr.Name x p1 :: [.Tuple es k1 p2]) X.env = (false, eval (.Name x p1) X.env) :: starEach [.Tuple es k1 p2] X.env := by rfl) 
    (he2 : starEach [Expr.Tuple es k1 p2] X.env = (false, eval (.Tuple es k1 p2) X.env) :: starEach [] X.env := by rfl) :
    SE W (vs.set i (some (.ref a))) noneW (X.suite a ((a, oe) :: pn)) (.Call (.Name "isinstance" p) [.Name x p1, .Tuple es k1 p2] [] pos) (isXE i fs (xiAll T nm cs)) := by
  cases hq : (match fs with | [] => xiAll T nm cs | _ => none) with
  | none =>
    refine ⟨fun pins s σ H Q I q => ?_⟩
    obtain ⟨b, e1, e2, _⟩ := isXE_ok q set_at
    subst e1
    rw [e2] at hq
    cases hq
  | some b =>
    have hfs : fs = [] := by cases fs with | nil => rfl | cons _ _ => cases hq
    subst hfs
    simp only at hq
    obtain ⟨us, k1', k2⟩ := hes.pa (a := a) (pn := (a, oe) :: pn)
    have hx := xiAll_ex hc hT hn hq
    obtain ⟨ws, w1, w2⟩ := k1'.kit hc hT hq
    have hul : us.length ≤ 1000 := by
      have e1 := k1'.len
      have e2 := hes.len
      omega
    rw [← hK] at hx w2
    have hd' := hd rfl
    subst hd'
    have pa : PA (X.suite a ((a, oe) :: pn)) [.Name x p1, .Tuple es k1 p2] (tCons (tVar i) (tCons (tTup fun σ H Q => Q us H) tNil)) := pa_cons hv (pa_cons (pe_tup k2) pa_nil he2) he
    refine pe_weak (pe_callB (call_isT hx hz hf) hg hm (by rfl) pa) fun σ H Q q => ?_
    obtain ⟨H0, L, g, sp, en, post⟩ := id q
    unfold isXE at post
    split at post
    · rename_i c h1
      obtain ⟨b', _, e2, e3, e4⟩ := isXE_ok q set_at
      rw [hq] at e2; cases e2
      refine ⟨.ref a, e3, size1000 hul, fun pp hp => ⟨pp, us, ws, b, rfl, upd_same, w1, w2, ?_⟩⟩
      have st := step_new0 (o := .tup us) sp.ex hp
      have s3 : Step H0 H (L ++ []) (upd H0 pp (.tup us)) (upd H pp (.tup us)) (L ++ []) := Step.frame (by simpa using sp) st
      have s4 : Step H0 H L (upd H0 pp (.tup us)) (upd H pp (.tup us)) L := by simpa using s3
      rename_i hh1 hh2 
      have := hq.symm.trans (by assumption)
      cases this
      exact post (.bl b) (upd H pp (.tup us)) (upd H0 pp (.tup us)) [] L (by simpa using s4) (.pure (.bl b)) (en.mono s4.ex0 (Step.keepL (Lb := []) (by simpa using sp) st))
    · exact post.elim
/-! ### rules for suites -/
theorem ws_bm {k : Nat} {a : Addr} {pn : List (Addr × Obj)} {ty id : String} {o e : Expr} {es : List Expr} {name : Str} {apos cpos : Pos} {f : List O → Option O} {A : E} {As : List E} (cx : Ctx W k noneW X) (hn : ty = "str" ∨ ty = "list" ∨ ty = "dict") (hm : MtR (X.suite a pn) id (mO W f)) (ho : SE W vs noneW (X.suite a pn) o A) (ha : SA W vs noneW (X.suite a pn) (e :: es) (evs As))
    (run : ∀ {r : V → List V → Hp → VK → Prop} {to : TE} {t : TA}, MtR (X.suite a pn) id r → PE (X.suite a pn) o to → PA (X.suite a pn) (e :: es) t → PE (X.suite a pn) (.Call (.Attribute o name apos) (e :: es) [] cpos) (tBM X.K ty r to t)) : SE W vs noneW (X.suite a pn) (.Call (.Attribute o name apos) (e :: es) [] cpos) (bmE ty f A As) :=
  pe_weak (run hm ho ha) fun σ H Q q => tE_bm cx hn q
theorem ws_mut {k : Nat} {a : Addr} {pn : List (Addr × Obj)} {ty id : String} {o e : Expr} {es : List Expr} {name : Str} {apos cpos : Pos} {f : O → List D → Option (O × D)} {A : E} {As : List E} (cx : Ctx W k noneW X) (hn : ty = "str" ∨ ty = "list" ∨ ty = "dict") (hm : MtR (X.suite a pn) id (rM W f)) (ho : SE W vs noneW (X.suite a pn) o A) (ha : SA W vs noneW (X.suite a pn) (e :: es) (evs As))
    (run : ∀ {r : V → List V → Hp → VK → Prop} {to : TE} {t : TA}, MtR (X.suite a pn) id r → PE (X.suite a pn) o to → PA (X.suite a pn) (e :: es) t → PE (X.suite a pn) (.Call (.Attribute o name apos) (e :: es) [] cpos) (tBM X.K ty r to t)) : SE W vs noneW (X.suite a pn) (.Call (.Attribute o name apos) (e :: es) [] cpos) (mutE ty f A As) :=
  pe_weak (run hm ho ha) fun σ H Q q => tE_mut cx hn q
theorem ws_ix {k : Nat} {aa : Addr} {pn : List (Addr × Obj)} {a b : Expr} {pos : Pos} {A B : E} (cx : Ctx W k noneW X) (ha : SE W vs noneW (X.suite aa pn) a A) (hb : SE W vs noneW (X.suite aa pn) b B) (hs : PlainIx b := by intro _ _; rfl) : SE W vs noneW (X.suite aa pn) (.Subscript a b pos) (bin ixO A B) :=
  pe_weak (pe_ix (ix_ixO (X := X.suite aa pn) cx.K (by have h := hu65b cx; exact h)) ha hb hs) tO_bin
theorem ws_tru {aa : Addr} {pn : List (Addr × Obj)} {k : Nat} {e : Expr} {A : E} (cx : Ctx W k noneW X) (h : SE W vs noneW (X.suite aa pn) e A) (he : ∀ whole, isTrue e X.env whole = (do let v ← whole; standAt e.pos; holding [v] (truthy v)) := by intro _; rfl) : ST W vs noneW (X.suite aa pn) e (truT A) := by
  refine pt_weak (pt_truth h he) fun σ H Q ⟨H0, L, g, sp, en, post⟩ => ?_
  refine ⟨H0, L, g, sp, en, ?_⟩
  unfold truT at post
  cases ea : A g with
  | stuck => rw [ea] at post; exact post.elim
  | exc x g' => rw [ea] at post; exact post
  | ok r g1 =>
    rw [ea] at post
    intro v H1 H01 Lr L1 st1 rr en1
    simp only [Res.bind] at post
    cases eb : (ob g1 r).bind truO with
    | none => rw [eb] at post; exact post.elim
    | some b =>
      rw [eb] at post
      obtain ⟨o, e1, e2⟩ := Option.bind_eq_some_iff.mp eb
      obtain ⟨Lo, ro, _⟩ := ob_rep en1 rr e1
      exact ⟨b, by show TruV X.K v H1 b; rw [cx.K]; exact truV_of st1.sep.ex ro e2, tT_drop st1 en1 post⟩
end
end VI
namespace VI
open PySem PySem.Spec PyProof.Rows L2
/-! ### exceptions: what the top has left -/
section
variable {K : PySem.W.Frag} {h : Heap} {mg : Str → Option Value}
theorem fx_exr (X : K.In h) (G : h.Ns mainGlobals mg) {x : Str} (c : (FX.exr x).ok K = true) (g : (FX.glo x).ok K = true) : RaiseAt (wdOf K) mg x x := by
  obtain ⟨h1, h2, h3, h4⟩ := He.exc_ok c
  exact ⟨clsAt K x, rfl, fx_glo X G g, h1, h2, h3, h4⟩
theorem fx_exm {x y : Str} {b : Bool} (c : (FX.exm x y b).ok K = true) : CatchAt (wdOf K) x y b := ⟨clsAt K x, clsAt K y, rfl, rfl, He.exm_ok c⟩
theorem fx_exc {x : Str} (c : (FX.exc x).ok K = true) (c2 : (FX.inst x).ok K = true) (c3 : FX.gst.ok K = true) : ExcC K (clsAt K x) := by
  simp only [FX.ok, Bool.and_eq_true, decide_eq_true_eq] at c c2 c3
  exact ⟨He.eqO_ok c.1, He.eqO_ok c.2.1, c.2.2.1, c.2.2.2, He.eqO_ok c2.1, He.eqO_ok c3.1, c3.2, c2.2⟩
theorem fx_xis {x d : Str} {b : Bool} (c : (FX.isi x d b).ok K = true) (c1 : (FX.exc x).ok K = true) (c2 : (FX.inst x).ok K = true) (c3 : FX.gst.ok K = true) : XisAt (wdOf K) x d b :=
  ⟨clsAt K x, clsAt K d, rfl, rfl, fx_exc c1 c2 c3, of_decide_eq_true c⟩
theorem fx_xve {x : Str} (c : (FX.kve x).ok K = true) (c1 : (FX.exc x).ok K = true) (c2 : (FX.inst x).ok K = true) (c3 : FX.gst.ok K = true) : XveAt (wdOf K) x :=
  ⟨clsAt K x, rfl, fx_exc c1 c2 c3, of_decide_eq_true c⟩
end
end VI
namespace VI
open PySem PySem.Spec PyProof.Rows L2
/-! ### steps: exceptions -/
theorem raiseS_a (nm : Str) (g : G) : raiseS nm g = .exc (.ins nm []) g := rfl
def tryC (ct : Str → Option Bool) (i : Nat) (Hd : Str → List (Str × D) → S) : Res Fl → Res Fl
  | .exc x g1 => tryX ct i Hd x g1
  | .ok f g1 => .ok f g1
  | .stuck => .stuck
theorem tryS_a (B : S) (ct : Str → Option Bool) (i : Nat) (Hd : Str → List (Str × D) → S) (g : G) : tryS B ct i Hd g = tryC ct i Hd (B g) := by
  unfold tryS tryC
  cases B g <;> rfl
theorem tryC_o (ct : Str → Option Bool) (i : Nat) (Hd : Str → List (Str × D) → S) (f : Fl) (g : G) : tryC ct i Hd (.ok f g) = .ok f g := rfl
def tryD (nm : Str) (fs : List (Str × D)) (i : Nat) (Hd : Str → List (Str × D) → S) (g1 : G) : Option Bool → Res Fl
  | some true => tryH i (Hd nm fs (g1.set i (.par .hole)))
  | some false => .exc (.ins nm fs) g1
  | none => .stuck
theorem tryC_x (ct : Str → Option Bool) (i : Nat) (Hd : Str → List (Str × D) → S) (nm : Str) (fs : List (Str × D)) (g : G) : tryC ct i Hd (.exc (.ins nm fs) g) = tryD nm fs i Hd g (ct nm) := by
  show tryX ct i Hd (.ins nm fs) g = _
  unfold tryX tryD
  first
  | rfl
  | (simp only; done)
  | (simp only; rcases ct nm with _ | _ | _ <;> rfl)
theorem tryD_t (nm : Str) (fs : List (Str × D)) (i : Nat) (Hd : Str → List (Str × D) → S) (g : G) : tryD nm fs i Hd g (some true) = tryH i (Hd nm fs (g.set i (.par .hole))) := rfl
theorem tryD_f (nm : Str) (fs : List (Str × D)) (i : Nat) (Hd : Str → List (Str × D) → S) (g : G) : tryD nm fs i Hd g (some false) = .exc (.ins nm fs) g := rfl
theorem tryH_o (i : Nat) (f : Fl) (g : G) : tryH i (.ok f g) = .ok f (g.set i .un) := rfl
def isXC (fs : List (Str × D)) (b : Option Bool) (g : G) : Option Slot → Res R
  | some (.par .hole) => (match fs, b with
    | [], some b => .ok (.val (.pure (.bl b))) g
    | _, _ => .stuck)
  | _ => .stuck
theorem isXE_a (i : Nat) (fs : List (Str × D)) (b : Option Bool) (g : G) : isXE i fs b g = isXC fs b g (g[i]?) := by
  unfold isXE isXC
  cases g[i]? with
  | none => cases fs <;> rfl
  | some s => cases s with
    | par o => cases o <;> cases fs <;> cases b <;> rfl
    | _ => cases fs <;> rfl
theorem isXC_s (b : Bool) (g : G) : isXC [] (some b) g (some (.par .hole)) = .ok (.val (.pure (.bl b))) g := rfl
def mapX {α : Type} (x : D) : Option G → Res α
  | some g => .exc x g
  | none => .stuck
theorem mapG_x {α : Type} (f : G → Option G) (x : D) (g : G) : (Res.exc x g : Res α).mapG f = mapX x (f g) := by
  unfold Res.mapG mapX
  first
  | rfl
  | (simp only; done)
  | (simp only; cases f g <;> rfl)
theorem mapX_s {α : Type} (x : D) (g : G) : (mapX x (some g) : Res α) = .exc x g := rfl
end VI
namespace VI
open PySem PySem.Spec PyProof.Rows L2
/-! ### loops and comprehensions met on the way -/
section
variable {t : T} {body : S}
theorem loop_at {α σ : Type} {enc : α → D} {as : List α} {g : G} {X : Res Fl} (h : loopS t body (List.map enc as) g = X) (F : σ → G → G) (R : List α → σ → Prop) (s0 : σ) (h0 : F s0 g = g) (hs : R as s0)
    (turn : ∀ a r s, a :: r <:+ as → R (a :: r) s → ∃ s', R r s' ∧ turnS t body (enc a) (F s g) = some (F s' g)) : ∃ s', R [] s' ∧ X = .ok .next (F s' g) := by
  obtain ⟨s', h1, h2⟩ := loop_inv (fun s => F s g) enc R as turn s0 hs
  exact ⟨s', h1, by rw [← h, ← h2]; exact congrArg _ h0.symm⟩
theorem loop_fr {α : Type} {enc : α → D} {as : List α} {g : G} {X : Res Fl} (h : loopS t body (List.map enc as) g = X) (i : Nat) (s0 : Slot) (h0 : g.set i s0 = g) (f0 : Fre s0)
    (turn : ∀ a ∈ as, ∀ s, Fre s → ∃ s', Fre s' ∧ turnS t body (enc a) (g.set i s) = some (g.set i s')) : ∃ s', Fre s' ∧ X = .ok .next (g.set i s') :=
  loop_at h (fun s g => g.set i s) (fun _ s => Fre s) s0 h0 f0 fun a r s hs hf => turn a (hs.subset (by simp)) s hf
theorem comp_at {α : Type} {own : List Nat} {cond : G → Res Bool} {elt : E} {enc : α → D} {as : List α} {g : G} {X : Option (List D × G)} (h : compL own t cond elt (List.map enc as) g [] = X) (i : Nat) (f : α → D) (s0 : Slot) (h0 : g.set i s0 = g) (f0 : Fre s0) (hl : as.length < 16777216)
    (turn : ∀ a ∈ as, ∀ s, Fre s → ∃ s', Fre s' ∧ compL own t cond elt [enc a] (g.set i s) [] = some ([f a], g.set i s')) : ∃ s', Fre s' ∧ X = some (as.map f, g.set i s') := by
  obtain ⟨s', h1, h2⟩ := comp_map (fun s => g.set i s) Fre enc f as turn [] (by simpa using hl) s0 f0
  refine ⟨s', h1, ?_⟩
  rw [← h, ← h0]
  simpa using h2
theorem comp_atF {α : Type} {own : List Nat} {cond : G → Res Bool} {elt : E} {enc : α → D} {as : List α} {g : G} {X : Option (List D × G)} (h : compL own t cond elt (List.map enc as) g [] = X) (i : Nat) (f : α → D) (p : α → Bool) (s0 : Slot) (h0 : g.set i s0 = g) (f0 : Fre s0) (hl : as.length < 16777216)
    (turn : ∀ a ∈ as, ∀ s, Fre s → ∃ s', Fre s' ∧ compL own t cond elt [enc a] (g.set i s) [] = some (if p a then [f a] else [], g.set i s')) : ∃ s', Fre s' ∧ X = some ((as.filter p).map f, g.set i s') := by
  obtain ⟨s', h1, h2⟩ := comp_filter (fun s => g.set i s) Fre enc f p as turn [] (by simpa using hl) s0 f0
  refine ⟨s', h1, ?_⟩
  rw [← h, ← h0]
  simpa using h2
theorem comp_atE {α β : Type} {own : List Nat} {cond : G → Res Bool} {elt : E} {enc : α → D} {as : List α} {g : G} {X : Option (List D × G)} (h : compL own t cond elt (List.map enc as) g [] = X) (i : Nat) (out : β → D) (P : α → β → Prop) (s0 : Slot) (h0 : g.set i s0 = g) (f0 : Fre s0) (hl : as.length < 16777216)
    (turn : ∀ a ∈ as, ∀ s, Fre s → ∃ s' b, Fre s' ∧ P a b ∧ compL own t cond elt [enc a] (g.set i s) [] = some ([out b], g.set i s')) : ∃ s' bs, Fre s' ∧ All2 P as bs ∧ X = some (bs.map out, g.set i s') := by
  obtain ⟨s', bs, h1, h2, h3⟩ := comp_ex (fun s => g.set i s) Fre enc out P as turn [] (by simpa using hl) s0 f0
  refine ⟨s', bs, h1, h2, ?_⟩
  rw [← h, ← h0]
  simpa using h3
end
end VI
namespace VI
open PySem PySem.Spec PyProof.Rows L2
/-! ### loops that end early -/
section
variable {t : T} {body : S}
theorem loop_pre {α σ : Type} (Gf : σ → G) (enc : α → D) (R : List α → σ → Prop) (ds : List D) : ∀ (as : List α), (∀ a r s, a :: r <:+ as → R (a :: r) s → ∃ s', R r s' ∧ turnS t body (enc a) (Gf s) = some (Gf s')) →
    ∀ s, R as s → ∃ s', R [] s' ∧ loopS t body (as.map enc ++ ds) (Gf s) = loopS t body ds (Gf s')
  | [], _, s, hs => ⟨s, hs, by simp⟩
  | a :: as, h, s, hs => by
    obtain ⟨s1, i1, e1⟩ := h a as s (List.suffix_refl _) hs
    obtain ⟨s2, i2, e2⟩ := loop_pre Gf enc R ds as (fun b r s hb => h b r s (hb.trans (List.suffix_cons a as))) s1 i1
    exact ⟨s2, i2, by rw [List.map_cons, List.cons_append, loop_turn e1, e2]⟩
theorem all_split {α : Type} {p : α → Bool} : ∀ {l : List α}, l.all p = false → ∃ pre a post, l = pre ++ a :: post ∧ pre.all p = true ∧ p a = false
  | [], h => by simp at h
  | x :: l, h => by
    by_cases hx : p x = true
    · rw [List.all_cons, hx, Bool.true_and] at h
      obtain ⟨pre, a, post, e, h1, h2⟩ := all_split h
      exact ⟨x :: pre, a, post, by rw [e]; rfl, by rw [List.all_cons, hx, h1]; rfl, h2⟩
    · exact ⟨[], x, l, rfl, rfl, by simpa using hx⟩
theorem loop_or {α : Type} {enc : α → D} {as : List α} {g : G} {X : Res Fl} (h : loopS t body (List.map enc as) g = X) (i : Nat) (p : α → Bool) (Rb : Res Fl → Prop) (s0 : Slot) (h0 : g.set i s0 = g) (f0 : Fre s0)
    (turn : ∀ a ∈ as, p a = true → ∀ s, Fre s → ∃ s', Fre s' ∧ turnS t body (enc a) (g.set i s) = some (g.set i s'))
    (bad : ∀ a ∈ as, p a = false → ∀ s ds, Fre s → Rb (loopS t body (enc a :: ds) (g.set i s))) :
    (as.all p = true ∧ ∃ s', Fre s' ∧ X = .ok .next (g.set i s')) ∨ (as.all p = false ∧ Rb X) := by
  cases hp : as.all p with
  | true => exact .inl ⟨rfl, loop_fr h i s0 h0 f0 fun a ha => turn a ha (List.all_eq_true.mp hp a ha)⟩
  | false =>
    obtain ⟨pre, a, post, e, h1, h2⟩ := all_split hp
    refine .inr ⟨rfl, ?_⟩
    subst e
    obtain ⟨s', f', e'⟩ := loop_pre (fun s => g.set i s) enc (fun _ s => Fre s) ((a :: post).map enc) pre (fun b r s hs hf => turn b (List.mem_append_left _ (hs.subset (by simp))) (List.all_eq_true.mp h1 b (hs.subset (by simp))) s hf) s0 f0
    rw [h0] at e'
    rw [← h, List.map_append, e']
    exact bad a (by simp) h2 s' _ f'
end
end VI
namespace VI
open PySem PySem.Spec PyProof.Rows L2
/-! ### everyday facts -/
theorem ixM {α : Type} (f : α → D) (l : List α) (i : Int) (h0 : 0 ≤ i) (h1 : i.toNat < l.length) : ixO (.lst (l.map f)) (.pure (.int i)) = some (.pure (f l[i.toNat])) := by
  rw [ix_l, atI_lt _ _ h0, List.getElem?_map, List.getElem?_eq_getElem h1]; rfl
theorem ixMp {α : Type} (f : α → D) (l : List α) (i : Int) (h0 : 0 ≤ i) (h1 : i.toNat < l.length) : ixO (.pure (.lst (l.map f))) (.pure (.int i)) = some (.pure (f l[i.toNat])) := by
  rw [ix_pl, atI_lt _ _ h0, List.getElem?_map, List.getElem?_eq_getElem h1]; rfl
theorem ixMt {α : Type} (f : α → D) (l : List α) (i : Int) (h0 : 0 ≤ i) (h1 : i.toNat < l.length) : ixO (.pure (.tup (l.map f))) (.pure (.int i)) = some (.pure (f l[i.toNat])) := by
  rw [ix_t, atI_lt _ _ h0, List.getElem?_map, List.getElem?_eq_getElem h1]; rfl
theorem ixS (l : List Str) (i : Int) (h0 : 0 ≤ i) (h1 : i.toNat < l.length) : ixO (.lst (l.map D.str)) (.pure (.int i)) = some (.pure (.str l[i.toNat])) := ixM D.str l i h0 h1
theorem rng1_i (i : Int) (h0 : 0 ≤ i) (h1 : i < 1000000) : rng1 [.pure (.int i)] = some ((List.range i.toNat).map fun (k : Nat) => D.int (k : Int)) := by
  have := rng1_nat i.toNat (by omega)
  rwa [show ((i.toNat : Nat) : Int) = i by omega] at this
theorem lenM {α : Type} (f : α → D) (l : List α) : lenO [.lst (l.map f)] = some (.pure (.int (l.length : Int))) := by simp [lenO, elemsO]
theorem gt_n (a b : Nat) : gtO (.pure (.int (a : Int))) (.pure (.int (b : Int))) = some (.pure (.bl (decide (b < a)))) := by
  rw [gt_i]; exact congrArg (fun b => some (O.pure (D.bl b))) (decide_eq_decide.mpr (by omega))
theorem cutL_to {α : Type} (l : List α) (k : Nat) : cutL l none (some (k : Int)) = l.take k := by
  have e1 : HT.sIx l.length 0 none = 0 := rfl
  have e2 : HT.sIx l.length l.length (some (k : Int)) = min k l.length := HT.sIx_nat _ _ k
  unfold cutL
  rw [e1, e2]
  simp only [Nat.sub_zero, List.drop_zero]
  rcases Nat.le_total k l.length with h | h
  · rw [Nat.min_eq_left h]
  · rw [Nat.min_eq_right h, List.take_of_length_le (Nat.le_refl _), List.take_of_length_le h]
theorem cutL_from {α : Type} (l : List α) (k : Nat) : cutL l (some (k : Int)) none = l.drop k := by
  have e1 : HT.sIx l.length 0 (some (k : Int)) = min k l.length := HT.sIx_nat _ _ k
  have e2 : HT.sIx l.length l.length none = l.length := rfl
  unfold cutL
  rw [e1, e2]
  rcases Nat.le_total k l.length with h | h
  · rw [Nat.min_eq_left h]; exact List.take_of_length_le (by simp)
  · rw [Nat.min_eq_right h, List.drop_of_length_le (Nat.le_refl _), List.drop_of_length_le h]; simp
theorem sl_to {α : Type} (f : α → D) (l : List α) (k : Nat) : slO none (some (k : Int)) (.lst (l.map f)) = some (.lst ((l.take k).map f)) := by
  rw [slO_l, cutL_map, cutL_to l k]
theorem sl_from {α : Type} (f : α → D) (l : List α) (k : Nat) : slO (some (k : Int)) none (.lst (l.map f)) = some (.lst ((l.drop k).map f)) := by
  rw [slO_l, cutL_map, cutL_from l k]
theorem sl_toS (s : Str) (k : Nat) (h : s.length ≤ 16777216) : slO none (some (k : Int)) (.pure (.str s)) = some (.pure (.str (cutS s none (some (k : Int))))) := by simp [slO, h, cutS]
theorem sl_fromS (s : Str) (k : Nat) (h : s.length ≤ 16777216) : slO (some (k : Int)) none (.pure (.str s)) = some (.pure (.str (cutS s (some (k : Int)) none))) := by simp [slO, h, cutS]
theorem add_ls (a b : List D) (h : a.length + b.length ≤ 16777216) : addO (.lst a) (.lst b) = some (.lst (a ++ b)) := by simp [addO, h]
theorem mul_chars (x : Str) (j : Int) : ∀ c ∈ (Txt.mul x j).cps.toList, c ∈ x.cps.toList := by
  unfold Txt.mul
  split
  · intro c hc; simp [Str.empty] at hc
  · split
    · exact fun c hc => hc
    · have : ∀ (n : Nat) (acc : Array Nat), (∀ c ∈ acc.toList, c ∈ x.cps.toList) → ∀ c ∈ ((List.replicate n x.cps).foldl (· ++ ·) acc).toList, c ∈ x.cps.toList := by
        intro n
        induction n with
        | zero => exact fun acc h => h
        | succ n ih =>
          intro acc h
          rw [List.replicate_succ, List.foldl_cons]
          refine ih _ fun c hc => ?_
          rw [Array.toList_append, List.mem_append] at hc
          rcases hc with hc | hc
          · exact h c hc
          · exact hc
      exact this _ #[] (by simp)
theorem mul_ok {x : Str} (j : Int) (h : PyData.strOk x = true) : PyData.strOk (Txt.mul x j) = true := ok_iff.mpr fun c hc => ok_iff.mp h c (mul_chars x j c hc)
theorem mul_len (x : Str) (j : Nat) : (Txt.mul x (j : Int)).length ≤ j * x.length := by
  unfold Txt.mul
  split
  · simp [Str.empty, Str.length]
  · split
    · rename_i h1 h2
      have h3 : 1 ≤ j := by omega
      exact Nat.le_mul_of_pos_left _ h3
    · have : ∀ (n : Nat) (acc : Array Nat), ((List.replicate n x.cps).foldl (· ++ ·) acc).size = acc.size + n * x.cps.size := by
        intro n
        induction n with
        | zero => intro acc; simp
        | succ n ih => intro acc; rw [List.replicate_succ, List.foldl_cons, ih, Array.size_append]; rw [Nat.succ_mul]; omega
      show ((List.replicate _ x.cps).foldl (· ++ ·) #[]).size ≤ _
      rw [this]
      simp [Str.length]
section
variable {t : G → Res Bool} {body : S}
theorem while_at {σ : Type} {fuel : Nat} {g : G} {X : Res Fl} (h : whileS t body fuel g = X) (F : σ → G → G) (R : Nat → σ → Prop) (N : Nat) (s0 : σ) (h0 : F s0 g = g) (hs : R 0 s0)
    (turn : ∀ k s, k < N → R k s → ∃ s', R (k + 1) s' ∧ t (F s g) = .ok true (F s g) ∧ body (F s g) = .ok .next (F s' g)) (last : ∀ s, R N s → t (F s g) = .ok false (F s g)) (hf : N < fuel) : ∃ s', R N s' ∧ X = .ok .next (F s' g) := by
  have key : ∀ (m k : Nat) (fuel : Nat) (s : σ), k + m = N → m < fuel → R k s → ∃ s', R N s' ∧ whileS t body fuel (F s g) = .ok .next (F s' g) := by
    intro m
    induction m with
    | zero =>
      intro k fuel s hk hf hr
      obtain ⟨fu, rfl⟩ : ∃ f, fuel = f + 1 := ⟨fuel - 1, by omega⟩
      have hkN : k = N := by omega
      subst hkN
      exact ⟨s, hr, by rw [whileS, last s hr]; rfl⟩
    | succ m ih =>
      intro k fuel s hk hf hr
      obtain ⟨fu, rfl⟩ : ∃ f, fuel = f + 1 := ⟨fuel - 1, by omega⟩
      obtain ⟨s1, r1, e1, e2⟩ := turn k s (by omega) hr
      obtain ⟨s2, r2, e3⟩ := ih (k + 1) fu s1 (by omega) (by omega) r1
      exact ⟨s2, r2, by rw [whileS, e1]; simp only [Res.bind, if_true]; rw [e2]; simp only [Res.bind]; exact e3⟩
  obtain ⟨s', r, e⟩ := key N 0 fuel s0 (by omega) hf hs
  exact ⟨s', r, by rw [← h, ← e, h0]⟩
end
/-! ### joined texts -/
def totL (l : List Str) : Nat := (l.map (·.length)).sum + l.length
theorem totL_app (a b : List Str) : totL (a ++ b) = totL a + totL b := by simp [totL]; omega
theorem totL_cons (x : Str) (b : List Str) : totL (x :: b) = x.length + 1 + totL b := by simp [totL]; omega
theorem totL_le {l : List Str} {k : Nat} (h : ∀ w ∈ l, w.length ≤ k) : totL l ≤ (k + 1) * l.length := by
  induction l with
  | nil => simp [totL]
  | cons x l ih =>
    rw [totL_cons, List.length_cons, Nat.mul_succ]
    have := ih fun w hw => h w (List.mem_cons_of_mem _ hw)
    have := h x (by simp)
    omega
theorem join_tot (l : List Str) : (Str.join sp1 l).length ≤ totL l := by
  have h := StrLaws.join_length_le sp1 l
  have e : sp1.length = 1 := rfl
  rw [e] at h
  unfold totL
  have : (l.map (·.length)).sum = (l.map Str.length).sum := rfl
  omega
theorem joinO_sp (l : List Str) (h : totL l ≤ 16777216) : joinO [.pure (.str (Str.ofString " ")), .lst (l.map D.str)] = some (.pure (.str (Str.join sp1 l))) := by
  have e : (l.map (·.length)).sum + l.length * (Str.ofString " ").length ≤ 16777216 := by
    have e1 : (Str.ofString " ").length = 1 := rfl
    rw [e1]; unfold totL at h; omega
  unfold joinO
  simp only [elemsO, Option.bind_some, strsD_map, e, if_true]
  show some (O.pure (D.str (Builtin.Str.glued (Str.ofString " ") l))) = _
  rw [StrLaws.glued_eq_join]
  rfl
theorem join_ok (l : List Str) (h : ∀ w ∈ l, PyData.strOk w = true) : PyData.strOk (Str.join sp1 l) = true := by
  induction l with
  | nil => decide +kernel
  | cons x l ih =>
    have hx := h x (by simp)
    have hl := ih fun w hw => h w (List.mem_cons_of_mem _ hw)
    cases l with
    | nil => exact hx
    | cons y l =>
      show PyData.strOk (x ++ sp1 ++ Str.join sp1 (y :: l)) = true
      rw [ok_iff] at hx hl ⊢
      intro c hc
      have hc' : c ∈ x.cps.toList ++ sp1.cps.toList ++ (Str.join sp1 (y :: l)).cps.toList := by
        have : (x ++ sp1 ++ Str.join sp1 (y :: l)).cps = x.cps ++ sp1.cps ++ (Str.join sp1 (y :: l)).cps := rfl
        rw [this] at hc
        simpa using hc
      rcases List.mem_append.mp hc' with q | q
      · rcases List.mem_append.mp q with q | q
        · exact hx c q
        · have : c = 32 := by simpa [show sp1.cps = #[32] from rfl] using q
          omega
      · exact hl c q
/-- the pieces of a text: each a part of it -/
theorem piece_of {l : List Str} : ∀ p ∈ l, p.length ≤ (Str.join sp1 l).length ∧ ∀ c ∈ p.cps.toList, c ∈ (Str.join sp1 l).cps.toList := by
  induction l with
  | nil => exact fun p hp => by cases hp
  | cons x l ih =>
    intro p hp
    cases l with
    | nil =>
      rw [List.mem_singleton.mp hp]
      exact ⟨Nat.le_refl _, fun c h => h⟩
    | cons y l =>
      have e : (Str.join sp1 (x :: y :: l)).cps = x.cps ++ sp1.cps ++ (Str.join sp1 (y :: l)).cps := rfl
      have el : (Str.join sp1 (x :: y :: l)).length = x.length + sp1.length + (Str.join sp1 (y :: l)).length := by
        simp [Str.length, e]
        try omega
      rcases List.mem_cons.mp hp with rfl | hp
      · exact ⟨by omega, fun c hc => by rw [e]; simp at hc ⊢; exact .inl hc⟩
      · obtain ⟨h1, h2⟩ := ih p hp
        exact ⟨by omega, fun c hc => by rw [e]; have := h2 c hc; simp at this ⊢; exact .inr (.inr this)⟩
theorem pieces_len {l : List Str} : l ≠ [] → l.length ≤ (Str.join sp1 l).length + 1 := by
  induction l with
  | nil => exact fun h => absurd rfl h
  | cons x l ih =>
    intro _
    cases l with
    | nil => simp
    | cons y l =>
      have e : (Str.join sp1 (x :: y :: l)).cps = x.cps ++ sp1.cps ++ (Str.join sp1 (y :: l)).cps := rfl
      have el : (Str.join sp1 (x :: y :: l)).length = x.length + sp1.length + (Str.join sp1 (y :: l)).length := by
        simp [Str.length, e]
        try omega
      have e1 : sp1.length = 1 := rfl
      have := ih (by simp)
      simp only [List.length_cons] at this ⊢
      omega
theorem split_pieces (J : Str) (hs : PyData.strOk J = true) : ∃ P : List Str, Txt.split J sp1 = P ∧ P ≠ [] ∧ Str.join sp1 P = J ∧ (∀ p ∈ P, PyData.strOk p = true ∧ p.length ≤ J.length ∧ NoSp p) ∧ P.length ≤ J.length + 1 := by
  have h1 := StrLaws.join_split J sp1
  have h2 : ∀ p ∈ Txt.split J sp1, NoSp p := StrLaws.split_free J 32
  have h3 : Txt.split J sp1 ≠ [] := fun h => by
    rw [h] at h1
    have e : J = Str.empty := h1.symm
    subst e
    exact absurd h (by decide +kernel)
  generalize Txt.split J sp1 = P at *
  refine ⟨P, rfl, h3, h1, fun p hp => ?_, ?_⟩
  · obtain ⟨a, b⟩ := piece_of p hp
    rw [h1] at a b
    exact ⟨ok_iff.mpr fun c hc => ok_iff.mp hs c (b c hc), a, h2 p hp⟩
  · have := pieces_len h3
    rw [h1] at this
    exact this
end VI
namespace VI
open PySem PySem.Spec PyProof.Rows L2
section
variable {W : Wd} {X : Cx}
/-! ### dict(pairs) -/
def pairD : D → Option (Key × D)
  | .tup [kd, e] => (keyOf kd).map fun k => (k, e)
  | _ => none
def pairsD : List D → Option (List (Key × D))
  | [] => some []
  | d :: l => match pairD d, pairsD l with
    | some p, some ps => some (p :: ps)
    | _, _ => none
def mergeD (acc : List (D × D)) (ps : List (Key × D)) : List (D × D) := ps.foldl (fun a p => putD a p.1 p.2) acc
def dictLO : List O → Option O
  | [.lst l] => (pairsD l).map fun ps => .dic (mergeD [] ps)
  | [.pure (.lst l)] => (pairsD l).map fun ps => .dic (mergeD [] ps)
  | _ => none
theorem pairs_rep {H0 H : Hp} (hK : X.K = W.K) (ex : Ex H0 H) : ∀ {us : List V} {l : List D} {ps : List (Key × D)}, RepFs W H0 us l → pairsD l = some ps → ∃ (as : List Addr) (kvs : List (Key × V)), us = as.map V.ref ∧ Paired (fun p kv => SqT X.K H p [kV kv.1, kv.2]) as kvs ∧
    ∀ (kv0 : List (Key × V)) (m : List (D × D)), RepFk W H0 kv0 m → RepFk W H0 (mergeK kv0 kvs) (mergeD m ps)
  | _, _, ps, .nil, e => by
    cases e
    exact ⟨[], [], rfl, .nil, fun kv0 m h => h⟩
  | _, _, ps, .cons (d := d) (ds := l) h r, e => by
    rw [pairsD] at e
    split at e
    · rename_i p ps' e1 e2
      cases e
      obtain ⟨as, kvs, rfl, q1, q2⟩ := pairs_rep hK ex r e2
      unfold pairD at e1
      split at e1
      · rename_i kd ee
        obtain ⟨k, ek, ep⟩ := Option.map_eq_some_iff.mp e1
        subst ep
        cases h with
        | tup h1 h2 =>
          rename_i pa vs
          cases h2 with
          | cons a1 a2 => cases a2 with
            | cons b1 b2 => cases b2 with
              | nil =>
                obtain ⟨rfl, hkd⟩ := key_rep a1 ek
                rename_i v2
                refine ⟨pa :: as, (k, v2) :: kvs, rfl, .cons (by rw [hK]; exact ex_t ex h1) q1, fun kv0 m hm => ?_⟩
                exact q2 _ _ (RepFk.put b1 hm)
      · cases e1
    · cases e
theorem cr_dictLO (hK : X.K = W.K) (hcalm : X.calm = true) : CallR X (.type "dict") (cO W dictLO) := by
  intro pins s σ H us ws Q I r ⟨H0, os, o, ex, pr, e, gv⟩
  have key : ∀ (oo : O) l, os = [oo] → (oo = .pure (.lst l) ∨ oo = .lst l) → (pairsD l).map (fun ps => O.dic (mergeD [] ps)) = some o → wpAny (model X.prog X.w) X.A (call (.type "dict") ws) (EP X pins σ Q) X.xe s := by
    intro oo l e1 h e2
    subst e1
    obtain ⟨ps, hps, rfl⟩ := Option.map_eq_some_iff.mp e2
    obtain ⟨v, e4, _, r1⟩ := one_of pr
    obtain ⟨p, us', rfl, hq, rf⟩ := sql_of ex r1 h
    obtain ⟨as, kvs, rfl, q1, q2⟩ := pairs_rep hK ex rf hps
    subst e4
    exact call_dictP hcalm pins s σ H _ ws Q I r ⟨p, as, kvs, rfl, by rw [hK]; exact hq, q1, fun q hq => gv _ _ H0 [q] (step_newL ex hq) (.dic upd_same (q2 [] [] .nil))⟩
  unfold dictLO at e
  split at e
  · exact key _ _ rfl (.inr rfl) e
  · exact key _ _ rfl (.inl rfl) e
  · cases e
end
end VI
namespace VI
open PySem PySem.Spec PyProof.Rows L2
section
variable {W : Wd} {X : Cx}
/-! ### an own list times a small int -/
def lmulO : O → O → Option O
  | .lst l, .pure (.int k) => if 0 ≤ k ∧ k ≤ 1000 ∧ l.length ≤ 1000 then some (.lst (List.replicate k.toNat l).flatten) else none
  | _, _ => none
theorem reps_rep {H : Hp} {us : List V} {l : List D} (h : RepFs W H us l) : ∀ n : Nat, RepFs W H (List.replicate n us).flatten (List.replicate n l).flatten
  | 0 => .nil
  | n + 1 => by
    rw [List.replicate_succ, List.replicate_succ, List.flatten_cons, List.flatten_cons]
    exact h.append (reps_rep h n)
theorem op_lmulO : OpR X (binaryOp .Mult) (rO W lmulO) := by
  intro pins s σ H x y v u Q I rx ry ⟨H0, ox, oy, Lx, Ly, o, ex, hx, hy, e, gv⟩
  unfold lmulO at e
  split at e
  · split at e
    · rename_i l k hc
      cases e
      cases hx with
      | lst h1 h2 =>
        have hs : l.length * k.toNat ≤ 1000 * 1000 := Nat.mul_le_mul hc.2.2 (by omega)
        exact op_rep pins s σ H _ y v u Q I rx ry ⟨_, k, _, rfl, atom_int hy, h1, by omega, by omega, by rw [h2.len]; exact sizeL (by omega), fun p hp => gv.newL ex (reps_rep h2 k.toNat) hp⟩
    · cases e
  · cases e
end
end VI
namespace VI
open PySem PySem.Spec PyProof.Rows L2
section
variable {W : Wd} {X : Cx} {Wx : WX}
/-! ### room for a comparison within an except suite -/
theorem hu65s {k : Nat} (cx : Ctx W k Wx X) {a : Addr} {pn : List (Addr × Obj)} : (X.suite a pn).A.units + 65 < cLine := by
  have h := hu65 cx
  exact h
theorem hu64s {k : Nat} (cx : Ctx W k Wx X) {a : Addr} {pn : List (Addr × Obj)} : (X.suite a pn).A.units + 64 < cLine := by
  have h := hu64 cx
  exact h
end
end VI
namespace VI
open PySem PySem.Spec PyProof.Rows L2
section
variable {W : Wd} {X : Cx} {vs : List (Option V)} {Wx : WX} {n : Nat}
/-! ### a new own thing frozen at once -/
def frzX (A : E) : E := fun g => (A g).bind fun r g1 => match frzs [r] g1 with
  | some ([d], g2) => .ok (.val (.pure d)) g2
  | _ => .stuck
theorem se_frzX {e : Expr} {A : E} (h : SE W vs Wx X e A) : SE W vs Wx X e (frzX A) := by
  refine pe_weak h fun σ H Q ⟨H0, L, g, sp, en, post⟩ => ⟨H0, L, g, sp, en, ?_⟩
  unfold frzX at post
  cases ea : A g with
  | stuck => rw [ea] at post; exact post.elim
  | exc x g' => rw [ea] at post; exact post
  | ok r g1 =>
    rw [ea] at post
    intro v H1 H01 Lr L1 st rr en1
    rw [bind_ok] at post
    cases ef : frzs [r] g1 with
    | none => rw [ef] at post; exact post.elim
    | some pr =>
      obtain ⟨ds, g2⟩ := pr
      rw [ef] at post
      have rrs : RepRs W H01 H1 σ [v] [r] (Lr ++ []) := .cons rr .nil
      obtain ⟨H02, L2, s2, rf, en2⟩ := frzs_ok rrs (by simpa using st.sep) en1 ef
      cases rf with
      | cons rd r2 =>
        cases r2
        rw [List.append_nil] at s2
        exact post v H1 H02 [] L2 (by simpa using st.trans s2) (.pure rd) en2
theorem frzX_a (A : E) (g : G) : frzX A g = (A g).bind fun r g1 => match frzs [r] g1 with
  | some ([d], g2) => .ok (.val (.pure d)) g2
  | _ => .stuck := rfl
end
end VI
namespace VI
open PySem PySem.Spec PyProof.Rows L2
/-! ### loops that may return -/
section
variable {t : T} {body : S}
theorem loop_retF {α σ : Type} {enc : α → D} {as : List α} {g : G} {X : Res Fl} (h : loopS t body (List.map enc as) g = X) (F : σ → G → G) (R : List α → σ → Prop) (Rb : Res Fl → Prop) (s0 : σ) (h0 : F s0 g = g) (hs : R as s0)
    (turn : ∀ a r s, a :: r <:+ as → R (a :: r) s → (∃ s', R r s' ∧ turnS t body (enc a) (F s g) = some (F s' g)) ∨ ∀ ds, Rb (loopS t body (enc a :: ds) (F s g))) :
    (∃ s', R [] s' ∧ X = .ok .next (F s' g)) ∨ Rb X := by
  suffices H : ∀ (bs : List α), bs <:+ as → ∀ s, R bs s → (∃ s', R [] s' ∧ loopS t body (List.map enc bs) (F s g) = .ok .next (F s' g)) ∨ Rb (loopS t body (List.map enc bs) (F s g)) by
    have := H as (List.suffix_refl _) s0 hs
    rw [h0, h] at this
    exact this
  intro bs
  induction bs with
  | nil => intro _ s hr; exact .inl ⟨s, hr, rfl⟩
  | cons a bs ih =>
    intro hb s hr
    rcases turn a bs s hb hr with ⟨s', hr', e⟩ | hbad
    · rw [List.map_cons, loop_turn e]
      exact ih ((List.suffix_cons a bs).trans hb) s' hr'
    · exact .inr (hbad _)
end
end VI
namespace VI
open PySem PySem.Spec PyProof.Rows L2
/-! ### steps: dicts whose keys are tuples -/
section
variable (i : Nat) (g : G) (m : List (D × D))
theorem nm_px : nmC i g (some (.par (.dct m))) = .ok (.slot i) g := rfl
theorem nm_lx : nmC i g (some (.loc (.dct m))) = .ok (.slot i) g := rfl
theorem takC_x (rs : List R) : takC i rs g (some (.dct m)) = takB (.dct m) (takes rs (setO g i .hole)) := rfl
theorem stoC_lx (o : O) : stoC i o g (some (.loc (.dct m))) = some (g.set i (.loc o)) := rfl
theorem dctE_a : dctE g = .ok (.val (.dct [])) g := rfl
def dsp1C (B : E) (ra : R) (g : G) : Res R := (B g).bind (dsp1R ra)
theorem dsp1E_a (A B : E) : dsp1E A B g = (A g).bind (dsp1C B) := rfl
theorem dsp1C_a (B : E) (ra : R) : dsp1C B ra g = (B g).bind (dsp1R ra) := rfl
def dsp1G (dk dv : D) (g : G) : Option NestedKey → Res R
  | some _ => .ok (.val (.dct [(dk, dv)])) g
  | none => .stuck
def dsp1F : Option (List D × G) → Res R
  | some ([dk, dv], g') => dsp1G dk dv g' (kD1 dk)
  | _ => .stuck
theorem dsp1R_a (ra rb : R) : dsp1R ra rb g = dsp1F (frzs [ra, rb] g) := by
  unfold dsp1R dsp1F
  cases frzs [ra, rb] g with
  | none => rfl
  | some p =>
    obtain ⟨l, g'⟩ := p
    match l with
    | [] => rfl
    | [_] => rfl
    | [a, b] => simp only [dsp1G] <;> cases kD1 a <;> rfl
    | _ :: _ :: _ :: _ => rfl
theorem dsp1F_s (dk dv : D) (g' : G) : dsp1F (some ([dk, dv], g')) = dsp1G dk dv g' (kD1 dk) := rfl
theorem dsp1G_s (dk dv : D) (k : NestedKey) : dsp1G dk dv g (some k) = .ok (.val (.dct [(dk, dv)])) g := rfl
end
/-! ### rooms as keys -/
def roomD (r : List Int) : D := .tup (r.map D.int)
def roomK (r : List Int) : NestedKey := .tup (r.map NestedKey.num)
theorem kNs_ints : ∀ r : List Int, kNs (r.map D.int) = some (r.map NestedKey.num)
  | [] => by simp [kNs]
  | i :: r => by rw [List.map_cons, kNs, kNs_ints r, kN]; rfl
theorem depth_ints : ∀ r : List Int, NestedKey.depthAll (r.map NestedKey.num) ≤ 1
  | [] => by simp [NestedKey.depthAll]
  | i :: r => by
    have := depth_ints r
    simp only [List.map_cons, NestedKey.depthAll, NestedKey.depth]
    omega
theorem kN_room (r : List Int) : kN (roomD r) = some (roomK r) := by unfold roomD; rw [kN, kNs_ints]; rfl
theorem kD1_room (r : List Int) : kD1 (roomD r) = some (roomK r) := by
  unfold kD1
  rw [kN_room]
  have h := depth_ints r
  have hd : (roomK r).depth ≤ 8 := by unfold roomK; rw [NestedKey.depth]; omega
  show (if true = true then (if (roomK r).depth ≤ 8 then some (roomK r) else none) else none) = some (roomK r)
  rw [if_pos rfl, if_pos hd]
theorem num_inj : ∀ {r r' : List Int}, r.map NestedKey.num = r'.map NestedKey.num → r = r'
  | [], [], _ => rfl
  | [], _ :: _, h => by simp at h
  | _ :: _, [], h => by simp at h
  | a :: r, b :: r', h => by
    simp only [List.map_cons, List.cons.injEq] at h
    have h1 : a = b := by have := h.1; cases this; rfl
    rw [h1, num_inj h.2]
theorem roomK_inj {r r' : List Int} : roomK r = roomK r' ↔ r = r' := ⟨fun h => by unfold roomK at h; exact num_inj (NestedKey.tup.inj h), fun h => by rw [h]⟩
/-- a dict by rooms -/
def dctR {α : Type} (f : α → D) (l : List (List Int × α)) : List (D × D) := l.map fun p => (roomD p.1, f p.2)
def lookR {α : Type} : List (List Int × α) → List Int → Option α
  | [], _ => none
  | (r', a) :: l, r => if r' = r then some a else lookR l r
theorem lookT_R {α : Type} (f : α → D) (r : List Int) : ∀ l : List (List Int × α), lookT (dctR f l) (roomK r) = (lookR l r).map f
  | [] => rfl
  | (r', a) :: l => by
    have ih := lookT_R f r l
    show (if kD1 (roomD r') = some (roomK r) then some (f a) else lookT (dctR f l) (roomK r)) = (if r' = r then some a else lookR l r).map f
    rw [kD1_room]
    by_cases h : r' = r
    · rw [if_pos h, if_pos (by rw [h])]; rfl
    · rw [if_neg h, if_neg (fun e => h (roomK_inj.mp (Option.some.inj e))), ih]
def putR2 {α : Type} (l : List (List Int × α)) (r : List Int) (a : α) : List (List Int × α) := if (lookR l r).isSome then l.map fun p => if p.1 = r then (p.1, a) else p else l ++ [(r, a)]
theorem putT_R {α : Type} (f : α → D) (l : List (List Int × α)) (r : List Int) (a : α) : putT (dctR f l) (roomD r) (roomK r) (f a) = dctR f (putR2 l r a) := by
  unfold putT putR2
  rw [lookT_R]
  cases h : lookR l r with
  | none => simp [dctR]
  | some b =>
    simp only [Option.map_some, Option.isSome_some, if_true]
    unfold dctR
    rw [List.map_map, List.map_map]
    refine List.map_congr_left fun p _ => ?_
    simp only [Function.comp]
    rw [kD1_room]
    by_cases h : p.1 = r
    · simp [h]
    · have n : ¬ some (roomK p.1) = some (roomK r) := fun e => h (roomK_inj.mp (Option.some.inj e))
      simp only [h, n, if_false]
theorem in_R {α : Type} (neg : Bool) (f : α → D) (l : List (List Int × α)) (r : List Int) : inO neg (.pure (roomD r)) (.dct (dctR f l)) = some (.pure (.bl (neg.xor (lookR l r).isSome))) := by
  show (kD1 (roomD r)).map (fun k => O.pure (D.bl (neg.xor (lookT (dctR f l) k).isSome))) = _
  rw [kD1_room, Option.map_some, lookT_R, Option.isSome_map]
theorem ix_R {α : Type} (f : α → D) (l : List (List Int × α)) (r : List Int) {a : α} (h : lookR l r = some a) : ixO (.dct (dctR f l)) (.pure (roomD r)) = some (.pure (f a)) := by
  show (kD1 (roomD r)).bind (fun k => (lookT (dctR f l) k).map O.pure) = _
  rw [kD1_room, Option.bind_some, lookT_R, h]; rfl
theorem st_R {α : Type} (f : α → D) (l : List (List Int × α)) (r : List Int) (a : α) (hl : l.length < 16777216) : stO (.dct (dctR f l)) (roomD r) (f a) = some (.dct (dctR f (putR2 l r a))) := by
  have e : stO (.dct (dctR f l)) (roomD r) (f a) = (kD1 (roomD r)).bind fun k => if (dctR f l).length < 16777216 then some (.dct (putT (dctR f l) (roomD r) k (f a))) else none := rfl
  rw [e, kD1_room, Option.bind_some, if_pos (by simpa [dctR] using hl), putT_R]
theorem look_mem {α : Type} {r : List Int} : ∀ {l : List (List Int × α)}, (lookR l r).isSome = decide (r ∈ l.map Prod.fst)
  | [] => by simp [lookR]
  | (r', a) :: l => by
    rw [lookR]
    by_cases h : r' = r
    · simp [h]
    · rw [if_neg h, look_mem]
      simp [Ne.symm h]
end VI
namespace VI
open PySem PySem.Spec PyProof.Rows L2
/-! ### own tuples -/
section
variable {W : Wd} {vs : List (Option V)} {Wx : WX} {X : Cx} {n : Nat}
def valsO : List R → Option (List O)
  | [] => some []
  | .val o :: rs => (valsO rs).map fun os => o :: os
  | _ :: _ => none
theorem vals_rep {H0 H : Hp} {σ : L2.St} : ∀ {rs : List R} {us : List V} {L : List Addr} {os : List O}, RepRs W H0 H σ us rs L → valsO rs = some os → RepOs W H0 H us os L
  | [], _, _, _, .nil, e => by cases e; exact .nil
  | .val o :: rs, _, _, _, .cons h r, e => by
    rw [valsO] at e
    obtain ⟨os', e1, e2⟩ := Option.map_eq_some_iff.mp e
    subst e2
    exact .cons h (vals_rep r e1)
  | .slot _ :: _, _, _, _, _, e => by cases e
  | .sub _ _ :: _, _, _, _, _, e => by cases e
def tplR (rs : List R) (g : G) : Res R := match valsO rs with
  | some os => if os.length ≤ 1000 then .ok (.val (.tpl os)) g else .stuck
  | none => .stuck
def tplE (A : G → Res (List R)) : E := fun g => (A g).bind tplR
theorem se_tpl {es : List Expr} {x1 : _} {pos : Pos} {A : G → Res (List R)} (h : SA W vs Wx X es A) : SE W vs Wx X (.Tuple es x1 pos) (tplE A) := by
  refine pe_weak (pe_tup h) fun σ H Q ⟨H0, L, g, sp, en, post⟩ => ?_
  refine ⟨H0, L, g, sp, en, ?_⟩
  unfold tplE at post
  cases ea : A g with
  | stuck => rw [ea] at post; exact post.elim
  | exc x g' => rw [ea] at post; exact post
  | ok rs g1 =>
    rw [ea] at post
    simp only [Res.bind, tplR] at post
    intro us H1 H01 Lr L1 st rr en1
    cases ev : valsO rs with
    | none => rw [ev] at post; exact post.elim
    | some os =>
      rw [ev] at post
      simp only at post
      by_cases hl : os.length ≤ 1000
      · rw [if_pos hl] at post
        have ro := vals_rep rr ev
        refine ⟨by rw [ro.len]; exact size1000 hl, fun p hp => ?_⟩
        have s2 := step_new0 (o := .tup us) st.sep.ex hp
        have sp2 : Sep H01 H1 ((Lr ++ L1) ++ []) := by simpa using st.sep
        have s3 := Step.frame sp2 s2
        have s4 : Step H0 H L (upd H01 p (.tup us)) (upd H1 p (.tup us)) (Lr ++ L1) := by simpa using st.trans (s3.from fun a => by simp)
        have kp := Step.keepL sp2 s2
        exact post (.ref p) (upd H1 p (.tup us)) (upd H01 p (.tup us)) Lr L1 s4 (.tpl upd_same (ro.mono s2.ex0 fun a ha => kp a (List.mem_append_left _ ha))) (en1.mono s2.ex0 fun a ha => kp a (List.mem_append_right _ ha))
      · rw [if_neg hl] at post; exact post.elim
/-- x[k], x an own tuple: its part -/
def subD (i k : Nat) (g : G) : Option O → Res R
  | some (.pure d) => .ok (.val (.pure d)) g
  | some .hole => .stuck
  | some _ => .ok (.sub i k) g
  | none => .stuck
def subF (g : G) : Option D → Res R
  | some d => .ok (.val (.pure d)) g
  | none => .stuck
def subC (i k : Nat) (g : G) : Option O → Res R
  | some (.tpl os) => subD i k g os[k]?
  | some (.pure (.tup ds)) => subF g ds[k]?
  | _ => .stuck
def subE (i k : Nat) : E := fun g => subC i k g ((g[i]?).bind Slot.obj)
theorem se_sub (i k : Nat) {x : Str} {ki : Int} {p1 p2 pos : Pos} {j : _} (cx : Ctx W n Wx X) (hk : ki = (k : Int)) (h : PE X (.Name x p1) (tVar i)) (hs : PlainIx (.Constant (.int ki) j p2) := by intro _ _; rfl) : SE W vs Wx X (.Subscript (.Name x p1) (.Constant (.int ki) j p2) pos) (subE i k) := by
  refine pe_weak (pe_ix ix_tup h pe_int hs) fun σ H Q ⟨H0, L, g, sp, en, post⟩ => ?_
  unfold subE at post
  cases eg : g[i]? with
  | none => rw [eg] at post; exact post.elim
  | some sl =>
    rw [eg] at post
    simp only [Option.bind_some] at post
    cases eo : sl.obj with
    | none => rw [eo] at post; exact post.elim
    | some o =>
      rw [eo] at post
      have fin : ∀ {p : Addr} {us : List V} {v : V} {r : R} {Lr : List Addr}, σ[i]? = some (some (.ref p)) → SqT X.K H p us → us[k]? = some v → (∀ Q : V → Hp → Prop, PostE W vs Wx σ H0 H L (.ok r g) Q → Q v H) → PostE W vs Wx σ H0 H L (.ok r g) Q → tOp (rIxT X.K) (tVar i) (tC (.int ki)) σ H Q := by
        intro p us v r Lr h1 h2 h3 h4 h5
        refine ⟨.ref p, h1, ?_⟩
        refine ⟨p, us, ki, v, rfl, rfl, h2, ?_, h4 _ h5⟩
        rw [hk, atI_nat]; exact h3
      cases o with
      | tpl os =>
        simp only [subC] at post
        cases ek : os[k]? with
        | none => rw [ek] at post; exact post.elim
        | some o1 =>
          rw [ek] at post
          obtain ⟨p, us, v, La, Lo, Lb, h1, h2, h3, h4, h5, h6⟩ := en.sub eg eo ek
          have sq : SqT X.K H p us := SqT.of (sp.ex _ _ h2)
          have sb : PostE W vs Wx σ H0 H L (.ok (.sub i k) g) Q → tOp (rIxT X.K) (tVar i) (tC (.int ki)) σ H Q := fun post =>
            fin (r := .sub i k) (Lr := []) h1 sq h3 (fun Q q => q v H H0 [] L (Step.refl sp) ⟨⟨p, us, h1, h2, h3⟩, rfl⟩ en) post
          cases o1 with
          | pure d =>
            cases h4 with
            | pure f => exact fin (r := .val (.pure d)) (Lr := []) h1 sq h3 (fun Q q => q v H H0 [] L (Step.refl sp) (RepO.pure f) en) post
          | hole => exact post.elim
          | lst l => exact sb post
          | dic l => exact sb post
          | ins c fs => exact sb post
          | lls l => exact sb post
          | dct l => exact sb post
          | tpl l => exact sb post
      | pure d =>
        cases d with
        | tup ds =>
          simp only [subC] at post
          cases ek : ds[k]? with
          | none => rw [ek] at post; exact post.elim
          | some d1 =>
            rw [ek] at post
            obtain ⟨v0, La, Lo, Lb, h1, h2, h3, h4⟩ := en.at eg eo
            cases h2 with
            | pure f => cases f with
              | tup sq rf =>
                obtain ⟨v, g1, g2⟩ := rf.get ek
                exact fin (r := .val (.pure d1)) (Lr := []) h1 (by rw [cx.K]; exact ex_t sp.ex sq) g1 (fun Q q => q v H H0 [] L (Step.refl sp) (RepO.pure g2) en) post
        | _ => exact post.elim
      | hole => exact post.elim
      | lst l => exact post.elim
      | dic l => exact post.elim
      | ins c fs => exact post.elim
      | lls l => exact post.elim
      | dct l => exact post.elim
end
/-! steps -/
section
variable (i k : Nat) (g : G) (d : D) (l : List D) (os : List O)
theorem tplE_a (A : G → Res (List R)) : tplE A g = (A g).bind tplR := rfl
def tplB (g : G) : Option (List O) → Res R
  | some os => if os.length ≤ 1000 then .ok (.val (.tpl os)) g else .stuck
  | none => .stuck
theorem tplR_a (rs : List R) : tplR rs g = tplB g (valsO rs) := by unfold tplR tplB; cases valsO rs <;> rfl
theorem tplB_s (h : os.length ≤ 1000) : tplB g (some os) = .ok (.val (.tpl os)) g := by show (if os.length ≤ 1000 then Res.ok (R.val (.tpl os)) g else .stuck) = _; rw [if_pos h]
theorem vals_n : valsO [] = some [] := rfl
def valsC (o : O) : Option (List O) → Option (List O)
  | some os => some (o :: os)
  | none => none
theorem vals_c (o : O) (rs : List R) : valsO (.val o :: rs) = valsC o (valsO rs) := by rw [valsO]; cases valsO rs <;> rfl
theorem valsC_s (o : O) : valsC o (some os) = some (o :: os) := rfl
theorem subE_a : subE i k g = subC i k g ((g[i]?).bind Slot.obj) := rfl
theorem subC_t : subC i k g (some (.tpl os)) = subD i k g os[k]? := rfl
theorem subC_p (ds : List D) : subC i k g (some (.pure (.tup ds))) = subF g ds[k]? := rfl
theorem subF_s : subF g (some d) = .ok (.val (.pure d)) g := rfl
theorem subD_p : subD i k g (some (.pure d)) = .ok (.val (.pure d)) g := rfl
theorem subD_l : subD i k g (some (.lst l)) = .ok (.sub i k) g := rfl
theorem ob_sb : ob g (.sub i k) = ((g[i]?).bind Slot.obj).bind (subK k) := rfl
theorem subK_t : subK k (.tpl os) = os[k]? := rfl
theorem nm_pt : nmC i g (some (.par (.tpl os))) = .ok (.slot i) g := rfl
theorem nm_lt : nmC i g (some (.loc (.tpl os))) = .ok (.slot i) g := rfl
theorem takC_t (rs : List R) : takC i rs g (some (.tpl os)) = takB (.tpl os) (takes rs (setO g i .hole)) := rfl
theorem stoC_lt (o : O) : stoC i o g (some (.loc (.tpl os))) = some (g.set i (.loc o)) := rfl
theorem full_t : (O.tpl os).full = O.fullL os := by rw [O.full]
theorem fullL_n : O.fullL [] = true := by rw [O.fullL]
theorem fullL_c (o : O) : O.fullL (o :: os) = (o.full && O.fullL os) := by rw [O.fullL]
theorem er_t : (O.tpl os).er = .tup (O.erL os) := by rw [O.er]
theorem erL_n : O.erL [] = [] := by rw [O.erL]
theorem erL_c (o : O) : O.erL (o :: os) = o.er :: O.erL os := by rw [O.erL]
def takD (i k : Nat) (rs : List R) (g : G) : Option O → Option (List O × G)
  | some .hole => none
  | some o => takB o (takes rs (setS1 g i k .hole))
  | none => none
theorem takes_b (rs : List R) : takes (.sub i k :: rs) g = takD i k rs g (ob g (.sub i k)) := by
  rw [takes]
  cases ob g (.sub i k) with
  | none => rfl
  | some o => cases o <;> first | rfl | (simp only [takD, takB]; cases takes rs (setS1 g i k .hole) <;> rfl)
theorem takD_l (rs : List R) : takD i k rs g (some (.lst l)) = takB (.lst l) (takes rs (setS1 g i k .hole)) := rfl
theorem takD_p (rs : List R) : takD i k rs g (some (.pure d)) = takB (.pure d) (takes rs (setS1 g i k .hole)) := rfl
theorem puts_b (o : O) (rs : List R) (os : List O) : puts (.sub i k :: rs) (o :: os) g = puts rs os (setS1 g i k o) := rfl
def setS2 (g : G) (i k : Nat) (o : O) : Option O → G
  | some (.tpl os) => setO g i (.tpl (os.set k o))
  | _ => g
theorem setS1_a (o : O) : setS1 g i k o = setS2 g i k o ((g[i]?).bind Slot.obj) := by
  unfold setS1 setS2
  rcases (g[i]?).bind Slot.obj with _ | o1
  · rfl
  · cases o1 <;> rfl
theorem setS2_t (o : O) : setS2 g i k o (some (.tpl os)) = setO g i (.tpl (os.set k o)) := rfl
theorem has_b (rs : List R) : hasSlot (.sub i k :: rs) = true := rfl
theorem putR_b (o : O) : putR g (.sub i k) o = setS1 g i k o := rfl
theorem isHole_h : isHole .hole = true := rfl
theorem isHole_l : isHole (.lst l) = false := rfl
theorem isHole_p : isHole (.pure d) = false := rfl
end
end VI
namespace VI
open PySem PySem.Spec PyProof.Rows L2
/-! ### sets of tuples of ints out of lists of any length: few unlike ones -/
abbrev TK := Addr × List Int
/-- of these items fewer than sixty-three are unlike -/
def FewT (ks : List TK) : Prop := ∀ L : List TK, (L.map Prod.snd).Nodup → (∀ p ∈ L, p ∈ ks) → L.length + 1 < 64
section
variable {P : Program} {w : World} {A : Around} {R : Result → Shared → Prop} {I : Addr} {fp wr : List Addr} {G : Array GenState → Array GenState → Prop} {n : Nat} {Pv : Nat → Value → Prop} {St : Nat → Shared → Prop}
theorem loopTu (Wk : WalksS P w A.in1 I fp wr G n Pv St) (S : Addr) (nf : S ∉ fp) (ks : List TK) (hn : ks.length = n) (few : FewT ks) (vl : ∀ i v, Pv i v → ∃ p, ks[i]? = some p ∧ v = .ref p.1)
    (h0 : Heap) (hk : ∀ p ∈ ks, IsT P w h0 p.2 p.1) (eS : h0.get? S = none) (ew : ∀ b ∈ wr, h0.get? b = none) (hu : A.in1.units < cLine) :
    ∀ (m i : Nat) (s : Shared) (L : List TK) (es : Array (Int × Value)) (ep : Nat) (t : SetTable), n - i = m → i ≤ n → St i s → (∀ b o, h0.get? b = some o → s.heap.get? b = some o) → SetTR P w s.heap S L es ep t → Got ks i L →
      (∀ s' L es ep t, Moved (S :: wr) G s s' → SetTR P w s'.heap S L es ep t → Got ks n L → (∀ b o, h0.get? b = some o → s'.heap.get? b = some o) → R (.ok (.ret .none)) s') →
      codeAny (model P w) A (.builtin "set.update.loop" ⟨[.ref S, .ref I], []⟩) R s := by
  have nw : S ∉ wr := fun z => nf (Wk.sub _ z)
  have up : ∀ b ∈ wr, b ∈ S :: wr := fun b z => List.mem_cons_of_mem _ z
  have kept : ∀ {s s' : Shared}, Moved wr G s s' → (∀ b o, h0.get? b = some o → s.heap.get? b = some o) → ∀ b o, h0.get? b = some o → s'.heap.get? b = some o := fun mv kp b o e => by
    refine mv.heap b o (fun z => ?_) (kp b o e)
    rw [ew b z] at e; cases e
  intro m
  induction m with
  | zero =>
    intro i s L es ep t hm hi hs kp T g hR
    obtain rfl : i = n := by omega
    apply codeAny_builtin PyProof.Rows.F.entry_set_update_loop
    rw [Around.under_plainId PyProof.Rows.F.plain_set_update_loop _]
    show wpAny _ A.in1 (pyNext (.ref I) >>= _) _ _ s
    apply wpAny_bind
    apply Wk.done s _ _ hs
    intro s' mv
    show wpAny _ A.in1 (ret Value.none) _ _ s'
    have kp' := kept mv kp
    refine wpAny_pure (hR s' L es ep t (mv.mono up) (T.keep (fun o e => mv.heap S o nw e) fun p z => ?_) g kp')
    exact L2.isT_keep (hk p (List.mem_of_mem_take (g.sub p z))) kp'
  | succ m ih =>
    intro i s L es ep t hm hi hs kp T g hR
    have lt : i < n := by omega
    apply codeAny_builtin PyProof.Rows.F.entry_set_update_loop
    rw [Around.under_plainId PyProof.Rows.F.plain_set_update_loop _]
    show wpAny _ A.in1 (pyNext (.ref I) >>= _) _ _ s
    apply wpAny_bind
    apply Wk.item i s _ _ lt hs
    intro v s' hv hs' mv
    obtain ⟨p, ep', rfl⟩ := vl i v hv
    have kp' := kept mv kp
    have inK : ∀ q ∈ L, q ∈ ks := fun q z => List.mem_of_mem_take (g.sub q z)
    have T' : SetTR P w s'.heap S L es ep t := T.keep (fun o e => mv.heap S o nw e) fun q z => L2.isT_keep (hk q (inK q z)) kp'
    have px : IsT P w s'.heap p.2 p.1 := L2.isT_keep (hk p (List.mem_of_getElem? ep')) kp'
    have fw := few L T.nd inK
    show wpAny _ A.in1 (holding [Value.ref p.1] (setAdd S (.ref p.1)) >>= _) _ _ s'
    apply wpAny_bind
    apply wpAny_holding
    unfold setAdd
    apply wpAny_holding
    apply wpAny_bind
    apply wpAny_pyHash_tuple hu px
    apply add_at (s := { s' with toks := s'.toks + (p.2.length + 1) }) T' px hu fw
    intro b h' L' es' ep2 t' sb T2 c1 c2
    have g' : Got ks (i + 1) L' := by
      by_cases c : p.2 ∈ L.map Prod.snd
      · rw [c1 c]; exact g.same ep' c
      · exact g.more ep' (c2 c)
    have kp2 : ∀ b o, h0.get? b = some o → h'.get? b = some o := fun b o e => by
      refine (sb.2 b fun z => ?_).trans (kp' b o e)
      rw [z, eS] at e; cases e
    refine wpAny_pure ⟨plainId_quiet PyProof.Rows.F.plain_set_update_loop _, ih (i + 1) _ L' es' ep2 t' (by omega) lt ?_ kp2 T2 g' ?_⟩
    · refine Wk.frame _ s' _ _ hs' (Nat.le_add_right _ _) fun b z o e => ?_
      rw [sb.2 b fun q => nf (by rw [← q]; exact z)]; exact e
    · intro s3 L3 es3 ep3 t3 mv3 T3 g3 kp3
      refine hR s3 L3 es3 ep3 t3 (Moved.trans Wk.gtrans ?_ mv3) T3 g3 kp3
      refine (mv.mono up).then_heap (Nat.le_add_right _ _) fun b o z e => ?_
      rw [sb.2 b fun q => z (by rw [q]; exact List.mem_cons_self)]; exact e
end
section
variable {P : Program} {w : World} {A : Around} {E : Value → Shared → Prop} {s : Shared}
theorem call_set_tu {l : Addr} {items : Array Value} (ks : List TK) {Q : Value → Shared → Prop} (hh : A.handled = none) (hl : s.heap.IsList l items) (hx : items.toList = ks.map fun p => Value.ref p.1)
    (hk : ∀ p ∈ ks, IsT P w s.heap p.2 p.1) (few : FewT ks) (hu : A.units + 3 < cLine)
    (h : ∀ (h' : Heap) (tk : Nat) L es ep t, SetTR P w h' s.heap.objs.size L es ep t → Got ks ks.length L → (∀ b o, s.heap.get? b = some o → h'.get? b = some o) → Q (.ref s.heap.objs.size) { s with heap := h', toks := tk }) :
    wpAny (model P w) A (call (.type "set") [.ref l]) Q E s := by
  obtain ⟨c, tl, mro⟩ := PySem.F.called_set.mro
  have made := PySem.F.called_set.made
  have sub := PySem.F.called_set.sub
  apply wpAny_call
  apply codeAny_of_tree
  show wpAny _ _ (callAny (.type "set") _) _ _ _
  refine wpAny_pure ⟨Code.quiet_builtin _ (by decide +kernel), ?_⟩
  apply codeAny_builtin PySem.F.entry_type_call
  rw [Around.under_plain (weight_type_call_type "set" [.ref l] []) rfl]
  have u1 := PySem.F.called_set.notType
  have u2 := PySem.F.called_set.canCreate
  have u3 := PySem.F.typeCall_set_1 (.ref l)
  repeat (any_goals (first | wp_step | assumption))
  refine codeAny_mono (code_set_led1 (.ref l) (E := E) (Q₁ := fun r s₁ => r = .ref s.heap.objs.size ∧ s₁ = { s with heap := s.heap.push (setE w) }) ⟨rfl, rfl⟩) fun r s₁ g1 => ?_
  rcases r with e | fl
  · exact g1
  cases fl with
  | ret obj =>
    obtain ⟨rfl, rfl⟩ := g1
    have oS : (s.heap.push (setE w)).get? s.heap.objs.size = some (setE w) := Heap.get?_push_size _ rfl
    have tS : Shared.TypeIs { s with heap := s.heap.push (setE w) } (.ref s.heap.objs.size) "set" := ⟨_, oS, rfl⟩
    have v1 := PySem.F.called_set.init.lookup
    have v2 := PySem.F.called_set.init.bind (.ref s.heap.objs.size)
    repeat (any_goals (first | wp_step | assumption))
    refine codeAny_mono (codeAny_call_builtin (R := wants (fun r s₂ => r = .none ∧ ∃ h' tk L es ep t, s₂ = { s with heap := h', toks := tk } ∧ SetTR P w h' s.heap.objs.size L es ep t ∧ Got ks ks.length L ∧
      (∀ b o, s.heap.get? b = some o → h'.get? b = some o)) E) PySem.F.called_set.init.plain PySem.F.entry_set_init (check_set_init_1 tS ?_)) fun r₂ s₂ g2 => ?_
    · obtain ⟨⟨ocls, odict, odata, oslots⟩, hol, hcl, nl, hdl⟩ := hl
      dsimp only at hcl hdl
      subst hcl hdl
      have ol' : (s.heap.push (setE w)).get? l = some { cls := .type "list", dict := odict, data := .seq items nl, slots := oslots } := Heap.get?_push_of_some _ hol
      have w1 := PySem.F.sub_list_set
      have w2 := PySem.F.sub_list_frozenset
      have w3 : (Value.type "list" == Value.type "dict") = false := by decide
      have il : (s.heap.push (setE w)).IsList l items := ⟨_, ol', rfl, nl, rfl⟩
      unfold Builtin.«set.__init__» noKeywords Builtin.Frozenset.updateFrom
      generalize e0 : pyIter = PI
      wp_walk
      subst e0
      apply wpAny_pyIter_list il
      apply wpAny_bind
      apply wpAny_runValue
      have lS : l < s.heap.objs.size := Heap.lt_size hol
      have zS : (s.heap.push (setE w)).objs.size = s.heap.objs.size + 1 := Heap.size_push ..
      have hh3 : A.in1.in1.in1.handled = none := by simp [hh]
      have nI : l ≠ (s.heap.push (setE w)).objs.size := fun z => by rw [zS] at z; rw [z] at lS; exact absurd lS (Nat.not_lt_of_le (Nat.le_succ _))
      have nf : s.heap.objs.size ∉ [(s.heap.push (setE w)).objs.size, l] := by
        rw [zS]
        intro z
        rcases List.mem_cons.mp z with z | z
        · exact absurd z.symm (Nat.succ_ne_self _)
        · rw [List.mem_singleton.mp z] at lS; exact absurd lS (Nat.lt_irrefl _)
      have len : ks.length = items.size := by rw [← Array.length_toList, hx, List.length_map]
      have vl : ∀ (i : Nat) (v : Value), items[i]? = some v → ∃ p, ks[i]? = some p ∧ v = .ref p.1 := fun i v q => by
        have q2 : items.toList[i]? = some v := (Array.getElem?_toList ..).trans q
        rw [hx, List.getElem?_map] at q2
        obtain ⟨p, h1, h2⟩ := Option.map_eq_some_iff.mp q2
        exact ⟨p, h1, h2.symm⟩
      have no : ∀ b, s.heap.objs.size ≤ b → s.heap.get? b = none := fun b z => by
        cases q : s.heap.get? b with
        | none => rfl
        | some o => exact absurd (Heap.lt_size q) (Nat.not_lt_of_le z)
      refine loopTu ((Walks.list hh3 _ l nI items).toS) s.heap.objs.size nf ks len few vl s.heap hk (no _ (Nat.le_refl _)) (fun b z => no b (by rw [List.mem_singleton.mp z, zS]; exact Nat.le_succ _)) hu (items.size - 0) 0 _
        [] #[] 0 (.fresh 0 0 (!w.params.followText "set-order")) rfl (Nat.zero_le _) ⟨⟨_, Heap.get?_push_size _ rfl, rfl, rfl⟩, il.push _⟩ (fun b o e => Heap.get?_push_of_some _ (Heap.get?_push_of_some _ e)) (setTR_fresh (Heap.get?_push_of_some _ oS)) (Got.zero ks) ?_
      rintro ⟨h', g', d', tk', os'⟩ L es ep t mv T g kp
      have q1 : g' = s.gens := mv.gens
      have q2 : d' = s.drawn := mv.drawn
      have q3 : os' = s.os := mv.os
      subst q1 q2 q3
      show wpAny _ _ _ _ _ _
      apply wpAny_pure
      show wpAny _ _ (ret Value.none) _ _ _
      rw [← len] at g
      exact wpAny_pure ⟨rfl, h', tk', L, es, ep, t, rfl, T, g, kp⟩
    · rcases r₂ with e | fl₂
      · exact g2
      cases fl₂ with
      | ret r =>
        obtain ⟨rfl, h', tk, L, es, ep, t, rfl, T2, g3, k2⟩ := g2
        repeat (any_goals (first | wp_step | assumption))
        exact h h' tk L es ep t T2 g3 k2
      | _ => exact g2.elim
  | _ => exact g1.elim
end
end VI
namespace VI
open PySem PySem.Spec PyProof.Rows L2
/-! ### lists in order, each thing once -/
section
variable (O : PyProof.Rows.KeyOrd)
def insK (x : O.α) : List O.α → List O.α
  | [] => [x]
  | y :: l => if O.blt y x = true then y :: insK x l else x :: y :: l
def sortK (l : List O.α) : List O.α := l.foldr (insK O) []
theorem insK_perm (x : O.α) : ∀ l : List O.α, (insK O x l).Perm (x :: l)
  | [] => .refl _
  | y :: l => by
    unfold insK
    split
    · exact (List.Perm.cons y (insK_perm x l)).trans (List.Perm.swap x y l)
    · exact .refl _
theorem sortK_perm : ∀ l : List O.α, (sortK O l).Perm l
  | [] => .refl _
  | x :: l => (insK_perm O x (sortK O l)).trans ((sortK_perm l).cons x)
theorem kle_tr {a b c : O.α} (h1 : O.kle a b) (h2 : O.kle b c) : O.kle a c := by
  show O.blt c a = false
  cases e : O.blt c a with
  | false => rfl
  | true =>
    rcases O.negTrans c b a e with h | h
    · rw [show O.blt c b = false from h2] at h; cases h
    · rw [show O.blt b a = false from h1] at h; cases h
theorem insK_pw (x : O.α) : ∀ l : List O.α, l.Pairwise O.kle → (insK O x l).Pairwise O.kle
  | [], _ => by simp [insK]
  | y :: l, h => by
    obtain ⟨h1, h2⟩ := List.pairwise_cons.mp h
    unfold insK
    split
    · rename_i lt
      refine List.pairwise_cons.mpr ⟨fun z hz => ?_, insK_pw x l h2⟩
      rcases List.mem_cons.mp ((insK_perm O x l).mem_iff.mp hz) with rfl | hz
      · show O.blt z y = false
        cases e : O.blt z y with
        | false => rfl
        | true => have := O.trans _ _ _ lt e; rw [O.irrefl] at this; cases this
      · exact h1 z hz
    · rename_i lt
      have xy : O.kle x y := by
        show O.blt y x = false
        simpa using lt
      refine List.pairwise_cons.mpr ⟨fun z hz => ?_, h⟩
      rcases List.mem_cons.mp hz with rfl | hz
      · exact xy
      · exact kle_tr O xy (h1 z hz)
theorem sortK_pw : ∀ l : List O.α, (sortK O l).Pairwise O.kle
  | [] => .nil
  | x :: l => insK_pw O x _ (sortK_pw l)
theorem pw_one : ∀ {a b : List O.α}, a.Pairwise O.kle → b.Pairwise O.kle → a.Perm b → a = b
  | [], b, _, _, p => p.nil_eq
  | x :: a, [], _, _, p => by have := p.length_eq; simp at this
  | x :: a, y :: b, ha, hb, p => by
    obtain ⟨a1, a2⟩ := List.pairwise_cons.mp ha
    obtain ⟨b1, b2⟩ := List.pairwise_cons.mp hb
    have e : x = y := by
      rcases List.mem_cons.mp (p.mem_iff.mp (List.mem_cons_self)) with h | h
      · exact h
      · rcases List.mem_cons.mp (p.symm.mem_iff.mp (List.mem_cons_self)) with h2 | h2
        · exact h2.symm
        · exact O.total _ _ (b1 x h) (a1 y h2)
    subst e
    rw [pw_one a2 b2 p.cons_inv]
theorem sortK_eq {a b : List O.α} (h : a.Perm b) : sortK O a = sortK O b := pw_one O (sortK_pw O a) (sortK_pw O b) ((sortK_perm O a).trans (h.trans (sortK_perm O b).symm))
theorem sortK_is {a b : List O.α} (h : a.Perm b) (p : a.Pairwise O.kle) : a = sortK O b := pw_one O p (sortK_pw O b) (h.trans (sortK_perm O b).symm)
theorem sortK_mem {l : List O.α} {x : O.α} : x ∈ sortK O l ↔ x ∈ l := (sortK_perm O l).mem_iff
theorem sortK_len (l : List O.α) : (sortK O l).length = l.length := (sortK_perm O l).length_eq
end
section
variable {α : Type} [DecidableEq α]
def nubL (xs : List α) : List α := xs.foldl (fun l x => if x ∈ l then l else x :: l) []
theorem nubF_mem : ∀ (xs l : List α) (y : α), y ∈ xs.foldl (fun l x => if x ∈ l then l else x :: l) l ↔ y ∈ l ∨ y ∈ xs
  | [], l, y => by simp
  | x :: xs, l, y => by
    rw [List.foldl_cons, nubF_mem xs]
    split
    · rename_i hx
      constructor
      · rintro (h | h)
        · exact .inl h
        · exact .inr (List.mem_cons_of_mem _ h)
      · rintro (h | h)
        · exact .inl h
        · rcases List.mem_cons.mp h with rfl | h
          · exact .inl hx
          · exact .inr h
    · simp only [List.mem_cons]
      constructor
      · rintro ((h | h) | h)
        · exact .inr (.inl h)
        · exact .inl h
        · exact .inr (.inr h)
      · rintro (h | h | h)
        · exact .inl (.inr h)
        · exact .inl (.inl h)
        · exact .inr h
theorem nubF_nd : ∀ (xs l : List α), l.Nodup → (xs.foldl (fun l x => if x ∈ l then l else x :: l) l).Nodup
  | [], l, h => h
  | x :: xs, l, h => by
    rw [List.foldl_cons]
    refine nubF_nd xs _ ?_
    show (if x ∈ l then l else x :: l).Nodup
    split
    · exact h
    · rename_i hx; exact List.nodup_cons.mpr ⟨hx, h⟩
theorem nubL_mem (xs : List α) (y : α) : y ∈ nubL xs ↔ y ∈ xs := by
  unfold nubL
  rw [nubF_mem]
  simp
theorem nubL_nd (xs : List α) : (nubL xs).Nodup := nubF_nd xs [] (by simp)
theorem len_sub : ∀ {l m : List α}, l.Nodup → (∀ x ∈ l, x ∈ m) → l.length ≤ m.length
  | [], _, _, _ => by simp
  | x :: l, m, nd, hs => by
    obtain ⟨n1, n2⟩ := List.nodup_cons.mp nd
    have p := (List.perm_cons_erase (hs x (by simp))).length_eq
    have := len_sub (m := m.erase x) n2 fun y hy => (List.mem_erase_of_ne (a := y) (b := x) (fun e => n1 (by rw [← e]; exact hy))).mpr (hs y (List.mem_cons_of_mem _ hy))
    simp only [List.length_cons] at p ⊢
    omega
theorem nd_perm {l m : List α} (h1 : l.Nodup) (h2 : m.Nodup) (h : ∀ x, x ∈ l ↔ x ∈ m) : l.Perm m := (List.perm_ext_iff_of_nodup h1 h2).mpr h
theorem nubL_len (xs : List α) : (nubL xs).length ≤ xs.length := len_sub (nubL_nd xs) fun x h => (nubL_mem xs x).mp h
theorem nubL_of_nd {xs : List α} (h : xs.Nodup) : (nubL xs).Perm xs := nd_perm (nubL_nd xs) h (nubL_mem xs)
end
@[reducible] def iOrd : PyProof.Rows.KeyOrd where
  α := Int
  blt := fun a b => decide (a < b)
  irrefl := fun a => by simp
  trans := fun a b c h1 h2 => by simp only [decide_eq_true_eq] at *; omega
  negTrans := fun a b c h => by simp only [decide_eq_true_eq] at *; omega
  total := fun a b h1 h2 => by simp only [decide_eq_false_iff_not] at *; omega
/-- tuples of ints in their order -/
abbrev tupO : PyProof.Rows.KeyOrd := listOrd iOrd
theorem lex_inl : ∀ a b : List Int, PyProof.Rows.lexLt itemOrd (a.map Sum.inl) (b.map Sum.inl) = PyProof.Rows.lexLt iOrd a b
  | [], [] => rfl
  | [], _ :: _ => rfl
  | _ :: _, [] => rfl
  | x :: a, y :: b => by
    rw [List.map_cons, List.map_cons, lex_cons, lex_cons, lex_inl a b]
    rfl
theorem perm_map_ex {α β : Type} (f : α → β) : ∀ {ks : List α} {l : List β}, l.Perm (ks.map f) → ∃ ks' : List α, ks'.Perm ks ∧ l = ks'.map f
  | [], l, h => ⟨[], .refl _, List.Perm.eq_nil h⟩
  | k :: ks, l, h => by
    obtain ⟨a, b, rfl⟩ := List.append_of_mem (h.mem_iff.mpr (by simp : f k ∈ (k :: ks).map f))
    have p : (a ++ b).Perm (ks.map f) := (List.perm_middle.symm.trans h).cons_inv
    obtain ⟨ks', p', e⟩ := perm_map_ex f p
    have e1 : a = (ks'.take a.length).map f := by rw [List.map_take, ← e]; simp
    have e2 : b = (ks'.drop a.length).map f := by rw [List.map_drop, ← e]; simp
    refine ⟨ks'.take a.length ++ k :: ks'.drop a.length, ?_, ?_⟩
    · refine List.perm_middle.trans ?_
      rw [List.take_append_drop]
      exact p'.cons k
    · rw [List.map_append, List.map_cons]
      exact congr (congrArg _ e1) (congrArg _ e2)
/-! ### sorting tuples of ints -/
section
variable {P : Program} {w : World}
theorem keyC_of {h : Heap} {k : List Int} {a : Addr} (x : IsT P w h k a) : G.tupKeyC h (fun _ => false) (.ref a) = some (k.map Sum.inl) := by
  obtain ⟨o, items, n, ho, hc, hd, hi⟩ := x
  have it : ∀ (i : Nat) (k : List Int) (vs : List Value), ItemsAre (intKind P w) k vs → tupItems (fun _ => false) i vs = some (k.map Sum.inl) := by
    intro i k vs hi
    induction hi generalizing i with
    | nil => simp [tupItems]
    | @cons k0 v ks vs h1 _ ih =>
      obtain ⟨t, rfl⟩ := Value.isInt_shape h1
      simp [tupItems, ih]
  unfold G.tupKeyC
  rw [if_pos (by simp [G.isTupObj, ho, hc])]
  simp [tupKey, ho, hd, it 0 k _ hi]
theorem tupOf_of {h : Heap} {k : List Int} {a : Addr} (x : IsT P w h k a) (ne : k ≠ []) : ∃ f, TupOf h (fun _ => false) (.ref a) f := by
  obtain ⟨o, items, n, ho, hc, hd, hi⟩ := x
  cases hk : items.toList with
  | nil => rw [hk] at hi; cases hi; exact absurd rfl ne
  | cons v r =>
    rw [hk] at hi
    cases hi with
    | @cons k0 _ _ _ h1 _ =>
      obtain ⟨t, rfl⟩ := Value.isInt_shape h1
      refine ⟨Value.int k0 t, a, o, items, n, rfl, ho, hc, hd, ?_, fun _ => ⟨_, _, rfl⟩, fun z => nomatch (z : false = true)⟩
      rw [← Array.getElem?_toList, hk]; rfl
theorem tupsOf_of {h : Heap} : ∀ {ks : List TK}, (∀ p ∈ ks, IsT P w h p.2 p.1 ∧ p.2 ≠ []) → ∃ fs, TupsOf h (fun _ => false) (ks.map fun p => Value.ref p.1) fs
  | [], _ => ⟨[], .nil⟩
  | p :: ks, hk => by
    obtain ⟨f, hf⟩ := tupOf_of (hk p (by simp)).1 (hk p (by simp)).2
    obtain ⟨fs, hfs⟩ := tupsOf_of fun q hq => hk q (List.mem_cons_of_mem _ hq)
    exact ⟨f :: fs, .cons hf hfs⟩
theorem zip_same {α : Type} : ∀ {l : List α} {p : α × α}, p ∈ l.zip l → p.1 = p.2 ∧ p.1 ∈ l
  | x :: l, p, h => by
    rw [List.zip_cons_cons] at h
    rcases List.mem_cons.mp h with rfl | h
    · exact ⟨rfl, by simp⟩
    · obtain ⟨a, b⟩ := zip_same h
      exact ⟨a, List.mem_cons_of_mem _ b⟩
/-- what a sort of these tuples leaves -/
theorem sorted_keys {h : Heap} {ks : List TK} (hk : ∀ p ∈ ks, IsT P w h p.2 p.1) {xs : Array Keyed} (pm : xs.Perm (pairsOf (ks.map fun p => Value.ref p.1))) (so : SortedToK (G.tupKindC h (fun _ => false)) xs (pairsOf (ks.map fun p => Value.ref p.1)).size) :
    ∃ ks' : List TK, ks'.Perm ks ∧ (xs.map (·.2)).toList = ks'.map (fun p => Value.ref p.1) ∧ ks'.map Prod.snd = sortK tupO (ks.map Prod.snd) := by
  have pl : xs.toList.Perm ((ks.map fun p => Value.ref p.1).zip (ks.map fun p => Value.ref p.1)) := by
    have := pm.toList
    rwa [pairsOf_toList] at this
  have pm2 : (xs.map (·.2)).toList.Perm (ks.map fun p => Value.ref p.1) := by
    rw [Array.toList_map]
    have := pl.map Prod.snd
    rwa [List.map_snd_zip (Nat.le_refl _)] at this
  obtain ⟨ks', p', e'⟩ := perm_map_ex _ pm2
  refine ⟨ks', p', e', ?_⟩
  have keys : KeysOf (G.tupKindC h (fun _ => false)) xs := fun p hp => by
    obtain ⟨_, hm⟩ := zip_same (pl.mem_iff.mp hp)
    obtain ⟨q, hq, e⟩ := List.mem_map.mp hm
    exact ⟨_, by rw [← e]; exact keyC_of (hk q hq)⟩
  have pw := keyLe_of_sorted keys (by rw [pm.size_eq]; exact so)
  have same : xs.toList = (xs.map (·.2)).toList.map fun v => (v, v) := by
    rw [Array.toList_map, List.map_map]
    refine (List.map_id _).symm.trans (List.map_congr_left fun p hp => ?_)
    obtain ⟨e, _⟩ := zip_same (pl.mem_iff.mp hp)
    show p = (p.2, p.2)
    rw [← e]
    exact Prod.ext rfl e.symm
  rw [same, e', List.map_map] at pw
  refine sortK_is tupO (p'.map Prod.snd) ?_
  refine List.pairwise_map.mpr ((List.pairwise_map.mp pw).imp_of_mem fun {p q} hp hq hle => ?_)
  obtain ⟨a, b, ea, eb, le⟩ := hle
  have k1 := keyC_of (hk p (p'.mem_iff.mp hp))
  have k2 := keyC_of (hk q (p'.mem_iff.mp hq))
  have e1 : p.2.map Sum.inl = a := Option.some.inj (k1.symm.trans ea)
  have e2 : q.2.map Sum.inl = b := Option.some.inj (k2.symm.trans eb)
  subst e1 e2
  show PyProof.Rows.lexLt iOrd q.2 p.2 = false
  rw [← lex_inl]
  exact le
end
section
variable {P : Program} {w : World} {A : Around} {E : Value → Shared → Prop} {s : Shared}
theorem sortedTu {l : Addr} {ks : List TK} {Q : Value → Shared → Prop} (hl : s.heap.IsList l (ks.map fun p => Value.ref p.1).toArray) (hk : ∀ p ∈ ks, IsT P w s.heap p.2 p.1) (ne : ks.length ≤ 1 ∨ ∀ p ∈ ks, p.2 ≠ []) (hL : ks.length ≤ sizeLine)
    (h : ∀ (out : Array Value) (ks' : List TK), ks'.Perm ks → out.toList = ks'.map (fun p => Value.ref p.1) → ks'.map Prod.snd = sortK tupO (ks.map Prod.snd) → Q (.ref (s.heap.objs.size + 1)) { s with heap := sortedAll s.heap (ks.map fun p => Value.ref p.1) out }) :
    wpAny (model P w) A (call (.builtin "sorted") [.ref l]) Q E s := by
  refine G.sortedG (κ := G.tupKindC s.heap (fun _ => false)) (kd := tuples' true) hl (G.tupKeys fun v hv => ?_) (fun s₂ k => G.tupC_ltAt (s := s₂) true k) (fun h2 A2 E2 s₂ Q2 k hq => ?_) (by simpa using hL) fun st' a1 a2 a3 => ?_
  · obtain ⟨p, hp, rfl⟩ := List.mem_map.mp hv
    exact ⟨_, keyC_of (hk p hp)⟩
  · have ne2 : ∀ p ∈ ks, p.2 ≠ [] := ne.resolve_left fun z => by rw [List.length_map] at h2; omega
    obtain ⟨fs, hfs⟩ := tupsOf_of fun p hp => ⟨hk p hp, ne2 p hp⟩
    exact tup_kind (by rw [G.TupsOf.length hfs]; omega) (G.TupsOf.keep k hfs) hq
  · obtain ⟨ks', p', e', o'⟩ := sorted_keys hk a1 a2
    exact h _ ks' p' e' o'
/-- sorted of a set of tuples -/
theorem sortedSetTu {a : Addr} {L : List TK} {es : Array (Int × Value)} {ep : Nat} {t : SetTable} {Q : Value → Shared → Prop} (T : SetTR P w s.heap a L es ep t) (hh : A.handled = none) (ne : L.length ≤ 1 ∨ ∀ p ∈ L, p.2 ≠ [])
    (hQ : ∀ s' p (out : Array Value) (c : Nat) (L' : List TK), (∀ b o, s.heap.get? b = some o → s'.heap.get? b = some o) → s'.gens = s.gens → s'.os = s.os → s.heap.objs.size ≤ p →
      s'.heap.get? p = some (seqObj "list" out c) → out.toList = L'.map (fun q => Value.ref q.1) → L'.Perm L → L'.map Prod.snd = sortK tupO (L.map Prod.snd) → Q (.ref p) s') :
    wpAny (model P w) A (call (.builtin "sorted") [.ref a]) Q E s := by
  obtain ⟨o, ho, hex, hd⟩ := T.ob
  have sz := T.size
  have few := T.few
  apply Calls.call_function_entry kind_sorted plain_sorted entry_sorted (args_sorted1 _)
  unfold Builtin.«sorted»
  apply wpAny_bind (m := checkCount "sorted" 1 1 _)
  apply wpAny_pure
  apply wpAny_bind
  apply collect_set (A := A.in1) hh ⟨o, ho, hex.1, hd⟩ T.fits (by unfold scanBound; omega) T.tab.ris T.led
  intro s1 vs k1 z1 g1 o1 pm
  have ee : es.toList.map (·.2) = L.map fun q => Value.ref q.1 := by
    rw [T.rows]
    unfold rowsOf
    rw [List.map_map]; rfl
  rw [ee] at pm
  obtain ⟨L1, p1, rfl⟩ := perm_map_ex _ pm
  have vl : L1.length = L.length := p1.length_eq
  refine wpAny_bind (wpAny_newList ?_ (by rw [List.length_map, vl, sizeLine_eq]; omega))
  have oL : (s1.heap.push (seqObj "list" (L1.map fun q => Value.ref q.1).toArray 0)).get? s1.heap.objs.size = some (seqObj "list" (L1.map fun q => Value.ref q.1).toArray 0) := Heap.get?_push_size _ rfl
  have tk : ∀ q ∈ L1, IsT P w (s1.heap.push (seqObj "list" (L1.map fun q => Value.ref q.1).toArray 0)) q.2 q.1 := fun q hq => L2.isT_keep (T.tup q (p1.mem_iff.mp hq)) fun b u e => Heap.get?_push_of_some _ (k1 b u e)
  apply wpAny_bind
  apply wpAny_holding
  have k6 := G.keeps_sort6 (vs := L1.map fun q => Value.ref q.1) oL
  refine wpAny_call_entry slot_list_sort ⟨_, oL, rfl⟩ entry_list_sort (G.list_sort_treeG (s := { s1 with heap := s1.heap.push (seqObj "list" (L1.map fun q => Value.ref q.1).toArray 0) }) (κ := G.tupKindC (s1.heap.push (seqObj "list" (L1.map fun q => Value.ref q.1).toArray 0)) (fun _ => false)) (kd := tuples' true) oL (G.tupKeys fun v hv => ?_) (G.tupC_ltAt (s := { s1 with heap := G.sortHeap6 _ s1.heap.objs.size (L1.map fun q => Value.ref q.1) }) true k6) (fun h2 {Q2} hq => ?_) (by rw [List.length_map, vl, sizeLine_eq]; omega) fun st' a1 a2 a3 => ⟨_, rfl, ?_⟩) (args_list_sort _)
  · obtain ⟨p, hp, rfl⟩ := List.mem_map.mp hv
    exact ⟨_, keyC_of (tk p hp)⟩
  · have ne2 : ∀ p ∈ L, p.2 ≠ [] := ne.resolve_left fun z => by rw [List.length_map] at h2; omega
    obtain ⟨fs, hfs⟩ := tupsOf_of fun p hp => ⟨tk p hp, ne2 p (p1.mem_iff.mp hp)⟩
    exact tup_kind (by rw [G.TupsOf.length hfs]; omega) (G.TupsOf.keep k6 hfs) hq
  obtain ⟨L', p', e', o'⟩ := sorted_keys tk a1 a2
  obtain ⟨c, hc⟩ := sortedHeap_at (vs := L1.map fun q => Value.ref q.1) (out := (arrOf st').map (·.2)) oL
  refine wpAny_pure ⟨_, rfl, hQ _ s1.heap.objs.size _ c L' (fun b u e => ?_) g1 o1 z1 hc e' (p'.trans p1) (o'.trans (sortK_eq tupO (p1.map Prod.snd)))⟩
  have q := k1 b u e
  have lt := Heap.lt_size q
  show (sortedHeap (s1.heap.push (seqObj "list" (L1.map fun q => Value.ref q.1).toArray 0)) s1.heap.objs.size (L1.map fun q => Value.ref q.1) _).get? b = some u
  rw [sortedHeap_old (Nat.ne_of_lt lt) (by rw [size_push']; exact Nat.lt_succ_of_lt lt)]
  exact Heap.get?_push_of_some _ q
end
end VI
namespace VI
open PySem PySem.Spec PyProof.Rows L2
/-! ### sorted(tuples), sorted(set(tuples)), len(set(tuples)) -/
def tupI (x : List Int) : D := .tup (x.map D.int)
theorem intsD_is : ∀ {l : List D} {xs : List Int}, intsD l = some xs → l = xs.map D.int
  | [], xs, h => by cases h; rfl
  | d :: l, xs, h => by
    cases d with
    | int i =>
      rw [intsD] at h
      obtain ⟨ys, h1, h2⟩ := Option.map_eq_some_iff.mp h
      subst h2
      rw [List.map_cons, ← intsD_is h1]
    | _ => cases h
def tupsD : List D → Option (List (List Int))
  | [] => some []
  | .tup d :: l => (intsD d).bind fun x => (tupsD l).map (x :: ·)
  | _ :: _ => none
theorem tupsD_map : ∀ xs : List (List Int), tupsD (xs.map tupI) = some xs
  | [] => rfl
  | x :: xs => by rw [List.map_cons, tupI, tupsD, tupsD_map xs, intsD_map]; rfl
theorem tupsD_is : ∀ {l : List D} {xs : List (List Int)}, tupsD l = some xs → l = xs.map tupI
  | [], xs, h => by cases h; rfl
  | d :: l, xs, h => by
    cases d with
    | tup t =>
      rw [tupsD] at h
      obtain ⟨y, e1, e2⟩ := Option.bind_eq_some_iff.mp h
      obtain ⟨ys, h1, h2⟩ := Option.map_eq_some_iff.mp e2
      subst h2
      rw [List.map_cons, ← tupsD_is h1, tupI, ← intsD_is e1]
    | _ => cases h
theorem ints_repU {W : Wd} {H : Hp} : ∀ {us : List V} {xs : List Int}, RepFs W H us (xs.map D.int) → us = xs.map V.int
  | _, [], .nil => rfl
  | _, x :: xs, .cons a r => by
    cases a
    rw [List.map_cons, ← ints_repU r]
theorem reps_intsU {W : Wd} {H : Hp} : ∀ xs : List Int, RepFs W H (xs.map V.int) (xs.map D.int)
  | [] => .nil
  | x :: xs => .cons (.int x) (reps_intsU xs)
theorem tups_repU {W : Wd} {H : Hp} : ∀ {us : List V} {xs : List (List Int)}, RepFs W H us (xs.map tupI) → ∃ ks : List TK, us = ks.map (fun p => V.ref p.1) ∧ ks.map Prod.snd = xs ∧ ∀ p ∈ ks, SqT W.K H p.1 (p.2.map V.int)
  | _, [], .nil => ⟨[], rfl, rfl, by simp⟩
  | _, x :: xs, .cons a r => by
    obtain ⟨ks, e1, e2, e3⟩ := tups_repU r
    unfold tupI at a
    cases a with
    | tup sq rs =>
      have := ints_repU rs
      subst this
      refine ⟨(_, x) :: ks, by rw [List.map_cons, ← e1], by rw [List.map_cons, e2], fun p hp => ?_⟩
      rcases List.mem_cons.mp hp with rfl | hp
      · exact sq
      · exact e3 p hp
theorem reps_tupsU {W : Wd} {H : Hp} : ∀ {ks : List TK}, (∀ p ∈ ks, SqT W.K H p.1 (p.2.map V.int)) → RepFs W H (ks.map fun p => V.ref p.1) ((ks.map Prod.snd).map tupI)
  | [], _ => .nil
  | p :: ks, h => .cons (.tup (h p (by simp)) (reps_intsU _)) (reps_tupsU fun q hq => h q (List.mem_cons_of_mem _ hq))
def neOk (xs : List (List Int)) : Bool := decide (xs.length ≤ 1) || xs.all fun x => !x.isEmpty
theorem neOk_is {ks : List TK} (h : neOk (ks.map Prod.snd) = true) : ks.length ≤ 1 ∨ ∀ p ∈ ks, p.2 ≠ [] := by
  unfold neOk at h
  rcases Bool.or_eq_true _ _ ▸ h with h | h
  · exact .inl (by simpa using h)
  · refine .inr fun p hp e => ?_
    have := List.all_eq_true.mp h p.2 (List.mem_map_of_mem hp)
    rw [e] at this; simp at this
def sortTL (l : List D) : Option O := (tupsD l).bind fun xs => if neOk xs = true then some (.lst ((sortK tupO xs).map tupI)) else none
def sortTO : O → Option O
  | .lst l => sortTL l
  | .pure (.lst l) => sortTL l
  | _ => none
theorem sortT_l (xs : List (List Int)) (h : neOk xs = true) : sortTO (.lst (xs.map tupI)) = some (.lst ((sortK tupO xs).map tupI)) := by
  show sortTL _ = _
  unfold sortTL
  rw [tupsD_map, Option.bind_some, if_pos h]
theorem sortT_p (xs : List (List Int)) (h : neOk xs = true) : sortTO (.pure (.lst (xs.map tupI))) = some (.lst ((sortK tupO xs).map tupI)) := by
  show sortTL _ = _
  unfold sortTL
  rw [tupsD_map, Option.bind_some, if_pos h]
/-- the unlike ones in order -/
def usort (xs : List (List Int)) : List (List Int) := sortK tupO (nubL xs)
def ssetTL (l : List D) : Option O := (tupsD l).bind fun xs => if neOk (nubL xs) = true ∧ (nubL xs).length < 63 then some (.lst ((usort xs).map tupI)) else none
def ssetTO : O → Option O
  | .lst l => ssetTL l
  | .pure (.lst l) => ssetTL l
  | _ => none
theorem ssetT_l (xs : List (List Int)) (h : neOk (nubL xs) = true) (h2 : (nubL xs).length < 63) : ssetTO (.lst (xs.map tupI)) = some (.lst ((usort xs).map tupI)) := by
  show ssetTL _ = _
  unfold ssetTL
  rw [tupsD_map, Option.bind_some, if_pos ⟨h, h2⟩]
theorem ssetT_p (xs : List (List Int)) (h : neOk (nubL xs) = true) (h2 : (nubL xs).length < 63) : ssetTO (.pure (.lst (xs.map tupI))) = some (.lst ((usort xs).map tupI)) := by
  show ssetTL _ = _
  unfold ssetTL
  rw [tupsD_map, Option.bind_some, if_pos ⟨h, h2⟩]
def slenTL (l : List D) : Option O := (tupsD l).bind fun xs => if (nubL xs).length < 63 then some (.pure (.int (((nubL xs).length : Nat) : Int))) else none
def slenTO : O → Option O
  | .lst l => slenTL l
  | .pure (.lst l) => slenTL l
  | _ => none
theorem slenT_l (xs : List (List Int)) (h : (nubL xs).length < 63) : slenTO (.lst (xs.map tupI)) = some (.pure (.int (((nubL xs).length : Nat) : Int))) := by
  show slenTL _ = _
  unfold slenTL
  rw [tupsD_map, Option.bind_some, if_pos h]
theorem slenT_p (xs : List (List Int)) (h : (nubL xs).length < 63) : slenTO (.pure (.lst (xs.map tupI))) = some (.pure (.int (((nubL xs).length : Nat) : Int))) := by
  show slenTL _ = _
  unfold slenTL
  rw [tupsD_map, Option.bind_some, if_pos h]
theorem few_of {ks : List TK} (h : (nubL (ks.map Prod.snd)).length < 63) : FewT ks := fun L nd hs => by
  have : (L.map Prod.snd).length ≤ (nubL (ks.map Prod.snd)).length := len_sub nd fun x hx => by
    obtain ⟨p, hp, rfl⟩ := List.mem_map.mp hx
    exact (nubL_mem _ _).mpr (List.mem_map_of_mem (hs p hp))
  rw [List.length_map] at this
  omega
theorem got_nub {ks L : List TK} (g : Got ks ks.length L) (nd : (L.map Prod.snd).Nodup) : (L.map Prod.snd).Perm (nubL (ks.map Prod.snd)) := by
  refine nd_perm nd (nubL_nd _) fun x => ⟨fun hx => ?_, fun hx => ?_⟩
  · obtain ⟨p, hp, rfl⟩ := List.mem_map.mp hx
    exact (nubL_mem _ _).mpr (List.mem_map_of_mem (List.mem_of_mem_take (g.sub p hp)))
  · obtain ⟨p, hp, rfl⟩ := List.mem_map.mp ((nubL_mem _ _).mp hx)
    exact g.all p (by rw [List.take_length]; exact hp)
section
variable {W : Wd} {X : Cx} {vs : List (Option V)} {Wx : WX} {n : Nat}
abbrev TupsAt (K : PySem.W.Frag) (H1 : Hp) (l : Addr) (ks : List TK) : Prop := SqL K H1 l (ks.map fun p => V.ref p.1) ∧ ∀ p ∈ ks, SqT K H1 p.1 (p.2.map V.int)
def tSortTu (K : PySem.W.Frag) (ta : TE) : TE := fun σ H Q => ta σ H fun x H1 => ∃ (l : Addr) (ks : List TK), x = .ref l ∧ TupsAt K H1 l ks ∧ neOk (ks.map Prod.snd) = true ∧
  ∀ (ks' : List TK) (p : Addr), ks'.Perm ks → ks'.map Prod.snd = sortK tupO (ks.map Prod.snd) → H1 p = none → Q (.ref p) (upd H1 p (.lst (ks'.map fun q => V.ref q.1)))
theorem pe_sortTu {a : Expr} {ta : TE} {p pos : Pos} (hg : Gl X "sorted") (hm : X.mg "sorted" = none) (ha : PE X a ta)
    (na : starEach [a] X.env = (false, eval a X.env) :: starEach [] X.env := by rfl) : PE X (.Call (.Name "sorted" p) [a] [] pos) (tSortTu X.K ta) := by
  refine ⟨fun pins s σ H Q I h => ?_⟩
  refine Call_ (ld_blt (u := .builtin "sorted") I hg hm (by decide +kernel) ?_)
  refine callWith_builtin1 (args_cons (thn (ha.run pins s σ H _ I h) fun v s1 ⟨x, H1, I1, r1, q1⟩ => args_nil ?_) na) na rfl
  obtain ⟨l, ks, rfl, ⟨hq, hk⟩, ne, q1⟩ := q1
  cases r1
  obtain ⟨its, r, pl, hz⟩ := I1.list hq
  have e := refs_of_vals r
  subst e
  refine sortedTu (P := X.prog) (w := X.w) pl.isList (fun p hp => I1.isT (hk p hp)) (neOk_is ne) (by simpa using hz) fun out ks' pm e o => ?_
  obtain ⟨c, hc⟩ := sortedAll_at s1.heap (ks.map fun p => Value.ref p.1) out
  have hn : H1 (s1.heap.objs.size + 1) = none := I1.hok.fresh (Nat.le_succ _)
  have hlen : (ks'.map fun q => V.ref q.1).length ≤ sizeLine := by rw [List.length_map, pm.length_eq]; simpa using hz
  refine ⟨.ref _, upd H1 (s1.heap.objs.size + 1) (.lst (ks'.map fun q => V.ref q.1)), I1.laid (t' := s1.toks) (fun _ _ => sortedAll_old) (Nat.le_succ _) ⟨hlen, out.toList, c, ?_, hc⟩, rfl, q1 _ _ pm o hn⟩
  rw [e]
  exact vals_of_refs ks'
def tSetTu (K : PySem.W.Frag) (ta : TE) : TE := fun σ H Q => ta σ H fun x H1 => ∃ (l : Addr) (ks : List TK), x = .ref l ∧ TupsAt K H1 l ks ∧ neOk (nubL (ks.map Prod.snd)) = true ∧ (nubL (ks.map Prod.snd)).length < 63 ∧
  ∀ (ks' : List TK) (p : Addr), (∀ q ∈ ks', q ∈ ks) → ks'.map Prod.snd = usort (ks.map Prod.snd) → H1 p = none → Q (.ref p) (upd H1 p (.lst (ks'.map fun q => V.ref q.1)))
theorem pe_setTu {a : Expr} {ta : TE} {p p2 q pos : Pos} (hc : X.calm = true) (hu : X.A.units + 64 < cLine) (hg : Gl X "sorted") (hm : X.mg "sorted" = none) (hg2 : Gl X "set") (hm2 : X.mg "set" = none) (ha : PE X a ta)
    (na : starEach [a] X.env = (false, eval a X.env) :: starEach [] X.env := by rfl) : PE X (.Call (.Name "sorted" p) [.Call (.Name "set" p2) [a] [] q] [] pos) (tSetTu X.K ta) := by
  refine ⟨fun pins s σ H Q I h => ?_⟩
  refine Call_ (ld_blt (u := .builtin "sorted") I hg hm (by decide +kernel) ?_)
  refine callWith_builtin1 (args_cons ?_ rfl) rfl rfl
  refine Call_ (ld_blt I hg2 hm2 boot_set ?_)
  refine callWith_type1 (args_cons (thn (ha.run pins s σ H _ I h) fun v s1 ⟨x, H1, I1, r1, q1⟩ => args_nil ?_) na) na rfl
  obtain ⟨l, ks, rfl, ⟨hq, hk⟩, ne, few, q1⟩ := q1
  cases r1
  obtain ⟨its, r, pl, hz⟩ := I1.list hq
  have e := refs_of_vals r
  subst e
  refine call_set_tu (P := X.prog) (w := X.w) ks (I1.ok.hd hc) pl.isList (by simp) (fun p hp => I1.isT (hk p hp)) (few_of few) (by omega) fun h' tk L es ep t T g k2 => ?_
  apply args_nil
  have I2 : Inv X pins σ H1 { s1 with heap := h', toks := tk } := I1.kept k2
  have T2 : SetTR X.prog X.w ({ s1 with heap := h', toks := tk } : Shared).heap s1.heap.objs.size L es ep t := T
  generalize ({ s1 with heap := h', toks := tk } : Shared) = s2 at I2 T2 ⊢
  have nu := got_nub g T.nd
  have ne2 : L.length ≤ 1 ∨ ∀ p ∈ L, p.2 ≠ [] := by
    have : neOk (L.map Prod.snd) = true := by
      unfold neOk at ne ⊢
      rcases Bool.or_eq_true _ _ ▸ ne with h | h
      · have := nu.length_eq
        simp only [decide_eq_true_eq] at h
        rw [decide_eq_true (by omega)]; rfl
      · refine (Bool.or_eq_true _ _).mpr (.inr (List.all_eq_true.mpr fun x hx => List.all_eq_true.mp h x (nu.mem_iff.mp hx)))
    exact neOk_is this
  refine sortedSetTu (s := s2) T2 (I2.ok.hd hc) ne2 fun s' p out c ks' k g2 o hp hget hi pm hs => ?_
  have hlen : (ks'.map fun q => V.ref q.1).length ≤ sizeLine := by have := T.few; rw [List.length_map, pm.length_eq, sizeLine_eq]; omega
  have hn : H1 p = none := I2.hok.fresh hp
  have hv : Vals (ks'.map fun q => V.ref q.1) out.toList := by rw [hi]; exact vals_of_refs ks'
  have J : Inv X pins σ (upd H1 p (.lst (ks'.map fun q => V.ref q.1))) { s2 with heap := s'.heap, gens := s'.gens, drawn := s'.drawn, toks := s'.toks } :=
    I2.call (ch := []) (Un.laid k hp hn) (I2.hok.laid k hp ⟨hlen, out.toList, c, hv, hget⟩) (by rw [g2]; exact I2.bare) (fun _ z => nomatch z)
  have e : s' = { s2 with heap := s'.heap, gens := s'.gens, drawn := s'.drawn, toks := s'.toks } := by
    rcases s' with ⟨_, _, _, _, _⟩
    dsimp only at o
    subst o
    rfl
  rw [e]
  exact ⟨.ref p, _, J, rfl, q1 ks' p (fun q hq => List.mem_of_mem_take (g.sub q (pm.mem_iff.mp hq))) (hs.trans (sortK_eq tupO nu)) hn⟩
def tLenTu (K : PySem.W.Frag) (ta : TE) : TE := fun σ H Q => ta σ H fun x H1 => ∃ (l : Addr) (ks : List TK), x = .ref l ∧ TupsAt K H1 l ks ∧ (nubL (ks.map Prod.snd)).length < 63 ∧ Q (.int (((nubL (ks.map Prod.snd)).length : Nat) : Int)) H1
theorem pe_lenTu {a : Expr} {ta : TE} {p p2 q pos : Pos} (hc : X.calm = true) (hu : X.A.units + 64 < cLine) (hg : Gl X "len") (hm : X.mg "len" = none) (hg2 : Gl X "set") (hm2 : X.mg "set" = none) (ha : PE X a ta)
    (na : starEach [a] X.env = (false, eval a X.env) :: starEach [] X.env := by rfl) : PE X (.Call (.Name "len" p) [.Call (.Name "set" p2) [a] [] q] [] pos) (tLenTu X.K ta) := by
  refine ⟨fun pins s σ H Q I h => ?_⟩
  refine Call_ (ld_blt (u := .builtin "len") I hg hm boot_len ?_)
  refine callWith_builtin1 (args_cons ?_ rfl) rfl rfl
  refine Call_ (ld_blt I hg2 hm2 boot_set ?_)
  refine callWith_type1 (args_cons (thn (ha.run pins s σ H _ I h) fun v s1 ⟨x, H1, I1, r1, q1⟩ => args_nil ?_) na) na rfl
  obtain ⟨l, ks, rfl, ⟨hq, hk⟩, few, q1⟩ := q1
  cases r1
  obtain ⟨its, r, pl, hz⟩ := I1.list hq
  have e := refs_of_vals r
  subst e
  refine call_set_tu (P := X.prog) (w := X.w) ks (I1.ok.hd hc) pl.isList (by simp) (fun p hp => I1.isT (hk p hp)) (few_of few) (by omega) fun h' tk L es ep t T g k2 => ?_
  apply args_nil
  have I2 : Inv X pins σ H1 { s1 with heap := h', toks := tk } := I1.kept k2
  have nu := (got_nub g T.nd).length_eq
  rw [List.length_map] at nu
  obtain ⟨o, ho, hex, hd⟩ := T.ob
  have T2 : SetTR X.prog X.w ({ s1 with heap := h', toks := tk } : Shared).heap s1.heap.objs.size L es ep t := T
  have sz := T2.size
  have fit := T2.fits
  refine call_len_set ho hex hd fit (by rw [sz, nu]; omega) ?_
  rw [sz, nu]
  exact ⟨.int _, H1, I2.tok _, ⟨_, rfl⟩, q1⟩
theorem se_sortT {a : Expr} {A : E} {p pos : Pos} (cx : Ctx W n Wx X) (hg : Gl X "sorted") (hm : X.mg "sorted" = none) (ha : SE W vs Wx X a A)
    (na : starEach [a] X.env = (false, eval a X.env) :: starEach [] X.env := by rfl) : SE W vs Wx X (.Call (.Name "sorted" p) [a] [] pos) (una sortTO A) := by
  refine pe_weak (pe_sortTu hg hm ha na) fun σ H Q qq => ?_
  unfold tSortTu
  obtain ⟨H0, L, g, sp, en, post⟩ := tO_una σ H Q qq
  refine ⟨H0, L, g, sp, en, ?_⟩
  cases ea : A g with
  | stuck => rw [ea] at post; exact post.elim
  | exc x g' => rw [ea] at post; exact post
  | ok r g1 =>
    rw [ea] at post
    intro v H1 H01 Lr L1 st1 rr en1
    obtain ⟨H02, ox, Lx, o, ex, ro, ef, gv⟩ := post v H1 H01 Lr L1 st1 rr en1
    have key : ∀ l, (ox = .pure (.lst l) ∨ ox = .lst l) → sortTL l = some o → ∃ (l : Addr) (ks : List TK), v = .ref l ∧ TupsAt X.K H1 l ks ∧ neOk (ks.map Prod.snd) = true ∧
        ∀ (ks' : List TK) (p : Addr), ks'.Perm ks → ks'.map Prod.snd = sortK tupO (ks.map Prod.snd) → H1 p = none → Q (.ref p) (upd H1 p (.lst (ks'.map fun q => V.ref q.1))) := fun l h e => by
      unfold sortTL at e
      obtain ⟨xs, e1, e2⟩ := Option.bind_eq_some_iff.mp e
      split at e2
      · rename_i hne
        cases e2
        obtain ⟨p, us, e3, hs, rf⟩ := sql_of ex ro h
        rw [tupsD_is e1] at rf
        obtain ⟨ks, k1, k2, k3⟩ := tups_repU rf
        subst k1 k2
        refine ⟨p, ks, e3, ⟨by rw [cx.K]; exact hs, fun q hq => by rw [cx.K]; exact ex_t ex (k3 q hq)⟩, hne, fun ks' p2 pm o hp => ?_⟩
        have rp := reps_tupsU fun q hq => k3 q (pm.mem_iff.mp hq)
        rw [o] at rp
        exact gv.newL ex rp hp
      · cases e2
    unfold sortTO at ef
    split at ef
    · exact key _ (.inr rfl) ef
    · exact key _ (.inl rfl) ef
    · cases ef
theorem se_ssetT {a : Expr} {A : E} {p p2 q pos : Pos} (cx : Ctx W n Wx X) (hu : X.A.units + 64 < cLine) (hg : Gl X "sorted") (hm : X.mg "sorted" = none) (hg2 : Gl X "set") (hm2 : X.mg "set" = none) (ha : SE W vs Wx X a A)
    (na : starEach [a] X.env = (false, eval a X.env) :: starEach [] X.env := by rfl) : SE W vs Wx X (.Call (.Name "sorted" p) [.Call (.Name "set" p2) [a] [] q] [] pos) (una ssetTO A) := by
  refine pe_weak (pe_setTu cx.calm hu hg hm hg2 hm2 ha na) fun σ H Q qq => ?_
  unfold tSetTu
  obtain ⟨H0, L, g, sp, en, post⟩ := tO_una σ H Q qq
  refine ⟨H0, L, g, sp, en, ?_⟩
  cases ea : A g with
  | stuck => rw [ea] at post; exact post.elim
  | exc x g' => rw [ea] at post; exact post
  | ok r g1 =>
    rw [ea] at post
    intro v H1 H01 Lr L1 st1 rr en1
    obtain ⟨H02, ox, Lx, o, ex, ro, ef, gv⟩ := post v H1 H01 Lr L1 st1 rr en1
    have key : ∀ l, (ox = .pure (.lst l) ∨ ox = .lst l) → ssetTL l = some o → ∃ (l : Addr) (ks : List TK), v = .ref l ∧ TupsAt X.K H1 l ks ∧ neOk (nubL (ks.map Prod.snd)) = true ∧ (nubL (ks.map Prod.snd)).length < 63 ∧
        ∀ (ks' : List TK) (p : Addr), (∀ q ∈ ks', q ∈ ks) → ks'.map Prod.snd = usort (ks.map Prod.snd) → H1 p = none → Q (.ref p) (upd H1 p (.lst (ks'.map fun q => V.ref q.1))) := fun l h e => by
      unfold ssetTL at e
      obtain ⟨xs, e1, e2⟩ := Option.bind_eq_some_iff.mp e
      split at e2
      · rename_i hne
        cases e2
        obtain ⟨p, us, e3, hs, rf⟩ := sql_of ex ro h
        rw [tupsD_is e1] at rf
        obtain ⟨ks, k1, k2, k3⟩ := tups_repU rf
        subst k1 k2
        refine ⟨p, ks, e3, ⟨by rw [cx.K]; exact hs, fun q hq => by rw [cx.K]; exact ex_t ex (k3 q hq)⟩, hne.1, hne.2, fun ks' p2 sub o hp => ?_⟩
        have rp := reps_tupsU fun q hq => k3 q (sub q hq)
        rw [o] at rp
        exact gv.newL ex rp hp
      · cases e2
    unfold ssetTO at ef
    split at ef
    · exact key _ (.inr rfl) ef
    · exact key _ (.inl rfl) ef
    · cases ef
theorem se_slenT {a : Expr} {A : E} {p p2 q pos : Pos} (cx : Ctx W n Wx X) (hu : X.A.units + 64 < cLine) (hg : Gl X "len") (hm : X.mg "len" = none) (hg2 : Gl X "set") (hm2 : X.mg "set" = none) (ha : SE W vs Wx X a A)
    (na : starEach [a] X.env = (false, eval a X.env) :: starEach [] X.env := by rfl) : SE W vs Wx X (.Call (.Name "len" p) [.Call (.Name "set" p2) [a] [] q] [] pos) (una slenTO A) := by
  refine pe_weak (pe_lenTu cx.calm hu hg hm hg2 hm2 ha na) fun σ H Q qq => ?_
  unfold tLenTu
  obtain ⟨H0, L, g, sp, en, post⟩ := tO_una σ H Q qq
  refine ⟨H0, L, g, sp, en, ?_⟩
  cases ea : A g with
  | stuck => rw [ea] at post; exact post.elim
  | exc x g' => rw [ea] at post; exact post
  | ok r g1 =>
    rw [ea] at post
    intro v H1 H01 Lr L1 st1 rr en1
    obtain ⟨H02, ox, Lx, o, ex, ro, ef, gv⟩ := post v H1 H01 Lr L1 st1 rr en1
    have key : ∀ l, (ox = .pure (.lst l) ∨ ox = .lst l) → slenTL l = some o → ∃ (l : Addr) (ks : List TK), v = .ref l ∧ TupsAt X.K H1 l ks ∧ (nubL (ks.map Prod.snd)).length < 63 ∧ Q (.int (((nubL (ks.map Prod.snd)).length : Nat) : Int)) H1 := fun l h e => by
      unfold slenTL at e
      obtain ⟨xs, e1, e2⟩ := Option.bind_eq_some_iff.mp e
      split at e2
      · rename_i few
        cases e2
        obtain ⟨p, us, e3, hs, rf⟩ := sql_of ex ro h
        rw [tupsD_is e1] at rf
        obtain ⟨ks, k1, k2, k3⟩ := tups_repU rf
        subst k1 k2
        exact ⟨p, ks, e3, ⟨by rw [cx.K]; exact hs, fun q hq => by rw [cx.K]; exact ex_t ex (k3 q hq)⟩, few, gv.atom ex (.int _)⟩
      · cases e2
    unfold slenTO at ef
    split at ef
    · exact key _ (.inr rfl) ef
    · exact key _ (.inl rfl) ef
    · cases ef
end
end VI
namespace L2
open PySem PySem.Spec PyProof.Rows
/-! ### enumerate of a list or a tuple -/
theorem meets_enum1 {v : Value} {o : Obj} {H : Heap → Prop} (B : Begins v o H) :
    Meets (Builtin.«enumerate.__new__» ⟨[.type "enumerate", v], []⟩) (fun _ R s => H s.heap ∧
      R (.ok (.ret (.ref (s.heap.push o).objs.size))) { s with heap := (s.heap.push o).push { cls := .type "enumerate", data := .fields #[.none, .bool false, .ref s.heap.objs.size, rawInt 0, .none, .none] } }) :=
  .of_wp fun prog w A R s h => by
    rcases s with ⟨hp, g, d, tk, os⟩
    rcases h with ⟨hH, h⟩
    have sub := sub_enumerate
    have go : ∀ {A' : Around} {E : Value → Shared → Prop} {Q : Value → Shared → Prop}, Q (.ref hp.objs.size) ⟨hp.push o, g, d, tk, os⟩ → wpAny (model prog w) A' (pyIter v) Q E ⟨hp, g, d, tk, os⟩ := fun q => B.iter prog w _ _ ⟨hp, g, d, tk, os⟩ _ hH q
    wp_walk using go
    apply wpAny_stack_any
    intro st
    apply wpAny_pure
    split
    · rename_i c _ _ _ _ _
      cases (c == Value.type "enumerate") <;> (wp_walk using go; exact ⟨_, rfl, h⟩)
    · wp_walk using go
      exact ⟨_, rfl, h⟩
theorem call_enum1 {prog : Program} {w : World} {A : Around} {E : Value → Shared → Prop} {s : Shared} {v : Value} {o : Obj} {H : Heap → Prop} {Q : Value → Shared → Prop} (B : Begins v o H) (hH : H s.heap)
    (h : ∀ h', IsEnum h' (s.heap.objs.size + 1) s.heap.objs.size 0 .none → h'.get? s.heap.objs.size = some o → (∀ b o, s.heap.get? b = some o → h'.get? b = some o) → Q (.ref (s.heap.objs.size + 1)) { s with heap := h' }) :
    wpAny (model prog w) A (call (.type "enumerate") [v]) Q E s := by
  apply callType_new F.called_enumerate (by decide) (F.typeCall_enumerate_1 _) (F.newCall_enumerate_1 _) (fun obj => F.args_object_init_2 obj _) F.entry_enumerate_new (meets_enum1 B)
  refine ⟨hH, ?_⟩
  have sz : (s.heap.push o).objs.size = s.heap.objs.size + 1 := Heap.size_push ..
  show _ ∧ _
  rw [sz]
  have en := Heap.get?_push_size (s.heap.push o) (o := { cls := .type "enumerate", data := .fields #[.none, .bool false, .ref s.heap.objs.size, rawInt 0, .none, .none] }) rfl
  rw [sz] at en
  refine ⟨⟨_, en, rfl⟩, h _ en ?_ fun b o x => ?_⟩
  · exact Heap.get?_push_of_some _ (Heap.get?_push_size _ B.free)
  · exact Heap.get?_push_of_some _ (Heap.get?_push_of_some _ x)
def IteK (K : PySem.W.Frag) (k : SrcK) (a : Addr) : It :=
  ⟨fun i H => ∃ (xs : List V) (x : V), SqK K H k a xs ∧ xs[i]? = some x, fun i H v H' => ∃ T x, v = .ref T ∧ H T = none ∧ H' = upd H T (.tup [.int (i : Nat), x]) ∧ ∀ xs, SqK K H k a xs → xs[i]? = some x, fun i H => ∃ xs : List V, SqK K H k a xs ∧ xs.length = i⟩
theorem turn_enumK {P : Program} {w : World} {K : PySem.W.Frag} {elts : List Expr} {kk : Nat} {tpos : Pos} {k : SrcK} {a e it : Addr} (n1 : a ≠ it) (n2 : e ≠ it) (n3 : e ≠ a) :
    Turn P w K (.Tuple elts kk tpos) (IteK K k a) [e, it] e (fun i h => (∃ old, IsEnum h e it ((i : Nat) : Int) old) ∧ IterK h k it a i) where
  mem := by simp
  obj := fun i h ⟨⟨old, he⟩, hi⟩ b hb => by
    simp only [List.mem_cons, List.not_mem_nil, or_false] at hb
    rcases hb with rfl | rfl
    · exact ⟨_, he, fun v q => nomatch q⟩
    · exact hi.obj
  keep := fun i h h' ⟨⟨old, he⟩, hi⟩ kp => ⟨⟨old, kp e (by simp) _ he⟩, hi.at' fun o q => kp it (by simp) o q⟩
  item := by
    intro X hP hw hK hc i pins s σ H E I hf ⟨⟨old, he⟩, hit⟩ ⟨xs, x, hq, hx⟩
    subst hP; subst hw; subst hK
    obtain ⟨its, St, rv, D, st, up⟩ := I.drawsK (I.ok.hd hc) hq n1 hit
    obtain ⟨u, hu, ru⟩ := rv.get hx
    have lt := (List.getElem?_eq_some_iff.mp hu).1
    have el : e < s.heap.objs.size := Heap.lt_size he
    refine wpAny_pyNext_enum_itemD D he st lt n2 (by simp [n2, n3]) fun x1 h' tk p1 ho st' hT hsz hk => ?_
    have q1 : x1 = u := Option.some.inj (p1.symm.trans hu)
    subst q1
    refine ⟨_, rfl, wpAny_letOwnedTupleGo_enum (s := { s with heap := h', toks := tk + 1 }) ho fun h'' he' sb => ?_⟩
    have hT2 : h''.get? s.heap.objs.size = some { cls := .type "tuple", data := .seq #[.int i tk, x1] } := (sb.2 _ (Nat.ne_of_gt el)).trans hT
    have new : ObjOk X.prog X.w (upd H s.heap.objs.size (.tup [.int (i : Nat), x])) h'' s.heap.objs.size (.tup [.int (i : Nat), x]) := ⟨by show 2 ≤ sizeLine; decide, [.int i tk, x1], .cons ⟨_, rfl⟩ (.cons ru .nil), ⟨_, hT2, rfl, _, rfl⟩⟩
    have old' : ∀ c o, c ∉ [e, it] → s.heap.get? c = some o → h''.get? c = some o := fun c o hcn q => by
      simp only [List.mem_cons, List.not_mem_nil, or_false, not_or] at hcn
      exact (sb.2 c hcn.1).trans (hk c o hcn.1 hcn.2 q)
    refine ⟨.ref s.heap.objs.size, _, I.turnedNew (t' := tk + 1) old' hf (Nat.le_refl _) new, rfl, ⟨_, x, rfl, I.hok.fresh (Nat.le_refl _), rfl, fun l hl => by rw [I.sqK_inj hl hq]; exact hx⟩, ⟨⟨x1, ?_⟩, ?_⟩, fun c hcm => ?_⟩
    · rw [show ((i + 1 : Nat) : Int) = (i : Int) + 1 by omega]
      exact he'
    · exact (up _ _ st').at' fun o q => (sb.2 it (Ne.symm n2)).trans q
    · have lt' : c < s.heap.objs.size := by
        simp only [List.mem_cons, List.not_mem_nil, or_false] at hcm
        rcases hcm with rfl | rfl
        · exact el
        · obtain ⟨o, q, _⟩ := hit.obj; exact Heap.lt_size q
      rw [upd_ne (Nat.ne_of_lt lt')]
      exact (hf c hcm).1
  done := by
    intro X hP hw hK hc i pins s σ H E I hf ⟨⟨old, he⟩, hit⟩ ⟨xs, hq, hx⟩
    subst hP; subst hw; subst hK
    obtain ⟨its, St, rv, D, st, up⟩ := I.drawsK (I.ok.hd hc) hq n1 hit
    have e1 : its.length = i := by rw [← rv.length, hx]
    subst e1
    refine wpAny_pyNext_enum_endD D he st fun h' eb => ⟨rfl, ?_⟩
    refine I.turnedL (t' := s.toks) (ch := [e, it]) (fun c o hcn q => ?_) hf
    simp only [List.mem_cons, List.not_mem_nil, or_false, not_or] at hcn
    exact eb c o hcn.2 q
  self := fun A i s Q E ⟨⟨_, he⟩, _⟩ h => wpAny_pyIter_enum he h
def iEnumK (K : PySem.W.Frag) (ta : TA) : TI := fun σ H R => ta σ H fun vs H1 => ∃ (k : SrcK) (a : Addr) (xs : List V), vs = [.ref a] ∧ SqK K H1 k a xs ∧ R (IteK K k a) H1
theorem pi_enumK {X : Cx} {e : Expr} {ta : TA} {p pos tpos : Pos} {elts : List Expr} {kk : Nat} (hg : Gl X "enumerate") (hm : X.mg "enumerate" = none) (ha : PA X [e] ta) (hs : starEach [e] X.env = [(false, eval e X.env)] := by rfl) :
    PI X (.Tuple elts kk tpos) (.Call (.Name "enumerate" p) [e] [] pos) (iEnumK X.K ta) := by
  refine ⟨fun pins s σ H R I h => Call_ (ld_blt I hg hm boot_enumerate (PyProof.Rows.callWith_type1 (thn (ha.run pos pins s σ H _ I h) fun us s1 q0 => ?_) hs rfl))⟩
  obtain ⟨vs, H1, I1, r1, k, a, xs, ex, hq, q⟩ := q0
  subst ex
  cases r1 with
  | cons r rr =>
    cases rr
    cases r
    obtain ⟨la, P1, B1, p1⟩ := I1.beginsK hq
    refine call_enum1 B1 p1 fun h' he hi hk => wpAny_pyIter_enum he ?_
    have I2 : Inv X pins σ H1 { s1 with heap := h' } := I1.kept (t' := s1.toks) hk
    refine ⟨s1.heap.objs.size + 1, [s1.heap.objs.size + 1, s1.heap.objs.size], _, _, H1, rfl, I2, turn_enumK (Nat.ne_of_lt la) (Nat.succ_ne_self _) (Nat.ne_of_gt (Nat.lt_succ_of_lt la)), ⟨⟨.none, he⟩, iterK_new hi⟩, fun b hb => ?_, q⟩
    have hle : s1.heap.objs.size ≤ b := by
      simp only [List.mem_cons, List.not_mem_nil, or_false] at hb
      rcases hb with rfl | rfl <;> omega
    exact I1.fpOk hle (I1.hok.fresh hle)
end L2
namespace VI
open PySem PySem.Spec PyProof.Rows L2
section
variable {W : Wd} {X : Cx} {vs : List (Option V)} {Wx : WX}
def enumJ : List O → Option (List D)
  | [o] => (elemsO o).map enumL
  | _ => none
theorem feeds_enumK {Hb Hm : Hp} {Lm : List Addr} {p : Addr} {o : O} {l : List D} (e1 : elemsO o = some l) : Feeds W Hb Hm Lm (IteK W.K (kindO o) p) [.ref p] [o] (enumL l) := by
  intro i H0 H La _ ex ro _
  obtain ⟨v, e0, ro⟩ := ro.one
  cases e0
  obtain ⟨p', us, e2, hs, rf⟩ := elems_kind ex ro e1
  cases e2
  refine ⟨fun d hd => ?_, fun hl => ⟨us, hs, by rw [rf.len, hl]; simp [enumL]⟩⟩
  unfold enumL at hd
  rw [List.getElem?_map] at hd
  obtain ⟨j, hj, e3⟩ := Option.map_eq_some_iff.mp hd
  have hi : i < l.length := by simpa using (List.getElem?_eq_some_iff.mp hj).1
  rw [List.getElem?_range hi] at hj
  cases hj
  have hli : l[i]? = some (l.getD i .non) := by rw [List.getD_eq_getElem?_getD, List.getElem?_eq_getElem hi]; rfl
  obtain ⟨v, hv, rv⟩ := rf.get hli
  refine ⟨⟨us, v, hs, hv⟩, fun x H' ⟨T, x1, e6, hT, e7, f1⟩ => ?_⟩
  subst e6; subst e7; subst e3
  have := f1 us hs
  rw [hv] at this; cases this
  have st := step_new0 (o := .tup [.int (i : Nat), v]) ex hT
  exact ⟨_, st, .tup (SqT.of upd_same) (RepFs.mono st.ex0 (.cons (.int _) (.cons rv .nil)))⟩
theorem si_enumJ {k : Nat} {e : Expr} {A : E} {p pos tpos : Pos} {elts : List Expr} {kk : Nat} (cx : Ctx W k Wx X) (hg : Gl X "enumerate") (hm : X.mg "enumerate" = none) (ha : SA W vs Wx X [e] (evs [A]))
    (hs : starEach [e] X.env = [(false, eval e X.env)] := by rfl) : SI W vs Wx X (.Tuple elts kk tpos) (.Call (.Name "enumerate" p) [e] [] pos) (evs [A]) enumJ := by
  refine pi_weak (pi_enumK hg hm ha hs) fun σ H Q q => tI_args q fun us os ds H1 H01 La ro ex e k => ?_
  unfold enumJ at e
  split at e
  · rename_i o
    obtain ⟨l, e1, e2⟩ := Option.map_eq_some_iff.mp e
    subst e2
    obtain ⟨v, e4, r1⟩ := ro.one
    obtain ⟨p', us1, e5, s1, rf1⟩ := elems_kind ex r1 e1
    subst e4; subst e5
    rw [cx.K]
    exact ⟨_, p', us1, rfl, s1, k _ (feeds_enumK e1)⟩
  · cases e
theorem enum_J (o : O) (l : List D) (h : elemsO o = some l) : enumJ [o] = some (enumL l) := by
  show (elemsO o).map enumL = _
  rw [h]; rfl
end
end VI
namespace VI
open PySem PySem.Spec PyProof.Rows L2
/-! ### shifts, bits; each second thing of a list -/
def evens {α : Type} (l : List α) : List α := (List.range ((l.length + 1) / 2)).filterMap fun k => l[2 * k]?
theorem evens_mem {α : Type} {l : List α} {x : α} (h : x ∈ evens l) : x ∈ l := by
  obtain ⟨k, _, e⟩ := List.mem_filterMap.mp h
  exact List.mem_of_getElem? e
theorem evens_len {α : Type} (l : List α) : (evens l).length ≤ l.length := by
  refine Nat.le_trans (List.length_filterMap_le _ _) ?_
  rw [List.length_range]; omega
theorem fm_congr {α β : Type} {f g : α → Option β} : ∀ {l : List α}, (∀ x ∈ l, f x = g x) → l.filterMap f = l.filterMap g
  | [], _ => rfl
  | x :: l, h => by
    rw [List.filterMap_cons, List.filterMap_cons, h x (by simp), fm_congr fun y hy => h y (List.mem_cons_of_mem _ hy)]
theorem evens_map {α β : Type} (f : α → β) (l : List α) : evens (l.map f) = (evens l).map f := by
  unfold evens
  rw [List.length_map, List.map_filterMap]
  exact fm_congr fun k _ => by rw [List.getElem?_map]
def pick2 {α : Type} (l : List α) (lo hi : Option Int) : List α := (sliceRange (sliceBounds lo hi (some 2) l.length).1 (sliceBounds lo hi (some 2) l.length).2.1 2).filterMap fun i => l[i]?
theorem pick2_eq {α : Type} (l : List α) (lo hi : Option Int) : pick2 l lo hi = evens (cutL l lo hi) := by
  have b := slice_bounds lo hi l.length
  have e1 : (sliceBounds lo hi (some 2) l.length).1 = (sliceBounds lo hi none l.length).1 := by cases lo <;> rfl
  have e2 : (sliceBounds lo hi (some 2) l.length).2.1 = (sliceBounds lo hi none l.length).2.1 := by cases hi <;> rfl
  unfold pick2
  rw [e1, e2, b.1, b.2.1]
  have hb : HT.sIx l.length l.length hi ≤ l.length := by
    have := (slice_bounds none hi l.length).2.1
    cases hi with
    | none =>
      have h2 : (sliceBounds none none none l.length).2.1 = (l.length : Int) := rfl
      omega
    | some j =>
      have h2 : (sliceBounds none (some j) none l.length).2.1 ≤ (l.length : Int) := by
        show max 0 (min (if j < 0 then j + (l.length : Int) else j) (l.length : Int)) ≤ _
        omega
      omega
  have ec : cutL l lo hi = (l.drop (HT.sIx l.length 0 lo)).take (HT.sIx l.length l.length hi - HT.sIx l.length 0 lo) := rfl
  clear b e1 e2
  generalize HT.sIx l.length 0 lo = a at *
  generalize HT.sIx l.length l.length hi = c at *
  rw [ec]
  unfold evens sliceRange
  have len : ((l.drop a).take (c - a)).length = c - a := by rw [List.length_take, List.length_drop]; omega
  rw [len]
  have cnt : (if (2 : Int) > 0 then if (a : Int) < c then ((c : Int) - a + 2 - 1) / 2 else 0 else if (a : Int) > c then ((a : Int) - c - 2 - 1) / -2 else 0).toNat = (c - a + 1) / 2 := by
    rw [if_pos (by decide)]
    split <;> omega
  simp only [cnt]
  rw [List.filterMap_map]
  refine fm_congr fun k hk => ?_
  have hk := List.mem_range.mp hk
  show l[((a : Int) + 2 * (k : Int)).toNat]? = _
  rw [show ((a : Int) + 2 * (k : Int)).toNat = a + 2 * k by omega, List.getElem?_take, if_pos (by omega), List.getElem?_drop]
def shrO := intO (fun _ j => decide (0 ≤ j)) fun i j => i / 2 ^ j.toNat
def bandO := intO (fun _ _ => true) fun i j => Builtin.bitAnd i j
section
variable {W : Wd} {X : Cx} {vs : List (Option V)} {Wx : WX}
theorem op_shrO : OpR X (binaryOp .RShift) (rO W shrO) := op_intO op_shr fun i j h => by simpa using h
theorem op_bandO : OpR X (binaryOp .BitAnd) (rO W bandO) := op_intO (C := fun _ _ => True) (fun pins s σ H x y v u Q I rx ry ⟨i, j, a, b, _, q⟩ => op_and pins s σ H x y v u Q I rx ry ⟨i, j, a, b, q⟩) fun _ _ _ => trivial
theorem shr_i (i j : Int) (h : 0 ≤ j) : shrO (.pure (.int i)) (.pure (.int j)) = some (.pure (.int (i / 2 ^ j.toNat))) := by simp [shrO, intO, h]
theorem band_i (i j : Int) : bandO (.pure (.int i)) (.pure (.int j)) = some (.pure (.int (Builtin.bitAnd i j))) := rfl
def tSl2 (K : PySem.W.Frag) (te : TE) (tl th : TO) : TE := fun σ H Q => te σ H fun x H1 => tl σ H1 fun l H2 => th σ H2 fun u H3 => ∃ (a : Addr) (xs : List V), x = .ref a ∧ SqL K H3 a xs ∧ ∀ q, H3 q = none → Q (.ref q) (upd H3 q (.lst (pick2 xs l u)))
theorem vals_pick {xs : List V} {us : List Value} (r : Vals xs us) : ∀ is : List Nat, Vals (is.filterMap fun i => xs[i]?) (is.filterMap fun i => us[i]?)
  | [] => .nil
  | i :: is => by
    have ih := vals_pick r is
    cases h : xs[i]? with
    | none =>
      have h2 : us[i]? = none := by
        rw [List.getElem?_eq_none_iff] at h ⊢
        have := r.length
        omega
      rw [List.filterMap_cons_none (by simpa using h), List.filterMap_cons_none (by simpa using h2)]
      exact ih
    | some v =>
      obtain ⟨u, hu, rv⟩ := r.get h
      rw [List.filterMap_cons_some (by simpa using h), List.filterMap_cons_some (by simpa using hu)]
      exact .cons rv ih
theorem pe_slice2 {e lo hi : Expr} {te : TE} {tl th : TO} {k : Nat} {p1 p2 pos : Pos} (he : PE X e te) (hl : PO X (some lo) tl) (hu : PO X (some hi) th) : PE X (.Subscript e (.Slice (some lo) (some hi) (some (.Constant (.int 2) k p1)) p2) pos) (tSl2 X.K te tl th) := by
  refine ⟨fun pins s σ H Q I h => ?_⟩
  refine Subscript_ (thn (he.run pins s σ H _ I h) fun v s1 ⟨x, H1, I1, r1, q1⟩ => ?_)
  have hst : PO X (some (.Constant (.int 2) k p1)) (tPart (tC (.int 2))) := po_some pe_int
  refine wpAny_Slice (thn (hl.run pins s1 σ H1 _ I1 q1) fun vl s2 ⟨l, H2, I2, pl, q2⟩ => thn (hu.run pins s2 σ H2 _ I2 q2) fun vu s3 ⟨u, H3, I3, pu, q3⟩ => ?_)
  refine thn (hst.run pins s3 σ H3 (fun o H4 => o = some 2 ∧ H4 = H3) I3 ⟨2, rfl, rfl, rfl⟩) fun vs s4 ⟨o, H4, I4, ps, eo, e4⟩ => ?_
  subst eo e4
  obtain ⟨a, xs, ex, hx, q⟩ := q3
  subst ex
  cases r1
  have I5 : Inv X pins σ H4 { s4 with heap := s4.heap.push { cls := .type "slice", data := .fields #[vl, vu, vs] } } := I4.kept (t' := s4.toks) fun b ob q => Heap.get?_push_of_some _ q
  obtain ⟨its, r, ht, hz⟩ := I5.list hx
  have hlen := r.length
  show wpAny (model X.prog X.w) X.A (subscriptTail e (.Slice (some lo) (some hi) (some (.Constant (.int 2) k p1)) p2) (.ref a) (.ref s4.heap.objs.size)) (EP X pins σ Q) X.xe { s4 with heap := s4.heap.push { cls := .type "slice", data := .fields #[vl, vu, vs] } }
  refine tail_any (ops := [.ref a, .ref s4.heap.objs.size]) ht.isList.typeIs (PySem.slot_list_getitem.lookup) ?_ (by with_unfolding_all rfl)
  refine wpAny_getItem_list_slice ht.isList (Heap.IsSliceOf.new _ vl vu vs) pl pu ps (by decide) ?_ (by rw [List.size_toArray]; omega)
  have sz : (pick2 xs l u).length ≤ sizeLine := by
    rw [pick2_eq]
    exact Nat.le_trans (evens_len _) (Nat.le_trans (cutL_len _ _ _) hz)
  have pk : slicePick its.toArray l u (some 2) = (pick2 its l u).toArray := by
    unfold slicePick pick2
    simp only [List.size_toArray, List.getElem?_toArray]
    rfl
  rw [pk]
  refine ⟨.ref _, _, I5.laid (t' := s4.toks) (o := .lst (pick2 xs l u)) (fun b ob q => Heap.get?_push_of_some _ q) (Nat.le_refl _) ?_, rfl, q _ (I5.hok.fresh (Nat.le_refl _))⟩
  refine ⟨sz, _, 0, ?_, Heap.get?_push_size _ rfl⟩
  unfold pick2
  rw [hlen]
  exact vals_pick r _
def evenO : O → Option O
  | .lst l => some (.lst (evens l))
  | _ => none
theorem even_l (l : List D) : evenO (.lst l) = some (.lst (evens l)) := rfl
theorem RepFs.pick {H : Hp} {us : List V} {ds : List D} (r : RepFs W H us ds) : ∀ is : List Nat, RepFs W H (is.filterMap fun i => us[i]?) (is.filterMap fun i => ds[i]?)
  | [] => .nil
  | i :: is => by
    have ih := RepFs.pick r is
    cases h : ds[i]? with
    | none =>
      have h2 : us[i]? = none := by
        rw [List.getElem?_eq_none_iff] at h ⊢
        have := r.len
        omega
      rw [List.filterMap_cons_none (by simpa using h2), List.filterMap_cons_none (by simpa using h)]
      exact ih
    | some v =>
      obtain ⟨u, hu, rv⟩ := r.get h
      rw [List.filterMap_cons_some (by simpa using hu), List.filterMap_cons_some (by simpa using h)]
      exact .cons rv ih
theorem se_slice2 {k m : Nat} {e lo hi : Expr} {p1 p2 pos : Pos} {A : E} {B C : EO} (cx : Ctx W k Wx X) (ha : SE W vs Wx X e A) (hl : SO W vs Wx X (some lo) B) (hh : SO W vs Wx X (some hi) C) : SE W vs Wx X (.Subscript e (.Slice (some lo) (some hi) (some (.Constant (.int 2) m p1)) p2) pos) (una evenO (slE A B C)) := by
  refine pe_weak (pe_slice2 ha hl hh) fun σ H Q ⟨H0, L, g, sp, en, post⟩ => ?_
  refine ⟨H0, L, g, sp, en, ?_⟩
  unfold una slE at post
  cases ea : A g with
  | stuck => rw [ea] at post; exact post.elim
  | exc x g' => rw [ea] at post; exact post
  | ok r g1 =>
    rw [ea] at post
    intro v H1 H01 Lr L1 st1 rr en1
    simp only [Res.bind] at post
    refine ⟨H01, L1, g1, st1.sep.right, en1, ?_⟩
    cases eb : B g1 with
    | stuck => rw [eb] at post; exact post.elim
    | exc x g' => rw [eb] at post; intro c d H' H0' L' st2 rx en2; exact post c d H' H0' L' (st1.then st2).right rx en2
    | ok l g2 =>
      rw [eb] at post
      intro H2 H02 L2 st2 en2
      simp only at post
      have st12 := st1.then st2
      have rr2 := rr.mono st2.ex0 (Step.keepL st1.sep st2)
      refine ⟨H02, L2, g2, st12.sep.right, en2, ?_⟩
      cases ec : C g2 with
      | stuck => rw [ec] at post; exact post.elim
      | exc x g' => rw [ec] at post; intro c d H' H0' L' st3 rx en3; exact post c d H' H0' L' (st12.then st3).right rx en3
      | ok h g3 =>
        rw [ec] at post
        intro H3 H03 L3 st3 en3
        simp only at post
        have st := st12.then st3
        have rr3 := rr2.mono st3.ex0 (Step.keepL st12.sep st3)
        cases eo : ob g3 r with
        | none => rw [eo] at post; exact post.elim
        | some x =>
          rw [eo] at post
          simp only at post
          obtain ⟨Lx, hx, _⟩ := ob_rep en3 rr3 eo
          have lst : ∀ d, (x = .pure (.lst d) ∨ x = .lst d) → slO l h x = some (.lst (cutL d l h)) := fun d hd => by rcases hd with rfl | rfl <;> rfl
          have key : ∀ d, (x = .pure (.lst d) ∨ x = .lst d) → ∃ (a : Addr) (xs : List V), v = .ref a ∧ SqL X.K H3 a xs ∧ ∀ q, H3 q = none → Q (.ref q) (upd H3 q (.lst (pick2 xs l h))) := fun d hd => by
            rw [lst d hd] at post
            simp only [evenO, ob] at post
            obtain ⟨a, us, e1, hs1, rf⟩ := sql_of st3.sep.ex hx hd
            refine ⟨a, us, e1, by rw [cx.K]; exact hs1, fun q hq => ?_⟩
            have gv := gives_of st en3 post
            have rp : RepFs W H03 (pick2 us l h) (evens (cutL d l h)) := by
              rw [← pick2_eq]
              unfold pick2
              rw [rf.len]
              exact rf.pick _
            exact gv.newL st3.sep.ex rp hq
          cases es : slO l h x with
          | none => rw [es] at post; exact post.elim
          | some o2 =>
            have isl : ∀ q, o2 = .lst q → ∃ d, x = .pure (.lst d) ∨ x = .lst d := fun q e => by
              subst e
              unfold slO at es
              split at es
              · exact ⟨_, .inl rfl⟩
              · exact ⟨_, .inr rfl⟩
              · cases es
              · split at es <;> cases es
              · cases es
            cases o2 with
            | lst q =>
              obtain ⟨d, hd⟩ := isl q rfl
              exact key d hd
            | _ =>
              rw [es] at post
              exact post.elim
end
end VI
namespace VI
open PySem PySem.Spec PyProof.Rows L2
/-! ### comprehensions over any state -/
section
variable {α β σ : Type} {own : List Nat} {t : T} {cond : G → Res Bool} {elt : E} {enc : α → D} {as : List α} {g : G} {X : Option (List D × G)}
theorem comp_genM (h : compL own t cond elt (List.map enc as) g [] = X) (Gf : σ → G) (R : σ → Prop) (f : α → D) (s0 : σ) (h0 : Gf s0 = g) (hs : R s0) (hl : as.length < 16777216)
    (turn : ∀ a ∈ as, ∀ s, R s → ∃ s', R s' ∧ compL own t cond elt [enc a] (Gf s) [] = some ([f a], Gf s')) : ∃ s', R s' ∧ X = some (as.map f, Gf s') := by
  obtain ⟨s', h1, h2⟩ := comp_map Gf R enc f as turn [] (by simpa using hl) s0 hs
  exact ⟨s', h1, by rw [← h, ← h0]; simpa using h2⟩
theorem comp_genF (h : compL own t cond elt (List.map enc as) g [] = X) (Gf : σ → G) (R : σ → Prop) (f : α → D) (p : α → Bool) (s0 : σ) (h0 : Gf s0 = g) (hs : R s0) (hl : as.length < 16777216)
    (turn : ∀ a ∈ as, ∀ s, R s → ∃ s', R s' ∧ compL own t cond elt [enc a] (Gf s) [] = some (if p a then [f a] else [], Gf s')) : ∃ s', R s' ∧ X = some ((as.filter p).map f, Gf s') := by
  obtain ⟨s', h1, h2⟩ := comp_filter Gf R enc f p as turn [] (by simpa using hl) s0 hs
  exact ⟨s', h1, by rw [← h, ← h0]; simpa using h2⟩
theorem comp_genE (h : compL own t cond elt (List.map enc as) g [] = X) (Gf : σ → G) (R : σ → Prop) (out : β → D) (P : α → β → Prop) (s0 : σ) (h0 : Gf s0 = g) (hs : R s0) (hl : as.length < 16777216)
    (turn : ∀ a ∈ as, ∀ s, R s → ∃ s' b, R s' ∧ P a b ∧ compL own t cond elt [enc a] (Gf s) [] = some ([out b], Gf s')) : ∃ s' bs, R s' ∧ All2 P as bs ∧ X = some (bs.map out, Gf s') := by
  obtain ⟨s', bs, h1, h2, h3⟩ := comp_ex Gf R enc out P as turn [] (by simpa using hl) s0 hs
  exact ⟨s', bs, h1, h2, by rw [← h, ← h0]; simpa using h3⟩
end
end VI
namespace L2
open PySem PySem.Spec PyProof.Rows
/-! ### for k, v in d.items(), d a dict of tuples, not locked: nobody writes it while it is walked -/
abbrev Ent := NestedKey × Addr × V
def ItiX (d : Addr) (o : Obj) (xs : List Ent) : It :=
  ⟨fun i H => H d = some (.ext (VI.DctAt d o xs)) ∧ i < xs.length, fun i H x H' => ∃ T k q v, xs[i]? = some (k, q, v) ∧ x = .ref T ∧ H T = none ∧ H' = upd H T (.tup [.ref q, v]), fun i H => H d = some (.ext (VI.DctAt d o xs)) ∧ xs.length ≤ i⟩
theorem raw_of {X : Cx} {pins : List (Addr × Obj)} {σ : St} {H : Hp} {s : Shared} (I : Inv X pins σ H s) {d : Addr} {o : Obj} {xs : List Ent} (e : H d = some (.ext (VI.DctAt d o xs))) :
    (d == sysModules) = false ∧ ∃ es ep, s.heap.DictRaw d es ep ∧ o.ExactDict ∧ o.data = .dict es ep ∧ s.heap.get? d = some o ∧ es.size = xs.length ∧ ∀ i k q v, xs[i]? = some (k, q, v) → ∃ hi : i < es.size, es[i].key = .ref q ∧ RelV v es[i].val := by
  obtain ⟨⟨h1, h2, w, vs, pr, es, ep, g1, g2, g3, g4, g5⟩, _, _⟩ := (show ObjOk X.prog X.w H s.heap d (.ext (VI.DctAt d o xs)) from I.hok d _ e)
  have hs : es.size = vs.length := by
    have := congrArg List.length g4
    simpa using this
  have hl : xs.length = vs.length := Paired.length pr
  refine ⟨h1, es, ep, ⟨o, g1, g2, g3⟩, g2, g3, g1, by omega, fun i k q v hx => ?_⟩
  have hi : i < xs.length := (List.getElem?_eq_some_iff.mp hx).1
  have hi' : i < es.size := by omega
  refine ⟨hi', ?_⟩
  have e1 : es[i] = es.toList[i]'(by simpa using hi') := by simp
  have e2 : es[i] = (fun x : NestedKey × Addr × Value => (⟨x.1.hash w, .ref x.2.1, x.2.2⟩ : DictEntry)) (vs[i]'(by omega)) := by
    rw [e1]
    simp only [g4, List.getElem_map]
  obtain ⟨y, hy, r1, r2, r3⟩ : ∃ y : NestedKey × Addr × Value, vs[i]? = some y ∧ k = y.1 ∧ q = y.2.1 ∧ RelV v y.2.2 := by
    have key : ∀ {xs : List Ent} {vs : List (NestedKey × Addr × Value)}, Paired (fun p q => p.1 = q.1 ∧ p.2.1 = q.2.1 ∧ RelV p.2.2 q.2.2) xs vs → ∀ i : Nat, xs[i]? = some (k, q, v) → ∃ y : NestedKey × Addr × Value, vs[i]? = some y ∧ k = y.1 ∧ q = y.2.1 ∧ RelV v y.2.2 := by
      intro xs vs pr
      induction pr with
      | nil => intro i h; simp at h
      | cons hq t ih =>
        intro i h
        cases i with
        | zero =>
          simp only [List.getElem?_cons_zero, Option.some.injEq] at h
          subst h
          exact ⟨_, rfl, hq.1, hq.2.1, hq.2.2⟩
        | succ i => exact ih i (by simpa using h)
    exact key pr i hx
  have e3 : vs[i]'(by omega) = y := by
    have := (List.getElem?_eq_some_iff.mp hy).2
    exact this
  rw [e2, e3]
  exact ⟨by rw [r2], r3⟩
section
variable {P : Program} {w : World} {K : PySem.W.Frag} {d : Addr} {o : Obj} {es : Array DictEntry} {ep : Nat}
theorem turn_itemsX {xs : List Ent} {elts : List Expr} {kk : Nat} {tpos : Pos} (it : Addr) (hod : o.data = .dict es ep) :
    Turn P w K (.Tuple elts kk tpos) (ItiX d o xs) [it] it (fun i h => ∃ ok ov, IsItemIter h it d i xs.length ep ok ov) where
  mem := by simp
  obj := fun i h st b hb => by
    have e : b = it := by simpa using hb
    subst e
    obtain ⟨ok, ov, e⟩ := st
    exact ⟨_, e, fun v z => nomatch z⟩
  keep := fun i h h' st k => let ⟨ok, ov, e⟩ := st; ⟨ok, ov, k it (by simp) _ e⟩
  item := by
    intro X hP hw hK hc i pins s σ H E I hf st hg
    subst hP hw hK
    obtain ⟨hd, hi⟩ := hg
    obtain ⟨hs, es', ep', hm, _, hdt, _, hz, hat⟩ := raw_of I hd
    obtain ⟨rfl, rfl⟩ := dict_ep hod hdt
    obtain ⟨⟨k, q, v⟩, hkv⟩ : ∃ p, xs[i]? = some p := ⟨xs[i], List.getElem?_eq_getElem hi⟩
    obtain ⟨hi', hk, rv⟩ := hat i k q v hkv
    obtain ⟨ok, ov, he⟩ := st
    rw [← hz] at he
    have hlt : it < s.heap.objs.size := Heap.lt_size he
    refine wpAny_pyNext_items_item_raw he hm hi' fun h' ho hT hsz hkp => ?_
    refine ⟨_, rfl, wpAny_letOwnedTupleGo_items (s := { s with heap := h' }) ho fun h'' he' sb => ?_⟩
    rw [hk] at hT
    have hT2 : h''.get? s.heap.objs.size = some { cls := .type "tuple", data := .seq #[.ref q, es'[i].val] } := (sb.2 _ (Nat.ne_of_gt hlt)).trans hT
    have new : ObjOk X.prog X.w (upd H s.heap.objs.size (.tup [.ref q, v])) h'' s.heap.objs.size (.tup [.ref q, v]) :=
      ⟨by show 2 ≤ sizeLine; decide, [.ref q, es'[i].val], .cons rfl (.cons rv .nil), ⟨_, hT2, rfl, _, rfl⟩⟩
    have I1 : Inv X pins σ (upd H s.heap.objs.size (.tup [.ref q, v])) { s with heap := h'' } :=
      I.turnedNew (t' := s.toks) (ch := [it]) (fun b ob hb e => (sb.2 b (by simpa using hb)).trans (hkp b ob (by simpa using hb) e)) hf (Nat.le_refl _) new
    refine ⟨.ref s.heap.objs.size, _, I1, rfl, ⟨_, k, q, v, hkv, rfl, I.hok.fresh (Nat.le_refl _), rfl⟩, ⟨es'[i].key, es'[i].val, ?_⟩, fun b hb => ?_⟩
    · rw [← hz]; exact he'
    · have e : b = it := by simpa using hb
      rw [e, upd_ne (Nat.ne_of_lt hlt)]
      exact (hf it (by simp)).1
  done := by
    intro X hP hw hK hc i pins s σ H E I hf st hg
    subst hP hw hK
    obtain ⟨hd, hi⟩ := hg
    obtain ⟨f0, f1, f2, f3, f4, f5⟩ := hf it (by simp)
    obtain ⟨hs, es', ep', hm, _, hdt, _, hz, hat⟩ := raw_of I hd
    obtain ⟨rfl, rfl⟩ := dict_ep hod hdt
    obtain ⟨ok, ov, he⟩ := st
    rw [← hz] at he
    exact wpAny_pyNext_items_end_raw (I.ok.hd hc) he hm (by omega) fun h' eb => ⟨rfl, I.turned (t' := s.toks) (fun b ob hb e => eb b ob hb e) f0 f1 f3 f4 f5⟩
  self := fun A i s Q E st h => let ⟨_, _, e⟩ := st; PySem.W.kcp_self e h
end
def iItemsX (td : TE) : TI := fun σ H R => td σ H fun x H1 => ∃ d o xs, x = .ref d ∧ H1 d = some (.ext (VI.DctAt d o xs)) ∧ R (ItiX d o xs) H1
theorem pi_itemsX {X : Cx} {e : Expr} {td : TE} {apos cpos tpos : Pos} {elts : List Expr} {kk : Nat} (he : PE X e td) (hbase : attributeBase e "items" X.env (eval e X.env) = eval e X.env := by rfl) (hline : (apos.endLine == cpos.line) = true := by rfl) :
    PI X (.Tuple elts kk tpos) (.Call (.Attribute e "items" apos) [] [] cpos) (iItemsX td) := by
  refine ⟨fun pins s σ H R I h => ?_⟩
  refine wpAny_Call_method (T := "dict") (id := "dict.items") hbase rfl hline F.plainAttrs_dict F.slot_dict_items F.type_dict_items (thn (he.run pins s σ H _ I h) fun u s1 ⟨x, H1, I1, rx, d, o, xs, ex, hd, q⟩ => ?_)
  subst ex
  obtain rfl : u = Value.ref d := rx
  obtain ⟨hs, es, ep, hm, hx, hdt, hget, hz, hat⟩ := raw_of I1 hd
  refine ⟨hm.typeIs, fun a ea => ?_, ?_⟩
  · cases ea
    exact ⟨o, hget, hx.2.1⟩
  have I2 : Inv X pins σ H1 { s1 with heap := s1.heap.push { cls := .type "dict_items", data := .fields #[.ref d] } } := I1.kept (t' := s1.toks) fun b ob q => Heap.get?_push_of_some _ q
  have fin : wpAny (model X.prog X.w) X.A (pyIter (.ref s1.heap.objs.size)) (PIE X pins σ (.Tuple elts kk tpos) R) X.xe { s1 with heap := s1.heap.push { cls := .type "dict_items", data := .fields #[.ref d] } } := by
    refine wpAny_pyIter_items_raw (d := d) ⟨_, Heap.get?_push_size _ rfl, rfl, rfl⟩ (hm.at fun _ e => Heap.get?_push_of_some _ e) (pi_one (tk := s1.toks) I2 _ (turn_itemsX _ hdt) ⟨.none, .none, ?_⟩ q)
    rw [← hz]
    exact Heap.get?_push_size _ rfl
  show wpAny _ _ (callWith cpos (.builtin "dict.items") [.ref d] [] []) _ X.xe s1
  exact method_meetsIn F.slot_dict_items F.entry_dict_items rfl (PySem.evalArgs_none ⟨rfl, hm.typeIs, F.args_dict_items_1 _, _, meets_dict_items_raw d hs, ⟨es, ep, hm⟩, fin⟩)
end L2
namespace VI
open PySem PySem.Spec PyProof.Rows L2
section
variable {W : Wd} {X : Cx} {vs : List (Option V)} {Wx : WX}
def itmD (l : List (D × D)) : List D := l.map fun q => .tup [q.1, q.2]
def itmsO : List O → Option (List D)
  | [.dct l] => some (itmD l)
  | _ => none
theorem ks_at {H : Hp} : ∀ {xs : List Ent} {l : List (D × D)} {i : Nat}, RepKs W H xs l → xs.length = l.length ∧ ∀ k q v, xs[i]? = some (k, q, v) → ∃ dk d, l[i]? = some (dk, d) ∧ RepF W H (.ref q) dk ∧ RepF W H v d
  | _, _, i, .nil => ⟨rfl, fun k q v h => by simp at h⟩
  | _, _, 0, .cons a b c r => ⟨by simp [(ks_at (i := 0) r).1], fun k q v h => by
      simp only [List.getElem?_cons_zero, Option.some.injEq, Prod.mk.injEq] at h
      obtain ⟨rfl, rfl, rfl⟩ := h
      exact ⟨_, _, rfl, b, c⟩⟩
  | _, _, i + 1, .cons a b c r => ⟨by simp [(ks_at (i := i) r).1], fun k q v h => by
      obtain ⟨dk, d, h1, h2⟩ := (ks_at (i := i) r).2 k q v (by simpa using h)
      exact ⟨dk, d, by simpa using h1, h2⟩⟩
theorem feeds_itemsX {Hb Hm : Hp} {p : Addr} {od : Obj} {xs : List Ent} {l : List (D × D)} (hp : Hm p = some (.ext (DctAt p od xs))) (rf : RepKs W Hb xs l) : Feeds W Hb Hm [p] (ItiX p od xs) [.ref p] [.dct l] (itmD l) := by
  intro i H0 H La eb ex ro kp
  have hH : H p = some (.ext (DctAt p od xs)) := kp p (by simp) _ hp
  have ln := (ks_at (i := 0) rf).1
  refine ⟨fun d hd => ?_, fun hl => ⟨hH, by rw [hl]; simp [itmD, ln]⟩⟩
  have hi : i < l.length := by
    have := (List.getElem?_eq_some_iff.mp hd).1
    simpa [itmD] using this
  refine ⟨⟨hH, by omega⟩, fun x H' hy => ?_⟩
  obtain ⟨T, k, q, v, hk, rfl, hT, rfl⟩ := hy
  obtain ⟨dk, d', h1, h2, h3⟩ := (ks_at (i := i) rf).2 k q v hk
  have ed : d = .tup [dk, d'] := by
    simp only [itmD, List.getElem?_map, h1, Option.map_some, Option.some.injEq] at hd
    exact hd.symm
  subst ed
  have st := step_new0 (o := .tup [.ref q, v]) ex hT
  exact ⟨_, st, .tup (SqT.of upd_same) (.cons ((h2.mono eb).mono st.ex0) (.cons ((h3.mono eb).mono st.ex0) .nil))⟩
theorem si_itemsX {k : Nat} {e : Expr} {A : E} {kk : Nat} {elts : List Expr} {tpos apos cpos : Pos} (cx : Ctx W k Wx X) (he : SE W vs Wx X e A) (hbase : attributeBase e "items" X.env (eval e X.env) = eval e X.env := by rfl) (hline : (apos.endLine == cpos.line) = true := by rfl) :
    SI W vs Wx X (.Tuple elts kk tpos) (.Call (.Attribute e "items" apos) [] [] cpos) (evs [A]) itmsO := by
  refine pi_weak (pi_itemsX he hbase hline) fun σ H Q q => ?_
  refine tA_one (tI_args q fun us os ds H1 H01 La ro ex e kq => ?_)
  intro v ev
  subst ev
  unfold itmsO at e
  split at e
  · rename_i l
    cases e
    obtain ⟨v', e3, r1⟩ := ro.one
    cases e3
    cases r1 with
    | @dct p ob xs _ hp rk => exact ⟨p, ob, xs, rfl, hp, kq _ (feeds_itemsX hp rk)⟩
  · cases e
theorem itms_O (l : List (D × D)) : itmsO [.dct l] = some (itmD l) := rfl
end
end VI
namespace VI
open PySem PySem.Spec PyProof.Rows L2
section
variable {W : Wd} {X : Cx} {vs : List (Option V)} {Wx : WX}
/-! ### dict(zip(l, m)): l a list of tuples, all unlike -/
def keysD : List D → Option (List NestedKey)
  | [] => some []
  | d :: l => match kD1 d, keysD l with
    | some k, some ks => if k ∈ ks then none else some (k :: ks)
    | _, _ => none
def lstO : O → Option (List D)
  | .pure (.lst l) => some l
  | .lst l => some l
  | _ => none
def dzipO : List O → Option O
  | [a, b] => match lstO a, lstO b with
    | some l, some m => if l.length = m.length ∧ (keysD l).isSome = true then some (.dct (l.zip m)) else none
    | _, _ => none
  | _ => none
theorem keysD_cons {d : D} {l : List D} {ks : List NestedKey} (h : keysD (d :: l) = some ks) : ∃ k ks', kD1 d = some k ∧ keysD l = some ks' ∧ k ∉ ks' ∧ ks = k :: ks' := by
  unfold keysD at h
  split at h
  · rename_i k ks' h1 h2
    split at h
    · cases h
    · rename_i hn
      cases h
      exact ⟨k, ks', h1, h2, hn, rfl⟩
  · cases h
theorem keysD_nodup : ∀ {l : List D} {ks : List NestedKey}, keysD l = some ks → ks.Nodup
  | [], ks, h => by cases h; exact List.nodup_nil
  | d :: l, ks, h => by
    obtain ⟨k, ks', h1, h2, h3, rfl⟩ := keysD_cons h
    exact List.nodup_cons.mpr ⟨h3, keysD_nodup h2⟩
theorem ents_of {H0 : Hp} : ∀ {l m : List D} {us ws : List V} {ks : List NestedKey}, keysD l = some ks → l.length = m.length → RepFs W H0 us l → RepFs W H0 ws m →
    ∃ xs : List Ent, RepKs W H0 xs (l.zip m) ∧ us = xs.map (fun x => V.ref x.2.1) ∧ ws = xs.map (fun x => x.2.2) ∧ xs.map (·.1) = ks
  | [], [], _, _, _, h, _, .nil, .nil => by cases h; exact ⟨[], .nil, rfl, rfl, rfl⟩
  | [], _ :: _, _, _, _, _, h, _, _ => by simp at h
  | _ :: _, [], _, _, _, _, h, _, _ => by simp at h
  | d :: l, e :: m, _, _, ks, h, hl, .cons (v := v) a r, .cons (v := w) b t => by
    obtain ⟨k, ks', h1, h2, h3, rfl⟩ := keysD_cons h
    obtain ⟨xs, r1, r2, r3, r4⟩ := ents_of h2 (by simpa using hl) r t
    obtain ⟨_, _, ds, rfl⟩ := kD1_of h1
    have a0 := a
    cases a with
    | @tup p us ds sq rs =>
      exact ⟨(k, p, w) :: xs, .cons h1 a0 b r1, by simp [r2], by simp [r3], by simp [r4]⟩
theorem ps_of : ∀ {xs : List Ent} {i1 i2 : List Value}, Vals (xs.map fun x => V.ref x.2.1) i1 → Vals (xs.map fun x => x.2.2) i2 →
    ∃ ps : List (NestedKey × Addr × Value), Paired PvR xs ps ∧ i1 = ps.map (fun y => .ref y.2.1) ∧ i2 = ps.map (fun y => y.2.2)
  | [], _, _, .nil, .nil => ⟨[], .nil, rfl, rfl⟩
  | x :: xs, _, _, .cons a r, .cons b t => by
    obtain ⟨ps, p1, p2, p3⟩ := ps_of (xs := xs) r t
    cases a
    exact ⟨(x.1, x.2.1, _) :: ps, .cons ⟨rfl, rfl, b⟩ p1, by simp [p2], by simp [p3]⟩
theorem keys_same : ∀ {xs : List Ent} {ps : List (NestedKey × Addr × Value)}, Paired PvR xs ps → xs.map (·.1) = ps.map (·.1)
  | _, _, .nil => rfl
  | _, _, .cons a r => by simp [a.1, keys_same r]
theorem at_new {K : Type} [DecidableEq K] {k : K} : ∀ {xs : List (K × Addr × Value)}, k ∉ xs.map (·.1) → atKey xs k = none
  | [], _ => rfl
  | (k', p, v) :: xs, h => by
    simp only [List.map_cons, List.mem_cons, not_or] at h
    have ih := at_new (k := k) (xs := xs) h.2
    have ne : ¬ k' = k := fun e => h.1 e.symm
    simpa [atKey, ne] using ih
theorem stored_new {K : Type} [DecidableEq K] : ∀ (ps acc : List (K × Addr × Value)), ((acc ++ ps).map (·.1)).Nodup → storedAllH acc ps = acc ++ ps
  | [], acc, _ => by simp [storedAllH]
  | p :: ps, acc, h => by
    have hn : p.1 ∉ acc.map (·.1) := fun hm => by
      rw [List.map_append, List.nodup_append] at h
      exact h.2.2 p.1 hm p.1 (by simp) rfl
    have e : storedAllH acc (p :: ps) = storedAllH (acc ++ [p]) ps := by
      unfold storedAllH
      rw [List.foldl_cons, storedH_new (at_new hn)]
    rw [e, stored_new ps (acc ++ [p]) (by simpa [List.append_assoc] using h)]
    simp
theorem se_dzip {k : Nat} {p p2 pos pos2 : Pos} {e1 e2 : Expr} {A B : E} (cx : Ctx W k Wx X) (hg : Gl X "dict") (hm : X.mg "dict" = none) (hg2 : Gl X "zip") (hm2 : X.mg "zip" = none) (ha : SA W vs Wx X [e1, e2] (evs [A, B]))
    (hs : starEach [e1, e2] X.env = (false, eval e1 X.env) :: starEach [e2] X.env := by rfl) (hpl : (backTo pos2 (starEach [e2] X.env)).any (·.1) = false := by rfl)
    (hs2 : starEach [Expr.Call (.Name "zip" p2) [e1, e2] [] pos2] X.env = (false, eval (.Call (.Name "zip" p2) [e1, e2] [] pos2) X.env) :: starEach [] X.env := by rfl) :
    SE W vs Wx X (.Call (.Name "dict" p) [.Call (.Name "zip" p2) [e1, e2] [] pos2] [] pos) (bltE dzipO [A, B]) := by
  have hK := cx.K
  have hu := hu65 cx
  refine pe_weak (t := fun σ H Q => tA W vs Wx (evs [A, B]) σ H (fun us H1 => cO W dzipO us H1 Q)) ⟨fun pins s σ H Q I h => Call_ (ld_blt I hg hm PyProof.Rows.boot_dict (PyProof.Rows.callWith_type1 ?_ hs2 rfl))⟩ fun σ H Q q => tA_blt q
  rw [hs2]
  show wpAny _ _ (spliced ((false, eval (.Call (.Name "zip" p2) [e1, e2] [] pos2) X.env) :: backTo pos (starEach [] X.env))) _ _ s
  refine Calls.spliced_cons (Call_ (ld_blt I hg2 hm2 PyProof.Rows.boot_zip (PyProof.Rows.callWith_type1 (thn (ha.run pos2 pins s σ H _ I h) fun us s1 q0 => ?_) hs hpl)))
  obtain ⟨xs0, H1, I1, r1, H0, os, o, ex, pr, e, gv⟩ := q0
  -- what is handed in
  obtain ⟨oa, ob, rfl⟩ : ∃ a b, os = [a, b] := by
    unfold dzipO at e
    split at e
    · exact ⟨_, _, rfl⟩
    · cases e
  obtain ⟨va, vb, e2, ⟨La, ra⟩, ⟨Lb, rb⟩⟩ := two_of pr
  subst e2
  have e' : ∃ l m, lstO oa = some l ∧ lstO ob = some m ∧ l.length = m.length ∧ (keysD l).isSome = true ∧ o = .dct (l.zip m) := by
    simp only [dzipO] at e
    split at e
    · rename_i l m h1 h2
      split at e
      · rename_i h3
        cases e
        exact ⟨l, m, h1, h2, h3.1, h3.2, rfl⟩
      · cases e
    · cases e
  obtain ⟨l, m, h1, h2, hl, hk, rfl⟩ := e'
  have lo : ∀ {o : O} {l : List D}, lstO o = some l → o = .pure (.lst l) ∨ o = .lst l := fun {o l} h => by
    unfold lstO at h
    split at h
    · cases h; exact .inl rfl
    · cases h; exact .inr rfl
    · cases h
  obtain ⟨pa, ua, ea, hqa, rfa⟩ := sql_of ex ra (lo h1)
  obtain ⟨pb, ub, eb, hqb, rfb⟩ := sql_of ex rb (lo h2)
  subst ea; subst eb
  obtain ⟨u1, u2, eu, ru1, ru2⟩ := vals2 r1
  subst eu
  cases ru1; cases ru2
  rw [← hK] at hqa hqb
  obtain ⟨i1, rv1, p1, z1⟩ := I1.list hqa
  obtain ⟨i2, rv2, p2', z2⟩ := I1.list hqb
  obtain ⟨ks, hks⟩ := Option.isSome_iff_exists.mp hk
  obtain ⟨xs, rk, eu, ew, ek⟩ := ents_of hks hl rfa rfb
  subst eu; subst ew
  obtain ⟨ps, pp, ei1, ei2⟩ := ps_of rv1 rv2
  have hz : xs.length ≤ sizeLine := by simpa using z1
  have hlp : xs.length = ps.length := Paired.length pp
  refine zip_begins2 (begins_list pa i1.toArray) (begins_list pb i2.toArray) p1.isList p2'.isList fun h2 hz2 hTI hTO g1 g2 hsz hkp => Calls.spliced_nil ?_
  have D : ZipApart (s1.heap.objs.size + 4) (s1.heap.objs.size + 2) (s1.heap.objs.size + 3) s1.heap.objs.size (s1.heap.objs.size + 1) pa pb := by
    have la : @LT.lt Nat _ pa s1.heap.objs.size := p1.lt
    have lb : @LT.lt Nat _ pb s1.heap.objs.size := p2'.lt
    constructor <;> first | exact Nat.ne_of_gt (by omega) | exact Nat.ne_of_lt (by omega)
  have A1 : h2.IsList pa i1.toArray := p1.isList.at fun o e => hkp _ o e
  have A2 : h2.IsList pb i2.toArray := p2'.isList.at fun o e => hkp _ o e
  have sz1 : i1.length = ps.length := by rw [ei1]; simp
  have sz2 : i2.length = ps.length := by rw [ei2]; simp
  have keep : ∀ h' : Heap, (∀ b o, b ≠ h2.objs.size → b ∉ [s1.heap.objs.size + 4, s1.heap.objs.size + 3, s1.heap.objs.size, s1.heap.objs.size + 1] → h2.get? b = some o → h'.get? b = some o) → ∀ b o, s1.heap.get? b = some o → h'.get? b = some o := fun h' hk' b o e => by
    have lt : @LT.lt Nat _ b s1.heap.objs.size := Heap.lt_size e
    refine hk' b o (Nat.ne_of_lt (by omega)) (fun hm => ?_) (hkp b o e)
    simp only [List.mem_cons, List.not_mem_nil, or_false] at hm
    rcases hm with hm | hm | hm | hm <;> exact absurd hm (Nat.ne_of_lt (by omega))
  refine call_dict_pairsH (knd := nestedKind X.prog X.w) (ps := ps) (s := { s1 with heap := h2 }) (PairArg.zip _ _ _ _ _ _ _ D i1.toArray i2.toArray) ?_ ?_ ⟨hz2, hTI, ⟨_, _, hTO⟩, ⟨_, g1, rfl, rfl⟩, ⟨_, g2, rfl, rfl⟩, A1, A2⟩ ⟨?_, ?_⟩ ?_ ?_ fun h3 tk dd hk3 => ?_
  · exact I1.ok.hd cx.calm
  · show X.A.units + 1 + 1 + 8 < cLine
    omega
  · simp only [List.size_toArray]; omega
  · intro i key v ⟨q1, q2⟩
    simp only [List.getElem?_toArray] at q1 q2
    rw [ei1, List.getElem?_map] at q1
    rw [ei2, List.getElem?_map] at q2
    obtain ⟨y, hy, e1⟩ := Option.map_eq_some_iff.mp q1
    rw [hy] at q2
    simp only [Option.map_some, Option.some.injEq] at q2
    exact ⟨y.1, y.2.1, by rw [hy, ← q2], e1.symm⟩
  · intro h' hk' y hy
    have I2 : Inv X pins σ H1 { s1 with heap := h' } := I1.kept (t' := s1.toks) (keep h' hk')
    have all : ∀ {xs : List Ent} {ps : List (NestedKey × Addr × Value)}, Paired PvR xs ps → (∀ x ∈ xs, ∃ dk, kD1 dk = some x.1 ∧ RepF W H1 (.ref x.2.1) dk) → ∀ y ∈ ps, (nestedKind X.prog X.w).is h' y.1 y.2.1 := by
      intro xs ps pr
      induction pr with
      | nil => intro _ y hy; cases hy
      | @cons p q ps qs hq t ih =>
        intro hx y hy
        rcases List.mem_cons.mp hy with rfl | hy
        · obtain ⟨dk, k1, k2⟩ := hx p (by simp)
          obtain ⟨k3, k4, _⟩ := kD1_of k1
          rw [hq.1] at k3 k4
          rw [hq.2.1] at k2
          exact ⟨nested_is I2 hK k2 k3 rfl, k4⟩
        · exact ih (fun x hx' => hx x (List.mem_cons_of_mem _ hx')) y hy
    exact all pp (rk.mono ex).keys y hy
  · simp only [List.size_toArray]; omega
  · have dd2 : h3.DictOfH (nestedKind X.prog X.w) h2.objs.size (storedAllH [] ps) := dd
    rw [stored_new ps [] (by
      rw [List.nil_append, ← keys_same pp, ek]
      exact keysD_nodup hks), List.nil_append] at dd2
    have big : @LT.lt Nat _ sysModules s1.heap.objs.size := I1.big
    have hd : (h2.objs.size == sysModules) = false := beq_eq_false_iff_ne.mpr (Nat.ne_of_gt (by omega))
    obtain ⟨o', ok'⟩ := dct_ok (xs := xs) hd hz pp dd2
    have hle : s1.heap.objs.size ≤ h2.objs.size := by omega
    have hn := I1.hok.fresh hle
    have I3 := I1.laid (a := h2.objs.size) (o := .ext (DctAt h2.objs.size o' xs)) (h' := h3) (t' := tk) (fun b o e => hk3 b o (by
      have lt : @LT.lt Nat _ b s1.heap.objs.size := Heap.lt_size e
      intro hm
      simp only [List.mem_cons, List.not_mem_nil, or_false] at hm
      rcases hm with hm | hm | hm | hm <;> exact absurd hm (Nat.ne_of_lt (by omega))) (hkp b o e)) hle (ok' _)
    exact ⟨.ref h2.objs.size, _, I3, rfl, gv _ _ H0 [h2.objs.size] (step_newL ex hn) (.dct upd_same rk)⟩
end
end VI
namespace L2
open PySem PySem.W PySem.Calls PySem.Spec PyProof.Rows PyProof.V
/-! ### list(zip(l, m)), l and m lists -/
theorem zip_no_len : typeLookup (.type "zip") "__len__" = pure none := am_miss_of_fast (by decide +kernel)
theorem zip_no_hint : typeLookup (.type "zip") "__length_hint__" = pure none := am_miss_of_fast (by decide +kernel)
section
variable {prog : Program} {w : World} {A : Around} {E : Value → Shared → Prop} {s : Shared}
theorem zip_hint {r : Addr} (hT : s.TypeIs (.ref r) "zip") {Q : Bool → Shared → Prop} (h : Q true s) : wpAny (model prog w) A (Builtin.List.listLengthHint (.ref r)) Q E s := by
  unfold Builtin.List.listLengthHint
  refine wpAny_bind (wpAny_specialOf hT zip_no_len ?_)
  refine wpAny_bind (wpAny_specialOf hT zip_no_hint ?_)
  exact wpAny_pure h
def ZSt (z TI TO i1 i2 l1 l2 S : Addr) (xs ys : Array Value) (i : Nat) (h : Heap) : Prop :=
  IsPair h TI (.ref i1) (.ref i2) ∧ h.IsListIter i1 l1 i ∧ h.IsListIter i2 l2 i ∧ h.IsList l1 xs ∧ h.IsList l2 ys ∧
    ((IsZip h z TI TO .none ∧ ∃ a b, IsPair h TO a b) ∨ ∃ T f oT, IsZipHeld h z TI TO T f ∧ h.get? T = some oT ∧ T ≠ z ∧ T ≠ i1 ∧ T ≠ i2 ∧ T ≠ S)
structure ZLow (z TI TO i1 i2 l1 l2 S : Addr) : Prop where
  D : ZipApart z TI TO i1 i2 l1 l2
  z : @LT.lt Nat _ z S
  TI : @LT.lt Nat _ TI S
  TO : @LT.lt Nat _ TO S
  i1 : @LT.lt Nat _ i1 S
  i2 : @LT.lt Nat _ i2 S
  l1 : @LT.lt Nat _ l1 S
  l2 : @LT.lt Nat _ l2 S
variable {z TI TO i1 i2 l1 l2 S : Addr} {xs ys : Array Value}
theorem ZSt.frame (L : ZLow z TI TO i1 i2 l1 l2 S) {i : Nat} {h h' : Heap} (st : ZSt z TI TO i1 i2 l1 l2 S xs ys i h) (hk : ∀ b o, b ≠ S → h.get? b = some o → h'.get? b = some o) : ZSt z TI TO i1 i2 l1 l2 S xs ys i h' := by
  obtain ⟨hTI, h1, h2, hl1, hl2, hz⟩ := st
  refine ⟨hk _ _ (Nat.ne_of_lt L.TI) hTI, h1.at fun o e => hk _ o (Nat.ne_of_lt L.i1) e, h2.at fun o e => hk _ o (Nat.ne_of_lt L.i2) e, hl1.at fun o e => hk _ o (Nat.ne_of_lt L.l1) e, hl2.at fun o e => hk _ o (Nat.ne_of_lt L.l2) e, ?_⟩
  rcases hz with ⟨hz, a, b, hTO⟩ | ⟨T, f, oT, hz, hT, r1, r2, r3, r4⟩
  · exact .inl ⟨hk _ _ (Nat.ne_of_lt L.z) hz, a, b, hk _ _ (Nat.ne_of_lt L.TO) hTO⟩
  · exact .inr ⟨T, f, oT, hk _ _ (Nat.ne_of_lt L.z) hz, hk _ _ r4 hT, r1, r2, r3, r4⟩
theorem zst_item (L : ZLow z TI TO i1 i2 l1 l2 S) {i : Nat} {x y : Value} {Q : Option Value → Shared → Prop} (st : ZSt z TI TO i1 i2 l1 l2 S xs ys i s.heap) (hS : S < s.heap.objs.size) (ex : xs[i]? = some x) (ey : ys[i]? = some y)
    (hQ : ∀ h', ZSt z TI TO i1 i2 l1 l2 S xs ys (i + 1) h' → IsPair h' s.heap.objs.size x y → h'.objs.size = s.heap.objs.size + 1 → (∀ c o, c ≠ z → c ≠ TO → c ≠ i1 → c ≠ i2 → s.heap.get? c = some o → h'.get? c = some o) → Q (some (.ref s.heap.objs.size)) { s with heap := h' }) :
    wpAny (model prog w) A (pyNext (.ref z)) Q E s := by
  obtain ⟨hTI, h1, h2, hl1, hl2, hz⟩ := st
  have D := L.D
  have lt : ∀ {c o}, s.heap.get? c = some o → s.heap.objs.size ≠ c := fun e => Nat.ne_of_gt (Heap.lt_size e)
  have n1 : s.heap.objs.size ≠ i1 := let ⟨_, e, _⟩ := h1; lt e
  have n2 : s.heap.objs.size ≠ i2 := let ⟨_, e, _⟩ := h2; lt e
  rcases hz with ⟨hz, a, b, hTO⟩ | ⟨T, f, oT, hz, hT, r1, r2, r3, r4⟩
  · refine wpAny_pyNext_zip_item D hz hTI hTO h1 h2 hl1 hl2 ex ey fun h' a1 a2 a3 a4 a5 a6 hk => hQ h' ⟨hk _ _ D.TIz D.TITO D.TIi1 D.TIi2 hTI, a3, a4, hl1.at fun o e => hk _ o D.l1z D.l1TO D.l1i1 D.l1i2 e, hl2.at fun o e => hk _ o D.l2z D.l2TO D.l2i1 D.l2i2 e, ?_⟩ a5 a6 hk
    exact .inr ⟨s.heap.objs.size, false, _, a1, a5, lt hz, n1, n2, Nat.ne_of_gt hS⟩
  · refine wpAny_pyNext_zip_item_held D hz hT hTI h1 h2 hl1 hl2 ex ey fun h' a1 a3 a4 a5 a6 hk => hQ h' ⟨hk _ _ D.TIz D.TIi1 D.TIi2 hTI, a3, a4, hl1.at fun o e => hk _ o D.l1z D.l1i1 D.l1i2 e, hl2.at fun o e => hk _ o D.l2z D.l2i1 D.l2i2 e, ?_⟩ a5 a6 fun c o q1 _ q3 q4 e => hk c o q1 q3 q4 e
    exact .inr ⟨T, true, oT, a1, hk _ _ r1 r2 r3 hT, r1, r2, r3, r4⟩
theorem zst_done (hh : A.handled = none) (L : ZLow z TI TO i1 i2 l1 l2 S) {i : Nat} {Q : Option Value → Shared → Prop} (st : ZSt z TI TO i1 i2 l1 l2 S xs ys i s.heap) (hend : xs[i]? = none ∨ ys[i]? = none)
    (hQ : ∀ h', (∀ c o, c ≠ z → c ≠ TO → c ≠ i1 → c ≠ i2 → s.heap.get? c = some o → h'.get? c = some o) → Q none { s with heap := h' }) : wpAny (model prog w) A (pyNext (.ref z)) Q E s := by
  obtain ⟨hTI, h1, h2, hl1, hl2, hz⟩ := st
  rcases hz with ⟨hz, a, b, hTO⟩ | ⟨T, f, oT, hz, hT, r1, r2, r3, r4⟩
  · exact wpAny_pyNext_zip_end hh L.D hz hTI hTO h1 h2 hl1 hl2 hend hQ
  · exact wpAny_pyNext_zip_end_held hh L.D hz hT hTI h1 h2 hl1 hl2 hend fun h' hk => hQ h' fun c o q1 _ q3 q4 e => hk c o q1 q3 q4 e
structure ZipG (xs ys : Array Value) (lo : Addr) (h : Heap) (as : List Addr) : Prop where
  rise : as.Pairwise (· < ·)
  above : ∀ a ∈ as, lo < a
  pairs : ∀ (j : Nat) (a : Addr), as[j]? = some a → ∃ x y, xs[j]? = some x ∧ ys[j]? = some y ∧ IsPair h a x y
theorem ZipG.there {lo : Addr} {h : Heap} {as : List Addr} (g : ZipG xs ys lo h as) {a : Addr} (ha : a ∈ as) : a < h.objs.size := by
  obtain ⟨j, hj⟩ := List.mem_iff_getElem?.mp ha
  obtain ⟨_, _, _, _, e⟩ := g.pairs j a hj
  exact Heap.lt_size e
variable {R : Result → Shared → Prop}
theorem zip_loop (hh : A.handled = none) (L : ZLow z TI TO i1 i2 l1 l2 S) {n : Nat} (hnx : n = min xs.size ys.size) (hn : n ≤ sizeLine) (res : Value) {h₁ : Heap}
    (hR : ∀ h' tk acc c as, (∀ b o, b ≠ S → b ≠ z → b ≠ TO → b ≠ i1 → b ≠ i2 → h₁.get? b = some o → h'.get? b = some o) → h'.get? S = some { cls := .type "list", dict := none, data := .seq acc c, slots := #[] } → as.length = n → ZipG xs ys S h' as →
      acc.toList = as.map Value.ref → R (.ok (.ret res)) { s with heap := h', toks := tk }) :
    ∀ (k i : Nat) (h : Heap) (tk c : Nat) (acc : Array Value) (as : List Addr), n - i = k → i ≤ n → ZSt z TI TO i1 i2 l1 l2 S xs ys i h → (∀ b o, b ≠ S → b ≠ z → b ≠ TO → b ≠ i1 → b ≠ i2 → h₁.get? b = some o → h.get? b = some o) →
      h.get? S = some { cls := .type "list", dict := none, data := .seq acc c, slots := #[] } → acc.toList = as.map Value.ref → as.length = i → ZipG xs ys S h as →
      codeAny (model prog w) A (.builtin "list.extend.loop" ⟨[.ref S, .ref z, res], []⟩) R { s with heap := h, toks := tk } := by
  have nz : S ≠ z := Nat.ne_of_gt L.z
  have nTO : S ≠ TO := Nat.ne_of_gt L.TO
  have n1 : S ≠ i1 := Nat.ne_of_gt L.i1
  have n2 : S ≠ i2 := Nat.ne_of_gt L.i2
  have hi : ∀ {b : Addr}, S < b → b ≠ z ∧ b ≠ TO ∧ b ≠ i1 ∧ b ≠ i2 := fun {b} hb => ⟨Nat.ne_of_gt (Nat.lt_trans L.z hb), Nat.ne_of_gt (Nat.lt_trans L.TO hb), Nat.ne_of_gt (Nat.lt_trans L.i1 hb), Nat.ne_of_gt (Nat.lt_trans L.i2 hb)⟩
  intro k
  induction k with
  | zero =>
    intro i h tk c acc as hk hi' hst hkeep hS hacc hal hG
    have hin : i = n := by omega
    refine codeAny_builtin PySem.F.entry_extend_loop ?_
    rw [Around.under_plainId PySem.F.plain_extend_loop _]
    show wpAny _ A.in1 (pyNext (.ref z) >>= _) _ _ _
    have hend : xs[i]? = none ∨ ys[i]? = none := by
      rcases Nat.le_total xs.size ys.size with q | q
      · exact .inl (Array.getElem?_eq_none (by rw [hin, hnx, Nat.min_eq_left q]; exact Nat.le_refl _))
      · exact .inr (Array.getElem?_eq_none (by rw [hin, hnx, Nat.min_eq_right q]; exact Nat.le_refl _))
    refine wpAny_bind (zst_done (s := { s with heap := h, toks := tk }) (A := A.in1) hh L hst hend fun h' he => ?_)
    refine wpAny_pure (hR h' tk acc c as (fun b o q0 q1 q2 q3 q4 e => he b o q1 q2 q3 q4 (hkeep b o q0 q1 q2 q3 q4 e)) (he S _ nz nTO n1 n2 hS) (by omega) ⟨hG.rise, hG.above, fun j a hj => ?_⟩ hacc)
    obtain ⟨x, y, e1, e2, e3⟩ := hG.pairs j a hj
    obtain ⟨q1, q2, q3, q4⟩ := hi (hG.above a (List.mem_of_getElem? hj))
    exact ⟨x, y, e1, e2, he a _ q1 q2 q3 q4 e3⟩
  | succ k ih =>
    intro i h tk c acc as hk hi' hst hkeep hS hacc hal hG
    have hlt : i < n := by omega
    have hix : i < xs.size := Nat.lt_of_lt_of_le hlt (by rw [hnx]; exact Nat.min_le_left ..)
    have hiy : i < ys.size := Nat.lt_of_lt_of_le hlt (by rw [hnx]; exact Nat.min_le_right ..)
    have ex := Array.getElem?_eq_getElem hix
    have ey := Array.getElem?_eq_getElem hiy
    have hsz : acc.size = i := by rw [← Array.length_toList, hacc, List.length_map, hal]
    have hSl : S < h.objs.size := Heap.lt_size hS
    refine codeAny_builtin PySem.F.entry_extend_loop ?_
    rw [Around.under_plainId PySem.F.plain_extend_loop _]
    show wpAny _ A.in1 (pyNext (.ref z) >>= _) _ _ _
    refine wpAny_bind (zst_item (s := { s with heap := h, toks := tk }) L hst hSl ex ey fun h' hst' ht hz hkp => ?_)
    dsimp only at ht hz hkp ⊢
    have hS' := hkp S _ nz nTO n1 n2 hS
    have up : ∀ b o, b ≠ S → h'.get? b = some o → (h'.update S (Obj.mapSeq (·.push (Value.ref h.objs.size)))).get? b = some o := fun b o hb e => (Heap.get?_update_other _ _ (Ne.symm hb)).trans e
    show wpAny _ A.in1 (updateSeq S (·.push (Value.ref h.objs.size)) >>= _) _ _ _
    refine wpAny_bind ?_
    refine wpAny_updateSeq hS' rfl (wpAny_pure ⟨plainId_quiet PySem.F.plain_extend_loop _, ih (i + 1) _ tk _ (acc.push (Value.ref h.objs.size)) (as ++ [h.objs.size]) (by omega) hlt (hst'.frame L up)
      (fun b o q0 q1 q2 q3 q4 e => up b o q0 (hkp b o q1 q2 q3 q4 (hkeep b o q0 q1 q2 q3 q4 e))) (Heap.get?_update_self _ hS' rfl) (by rw [Array.toList_push, hacc, List.map_append]; rfl) (by rw [List.length_append, hal]; rfl) ⟨?_, ?_, ?_⟩⟩) (by rw [hsz]; omega) (by show (acc.push (Value.ref h.objs.size)).size ≤ sizeLine + 1; rw [Array.size_push, hsz]; omega)
    · refine List.pairwise_append.mpr ⟨hG.rise, List.pairwise_singleton _ _, fun a ha b hb => ?_⟩
      rw [List.mem_singleton.mp hb]
      exact hG.there ha
    · intro a ha
      rcases List.mem_append.mp ha with ha | ha
      · exact hG.above a ha
      · rw [List.mem_singleton.mp ha]; exact hSl
    · intro j b hj
      rcases Nat.lt_trichotomy j as.length with q | q | q
      · rw [List.getElem?_append_left q] at hj
        obtain ⟨x, y, e1, e2, e3⟩ := hG.pairs j b hj
        have hb := hG.above b (List.mem_of_getElem? hj)
        obtain ⟨q1, q2, q3, q4⟩ := hi hb
        exact ⟨x, y, e1, e2, up b _ (Nat.ne_of_gt hb) (hkp b _ q1 q2 q3 q4 e3)⟩
      · subst q
        have hb : h.objs.size = b := by simpa using hj
        subst hb
        exact ⟨_, _, by rw [hal]; exact ex, by rw [hal]; exact ey, up _ _ (Nat.ne_of_gt hSl) ht⟩
      · have hnone : (as ++ [h.objs.size])[j]? = none := List.getElem?_eq_none (by rw [List.length_append, List.length_singleton]; omega)
        rw [hnone] at hj; cases hj
theorem zip_extend (hh : A.handled = none) (L : ZLow z TI TO i1 i2 l1 l2 S) {n : Nat} (hnx : n = min xs.size ys.size) (hn : n ≤ sizeLine) (hz0 : IsZip s.heap z TI TO .none) (st : ZSt z TI TO i1 i2 l1 l2 S xs ys 0 s.heap) (res : Value) (c₀ : Nat) (hS : s.heap.get? S = some { cls := .type "list", data := .seq #[] c₀ })
    (hR : ∀ h' tk acc c as, (∀ b o, b ≠ S → b ≠ z → b ≠ TO → b ≠ i1 → b ≠ i2 → s.heap.get? b = some o → h'.get? b = some o) → h'.get? S = some { cls := .type "list", dict := none, data := .seq acc c, slots := #[] } → as.length = n → ZipG xs ys S h' as →
      acc.toList = as.map Value.ref → R (.ok (.ret res)) { s with heap := h', toks := tk }) :
    wpAny (model prog w) A.in1 (Builtin.List.listExtendWith (.ref S) (.ref z) res)
      (fun fin s' => match fin with | .done f => R (.ok f) s' | .again c' => c'.quiet = true ∧ codeAny (model prog w) A c' R s') (fun e s' => R (.error e) s') s := by
  have hSr : S ≠ z := Nat.ne_of_gt L.z
  have hT : s.TypeIs (.ref z) "zip" := ⟨_, hz0, rfl⟩
  have key : ∀ (h : Heap) (c₁ tk : Nat), (∀ b o, b ≠ S → s.heap.get? b = some o → h.get? b = some o) →
      h.get? S = some { cls := .type "list", data := .seq #[] c₁ } → codeAny (model prog w) A (.builtin "list.extend.loop" ⟨[.ref S, .ref z, res], []⟩) R { s with heap := h, toks := tk } := by
    intro h c₁ tk hk hS₁
    exact zip_loop (s := s) (h₁ := s.heap) hh L hnx hn res hR n 0 h tk c₁ #[] [] (Nat.sub_zero _) (Nat.zero_le _) (st.frame L hk) (fun b o q _ _ _ _ e => hk b o q e) hS₁ rfl rfl
      ⟨List.Pairwise.nil, (fun _ ha => nomatch ha), (fun j a hj => by simp at hj)⟩
  unfold Builtin.List.listExtendWith
  refine wpAny_bind (wpAny_typeOf (T := "zip") hT ?_)
  have h1 : Builtin.List.listSameRef (.ref S) (.ref z) = false := by simp [Builtin.List.listSameRef, hSr]
  have h2 : (Value.type "zip" == Value.type "list") = false := by decide
  have h3 : (Value.type "zip" == Value.type "tuple") = false := by decide
  simp only [h1, h2, h3, Bool.or_false, Bool.false_eq_true, if_false]
  refine wpAny_bind (wpAny_pyIter_zip hz0 ?_)
  refine wpAny_bind (wpAny_holding (zip_hint hT ?_))
  refine wpAny_ite_split (fun _ => ?_) (fun _ => wpAny_pure ⟨plainId_quiet PySem.F.plain_extend_loop _, key _ c₀ _ (fun b o _ e => e) hS⟩)
  refine wpAny_bind (wpAny_rule ?_)
  refine wpAny_bind ?_
  show wpAny _ _ (updateSeq S (·.push .none) >>= fun _ => updateSeq S (·.pop)) _ _ _
  refine wpAny_bind (wpAny_updateSeq hS rfl ?_)
  have hS₂ := Heap.get?_update_self (Obj.mapSeq (·.push Value.none)) hS rfl
  refine wpAny_updateSeq (hz := by seq_fits) hS₂ rfl ?_
  have hS₃ := Heap.get?_update_self (Obj.mapSeq (·.pop)) hS₂ rfl
  refine wpAny_pure ⟨plainId_quiet PySem.F.plain_extend_loop _, key _ _ _ (fun b o hb e => ?_) hS₃⟩
  exact (Heap.get?_update_other _ _ (Ne.symm hb)).trans ((Heap.get?_update_other _ _ (Ne.symm hb)).trans e)
theorem zip_init (hh : A.handled = none) (L : ZLow z TI TO i1 i2 l1 l2 S) {n : Nat} (hnx : n = min xs.size ys.size) (hn : n ≤ sizeLine) (hz0 : IsZip s.heap z TI TO .none) (st : ZSt z TI TO i1 i2 l1 l2 S xs ys 0 s.heap) (hS : s.heap.get? S = some { cls := .type "list", data := .seq #[] })
    (hR : ∀ h' tk acc c as, (∀ b o, b ≠ S → b ≠ z → b ≠ TO → b ≠ i1 → b ≠ i2 → s.heap.get? b = some o → h'.get? b = some o) → h'.get? S = some { cls := .type "list", dict := none, data := .seq acc c, slots := #[] } → as.length = n → ZipG xs ys S h' as →
      acc.toList = as.map Value.ref → R (.ok (.ret .none)) { s with heap := h', toks := tk }) :
    wpAny (model prog w) A.in1 (Builtin.«list.__init__» ⟨[.ref S, .ref z], []⟩)
      (fun fin s' => match fin with | .done f => R (.ok f) s' | .again c' => c'.quiet = true ∧ codeAny (model prog w) A c' R s') (fun e s' => R (.error e) s') s := by
  show wpAny _ _ (do let old ← Builtin.List.listItems (.ref S); Builtin.List.listUpdate (.ref S) (fun _ => #[]); letGo old.toList.reverse; Builtin.List.listExtendWith (.ref S) (.ref z) .none) _ _ s
  refine wpAny_bind ?_
  unfold Builtin.List.listItems
  refine wpAny_bind (wpAny_seqItems hS rfl (wpAny_pure ?_))
  show wpAny _ _ (updateSeq S (fun _ => #[]) >>= fun _ => letGo (#[] : Array Value).toList.reverse >>= fun _ => Builtin.List.listExtendWith (.ref S) (.ref z) .none) _ _ s
  refine wpAny_bind (wpAny_updateSeq hS rfl ?_)
  have hS₂ := Heap.get?_update_self (Obj.mapSeq (fun _ => (#[] : Array Value))) hS rfl
  have oth : ∀ b o, b ≠ S → s.heap.get? b = some o → (s.heap.update S (Obj.mapSeq (fun _ => (#[] : Array Value)))).get? b = some o :=
    fun b o hb e => (Heap.get?_update_other _ _ (Ne.symm hb)).trans e
  refine wpAny_bind (wpAny_letGo ?_)
  refine zip_extend hh L hnx hn (oth z _ (Nat.ne_of_lt L.z) hz0) (st.frame L oth) .none _ hS₂ (fun h' tk acc c as hk hS' hl hG hacc => ?_)
  exact hR h' tk acc c as (fun b o q0 q1 q2 q3 q4 e => hk b o q0 q1 q2 q3 q4 (oth b o q0 e)) hS' hl hG hacc
end
section
variable {prog : Program} {w : World} {A : Around} {E : Value → Shared → Prop} {s : Shared} {z TI TO i1 i2 l1 l2 : Addr} {xs ys : Array Value}
theorem call_list_zip {Q : Value → Shared → Prop} (hh : A.handled = none) (L : ZLow z TI TO i1 i2 l1 l2 s.heap.objs.size) (hn : min xs.size ys.size ≤ sizeLine) (hz0 : IsZip s.heap z TI TO .none) (hTI : IsPair s.heap TI (.ref i1) (.ref i2)) (hTO : ∃ a b, IsPair s.heap TO a b)
    (h1 : s.heap.IsListIter i1 l1 0) (h2 : s.heap.IsListIter i2 l2 0) (hl1 : s.heap.IsList l1 xs) (hl2 : s.heap.IsList l2 ys)
    (hQ : ∀ h' tk acc c as, (∀ b o, b ≠ z → b ≠ TO → b ≠ i1 → b ≠ i2 → s.heap.get? b = some o → h'.get? b = some o) → h'.get? s.heap.objs.size = some { cls := .type "list", dict := none, data := .seq acc c, slots := #[] } → as.length = min xs.size ys.size → ZipG xs ys s.heap.objs.size h' as →
      acc.toList = as.map Value.ref → Q (.ref s.heap.objs.size) { s with heap := h', toks := tk }) :
    wpAny (model prog w) A (call (.type "list") [.ref z]) Q E s := by
  refine callType_codes (Q₁ := fun obj s₁ => obj = .ref s.heap.objs.size ∧ s₁ = { s with heap := s.heap.push { cls := .type "list", data := .seq #[] } }) PySem.F.called_list (PySem.F.typeCall_list_1 _) PySem.F.entry_list_init
    (code_list_new _ ⟨rfl, rfl⟩) fun obj s₁ h₁ => ?_
  obtain ⟨rfl, rfl⟩ := h₁
  have hS : (s.heap.push { cls := .type "list", data := .seq #[] }).get? s.heap.objs.size = some { cls := .type "list", data := .seq #[] } := Heap.get?_push_size _ rfl
  have pu : ∀ b o, s.heap.get? b = some o → (s.heap.push { cls := .type "list", data := .seq #[] }).get? b = some o := fun b o e => Heap.get?_push_of_some _ e
  obtain ⟨a, b, hTO⟩ := hTO
  refine ⟨⟨_, hS, rfl⟩, PySem.F.args_list_init_2 _ _, zip_init (A := A.in1) hh L rfl hn (pu _ _ hz0) ⟨pu _ _ hTI, h1.at fun o e => pu _ o e, h2.at fun o e => pu _ o e, hl1.at fun o e => pu _ o e, hl2.at fun o e => pu _ o e, .inl ⟨pu _ _ hz0, a, b, pu _ _ hTO⟩⟩ hS (fun h' tk acc c as hk hS' hl hG hacc => ?_)⟩
  exact ⟨rfl, hQ h' tk acc c as (fun b o q1 q2 q3 q4 e => hk b o (Nat.ne_of_lt (Heap.lt_size e)) q1 q2 q3 q4 (pu b o e)) hS' hl hG hacc⟩
end
end L2
namespace VI
open PySem PySem.Spec PyProof.Rows L2
def putZ : Hp → List Addr → List (V × V) → Hp
  | H, a :: as, p :: ps => putZ (upd H a (.tup [p.1, p.2])) as ps
  | H, _, _ => H
theorem putZ_off {b : Addr} : ∀ (as : List Addr) (ps : List (V × V)) (H : Hp), b ∉ as → putZ H as ps b = H b
  | [], _, _, _ => rfl
  | _ :: _, [], _, _ => rfl
  | a :: as, p :: ps, H, h => by
    show putZ (upd H a (.tup [p.1, p.2])) as ps b = H b
    rw [putZ_off as ps _ (fun z => h (List.mem_cons_of_mem _ z)), upd_ne (fun z => h (by rw [z]; exact List.mem_cons_self))]
theorem putZ_at : ∀ (as : List Addr) (ps : List (V × V)) (H : Hp), as.length = ps.length → as.Nodup → Paired (fun (t : Addr) (p : V × V) => putZ H as ps t = some (.tup [p.1, p.2])) as ps
  | [], [], _, _, _ => .nil
  | [], _ :: _, _, h, _ => by cases h
  | _ :: _, [], _, h, _ => by cases h
  | a :: as, p :: ps, H, h, hn => by
    have hn' := List.nodup_cons.mp hn
    refine .cons ?_ (putZ_at as ps (upd H a (.tup [p.1, p.2])) (Nat.succ.inj h) hn'.2)
    show putZ (upd H a (.tup [p.1, p.2])) as ps a = some (.tup [p.1, p.2])
    rw [putZ_off as ps _ hn'.1, upd_same]
theorem putZ_step : ∀ (as : List Addr) (ps : List (V × V)) {H0 H : Hp}, Ex H0 H → (∀ a ∈ as, H a = none) → as.Nodup → Step H0 H [] (putZ H0 as ps) (putZ H as ps) []
  | [], _, _, _, e, _, _ => Step.refl (Sep.nil e)
  | _ :: _, [], _, _, e, _, _ => Step.refl (Sep.nil e)
  | a :: as, p :: ps, H0, H, e, hf, hn => by
    have hn' := List.nodup_cons.mp hn
    have st := step_new0 (o := .tup [p.1, p.2]) e (hf a (by simp))
    refine st.trans (putZ_step as ps st.sep.ex (fun b hb => ?_) hn'.2)
    rw [upd_ne (fun z => hn'.1 (by rw [← z]; exact hb))]
    exact hf b (List.mem_cons_of_mem _ hb)
theorem zip_laid {X : Cx} {pins : List (Addr × Obj)} {σ : L2.St} {H : Hp} {s : Shared} {h' : Heap} {tk : Nat} {us ws : List V} {xs ys : List Value} {acc : Array Value} {c : Nat} {as : List Addr} {S : Addr} (I : Inv X pins σ H s) (r1 : Vals us xs) (r2 : Vals ws ys) (hz : as.length ≤ sizeLine)
    (hk : ∀ b o, s.heap.get? b = some o → h'.get? b = some o) (hle : s.heap.objs.size ≤ S) (hS : h'.get? S = some { cls := .type "list", dict := none, data := .seq acc c, slots := #[] }) (hl : as.length = (us.zip ws).length) (hG : ZipG xs.toArray ys.toArray S h' as) (hacc : acc.toList = as.map Value.ref) :
    (∀ t ∈ as, H t = none) ∧ H S = none ∧ S ∉ as ∧ as.Nodup ∧ Inv X pins σ (upd (putZ H as (us.zip ws)) S (.lst (as.map V.ref))) { s with heap := h', toks := tk } := by
  have hSn : S ∉ as := fun z => Nat.lt_irrefl _ (hG.above _ z)
  have nd : as.Nodup := List.Pairwise.imp (fun {a b} (h : a < b) => Nat.ne_of_lt h) hG.rise
  have new : ∀ t ∈ as, H t = none := fun t ht => I.hok.fresh (Nat.le_trans hle (Nat.le_of_lt (hG.above t ht)))
  have newS : H S = none := I.hok.fresh hle
  have atP := putZ_at as (us.zip ws) H hl nd
  have atQ : ∀ t ∈ as, upd (putZ H as (us.zip ws)) S (.lst (as.map V.ref)) t = putZ H as (us.zip ws) t := fun t ht => upd_ne (fun z => hSn (by rw [← z]; exact ht))
  have off : ∀ b, b ∉ as → b ≠ S → upd (putZ H as (us.zip ws)) S (.lst (as.map V.ref)) b = H b := fun b h1 h2 => by rw [upd_ne h2, putZ_off as _ _ h1]
  have low : ∀ b o, s.heap.get? b = some o → b ∉ as ∧ b ≠ S := fun b o e => ⟨fun z => absurd (Heap.lt_size e) (Nat.not_lt.mpr (Nat.le_trans hle (Nat.le_of_lt (hG.above b z)))), Nat.ne_of_lt (Nat.lt_of_lt_of_le (Heap.lt_size e) hle)⟩
  have kp : ∀ b u, H b = some u → (upd (putZ H as (us.zip ws)) S (.lst (as.map V.ref))) b = some u := fun b u e => by
    rw [off b (fun z => by rw [new b z] at e; cases e) (fun z => by rw [z, newS] at e; cases e)]
    exact e
  refine ⟨new, newS, hSn, nd, ?_⟩
  refine I.call' (ch := []) rfl ⟨fun b o q _ _ _ => hk b o q, fun b o q _ _ _ => ⟨o.slots, hk b o q⟩, fun b o q n _ => ?_, fun b o q _ => ⟨o, hk b o q⟩, fun b xs q => kp b _ q, fun b o u q => kp b _ q, fun b ps q => ⟨#[], by rw [kp b _ q]; simp⟩⟩ (fun b u q => ?_) I.bare fun b z => by cases z
  · obtain ⟨z1, z2⟩ := low b o q
    rw [off b z1 z2]
    exact n
  · by_cases hb : b ∈ as
    · obtain ⟨j, pk, e1, e2, e3⟩ := LiI.paired_ix atP hb
      rw [atQ b hb, e3] at q
      cases q
      obtain ⟨x, y, f1, f2, f3⟩ := hG.pairs j b e1
      simp only [List.getElem?_toArray] at f1 f2
      obtain ⟨g1, g2⟩ := List.getElem?_zip_eq_some.mp e2
      obtain ⟨x', q1, q2⟩ := r1.get g1
      obtain ⟨y', q3, q4⟩ := r2.get g2
      rw [f1] at q1; cases q1
      rw [f2] at q3; cases q3
      exact ⟨by show 2 ≤ sizeLine; decide, [x, y], .cons q2 (.cons q4 .nil), ⟨_, f3, rfl, _, rfl⟩⟩
    · by_cases hb2 : b = S
      · rw [hb2] at q ⊢
        rw [upd_same] at q
        cases q
        refine ⟨by rw [List.length_map]; exact hz, acc.toList, c, by rw [hacc]; exact LiI.vals_refs as, ?_⟩
        rw [Array.toArray_toList]
        exact hS
      · rw [off b hb hb2] at q
        exact (I.hok b u q).stay (fun d v _ y => hk d v y) (fun d y => kp d _ y) fun d xs y => kp d _ y
theorem zip_rep {W : Wd} {H0 : Hp} : ∀ {as : List Addr} {us ws : List V} {l m : List D} {H' : Hp}, RepFs W H' us l → RepFs W H' ws m → Paired (fun (t : Addr) (p : V × V) => H' t = some (.tup [p.1, p.2])) as (us.zip ws) → RepFs W H' (as.map V.ref) (zipL l m)
  | [], us, ws, l, m, _, r, t, p => by
    cases r with
    | nil => cases p; exact .nil
    | cons a r => cases t with
      | nil => cases p; exact .nil
      | cons b t => cases p
  | a :: as, _, _, _, _, _, .nil, _, p => by cases p
  | a :: as, _, _, _, _, _, .cons _ _, .nil, p => by cases p
  | a :: as, _, _, _, _, _, .cons x r, .cons y t, .cons e p => .cons (.tup (SqT.of e) (.cons x (.cons y .nil))) (zip_rep (H0 := H0) r t p)
section
variable {W : Wd} {X : Cx} {vs : List (Option V)} {Wx : WX}
def lzipO : List O → Option O
  | [a, b] => match lstO a, lstO b with
    | some l, some m => some (.lst (zipL l m))
    | _, _ => none
  | _ => none
theorem se_lzip {k : Nat} {p p2 pos pos2 : Pos} {e1 e2 : Expr} {A B : E} (cx : Ctx W k Wx X) (hg : Gl X "list") (hm : X.mg "list" = none) (hg2 : Gl X "zip") (hm2 : X.mg "zip" = none) (ha : SA W vs Wx X [e1, e2] (evs [A, B]))
    (hs : starEach [e1, e2] X.env = (false, eval e1 X.env) :: starEach [e2] X.env := by rfl) (hpl : (backTo pos2 (starEach [e2] X.env)).any (·.1) = false := by rfl)
    (hs2 : starEach [Expr.Call (.Name "zip" p2) [e1, e2] [] pos2] X.env = (false, eval (.Call (.Name "zip" p2) [e1, e2] [] pos2) X.env) :: starEach [] X.env := by rfl) :
    SE W vs Wx X (.Call (.Name "list" p) [.Call (.Name "zip" p2) [e1, e2] [] pos2] [] pos) (bltE lzipO [A, B]) := by
  have hK := cx.K
  refine pe_weak (t := fun σ H Q => tA W vs Wx (evs [A, B]) σ H (fun us H1 => cO W lzipO us H1 Q)) ⟨fun pins s σ H Q I h => Call_ (ld_blt I hg hm PyProof.Rows.boot_list (PyProof.Rows.callWith_type1 ?_ hs2 rfl))⟩ fun σ H Q q => tA_blt q
  rw [hs2]
  show wpAny _ _ (spliced ((false, eval (.Call (.Name "zip" p2) [e1, e2] [] pos2) X.env) :: backTo pos (starEach [] X.env))) _ _ s
  refine Calls.spliced_cons (Call_ (ld_blt I hg2 hm2 PyProof.Rows.boot_zip (PyProof.Rows.callWith_type1 (thn (ha.run pos2 pins s σ H _ I h) fun us s1 q0 => ?_) hs hpl)))
  obtain ⟨xs0, H1, I1, r1, H0, os, o, ex, pr, e, gv⟩ := q0
  obtain ⟨oa, ob, rfl⟩ : ∃ a b, os = [a, b] := by
    unfold lzipO at e
    split at e
    · exact ⟨_, _, rfl⟩
    · cases e
  obtain ⟨va, vb, e2, ⟨La, ra⟩, ⟨Lb, rb⟩⟩ := two_of pr
  subst e2
  have e' : ∃ l m, lstO oa = some l ∧ lstO ob = some m ∧ o = .lst (zipL l m) := by
    simp only [lzipO] at e
    split at e
    · rename_i l m h1 h2
      cases e
      exact ⟨l, m, h1, h2, rfl⟩
    · cases e
  obtain ⟨l, m, h1, h2, rfl⟩ := e'
  have lo : ∀ {o : O} {l : List D}, lstO o = some l → o = .pure (.lst l) ∨ o = .lst l := fun {o l} h => by
    unfold lstO at h
    split at h
    · cases h; exact .inl rfl
    · cases h; exact .inr rfl
    · cases h
  obtain ⟨pa, ua, ea, hqa, rfa⟩ := sql_of ex ra (lo h1)
  obtain ⟨pb, ub, eb, hqb, rfb⟩ := sql_of ex rb (lo h2)
  subst ea; subst eb
  obtain ⟨u1, u2, eu, ru1, ru2⟩ := vals2 r1
  subst eu
  cases ru1; cases ru2
  rw [← hK] at hqa hqb
  obtain ⟨i1, rv1, p1, z1⟩ := I1.list hqa
  obtain ⟨i2, rv2, p2', z2⟩ := I1.list hqb
  have lv1 := rv1.length
  have lv2 := rv2.length
  refine zip_begins2 (begins_list pa i1.toArray) (begins_list pb i2.toArray) p1.isList p2'.isList fun h2 hz2 hTI hTO g1 g2 hsz hkp => Calls.spliced_nil ?_
  have la : @LT.lt Nat _ pa s1.heap.objs.size := p1.lt
  have lb : @LT.lt Nat _ pb s1.heap.objs.size := p2'.lt
  have D : ZipApart (s1.heap.objs.size + 4) (s1.heap.objs.size + 2) (s1.heap.objs.size + 3) s1.heap.objs.size (s1.heap.objs.size + 1) pa pb := by
    constructor <;> first | exact Nat.ne_of_gt (by omega) | exact Nat.ne_of_lt (by omega)
  have A1 : h2.IsList pa i1.toArray := p1.isList.at fun o e => hkp _ o e
  have A2 : h2.IsList pb i2.toArray := p2'.isList.at fun o e => hkp _ o e
  have L : ZLow (s1.heap.objs.size + 4) (s1.heap.objs.size + 2) (s1.heap.objs.size + 3) s1.heap.objs.size (s1.heap.objs.size + 1) pa pb h2.objs.size := by
    constructor
    · exact D
    all_goals omega
  refine call_list_zip (s := { s1 with heap := h2 }) (xs := i1.toArray) (ys := i2.toArray) ?_ L ?_ hz2 hTI ⟨_, _, hTO⟩ ⟨_, g1, rfl, rfl⟩ ⟨_, g2, rfl, rfl⟩ A1 A2 fun h3 tk acc c as hk3 hS hl hG hacc => ?_
  · exact I1.ok.hd cx.calm
  · simp only [List.size_toArray]; omega
  · have hle : s1.heap.objs.size ≤ h2.objs.size := by omega
    have hl2 : as.length = (ua.zip ub).length := by
      rw [hl, List.length_zip]
      simp only [List.size_toArray]
      omega
    have hk : ∀ b o, s1.heap.get? b = some o → h3.get? b = some o := fun b o e => by
      have lt : @LT.lt Nat _ b s1.heap.objs.size := Heap.lt_size e
      exact hk3 b o (Nat.ne_of_lt (by omega)) (Nat.ne_of_lt (by omega)) (Nat.ne_of_lt (by omega)) (Nat.ne_of_lt (by omega)) (hkp b o e)
    obtain ⟨n1, n2, n3, n4, J⟩ := zip_laid (tk := tk) (S := h2.objs.size) I1 rv1 rv2 (by rw [hl2, List.length_zip]; omega) hk hle hS hl2 hG hacc
    have st1 := putZ_step as (ua.zip ub) ex n1 n4
    have st2 := step_newL (H0 := putZ H0 as (ua.zip ub)) (H := putZ H1 as (ua.zip ub)) (p := h2.objs.size) (o := .lst (as.map V.ref)) st1.sep.ex (by rw [putZ_off as _ _ n3]; exact n2)
    have rp := zip_rep (H0 := H0) (rfa.mono st1.ex0) (rfb.mono st1.ex0) (putZ_at as (ua.zip ub) H0 hl2 n4)
    exact ⟨.ref h2.objs.size, _, J, rfl, gv _ _ _ [h2.objs.size] (st1.trans st2) (.lst upd_same rp)⟩
end
end VI
namespace L2
open PySem PySem.Spec PyProof.Rows PySem.W
/-! ### sum of a tuple of whole numbers -/
section
variable {prog : Program} {w : World} {A : Around} {E : Value → Shared → Prop} {s : Shared} {l : Addr} {its : List Value} {ns : List Int} {Q : Value → Shared → Prop}
theorem sum_rawT (hh : A.handled = none) (hl : s.heap.IsTuple l its.toArray) (hi : IntsAre its ns)
    (h : ∀ h' tk t', (∀ b o, s.heap.get? b = some o → h'.get? b = some o) → Q (.int ns.sum t') { s with heap := h', toks := tk }) : wpAny (model prog w) A (call (.builtin "sum") [.ref l]) Q E s := by
  obtain ⟨xs, e⟩ := hi.allInts.items
  have hn : numsOf (intItems xs).toList = ns := by rw [← e]; exact hi.numsOf
  rw [nums_intItems] at hn
  rw [e] at hl
  refine ktm_sumG hh hl fun h' tk t' hk => ?_
  have := h h' tk t' hk
  rw [preSum_eq, List.take_of_length_le (by simp), hn]; exact this
end
theorem cr_sumT {X : Cx} (hc : X.calm = true) : CallR X (.builtin "sum") (fun vs H Q => ∃ (a : Addr) (ns : List Int), vs = [V.ref a] ∧ SqT X.K H a (ns.map V.int) ∧ Q (.int ns.sum) H) := by
  intro pins s σ H vs us Q I r h
  obtain ⟨a, ns, rfl, hs, q⟩ := h
  obtain ⟨its, rv, hl, _⟩ := I.tuple hs
  rw [Vals.ref1 r]
  exact sum_rawT (I.ok.hd hc) hl rv.ints fun h' tk t' hk => ⟨.int _, H, I.kept hk, ⟨_, rfl⟩, q⟩
end L2
namespace VI
open PySem PySem.Spec PyProof.Rows L2
section
variable {W : Wd} {X : Cx} {vs : List (Option V)} {Wx : WX}
def sumTO : List O → Option O
  | [.pure (.tup l)] => (intsD l).map fun ys => .pure (.int ys.sum)
  | [.pure (.lst l)] => (intsD l).map fun ys => .pure (.int ys.sum)
  | [.lst l] => (intsD l).map fun ys => .pure (.int ys.sum)
  | _ => none
theorem cr_sumTO (hK : X.K = W.K) (hc : X.calm = true) : CallR X (.builtin "sum") (cO W sumTO) := by
  intro pins s σ H us ws Q I r ⟨H0, os, o, ex, pr, e, gv⟩
  have lst : ∀ (oo : O) l ys, os = [oo] → (oo = .pure (.lst l) ∨ oo = .lst l) → intsD l = some ys → o = .pure (.int ys.sum) → wpAny (model X.prog X.w) X.A (call (.builtin "sum") ws) (EP X pins σ Q) X.xe s := by
    intro oo l ys e1 h e2 e3
    subst e1 e3
    obtain ⟨v, e4, _, r1⟩ := one_of pr
    obtain ⟨p, us', e5, hs, rf⟩ := sql_of ex r1 h
    refine cr_sum hc pins s σ H us ws Q I r ⟨p, ys, by rw [e4, e5], ?_, gv.atom ex (.int _)⟩
    rw [← intsD_rep rf e2, hK]; exact hs
  unfold sumTO at e
  split at e
  · rename_i l
    obtain ⟨ys, h1, h2⟩ := Option.map_eq_some_iff.mp e
    obtain ⟨v, e4, _, r1⟩ := one_of pr
    obtain ⟨p, us', e5, hs, rf⟩ := sqt_of ex r1
    subst h2
    refine cr_sumT hc pins s σ H us ws Q I r ⟨p, ys, by rw [e4, e5], ?_, gv.atom ex (.int _)⟩
    rw [← intsD_rep rf h1, hK]; exact hs
  · obtain ⟨ys, h1, h2⟩ := Option.map_eq_some_iff.mp e
    exact lst _ _ ys rfl (.inl rfl) h1 h2.symm
  · obtain ⟨ys, h1, h2⟩ := Option.map_eq_some_iff.mp e
    exact lst _ _ ys rfl (.inr rfl) h1 h2.symm
  · cases e
theorem sum_rm (r : List Int) : sumTO [.pure (.tup (r.map D.int))] = some (.pure (.int r.sum)) := by
  show (intsD (r.map D.int)).map (fun ys => O.pure (.int ys.sum)) = _
  rw [intsD_map]; rfl
theorem sum_ls (r : List Int) : sumTO [.lst (r.map D.int)] = some (.pure (.int r.sum)) := by
  show (intsD (r.map D.int)).map (fun ys => O.pure (.int ys.sum)) = _
  rw [intsD_map]; rfl
end
end VI
/-! ### ranges of any ends -/
namespace VI
open PySem PySem.Spec PyProof.Rows L2
section
variable {P : Program} {w : World} {A : Around} {E : Value → Shared → Prop} {s : Shared}
theorem ext_rg {R : Result → Shared → Prop} {r : Addr} {a b c : Int} {t u v : Tok} {m : Nat} {io : Obj} {St : Nat → Heap → Prop} (rg : IsRange s.heap r a b c t u v) (rn : Builtin.Range.rangeSize a b c = m) (rl : m ≤ 2 ^ 24)
    (W : Walks P w A.in1 s.heap.objs.size [s.heap.objs.size] [s.heap.objs.size] m (fun i v => ∃ t, v = .int (a + i * c) t) St) (s0 : ∀ h : Heap, h.get? s.heap.objs.size = some io → St 0 h) (fr : io.isFreed = false)
    (itr : ∀ {Q : Value → Shared → Prop} {E : Value → Shared → Prop}, Q (.ref s.heap.objs.size) { s with heap := s.heap.push io } → wpAny (model P w) A.in1 (pyIter (.ref r)) Q E s)
    (S : Addr) (x : Value) (k : Nat) (lS : s.heap.get? S = some { cls := .type "list", data := .seq #[] k })
    (fin : ∀ h' tk acc' c', (∀ b o, b ≠ S → s.heap.get? b = some o → h'.get? b = some o) → h'.get? S = some { cls := .type "list", dict := none, data := .seq acc' c', slots := #[] } → ItemsOf (fun i v => ∃ t, v = .int (a + i * c) t) acc' m → R (.ok (.ret x)) { s with heap := h', toks := tk }) :
    wpAny (model P w) A.in1 (Builtin.List.listExtendWith (.ref S) (.ref r) x)
      (fun f s' => match f with | .done f => R (.ok f) s' | .again c' => c'.quiet = true ∧ codeAny (model P w) A c' R s') (fun e s' => R (.error e) s') s := by
  have n1 : S ≠ r := fun e => by rw [e, rg] at lS; simp at lS
  have n2 : S < s.heap.objs.size := Heap.lt_size lS
  have n3 : S ≠ s.heap.objs.size := Nat.ne_of_lt n2
  have n4 : S ∉ [s.heap.objs.size] := fun hm => n3 (List.mem_singleton.mp hm)
  have WS := W.toS
  have main : ∀ (h : Heap) (k1 tk : Nat), St 0 h → (∀ b o, b ≠ S → s.heap.get? b = some o → h.get? b = some o) → h.get? S = some { cls := .type "list", data := .seq #[] k1 } → codeAny (model P w) A (.builtin "list.extend.loop" ⟨[.ref S, .ref s.heap.objs.size, x], []⟩) R { s with heap := h, toks := tk } := by
    intro h k1 tk hi hb hS1
    refine codeAny_extend_loopS WS (by rw [sizeLine_eq]; omega) S n4 x m 0 _ #[] k1 rfl (Nat.zero_le _) hi hS1 (ItemsOf.nil _) fun s2 acc' c' mv lS2 its => ?_
    rw [Moved.eq_with mv]
    refine fin s2.heap s2.toks acc' c' (fun b o hne e => mv.heap b o (fun hmem => ?_) (hb b o hne e)) lS2 its
    rcases List.mem_cons.mp hmem with e2 | hmem
    · exact hne e2
    · exact absurd (Heap.lt_size e) (by rw [List.mem_singleton.mp hmem]; exact Nat.lt_irrefl _)
  unfold Builtin.List.listExtendWith
  refine wpAny_bind (wpAny_typeOf (T := "range") ⟨_, rg, rfl⟩ ?_)
  have g1 : Builtin.List.listSameRef (.ref S) (.ref r) = false := by simp [Builtin.List.listSameRef, n1]
  have g2 : (Value.type "range" == Value.type "list") = false := by decide
  have g3 : (Value.type "range" == Value.type "tuple") = false := by decide
  simp only [g1, g2, g3, Bool.or_false, Bool.false_eq_true, if_false]
  refine wpAny_bind (itr ?_)
  refine wpAny_bind (wpAny_holding (wpAny_hint_range (n := m) (Heap.get?_push_of_some _ rg) rn rl ?_))
  have i1 := Heap.get?_push_size s.heap (o := io) fr
  have l1 := Heap.get?_push_of_some io lS
  refine wpAny_ite_split (fun _ => ?_) (fun _ => wpAny_pure ⟨plainId_quiet F.plain_extend_loop _, main _ k _ (s0 _ i1) (fun b o _ e => Heap.get?_push_of_some _ e) l1⟩)
  refine wpAny_bind (wpAny_rule ?_)
  refine wpAny_bind ?_
  show wpAny _ _ (updateSeq S (·.push .none) >>= fun _ => updateSeq S (·.pop)) _ _ _
  refine wpAny_bind (wpAny_updateSeq l1 rfl ?_)
  have l2 := Heap.get?_update_self (Obj.mapSeq (·.push Value.none)) l1 rfl
  refine wpAny_updateSeq (hz := by seq_fits) l2 rfl ?_
  have l3 := Heap.get?_update_self (Obj.mapSeq (·.pop)) l2 rfl
  refine wpAny_pure ⟨plainId_quiet F.plain_extend_loop _, main _ _ _ (s0 _ ?_) (fun b o hne e => ?_) l3⟩
  · exact (Heap.get?_update_other _ _ n3).trans ((Heap.get?_update_other _ _ n3).trans i1)
  · exact (Heap.get?_update_other _ _ (Ne.symm hne)).trans ((Heap.get?_update_other _ _ (Ne.symm hne)).trans (Heap.get?_push_of_some _ e))
theorem ext_rgA {R : Result → Shared → Prop} {r : Addr} {a b c : Int} {t u v : Tok} {m : Nat} (hh : A.handled = none) (rg : IsRange s.heap r a b c t u v) (rn : Builtin.Range.rangeSize a b c = m) (rl : m ≤ 2 ^ 24)
    (S : Addr) (x : Value) (k : Nat) (lS : s.heap.get? S = some { cls := .type "list", data := .seq #[] k })
    (fin : ∀ h' tk acc' c', (∀ b o, b ≠ S → s.heap.get? b = some o → h'.get? b = some o) → h'.get? S = some { cls := .type "list", dict := none, data := .seq acc' c', slots := #[] } → ItemsOf (fun i v => ∃ t, v = .int (a + i * c) t) acc' m → R (.ok (.ret x)) { s with heap := h', toks := tk }) :
    wpAny (model P w) A.in1 (Builtin.List.listExtendWith (.ref S) (.ref r) x)
      (fun f s' => match f with | .done f => R (.ok f) s' | .again c' => c'.quiet = true ∧ codeAny (model P w) A c' R s') (fun e s' => R (.error e) s') s := by
  by_cases sm : Builtin.Range.small a b c = true
  · exact ext_rg rg rn rl (Walks.range (prog := P) (w := w) (A := A.in1) hh s.heap.objs.size a c m) (fun h e => by show IsRangeIter _ _ _ _ _; rw [← rn]; simpa using e) rfl (fun q => wpAny_pyIter_range rg sm q) S x k lS fin
  · exact ext_rg rg rn rl (Walks.longrange (prog := P) (w := w) (A := A.in1) hh s.heap.objs.size a c m) (fun h e => by show IsLongIter _ _ _ _ _; rw [← rn]; simpa using e) rfl (fun q => wpAny_pyIter_longrange rg (by simpa using sm) q) S x k lS fin
theorem init_rgA {R : Result → Shared → Prop} {r : Addr} {a b c : Int} {t u v : Tok} {m : Nat} (hh : A.handled = none) (rg : IsRange s.heap r a b c t u v) (rn : Builtin.Range.rangeSize a b c = m) (rl : m ≤ 2 ^ 24)
    (S : Addr) (lS : s.heap.get? S = some { cls := .type "list", data := .seq #[] })
    (fin : ∀ h' tk acc' c', (∀ b o, b ≠ S → s.heap.get? b = some o → h'.get? b = some o) → h'.get? S = some { cls := .type "list", dict := none, data := .seq acc' c', slots := #[] } → ItemsOf (fun i v => ∃ t, v = .int (a + i * c) t) acc' m → R (.ok (.ret .none)) { s with heap := h', toks := tk }) :
    wpAny (model P w) A.in1 (Builtin.«list.__init__» ⟨[.ref S, .ref r], []⟩)
      (fun f s' => match f with | .done f => R (.ok f) s' | .again c' => c'.quiet = true ∧ codeAny (model P w) A c' R s') (fun e s' => R (.error e) s') s := by
  have n1 : S ≠ r := fun e => by rw [e, rg] at lS; simp at lS
  show wpAny _ _ (do let old ← Builtin.List.listItems (.ref S); Builtin.List.listUpdate (.ref S) (fun _ => #[]); letGo old.toList.reverse; Builtin.List.listExtendWith (.ref S) (.ref r) .none) _ _ s
  refine wpAny_bind ?_
  unfold Builtin.List.listItems
  refine wpAny_bind (wpAny_seqItems lS rfl (wpAny_pure ?_))
  show wpAny _ _ (updateSeq S (fun _ => #[]) >>= fun _ => letGo (#[] : Array Value).toList.reverse >>= fun _ => Builtin.List.listExtendWith (.ref S) (.ref r) .none) _ _ s
  refine wpAny_bind (wpAny_updateSeq lS rfl ?_)
  have l2 := Heap.get?_update_self (Obj.mapSeq (fun _ => (#[] : Array Value))) lS rfl
  have oth : ∀ b o, b ≠ S → s.heap.get? b = some o → (s.heap.update S (Obj.mapSeq (fun _ => (#[] : Array Value)))).get? b = some o := fun b o hne e => (Heap.get?_update_other _ _ (Ne.symm hne)).trans e
  refine wpAny_bind (wpAny_letGo ?_)
  exact ext_rgA hh (oth r _ (Ne.symm n1) rg) rn rl S .none _ l2 fun h' tk acc' c' hb hS2 its => fin h' tk acc' c' (fun b o hne e => hb b o hne (oth b o hne e)) hS2 its
theorem call_list_rgA {Q : Value → Shared → Prop} {r : Addr} {a b c : Int} {t u v : Tok} {m : Nat} (hh : A.handled = none) (rg : IsRange s.heap r a b c t u v) (rn : Builtin.Range.rangeSize a b c = m) (rl : m ≤ 2 ^ 24)
    (fin : ∀ h' tk acc' c', (∀ b o, s.heap.get? b = some o → h'.get? b = some o) → h'.get? s.heap.objs.size = some { cls := .type "list", dict := none, data := .seq acc' c', slots := #[] } → ItemsOf (fun i v => ∃ t, v = .int (a + i * c) t) acc' m → Q (.ref s.heap.objs.size) { s with heap := h', toks := tk }) :
    wpAny (model P w) A (call (.type "list") [.ref r]) Q E s := by
  refine callType_codes (Q₁ := fun o s1 => o = .ref s.heap.objs.size ∧ s1 = { s with heap := s.heap.push { cls := .type "list", data := .seq #[] } }) F.called_list (F.typeCall_list_1 _) F.entry_list_init (code_list_new _ ⟨rfl, rfl⟩) fun o s1 h1 => ?_
  obtain ⟨rfl, rfl⟩ := h1
  have lS : (s.heap.push { cls := .type "list", data := .seq #[] }).get? s.heap.objs.size = some { cls := .type "list", data := .seq #[] } := Heap.get?_push_size _ rfl
  refine ⟨⟨_, lS, rfl⟩, F.args_list_init_2 _ _, init_rgA (A := A.in1) hh (Heap.get?_push_of_some _ rg) rn rl _ lS fun h' tk acc' c' hb hS2 its => ?_⟩
  exact ⟨rfl, fin h' tk acc' c' (fun b o e => hb b o (Nat.ne_of_lt (Heap.lt_size e)) (Heap.get?_push_of_some _ e)) hS2 its⟩
end
section
variable {W : Wd} {vs : List (Option V)} {Wx : WX} {X : Cx} {n : Nat}
def tLstRgA (te : L2.St → Hp → (Int → Int → Hp → Prop) → Prop) : TE := fun σ H Q => te σ H fun a b H1 => (b - a).toNat ≤ 2 ^ 24 ∧ ∀ q, H1 q = none → Q (.ref q) (upd H1 q (.lst (rgV a b)))
theorem pe_listRgA {e : Expr} {te : L2.St → Hp → (Int → Int → Hp → Prop) → Prop} {p pos : Pos} (hc : X.calm = true) (hg : Gl X "list") (hm : X.mg "list" = none) (he : PRg X e te) (na : starEach [e] X.env = (false, eval e X.env) :: starEach [] X.env := by rfl) : PE X (.Call (.Name "list" p) [e] [] pos) (tLstRgA te) := by
  refine ⟨fun pins s σ H Q I h => ?_⟩
  refine Call_ (ld_blt I hg hm boot_list (PyProof.Rows.callWith_type1 (args_cons (thn (he pins s σ H _ I h) fun x s1 ⟨r, a, b, t, u, v, H1, ex, hr, I1, ok, q⟩ => args_nil ?_) na) na))
  subst ex
  refine call_list_rgA (m := (b - a).toNat) (I1.ok.hd hc) hr (rangeSize_nat a b) ok fun h' tk acc c' hk e2 hi => ?_
  refine ⟨.ref s1.heap.objs.size, upd H1 s1.heap.objs.size (.lst (rgV a b)), I1.laid hk (Nat.le_refl _) (show ObjOk X.prog X.w _ _ _ (.lst (rgV a b)) from ⟨?_, acc.toList, c', vals_rg hi, ?_⟩), rfl, q _ (I1.hok.fresh (Nat.le_refl _))⟩
  · rw [rgV_length, sizeLine_eq]; omega
  · rw [Array.toArray_toList]; exact e2
def lrgAO : O → O → Option O
  | .pure (.int i), .pure (.int j) => if decide ((j - i).toNat ≤ 2 ^ 24) then some (.lst (rgL i j)) else none
  | _, _ => none
theorem se_lrgA {p p2 pos pos2 : Pos} {a b : Expr} {A B : E} {k : Nat} (cx : Ctx W k Wx X) (hg : Gl X "list") (hm : X.mg "list" = none) (hg2 : Gl X "range") (hm2 : X.mg "range" = none) (ha : SE W vs Wx X a A) (hb : SE W vs Wx X b B)
    (na : starEach [a, b] X.env = (false, eval a X.env) :: starEach [b] X.env := by rfl) (nb : starEach [b] X.env = (false, eval b X.env) :: starEach [] X.env := by rfl) (hp : (backTo pos2 (starEach [b] X.env)).any (·.1) = false := by rfl)
    (nc : starEach [.Call (.Name "range" p2) [a, b] [] pos2] X.env = (false, eval (.Call (.Name "range" p2) [a, b] [] pos2) X.env) :: starEach [] X.env := by rfl) :
    SE W vs Wx X (.Call (.Name "list" p) [.Call (.Name "range" p2) [a, b] [] pos2] [] pos) (bin lrgAO A B) := by
  refine pe_weak (pe_listRgA cx.calm hg hm (prg_2 hg2 hm2 ha hb na nb hp) nc) fun σ H Q q => ?_
  obtain ⟨H0, L, g, sp, en, post⟩ := tO_bin σ H Q q
  refine ⟨H0, L, g, sp, en, ?_⟩
  cases ea : A g with
  | stuck => rw [ea] at post; exact post.elim
  | exc x g' => rw [ea] at post; exact post
  | ok r g1 =>
    rw [ea] at post
    intro v H1 H01 Lr L1 st1 rr en1
    obtain ⟨H02, L2, g2, sp2, en2, post2⟩ := post v H1 H01 Lr L1 st1 rr en1
    refine ⟨H02, L2, g2, sp2, en2, ?_⟩
    cases eb : B g2 with
    | stuck => rw [eb] at post2; exact post2.elim
    | exc x g' => rw [eb] at post2; exact post2
    | ok s g3 =>
      rw [eb] at post2
      intro w H2 H03 Ls L3 st2 rs en3
      obtain ⟨H04, ox, oy, Lx, Ly, o, ex, rx, ry, ef, gv⟩ := post2 w H2 H03 Ls L3 st2 rs en3
      cases rx with
      | pure rx =>
        cases rx with
        | int i =>
          cases ry with
          | pure ry =>
            cases ry with
            | int j =>
              simp only [lrgAO] at ef
              by_cases hr : (j - i).toNat ≤ 2 ^ 24
              · rw [if_pos (decide_eq_true hr)] at ef
                cases ef
                exact ⟨i, j, rfl, rfl, hr, fun q hq => gv.newL ex (rgL_rep H04 i j) hq⟩
              · rw [if_neg (by simpa using hr)] at ef; cases ef
            | _ => cases ef
          | _ => cases ef
        | _ => cases ef
      | _ => cases ef
/-! a walk over a range of any ends -/
theorem turn_lrange {P : Program} {w : World} {K : PySem.W.Frag} {tg : Expr} (it : Addr) (lo : Int) (m : Nat) : Turn P w K tg (Itr lo m) [it] it (fun i h => IsLongIter h it (lo + (i : Nat) * 1) ((m : Int) - (i : Nat)) 1) where
  mem := by simp
  obj := fun i h st b hb => by
    have e : b = it := by simpa using hb
    subst e
    refine ⟨_, st, fun v z => ?_⟩
    have z2 : Data.fields _ = Data.cell v := z
    cases z2
  keep := fun i h h' st k => k it (by simp) _ st
  item := by
    intro X hP hw hK hc i pins s σ H E I hf st hg
    subst hP hw hK
    obtain ⟨f0, f1, f2, f3, f4, f5⟩ := hf it (by simp)
    have Wk := Walks.longrange (prog := X.prog) (w := X.w) (I.ok.hd hc) it lo 1 m
    refine Wk.item i s _ _ hg st fun v h' tk hv st2 kk => ?_
    obtain ⟨t, rfl⟩ := hv
    have I1 : Inv X pins σ H { s with heap := h', toks := tk } := I.turned (fun b o hb e => kk b o (by simpa using hb) e) f0 f1 f3 f4 f5
    refine ⟨_, rfl, go_of (s := { s with heap := h', toks := tk }) (n := "longrange_iterator") st2 rfl rfl (by decide) ⟨.int (lo + i), H, I1, ⟨t, ?_⟩, ⟨rfl, rfl⟩, st2, fun b hb => (hf b hb).1⟩⟩
    rw [Int.mul_one]
  done := by
    intro X hP hw hK hc i pins s σ H E I hf st hg
    subst hP hw hK
    obtain ⟨f0, f1, f2, f3, f4, f5⟩ := hf it (by simp)
    exact wpAny_pyNext_long_end (I.ok.hd hc) st (by have : m ≤ i := hg; omega) fun h' eb => ⟨rfl, I.turned (t' := s.toks) (fun b o hb e => eb b o hb e) f0 f1 f3 f4 f5⟩
  self := fun _ _ _ _ _ st h => wpAny_pyIter_longiter st h
theorem lrange_it {tg : Expr} {pins : List (Addr × Obj)} {σ : L2.St} {H : Hp} {s : Shared} {R : It → Hp → Prop} {E : Value → Shared → Prop} {lo hi : Int} {t u v : Tok} {tk : Nat} (I : Inv X pins σ H s) (q : R (Itr lo (hi - lo).toNat) H) :
    wpAny (model X.prog X.w) X.A (pyIter (.ref s.heap.objs.size)) (PIE X pins σ tg R) E { s with heap := s.heap.push { cls := .type "range", data := .fields #[.int lo t, .int hi u, .int 1 v] }, toks := tk } := by
  have I1 : Inv X pins σ H { s with heap := s.heap.push { cls := .type "range", data := .fields #[.int lo t, .int hi u, .int 1 v] }, toks := tk } := I.kept fun b o e => Heap.get?_push_of_some _ e
  have e1 : lo + ((0 : Nat) : Int) * 1 = lo := by simp
  have e2 : (((hi - lo).toNat : Nat) : Int) - ((0 : Nat) : Int) = Builtin.Range.rangeSize lo hi 1 := by rw [rangeSize_one]; split <;> omega
  have fin : ∀ (h : Heap) (io : Obj) (b : Addr), b ∈ [h.objs.size] → (h.push io).objs.size = h.objs.size + 1 → b = h.objs.size := fun h io b hb _ => by simpa using hb
  by_cases sm : Builtin.Range.small lo hi 1 = true
  · refine wpAny_pyIter_range (IsRange.new ..) sm ?_
    refine ⟨_, [_], _, _, H, rfl, I1.kept (t' := tk) fun b o e => Heap.get?_push_of_some _ e, turn_range _ lo (hi - lo).toNat, ?_, fun b hb => ?_, q⟩
    · show IsRangeIter _ _ (lo + ((0 : Nat) : Int) * 1) ((((hi - lo).toNat : Nat) : Int) - ((0 : Nat) : Int)) 1
      rw [e1, e2]
      exact Heap.get?_push_size _ rfl
    · rw [List.mem_singleton.mp hb]
      exact I1.fpOk (Nat.le_refl _) (I1.hok.fresh (Nat.le_refl _))
  · refine wpAny_pyIter_longrange (IsRange.new ..) (by simpa using sm) ?_
    refine ⟨_, [_], _, _, H, rfl, I1.kept (t' := tk) fun b o e => Heap.get?_push_of_some _ e, turn_lrange _ lo (hi - lo).toNat, ?_, fun b hb => ?_, q⟩
    · show IsLongIter _ _ (lo + ((0 : Nat) : Int) * 1) ((((hi - lo).toNat : Nat) : Int) - ((0 : Nat) : Int)) 1
      rw [e1, e2]
      exact Heap.get?_push_size _ rfl
    · rw [List.mem_singleton.mp hb]
      exact I1.fpOk (Nat.le_refl _) (I1.hok.fresh (Nat.le_refl _))
def iRng2A (ta : TA) : TI := fun σ H R => ta σ H fun vs H1 => ∃ i j : Int, vs = [.int i, .int j] ∧ R (Itr i (j - i).toNat) H1
theorem pi_range2A {tg a b : Expr} {ta : TA} {p pos : Pos} (hg : Gl X "range") (hm : X.mg "range" = none) (ha : PA X [a, b] ta) (hs : starEach [a, b] X.env = [(false, eval a X.env), (false, eval b X.env)] := by rfl) (hs2 : starEach [b] X.env = [(false, eval b X.env)] := by rfl) :
    PI X tg (.Call (.Name "range" p) [a, b] [] pos) (iRng2A ta) := by
  refine ⟨fun pins s σ H R I h => ?_⟩
  refine Call_ (ld_blt I hg hm boot_range (PyProof.Rows.callWith_type1 (thn (ha.run pos pins s σ H _ I h) fun us s1 ⟨vs, H1, I1, r1, q1⟩ => ?_) (by rw [hs, hs2]) (by rw [hs2]; rfl)))
  obtain ⟨i, j, e, q⟩ := q1
  subst e
  cases r1 with
  | cons r rr =>
    cases rr with
    | cons r2 rr =>
      cases rr
      obtain ⟨t, rfl⟩ := r
      obtain ⟨t2, rfl⟩ := r2
      exact call_range_2 (lrange_it I1 q)
def rng2A : List O → Option (List D)
  | [.pure (.int i), .pure (.int j)] => some ((List.range (j - i).toNat).map fun (k : Nat) => D.int (i + (k : Int)))
  | _ => none
theorem si_range2A {tg a b : Expr} {A B : E} {p pos : Pos} (hg : Gl X "range") (hm : X.mg "range" = none) (ha : SA W vs Wx X [a, b] (evs [A, B])) (hs : starEach [a, b] X.env = [(false, eval a X.env), (false, eval b X.env)] := by rfl) (hs2 : starEach [b] X.env = [(false, eval b X.env)] := by rfl) :
    SI W vs Wx X tg (.Call (.Name "range" p) [a, b] [] pos) (evs [A, B]) rng2A := by
  refine pi_weak (pi_range2A hg hm ha hs hs2) fun σ H Q q => tI_args q fun us os ds H1 H01 La ro ex e k => ?_
  unfold rng2A at e
  split at e
  · rename_i i j
    cases e
    exact ⟨i, j, ro.int2, k _ feeds_range⟩
  · cases e
end
end VI
/-! ### sorted(x) of alike tuples to any depth, any number; a < b of these -/
namespace VI
open PySem PySem.Spec PyProof.Rows L2
def D.pyv (d : D) : PyData := d.py.getD .none
def tup1 : PyData → Bool
  | .tuple (_ :: _) => true
  | _ => false
def sortsOk (ds : List D) : Bool := (ds.all fun d => d.py.isSome) && ((ds.all fun d => ds.all fun e => PySem.W.alike d.pyv e.pyv) && ((ds.all fun d => tup1 d.pyv) && (ds.all fun d => decide (d.pyv.depth < 60))))
def leD (d e : D) : Bool := PySem.W.dataLe false D.pyv d e
def sortDL (l : List D) : Option O := if sortsOk l = true then some (.lst (l.mergeSort leD)) else none
def sortDO : O → Option O
  | .lst l => sortDL l
  | .pure (.lst l) => sortDL l
  | _ => none
theorem pyv_of {d : D} (h : d.py.isSome = true) : d.py = some d.pyv := by
  obtain ⟨p, hp⟩ := Option.isSome_iff_exists.mp h
  unfold D.pyv
  rw [hp]; rfl
section
variable {W : Wd} {vs : List (Option V)} {Wx : WX} {X : Cx} {n : Nat}
theorem each_of {H : Hp} : ∀ {us : List V} {its : List Value} {ds : List D}, Vals us its → RepFs W H us ds → PySem.W.EachIs (fun (v : Value) (d : D) => ∃ x, RelV x v ∧ RepF W H x d) its ds
  | _, _, _, .nil, .nil => .nil
  | _, _, _, .cons r rr, .cons h hh => .cons ⟨_, r, h⟩ (each_of rr hh)
theorem of_each {H : Hp} : ∀ {its : List Value} {ds : List D}, PySem.W.EachIs (fun (v : Value) (d : D) => ∃ x, RelV x v ∧ RepF W H x d) its ds → ∃ us, Vals us its ∧ RepFs W H us ds
  | _, _, .nil => ⟨[], .nil, .nil⟩
  | _, _, .cons ⟨x, r, h⟩ e => by
    obtain ⟨us, a, b⟩ := of_each e
    exact ⟨x :: us, .cons r a, .cons h b⟩
theorem each_imp {α β : Type} {R S : α → β → Prop} : ∀ {as : List α} {bs : List β}, PySem.W.EachIs R as bs → (∀ a b, b ∈ bs → R a b → S a b) → PySem.W.EachIs S as bs
  | _, _, .nil, _ => .nil
  | _, _, .cons r e, h => .cons (h _ _ (by simp) r) (each_imp e fun a b hb => h a b (List.mem_cons_of_mem _ hb))
def tSortD (W : Wd) (ta : TE) : TE := fun σ H Q => ta σ H fun x H1 => ∃ (H' : Hp) (l : Addr) (us : List V) (ds : List D), x = .ref l ∧ Ex H' H1 ∧ SqL W.K H1 l us ∧ RepFs W H' us ds ∧ sortsOk ds = true ∧
  ∀ (us' : List V) (p : Addr), RepFs W H' us' (ds.mergeSort leD) → H1 p = none → Q (.ref p) (upd H1 p (.lst us'))
theorem pe_sortD {a : Expr} {ta : TE} {p pos : Pos} (hK : X.K = W.K) (hu : X.A.units + 64 < cLine) (hg : Gl X "sorted") (hm : X.mg "sorted" = none) (ha : PE X a ta)
    (na : starEach [a] X.env = (false, eval a X.env) :: starEach [] X.env := by rfl) : PE X (.Call (.Name "sorted" p) [a] [] pos) (tSortD W ta) := by
  refine ⟨fun pins s σ H Q I h => ?_⟩
  refine Call_ (ld_blt (u := .builtin "sorted") I hg hm (by decide +kernel) ?_)
  refine callWith_builtin1 (args_cons (thn (ha.run pins s σ H _ I h) fun v s1 ⟨x, H1, I1, r1, q1⟩ => args_nil ?_) na) na rfl
  obtain ⟨H', l, us, ds, rfl, ex, hq, rf, ok, q1⟩ := q1
  cases r1
  rw [← hK] at hq
  obtain ⟨its, r, pl, hz⟩ := I1.list hq
  unfold sortsOk at ok
  rw [Bool.and_eq_true, Bool.and_eq_true, Bool.and_eq_true] at ok
  obtain ⟨o1, o2, o3, o4⟩ := ok
  have e := each_of r rf
  have hlen : ds.length = us.length := (RepFs.len rf).symm
  refine PySem.W.sorted_data (enc := D.pyv) (bs := ds) pl.isList e (each_imp e fun v d hd ⟨x, rx, rd⟩ => ?_) (fun d hd d' hd' => ?_) (.inl fun d hd => ?_) (by rw [hlen]; exact hz) (fun d hd => ?_) fun out ol eo => ?_
  · have := (rd.mono ex).dp (pyv_of (List.all_eq_true.mp o1 d hd))
    rw [← hK] at this
    exact Dp.reads I1 _ x v this rx
  · obtain ⟨b, hb, rfl⟩ := List.mem_map.mp hd
    obtain ⟨b', hb', rfl⟩ := List.mem_map.mp hd'
    exact List.all_eq_true.mp (List.all_eq_true.mp o2 b hb) b' hb'
  · obtain ⟨b, hb, rfl⟩ := List.mem_map.mp hd
    have := List.all_eq_true.mp o3 b hb
    unfold tup1 at this
    split at this
    · rename_i x r hx; exact ⟨x, r, hx⟩
    · cases this
  · have := of_decide_eq_true (List.all_eq_true.mp o4 d hd)
    omega
  · obtain ⟨us', ro, rfo⟩ := of_each eo
    obtain ⟨c, hc⟩ := sortedAll_at s1.heap its (List.toArray out)
    have hn : H1 (s1.heap.objs.size + 1) = none := I1.hok.fresh (Nat.le_succ _)
    have hl2 : us'.length ≤ sizeLine := by rw [ro.length, ol, hlen]; exact hz
    refine ⟨.ref _, upd H1 (s1.heap.objs.size + 1) (.lst us'), I1.laid (t' := s1.toks) (fun _ _ => sortedAll_old) (Nat.le_succ _) ⟨hl2, out, c, ro, ?_⟩, rfl, q1 _ _ rfo hn⟩
    simpa using hc
theorem se_sortD {a : Expr} {A : E} {p pos : Pos} (cx : Ctx W n Wx X) (hu : X.A.units + 64 < cLine) (hg : Gl X "sorted") (hm : X.mg "sorted" = none) (ha : SE W vs Wx X a A)
    (na : starEach [a] X.env = (false, eval a X.env) :: starEach [] X.env := by rfl) : SE W vs Wx X (.Call (.Name "sorted" p) [a] [] pos) (una sortDO A) := by
  refine pe_weak (pe_sortD (W := W) cx.K hu hg hm ha na) fun σ H Q qq => ?_
  unfold tSortD
  obtain ⟨H0, L, g, sp, en, post⟩ := tO_una σ H Q qq
  refine ⟨H0, L, g, sp, en, ?_⟩
  cases ea : A g with
  | stuck => rw [ea] at post; exact post.elim
  | exc x g' => rw [ea] at post; exact post
  | ok r g1 =>
    rw [ea] at post
    intro v H1 H01 Lr L1 st1 rr en1
    obtain ⟨H02, ox, Lx, o, ex, ro, ef, gv⟩ := post v H1 H01 Lr L1 st1 rr en1
    have key : ∀ ds, (ox = .pure (.lst ds) ∨ ox = .lst ds) → sortDL ds = some o → ∃ (H' : Hp) (l : Addr) (us : List V) (ds : List D), v = .ref l ∧ Ex H' H1 ∧ SqL W.K H1 l us ∧ RepFs W H' us ds ∧ sortsOk ds = true ∧
        ∀ (us' : List V) (p : Addr), RepFs W H' us' (ds.mergeSort leD) → H1 p = none → Q (.ref p) (upd H1 p (.lst us')) := fun ds h e => by
      unfold sortDL at e
      split at e
      · rename_i hok
        cases e
        obtain ⟨p, us, e3, hs, rf⟩ := sql_of ex ro h
        exact ⟨H02, p, us, ds, e3, ex, hs, rf, hok, fun us' p2 rp hp => gv.newL ex rp hp⟩
      · cases e
    unfold sortDO at ef
    split at ef
    · exact key _ (.inr rfl) ef
    · exact key _ (.inl rfl) ef
    · cases ef
def ltDO (x y : O) : Option O := if x.full && y.full then (match x.er.py, y.er.py with
  | some p, some q => if PySem.W.alike p q && (tup1 p && decide (p.depth < 60)) then some (.pure (.bl (PySem.W.dataLt p q))) else none
  | _, _ => none) else none
theorem op_ltDO (hK : X.K = W.K) (hu : X.A.units + 64 < cLine) : OpR X (compareOp .Lt) (rO W ltDO) := by
  intro pins s σ H x y v u Q I rx ry ⟨H0, ox, oy, Lx, Ly, o, ex, hx, hy, e, gv⟩
  unfold ltDO at e
  split at e
  · rename_i hf
    rw [Bool.and_eq_true] at hf
    split at e
    · rename_i p q e1 e2
      split at e
      · rename_i hc
        rw [Bool.and_eq_true, Bool.and_eq_true] at hc
        cases e
        have d1 := (hx.toH ex hf.1).dp e1
        have d2 := (hy.toH ex hf.2).dp e2
        rw [← hK] at d1 d2
        obtain ⟨as, r1⟩ := Dp.reads I p x v d1 rx
        obtain ⟨bs, r2⟩ := Dp.reads I q y u d2 ry
        have hd := of_decide_eq_true hc.2.2
        refine PySem.W.lt_data r1 r2 hc.1 (fun e => ?_) (by omega) ⟨.bl _, H, I, rfl, gv.atom ex (.bl _)⟩
        rw [e] at hc
        cases hc.2.1
      · cases e
    · cases e
  · cases e
end
end VI
/-! ### exceptions with fields, as values -/
namespace VI
open PySem PySem.Spec PyProof.Rows L2
/-- what an exception's own __init__ does: fs its fields, in order -/
def spI (K : PySem.W.Frag) (fs : List Str) : Sp := fun us H Q _ => ∃ (a C : Addr) (ws : List V), us = .ref a :: ws ∧ ws.length = fs.length ∧ OexC K C ∧ H a = some (exo a C none) ∧ (∀ f ∈ fs, PySem.W.findIn K (.ref C) f = some none) ∧
  ∀ d H2, H d = none → d ≠ a → H2 a = some (exo a C (some d)) → H2 d = some (exd d (fs.zip ws).reverse) → (∀ b, b ≠ a → b ≠ d → H2 b = H b) → Q .non H2
section
variable {X : Cx}
theorem pe_oinit {x : Str} {B : Addr} {p apos pos : Pos} {e : Expr} {es : List Expr} {ta : TA} {pl : Sem Bool} (hg : Gl X x) (hm : X.mg x = some (.ref B)) (r : ClX.CRead X.K B (.type "type")) (hv : PySem.W.findCls X.K (.ref B) (.type "type") "__init__" = some (.val (.builtin "ValueError.__init__"))) (ha : PA X (e :: es) ta)
    (hdb : (x == ("__debug__" : Str)) = false := by decide) (hst : starEach (e :: es) X.env = (false, eval e X.env) :: starEach es X.env := by rfl) (hpl : (backTo pos (starEach es X.env)).any (·.1) = false := by rfl)
    (ht : eval (.Call (.Attribute (.Name x p) "__init__" apos) (e :: es) [] pos) X.env = (do
      let ov ← eval (.Name x p) X.env
      standAt apos.atName
      let (f, first) ← holding [ov] (getMethod ov "__init__" pl)
      callWith pos f first (backTo pos (starEach (e :: es) X.env)) (backToKw pos (keywordEach [] X.env))) := by rfl) :
    PE X (.Call (.Attribute (.Name x p) "__init__" apos) (e :: es) [] pos) (tVeI X.K ta) := by
  refine ⟨fun pins s σ H Q I h => ?_⟩
  refine PySem.W.methodCall_KW (pl := pl) (ld_glob I hg hm ?_ hdb) ht
  refine PySem.W.method_cls I.kIn r.ga (PySem.W.cls_value I.kIn r.rd hv (by decide +kernel) ?_)
  show wpAny _ _ (callWith pos (Value.builtin "ValueError.__init__") [] (backTo pos (starEach (e :: es) X.env)) []) _ _ _
  refine PyProof.Rows.callWith_method1 (thn (ha.run pos pins _ σ H _ (I.tok _) h) fun us s1 ⟨ws, H1, I1, r1, a, C, zs, ev, hl, T, ea, q⟩ => ?_) hst hpl
  subst ev
  cases r1 with
  | @cons _ u0 _ ur ra rr =>
    obtain rfl : u0 = Value.ref a := ra
    have hlen : ur.length ≤ sizeLine := by
      rw [← Paired.length rr, sizeLine_eq]
      omega
    exact oinit_ok T I1 ea hlen fun s2 J => ⟨.non, H1, J, rfl, q⟩
/-- the statements of such an __init__ -/
def tIn1 (K : PySem.W.Frag) (f : Str) (z : V) : TS := tSeq (tDrop (tVeI K (tCons (tVar 0) (tCons (tC z) tNil)))) (tSeq (tOst K f (tVar 0) (tVar 1)) tNext)
def tIn2 (K : PySem.W.Frag) (f g : Str) (z : V) : TS := tSeq (tDrop (tVeI K (tCons (tVar 0) (tCons (tC z) tNil)))) (tSeq (tOst K f (tVar 0) (tVar 1)) (tSeq (tOst K g (tVar 0) (tVar 2)) tNext))
def tIn3 (K : PySem.W.Frag) (f g h : Str) (z : V) : TS := tSeq (tDrop (tVeI K (tCons (tVar 0) (tCons (tC z) tNil)))) (tSeq (tOst K f (tVar 0) (tVar 1)) (tSeq (tOst K g (tVar 0) (tVar 2)) (tSeq (tOst K h (tVar 0) (tVar 3)) tNext)))
theorem in1_ok {K : PySem.W.Frag} {f : Str} {z : V} {N : List Str} {us : List V} {H : Hp} {Q : VK} {Ek : XK} (hN : N.length = 2) (h : spI K [f] us H Q Ek) : tIn1 K f z { nx := fun _ H' => Q .non H', rt := Q } (L2.start N us) H := by
  obtain ⟨a, C, ws, rfl, hl, T, ea, nf, q⟩ := h
  obtain ⟨y, rfl⟩ : ∃ y, ws = [y] := List.length_eq_one_iff.mp hl
  have hs : L2.start N [.ref a, y] = [some (.ref a), some y] := by unfold L2.start; rw [hN]; rfl
  rw [hs]
  refine ⟨.ref a, rfl, ?_⟩
  refine ⟨a, C, [z], rfl, by simp, T, ea, ?_⟩
  refine ⟨y, rfl, .ref a, rfl, a, C, rfl, T, nf f (by simp), .inl ⟨ea, fun dx hd hne => ?_⟩⟩
  refine q dx _ hd hne upd_same (by rw [upd_ne hne, upd_same]; rfl) fun b h1 h2 => by rw [upd_ne h1, upd_ne h2]
theorem in2_ok {K : PySem.W.Frag} {f g : Str} {z : V} {N : List Str} {us : List V} {H : Hp} {Q : VK} {Ek : XK} (hN : N.length = 3) (h : spI K [f, g] us H Q Ek) : tIn2 K f g z { nx := fun _ H' => Q .non H', rt := Q } (L2.start N us) H := by
  obtain ⟨a, C, ws, rfl, hl, T, ea, nf, q⟩ := h
  obtain ⟨y, y2, rfl⟩ : ∃ y y2, ws = [y, y2] := (by
    match ws, hl with
    | [y, y2], _ => exact ⟨y, y2, rfl⟩)
  have hs : L2.start N [.ref a, y, y2] = [some (.ref a), some y, some y2] := by unfold L2.start; rw [hN]; rfl
  rw [hs]
  refine ⟨.ref a, rfl, ?_⟩
  refine ⟨a, C, [z], rfl, by simp, T, ea, ?_⟩
  refine ⟨y, rfl, .ref a, rfl, a, C, rfl, T, nf f (by simp), .inl ⟨ea, fun dx hd hne => ?_⟩⟩
  have hd1 : (upd (upd H dx (exd dx [(f, y)])) a (exo a C (some dx))) dx = some (exd dx [(f, y)]) := by rw [upd_ne hne, upd_same]
  refine ⟨y2, rfl, .ref a, rfl, a, C, rfl, T, nf g (by simp), .inr ⟨dx, [(f, y)], upd_same, hd1, by simp, ?_⟩⟩
  refine q dx _ hd hne (by rw [upd_ne (Ne.symm hne), upd_same]) (by rw [upd_same]; rfl) fun b h1 h2 => by rw [upd_ne h2, upd_ne h1, upd_ne h2]
theorem in3_ok {K : PySem.W.Frag} {f g h' : Str} {z : V} {N : List Str} {us : List V} {H : Hp} {Q : VK} {Ek : XK} (hN : N.length = 4) (h : spI K [f, g, h'] us H Q Ek) : tIn3 K f g h' z { nx := fun _ H' => Q .non H', rt := Q } (L2.start N us) H := by
  obtain ⟨a, C, ws, rfl, hl, T, ea, nf, q⟩ := h
  obtain ⟨y, y2, y3, rfl⟩ : ∃ y y2 y3, ws = [y, y2, y3] := (by
    match ws, hl with
    | [y, y2, y3], _ => exact ⟨y, y2, y3, rfl⟩)
  have hs : L2.start N [.ref a, y, y2, y3] = [some (.ref a), some y, some y2, some y3] := by unfold L2.start; rw [hN]; rfl
  rw [hs]
  refine ⟨.ref a, rfl, ?_⟩
  refine ⟨a, C, [z], rfl, by simp, T, ea, ?_⟩
  refine ⟨y, rfl, .ref a, rfl, a, C, rfl, T, nf f (by simp), .inl ⟨ea, fun dx hd hne => ?_⟩⟩
  have hd1 : (upd (upd H dx (exd dx [(f, y)])) a (exo a C (some dx))) dx = some (exd dx [(f, y)]) := by rw [upd_ne hne, upd_same]
  refine ⟨y2, rfl, .ref a, rfl, a, C, rfl, T, nf g (by simp), .inr ⟨dx, [(f, y)], upd_same, hd1, by simp, ?_⟩⟩
  refine ⟨y3, rfl, .ref a, rfl, a, C, rfl, T, nf h' (by simp), .inr ⟨dx, [(g, y2), (f, y)], by rw [upd_ne (Ne.symm hne), upd_same], upd_same, by simp, ?_⟩⟩
  refine q dx _ hd hne (by rw [upd_ne (Ne.symm hne), upd_ne (Ne.symm hne), upd_same]) (by rw [upd_same]; rfl) fun b h1 h2 => by rw [upd_ne h2, upd_ne h2, upd_ne h1, upd_ne h2]
theorem spI_len {K : PySem.W.Frag} {fs : List Str} {n : Nat} (hn : n = fs.length + 1) : ∀ vs H Q E, spI K fs vs H Q E → vs.length = n := fun vs H Q E h => by
  obtain ⟨a, C, ws, rfl, hl, _⟩ := h
  rw [List.length_cons, hl, hn]
/-- C(e, ..) kept as a value -/
def tMkV (K : PySem.W.Frag) (C : Addr) (fs : List Str) (ta : TA) : TE := fun σ H Q => ta σ H fun us H1 => us.length = fs.length ∧ us.length ≤ 1000 ∧ (∀ f ∈ fs, PySem.W.findIn K (.ref C) f = some none) ∧
  ∀ a d H2, H1 a = none → H1 d = none → d ≠ a → H2 a = some (exo a C (some d)) → H2 d = some (exd d (fs.zip us).reverse) → (∀ b, b ≠ a → b ≠ d → H2 b = H1 b) → Q (.ref a) H2
theorem pe_mkV {CX : CXT} {x : Str} {C fI : Addr} {k : Nat} {fd : FuncData} {ps fs : List Str} {p pos : Pos} {e : Expr} {es : List Expr} {ta : TA} (T : OexC X.K C) (iC : PySem.W.findIn X.K (.ref C) "__init__" = some (some (.ref fI))) (tI : PySem.W.typeIn X.K (.ref fI) = some (.type "function"))
    (F1 : FnOk X.prog X.w X.K X.mg X.base CX k fI fd ps (spI X.K fs)) (hr : Room (k + 1) X.A) (hb : Binds X.K fd ps []) (hx : Passes CX X (fun _ _ _ => False)) (hg : Gl X x) (hm : X.mg x = some (.ref C)) (ha : PA X (e :: es) ta)
    (hdb : (x == ("__debug__" : Str)) = false := by decide) (he : starEach (e :: es) X.env = (false, eval e X.env) :: starEach es X.env := by rfl) (hpl : (backTo pos (starEach es X.env)).any (·.1) = false := by rfl) :
    PE X (.Call (.Name x p) (e :: es) [] pos) (tMkV X.K C fs ta) := by
  refine ⟨fun pins s σ H Q I h => ?_⟩
  obtain ⟨nm, q, N, bs, bm, sn, sub, ab, col, dd, k0, k1, k2, k3, k5, hC, hbm⟩ := T.cls
  refine wpAny_Call_Name_kw (ld_glob I hg hm ?_ hdb)
  refine PySem.W.callWith_K (h₀ := X.base) I.ok.mod.kin T.kC (thn (ha.run pos pins s σ H _ I h) fun us s1 ⟨ws, H1, I1, r1, hl1, hz, nf, q1⟩ => ⟨I1.kIn, ?_⟩) he hpl
  show wpAny _ _ (call (.ref C) us) _ _ _
  obtain ⟨hp, g, dr, tk, os⟩ := s1
  have hsz : hp.objs.size ≤ hp.objs.size + 1 := Nat.le_succ _
  have hn : H1 (hp.objs.size + 1) = none := I1.hok.fresh hsz
  have up : ∀ b o, hp.get? b = some o → ((hp.push (PySem.W.kdv_tup us)).push (PySem.HandSPX.excO C hp.objs.size)).get? b = some o := fun b o z => Heap.get?_push_of_some _ (Heap.get?_push_of_some _ z)
  have at_ : ((hp.push (PySem.W.kdv_tup us)).push (PySem.HandSPX.excO C hp.objs.size)).get? (hp.objs.size + 1) = some (PySem.HandSPX.excO C hp.objs.size) := by heap_get
  have J2 : Inv X pins σ (upd H1 (hp.objs.size + 1) (exo (hp.objs.size + 1) C none)) ⟨(hp.push (PySem.W.kdv_tup us)).push (PySem.HandSPX.excO C hp.objs.size), g, dr, tk, os⟩ :=
    I1.laid (t' := tk) (a := hp.objs.size + 1) (o := exo (hp.objs.size + 1) C none) (h' := (hp.push (PySem.W.kdv_tup us)).push (PySem.HandSPX.excO C hp.objs.size)) up hsz (exo_ok at_)
  have r2 : Vals (V.ref (hp.objs.size + 1) :: ws) (Value.ref (hp.objs.size + 1) :: us) := .cons rfl r1
  have hq : spI X.K fs (.ref (hp.objs.size + 1) :: ws) (upd H1 (hp.objs.size + 1) (exo (hp.objs.size + 1) C none)) (fun v H2 => v = .non ∧ Q (.ref (hp.objs.size + 1)) H2) (fun _ _ _ => False) := by
    refine ⟨_, C, ws, rfl, hl1, T, upd_same, nf, fun d H2 z1 z2 z3 z4 z5 => ⟨rfl, q1 _ d H2 hn (by rw [upd_ne z2] at z1; exact z1) z2 z3 z4 fun b y1 y2 => by rw [z5 b y1 y2, upd_ne y1]⟩⟩
  have hl : (Value.ref (hp.objs.size + 1) :: us).length = ps.length := by
    have z := r2.length
    rw [F1.len _ _ _ _ hq] at z
    exact z.symm
  have hus : us.length ≤ sizeLine := by
    rw [← Paired.length r1, sizeLine_eq]
    omega
  refine wpAny_call (PySem.HandSPX.call_own F.excBase_ValueError (fun Y => PySem.HandSPX.refsVE_contains Y bm hbm) (I1.kIn _ _ hC) (PySem.W.looks_findIn I1.kIn iC) (fun self => PySem.W.bind_fn I1.kIn self tI) hus
    (codeAny_mono (F1.run _ X.stack _ _ ⟨Value.ref (hp.objs.size + 1) :: us, []⟩ (Value.ref (hp.objs.size + 1) :: us) _ _ (fun _ _ _ => False) (hr.make C us []) (J2.env0.make C us []) (by simpa using hb _ (Value.ref (hp.objs.size + 1) :: us) J2.kIn (by simpa using hl)) r2 hq) fun r s2 hq2 => ?_))
  cases r with
  | error er => exact hx pins σ _ _ er s2 J2 hq2
  | ok fl =>
    cases fl with
    | ret u =>
      obtain ⟨v, H2, J3, rv, ev, q2⟩ := J2.after (Q := fun v H2 => v = .non ∧ Q (.ref (hp.objs.size + 1)) H2) hq2
      subst ev
      exact ⟨rv, .ref (hp.objs.size + 1), H2, J3, rfl, q2⟩
    | next => exact False.elim hq2
    | brk => exact False.elim hq2
    | cont => exact False.elim hq2
end
end VI
/-! ### exceptions with fields, as values: making, reading, asking -/
namespace VI
open PySem PySem.Spec PyProof.Rows L2
section
variable {W : Wd} {vs : List (Option V)} {Wx : WX} {X : Cx}
def MkXAt (W : Wd) (C : Callee) (P : Program) (w : World) (mg : Str → Option Value) (base : Heap) (k : Nat) (x c : Str) (fs : List Str) : Prop :=
  ∃ (Ca f : Addr) (fd : FuncData) (ps : List Str), W.cl c = some Ca ∧ XfC W.K Ca ∧ OexC W.K Ca ∧ PySem.W.findIn W.K (.ref Ca) "__init__" = some (some (.ref f)) ∧ PySem.W.typeIn W.K (.ref f) = some (.type "function") ∧ mg x = some (.ref Ca) ∧
    (∀ y ∈ fs, PySem.W.findIn W.K (.ref Ca) y = some none) ∧ (C 1000000 [] = .ok (.pure .non) [] → FnOk P w W.K mg base (L2.CX P w) k f fd ps (spI W.K fs)) ∧ Binds W.K fd ps []
def mkxH (c : Str) (fs : List Str) (g : G) (ds : List D) : Bool → Res R
  | true => .ok (.val (.pure (.ins c (fs.zip ds).reverse))) g
  | false => .stuck
def mkxG (c : Str) (fs : List Str) : Option (List D × G) → Res R
  | some (ds, g) => mkxH c fs g ds (decide (ds.length = fs.length) && decide (fs.length ≤ 900))
  | none => .stuck
def mkxC (c : Str) (fs : List Str) (rs : List R) (g : G) : Res R := mkxG c fs (frzs rs g)
def mkxE (C : Callee) (c : Str) (fs : List Str) (A : G → Res (List R)) : E := fun g => match C 1000000 [] with
  | .ok (.pure .non) [] => (A g).bind (mkxC c fs)
  | _ => .stuck
theorem mkxE_a {C : Callee} {c : Str} {fs : List Str} {A : G → Res (List R)} {g : G} (h : C 1000000 [] = .ok (.pure .non) []) : mkxE C c fs A g = (A g).bind (mkxC c fs) := by
  unfold mkxE
  rw [h]
theorem mkxC_a {c : Str} {fs : List Str} {g : G} (rs : List R) : mkxC c fs rs g = mkxG c fs (frzs rs g) := rfl
theorem mkxG_s {c : Str} {fs : List Str} {g : G} (ds : List D) : mkxG c fs (some (ds, g)) = mkxH c fs g ds (decide (ds.length = fs.length) && decide (fs.length ≤ 900)) := rfl
theorem mkxH_t {c : Str} {fs : List Str} {g : G} (ds : List D) : mkxH c fs g ds true = .ok (.val (.pure (.ins c (fs.zip ds).reverse))) g := rfl
theorem RepFf.app {H : Hp} : ∀ {a : List (Str × V)} {b : List (Str × D)} {a' : List (Str × V)} {b' : List (Str × D)}, RepFf W H a b → RepFf W H a' b' → RepFf W H (a ++ a') (b ++ b')
  | _, _, _, _, .nil, k => k
  | _, _, _, _, .cons h r, k => .cons h (RepFf.app r k)
theorem RepFf.rev {H : Hp} : ∀ {a : List (Str × V)} {b : List (Str × D)}, RepFf W H a b → RepFf W H a.reverse b.reverse
  | _, _, .nil => .nil
  | _, _, .cons h r => by
    simp only [List.reverse_cons]
    exact RepFf.app (RepFf.rev r) (.cons h .nil)
theorem RepFs.zip {H : Hp} : ∀ {fs : List Str} {us : List V} {ds : List D}, RepFs W H us ds → RepFf W H (fs.zip us) (fs.zip ds)
  | [], _, _, _ => .nil
  | _ :: _, _, _, .nil => .nil
  | _ :: _, _, _, .cons h r => .cons h (RepFs.zip r)
theorem se_mkx {C : Callee} {k : Nat} {x c : Str} {fs : List Str} {p pos : Pos} {e : Expr} {es : List Expr} {As : List E} (cx : Ctx W (k + 1) Wx X) (hf : MkXAt W C X.prog X.w X.mg X.base k x c fs) (ha : SA W vs Wx X (e :: es) (evs As)) (hg : Gl X x)
    (hdb : (x == ("__debug__" : Str)) = false := by decide) (he : starEach (e :: es) X.env = (false, eval e X.env) :: starEach es X.env := by rfl) (hpl : (backTo pos (starEach es X.env)).any (·.1) = false := by rfl) :
    SE W vs Wx X (.Call (.Name x p) (e :: es) [] pos) (mkxE C c fs (evs As)) := by
  obtain ⟨Ca, f, fd, ps, h1, h2, h3, h4, h5, h6, h7, F, b⟩ := hf
  rw [← cx.K] at h2 h3 h4 h5 h7 F b
  by_cases hC : C 1000000 [] = .ok (.pure .non) []
  · refine pe_weak (pe_mkV h3 h4 h5 (F hC) cx.room b passL hg h6 ha hdb he hpl) fun σ H Q q => ?_
    obtain ⟨H0, L, g, sp, en, post⟩ := q
    refine ⟨H0, L, g, sp, en, ?_⟩
    rw [mkxE_a hC] at post
    cases ea : evs As g with
    | stuck => simp only [ea, Res.bind] at post; exact post.elim
    | exc x g' => simp only [ea, Res.bind] at post; exact post
    | ok rs g1 =>
      simp only [ea, Res.bind, mkxC] at post
      intro us H1 H01 Lr L1 st1 rr en1
      cases ef : frzs rs g1 with
      | none => simp only [ef, mkxG] at post; exact post.elim
      | some p =>
        obtain ⟨ds, g2⟩ := p
        simp only [ef, mkxG] at post
        cases hb : (decide (ds.length = fs.length) && decide (fs.length ≤ 900)) with
        | false => rw [hb] at post; exact post.elim
        | true =>
          rw [hb] at post
          rw [Bool.and_eq_true, decide_eq_true_eq, decide_eq_true_eq] at hb
          obtain ⟨hl, hz⟩ := hb
          obtain ⟨H02, L2, s2, rf, en2⟩ := frzs_ok rr st1.sep en1 ef
          have gv := gives_of (Lt := []) (by simpa using st1.trans s2) en2 post
          refine ⟨rf.len.trans hl, by rw [rf.len, hl]; omega, h7, fun a d H2 z1 z2 z3 z4 z5 z6 => ?_⟩
          have e2 : H2 = upd (upd H1 d (exd d (fs.zip us).reverse)) a (exo a Ca (some d)) := by
            funext y
            by_cases ya : y = a
            · subst ya; rw [upd_same, z4]
            · rw [upd_ne ya]
              by_cases yd : y = d
              · subst yd; rw [upd_same, z5]
              · rw [upd_ne yd, z6 y ya yd]
          subst e2
          have s3 := step_new0 (o := exd d (fs.zip us).reverse) s2.sep.ex z2
          have z1' : (upd H1 d (exd d (fs.zip us).reverse)) a = none := by rw [upd_ne (Ne.symm z3)]; exact z1
          have s4 := step_new0 (o := exo a Ca (some d)) s3.sep.ex z1'
          have s5 := s3.trans s4
          have ex5 := s5.ex0
          refine gv (.ref a) _ _ [] s5 (.pure (.exi (C := Ca) (dx := d) (fs := (fs.zip us).reverse) upd_same ?_ h1 (by rw [← cx.K]; exact h2) ((RepFs.zip rf).rev.mono ex5)))
          rw [upd_ne z3, upd_same]
  · refine ⟨fun pins s σ H Q I q => ?_⟩
    obtain ⟨H0, L, g, sp, en, post⟩ := q
    have hs : mkxE C c fs (evs As) g = .stuck := by
      unfold mkxE
      split
      · rename_i h; exact absurd h hC
      · rfl
    rw [hs] at post
    exact post.elim
/-! ### fields -/
def tFldX (K : PySem.W.Frag) (ta : TE) (f : Str) : TE := fun σ H Q => ta σ H fun x H1 => ∃ (a C dx : Addr) (fs : List (Str × V)) (v : V), x = .ref a ∧ fs.lookup f = some v ∧
  ((H1 a = some (.ins C dx fs) ∧ Cls K C ∧ NoAttr K C f) ∨ ((H1 a = some (.ins C dx fs) ∨ (H1 a = some (exo a C (some dx)) ∧ H1 dx = some (exd dx fs))) ∧ XfC K C ∧ PySem.W.findIn K (.ref C) f = some none)) ∧ Q v H1
theorem inst_of {P : Program} {w : World} {H : Hp} {h : Heap} {a C dx : Addr} {fs : List (Str × V)} (hok : HOk P w H h) (e : H a = some (.ins C dx fs) ∨ (H a = some (exo a C (some dx)) ∧ H dx = some (exd dx fs))) :
    ∃ ox od, PySem.W.InstAt h a ox C (some od) ∧ ∀ f, ∃ o, PySem.W.lookIn f od = some o ∧ RelO (fs.lookup f) o := by
  rcases e with e | ⟨e1, e2⟩
  · obtain ⟨mA, O, r, _, _, _⟩ := ins_get hok e
    obtain ⟨ob, n, ne⟩ := O
    obtain ⟨od, ho, hl⟩ := lookIn_ns n
    exact ⟨_, od, ⟨ob, rfl, rfl, ho⟩, fun f => ⟨_, hl f, r f⟩⟩
  · obtain ⟨t1, ho⟩ := exo_at hok e1
    obtain ⟨mA, hn, r⟩ := exd_at hok e2
    obtain ⟨od, hd, hl⟩ := lookIn_ns hn
    exact ⟨_, od, ⟨ho, rfl, rfl, hd⟩, fun f => ⟨_, hl f, r f⟩⟩
theorem pe_fldX {f : Str} {pos : Pos} {e : Expr} {ta : TE} (he : PE X e ta) (hb : attributeBase e f X.env (eval e X.env) = eval e X.env) : PE X (.Attribute e f pos) (tFldX X.K ta f) := by
  refine ⟨fun pins s σ H Q I h => ?_⟩
  refine attr_of hb (thn (he.run pins s σ H _ I h) fun u s1 ⟨x, H1, I1, rx, a, C, dx, fs, v, ex, l, c, q⟩ => ?_)
  subst ex
  obtain rfl : u = Value.ref a := rx
  rcases c with ⟨ea, c, n⟩ | ⟨ea, T, hno⟩
  · exact getattr_ok I1 ea c n l fun u' s2 I2 ru => ⟨v, H1, I2, ru, q⟩
  · obtain ⟨ox, od, J, hl⟩ := inst_of I1.hok ea
    obtain ⟨o, l1, r⟩ := hl f
    obtain ⟨u, hu, ru⟩ := RelO.some_of (v := v) (o := o) (by rw [← l]; exact r)
    exact HandSPX.exc_get I1.kIn J T.ga T.gg T.exC (PySem.W.findObj_own T.hdC hno rfl (by rw [l1, hu])) (handed_of ru) ⟨v, H1, I1.tok _, ru, q⟩
/-- f is a field of the exceptions of class c -/
def FldXAt (W : Wd) (c f : Str) : Prop := ∃ Ca, W.cl c = some Ca ∧ XfC W.K Ca ∧ PySem.W.findIn W.K (.ref Ca) f = some none
def attrX (FT FX : Str → Str → Bool) (f : Str) (A : E) : E := una (fun o => match clsO o with
  | some c => if FT c f then attrF f o else match o with
    | .pure (.ins _ fs) => if FX c f then (fs.lookup f).map .pure else none
    | _ => none
  | none => none) A
theorem se_attrX {FT FX : Str → Str → Bool} {f : Str} {pos : Pos} {e : Expr} {A : E} {k : Nat} (cx : Ctx W k Wx X) (hF : ∀ c f, FT c f = true → FldAt W c f) (hX : ∀ c f, FX c f = true → FldXAt W c f) (h : SE W vs Wx X e A) (hb : attributeBase e f X.env (eval e X.env) = eval e X.env := by rfl) : SE W vs Wx X (.Attribute e f pos) (attrX FT FX f A) := by
  refine pe_weak (pe_fldX h hb) fun σ H Q q => ?_
  obtain ⟨H0, L, g, sp, en, post⟩ := tO_una σ H Q q
  refine ⟨H0, L, g, sp, en, ?_⟩
  cases ea : A g with
  | stuck => rw [ea] at post; exact post.elim
  | exc x g' => rw [ea] at post; exact post
  | ok r g1 =>
    rw [ea] at post
    intro v H1 H01 Lr L1 st1 rr en1
    obtain ⟨H02, ox, Lx, o, ex, ro, ef, gv⟩ := post v H1 H01 Lr L1 st1 rr en1
    cases ec : clsO ox with
    | none => simp only [ec] at ef; cases ef
    | some c =>
      simp only [ec] at ef
      by_cases hft : FT c f = true
      · rw [if_pos hft] at ef
        obtain ⟨Ca, f1, f2, f3⟩ := hF c f hft
        rw [← cx.K] at f2 f3
        cases ro with
        | pure rf =>
          cases rf with
          | ins h1 h2 h3 =>
            cases ec
            rw [f1] at h2; cases h2
            simp only [attrF] at ef
            obtain ⟨d, e1, e2⟩ := Option.map_eq_some_iff.mp ef
            subst e2
            obtain ⟨v', l1, l2⟩ := (RepFf.lookup h3).1 d e1
            exact ⟨_, _, _, _, v', rfl, l1, .inl ⟨ex _ _ h1, f2, f3⟩, gv.atom ex l2⟩
          | exi h1 h2 h3 h4 h5 =>
            cases ec
            rw [f1] at h3; cases h3
            rw [cx.K] at f2
            exact (cls_xf f2 h4).elim
          | _ => cases ec
        | ins h1 h2 h3 =>
          cases ec
          rw [f1] at h2; cases h2
          simp only [attrF] at ef
          split at ef
          · rename_i d e1
            cases ef
            obtain ⟨v', Lo, l1, l2, _⟩ := (RepOf.lookup h3).1 _ e1
            cases l2 with
            | pure l2 => exact ⟨_, _, _, _, v', rfl, l1, .inl ⟨h1, f2, f3⟩, gv.atom ex l2⟩
          · cases ef
        | _ => cases ec
      · rw [if_neg hft] at ef
        split at ef
        · rename_i c' fs
          by_cases hfx : FX c f = true
          · rw [if_pos hfx] at ef
            obtain ⟨Ca, f1, f2, f3⟩ := hX c f hfx
            rw [← cx.K] at f2 f3
            obtain ⟨d, e1, e2⟩ := Option.map_eq_some_iff.mp ef
            subst e2
            cases ec
            cases ro with
            | pure rf =>
              cases rf with
              | ins h1 h2 h3 =>
                rw [f1] at h2; cases h2
                obtain ⟨v', l1, l2⟩ := (RepFf.lookup h3).1 d e1
                exact ⟨_, _, _, _, v', rfl, l1, .inr ⟨.inl (ex _ _ h1), f2, f3⟩, gv.atom ex l2⟩
              | exi h1 h2 h3 h4 h5 =>
                rw [f1] at h3; cases h3
                obtain ⟨v', l1, l2⟩ := (RepFf.lookup h5).1 d e1
                exact ⟨_, _, _, _, v', rfl, l1, .inr ⟨.inr ⟨ex _ _ h1, ex _ _ h2⟩, f2, f3⟩, gv.atom ex l2⟩
          · rw [if_neg hfx] at ef; cases ef
        · cases ef
/-! ### isinstance -/
def isXV (T : ITab) (Vl : List Str) : List O → Option O
  | [.pure (.ins c _), .pure (.cls d)] => (itOf T c d).map fun b => .pure (.bl b)
  | [.pure (.ins c _), .pure (.ty t)] => if t = "ValueError" then (xve Vl c).map fun b => .pure (.bl b) else none
  | _ => none
theorem exv_pos {H0 H : Hp} {c : Str} {Ca : Addr} {x : V} {ds : List (Str × D)} (ex : Ex H0 H) (h : RepF W H0 x (.ins c ds)) (hc : W.cl c = some Ca) :
    ∃ (a dx : Addr) (fs : List (Str × V)), x = .ref a ∧ (H a = some (.ins Ca dx fs) ∨ (H a = some (exo a Ca (some dx)) ∧ H dx = some (exd dx fs))) := by
  cases h with
  | ins h1 h2 h3 => rw [hc] at h2; cases h2; exact ⟨_, _, _, rfl, .inl (ex _ _ h1)⟩
  | exi h1 h2 h3 h4 h5 => rw [hc] at h3; cases h3; exact ⟨_, _, _, rfl, .inr ⟨ex _ _ h1, ex _ _ h2⟩⟩
theorem isx_run {pins : List (Addr × Obj)} {σ : L2.St} {H0 H : Hp} {s : Shared} {Q : VK} {A : Around} {E : Value → Shared → Prop} {c : Str} {Ca : Addr} {x : V} {u cv : Value} {b : Bool} {ds : List (Str × D)} (I : Inv X pins σ H s) (ex : Ex H0 H) (T : ExcC X.K Ca)
    (h : RepF W H0 x (.ins c ds)) (hc : W.cl c = some Ca) (ru : RelV x u) (e : PySem.W.kitOne X.K (.ref Ca) cv = some b) (q : Q (.bl b) H) :
    wpAny (model X.prog X.w) A (call (.builtin "isinstance") [u, cv]) (fun u' s' => ∃ v H', Inv X pins σ H' s' ∧ RelV v u' ∧ Q v H') E s := by
  obtain ⟨a, dx, fs, rfl, hp⟩ := exv_pos ex h hc
  obtain rfl : u = Value.ref a := ru
  obtain ⟨ox, od, J, _⟩ := inst_of I.hok hp
  obtain ⟨cd, hcd, _⟩ := PySem.W.any_some T.hd
  exact PySem.W.kia_one (PySem.W.kitx_exc (by rw [hcd]; rfl) T.hg T.hk T.hs T.ha T.hn T.ht T.hm) I.kIn J e (fun z => nomatch z) fun tk => ⟨.bl b, H, I.tok tk, rfl, q⟩
theorem cr_isXV {T : ITab} {Vl : List Str} (hK : X.K = W.K) (hT : ∀ {c d : Str} {b : Bool}, itOf T c d = some b → XisAt W c d b) (hV : ∀ c ∈ Vl, XveAt W c) : CallR X (.builtin "isinstance") (cO W (isXV T Vl)) := by
  intro pins s σ H us ws Q I r ⟨H0, os, o, ex, pr, e, gv⟩
  unfold isXV at e
  split at e
  · rename_i c ds d
    obtain ⟨v, w, e1, ⟨_, r1⟩, ⟨_, r2⟩⟩ := two_of pr
    obtain ⟨b, e2, e3⟩ := Option.map_eq_some_iff.mp e
    subst e3
    obtain ⟨Ca, Da, h1, h2, h3, h4⟩ := hT e2
    have hw : w = .ref Da := by
      cases r2 with
      | pure f => cases f with
        | cls q => rw [h2] at q; cases q; rfl
    subst hw
    subst e1
    obtain ⟨u1, u2, rfl, q1, q2⟩ := vals2 r
    obtain rfl : u2 = Value.ref Da := q2
    rw [← hK] at h3 h4
    cases r1 with
    | pure f => exact isx_run I ex h3 f h1 q1 h4 (gv.atom ex (.bl _))
  · rename_i c ds t
    split at e
    · rename_i ht
      subst ht
      obtain ⟨v, w, e1, ⟨_, r1⟩, ⟨_, r2⟩⟩ := two_of pr
      obtain ⟨b, e2, e3⟩ := Option.map_eq_some_iff.mp e
      subst e3
      obtain ⟨rfl, Ca, h1, h3, h4⟩ := xve_of hV e2
      have hw : w = .ty "ValueError" := by
        cases r2 with
        | pure f => cases f with
          | ty => rfl
      subst hw
      subst e1
      obtain ⟨u1, u2, rfl, q1, q2⟩ := vals2 r
      obtain rfl : u2 = Value.type "ValueError" := q2
      rw [← hK] at h3 h4
      cases r1 with
      | pure f => exact isx_run I ex h3 f h1 q1 h4 (gv.atom ex (.bl _))
    · cases e
  · cases e
end
/-! ### steps -/
theorem attrX_a (FT FX : Str → Str → Bool) (f : Str) (A : E) (g : G) : attrX FT FX f A g = una (fun o => match clsO o with
  | some c => if FT c f then attrF f o else match o with
    | .pure (.ins _ fs) => if FX c f then (fs.lookup f).map .pure else none
    | _ => none
  | none => none) A g := rfl
end VI
namespace VI
open PySem PySem.Spec PyProof.Rows L2
/-! ### what the top has left of exceptions with fields -/
section
variable {K : PySem.W.Frag} {h : Heap} {mg : Str → Option Value}
theorem fx_oex {x : Str} (c : (FX.oex x).ok K = true) : OexC K (clsAt K x) := by
  simp only [FX.ok, Bool.and_eq_true, decide_eq_true_eq] at c
  obtain ⟨c1, c2, c3, c4, c5⟩ := c
  refine ⟨?_, He.eqO_ok c2, c3, c4, c5⟩
  unfold oexB at c1
  split at c1
  · rename_i dd cd sl ho
    split at c1
    · rename_i C' bm k0 k1 k2 k3 n k5 hm hs
      simp only [Bool.and_eq_true, beq_iff_eq, Bool.not_eq_true'] at c1
      obtain ⟨rfl, rfl, hdel, hdct, hbm⟩ := c1
      obtain ⟨nm, bs, mro, ns, qn, hd, sn, sub, ab, col, del⟩ := cd
      dsimp only at hm hdel hdct
      subst hm hdel hdct
      have hsl : sl = #[k0, k1, k2, k3, some (.builtin "ValueError.__new__"), k5] := by
        obtain ⟨l⟩ := sl
        simp only at hs
        rw [hs]
      subst hsl
      exact ⟨nm, qn, ns, bs, bm, sn, sub, ab, col, dd, k0, k1, k2, k3, k5, ho, hbm⟩
    · cases c1
  · cases c1
theorem fx_xfc {x : Str} (c : (FX.exc x).ok K = true) : XfC K (clsAt K x) := by
  simp only [FX.ok, Bool.and_eq_true, decide_eq_true_eq] at c
  exact ⟨He.eqO_ok c.1, He.eqO_ok c.2.1, c.2.2.1, c.2.2.2⟩
theorem fx_xin {x o : Str} (c : (FX.xin x o).ok K = true) : PySem.W.findIn K (.ref (clsAt K x)) "__init__" = some (some (.ref (metAt K o "__init__"))) ∧ PySem.W.typeIn K (.ref (metAt K o "__init__")) = some (.type "function") := by
  simp only [FX.ok, Bool.and_eq_true, decide_eq_true_eq] at c
  exact ⟨He.eqO_ok c.1, c.2⟩
theorem fx_nof {x f : Str} (c : (FX.nof x f).ok K = true) : PySem.W.findIn K (.ref (clsAt K x)) f = some none := He.eqO_ok c
theorem fx_vei {x : Str} (c : (FX.vei x).ok K = true) : ClX.CRead K (clsAt K x) (.type "type") ∧ PySem.W.findCls K (.ref (clsAt K x)) (.type "type") "__init__" = some (.val (.builtin "ValueError.__init__")) := by
  simp only [FX.ok, Bool.and_eq_true] at c
  exact ⟨⟨c.1, He.eqO_ok c.2.1⟩, valIs_ok c.2.2⟩
theorem fx_fldx {x f : Str} (c : (FX.exc x).ok K = true) (c2 : (FX.nof x f).ok K = true) : FldXAt (wdOf K) x f := ⟨clsAt K x, rfl, fx_xfc c, fx_nof c2⟩
end
end VI
namespace VI
open PySem PySem.Spec PyProof.Rows L2
/-! ## the text of the law, by program -/
abbrev FXl : FTab := [(Str.ofString "NoAnswer", Str.ofString "step"), (Str.ofString "NotFalling", Str.ofString "run"), (Str.ofString "NotFalling", Str.ofString "called"), (Str.ofString "NotFalling", Str.ofString "room"), (Str.ofString "NotNearer", Str.ofString "verdict"), (Str.ofString "Unkept", Str.ofString "number"), (Str.ofString "Unkept", Str.ofString "run")]
abbrev XTl : ITab := [(Str.ofString "NoAnswer", Str.ofString "NoAnswer", true), (Str.ofString "NoAnswer", Str.ofString "NoMachine", false), (Str.ofString "NoAnswer", Str.ofString "NoName", false), (Str.ofString "NoAnswer", Str.ofString "NoRange", false), (Str.ofString "NoAnswer", Str.ofString "NoRun", false), (Str.ofString "NoAnswer", Str.ofString "NoStep", false), (Str.ofString "NoAnswer", Str.ofString "NoText", false), (Str.ofString "NoAnswer", Str.ofString "NoTie", false), (Str.ofString "NoAnswer", Str.ofString "NotFalling", false), (Str.ofString "NoAnswer", Str.ofString "NotNearer", false), (Str.ofString "NoAnswer", Str.ofString "TooMany", false), (Str.ofString "NoAnswer", Str.ofString "Twice", false), (Str.ofString "NoAnswer", Str.ofString "Unkept", false), (Str.ofString "NoAnswer", Str.ofString "WorkError", true), (Str.ofString "NotFalling", Str.ofString "NoAnswer", false), (Str.ofString "NotFalling", Str.ofString "NoMachine", false), (Str.ofString "NotFalling", Str.ofString "NoName", false), (Str.ofString "NotFalling", Str.ofString "NoRange", false), (Str.ofString "NotFalling", Str.ofString "NoRun", false), (Str.ofString "NotFalling", Str.ofString "NoStep", false), (Str.ofString "NotFalling", Str.ofString "NoText", false), (Str.ofString "NotFalling", Str.ofString "NoTie", false), (Str.ofString "NotFalling", Str.ofString "NotFalling", true), (Str.ofString "NotFalling", Str.ofString "NotNearer", false), (Str.ofString "NotFalling", Str.ofString "TooMany", false), (Str.ofString "NotFalling", Str.ofString "Twice", false), (Str.ofString "NotFalling", Str.ofString "Unkept", false), (Str.ofString "NotFalling", Str.ofString "WorkError", true), (Str.ofString "NotNearer", Str.ofString "NoAnswer", false), (Str.ofString "NotNearer", Str.ofString "NoMachine", false), (Str.ofString "NotNearer", Str.ofString "NoName", false), (Str.ofString "NotNearer", Str.ofString "NoRange", false), (Str.ofString "NotNearer", Str.ofString "NoRun", false), (Str.ofString "NotNearer", Str.ofString "NoStep", false), (Str.ofString "NotNearer", Str.ofString "NoText", false), (Str.ofString "NotNearer", Str.ofString "NoTie", false), (Str.ofString "NotNearer", Str.ofString "NotFalling", false), (Str.ofString "NotNearer", Str.ofString "NotNearer", true), (Str.ofString "NotNearer", Str.ofString "TooMany", false), (Str.ofString "NotNearer", Str.ofString "Twice", false), (Str.ofString "NotNearer", Str.ofString "Unkept", false), (Str.ofString "NotNearer", Str.ofString "WorkError", true), (Str.ofString "Unkept", Str.ofString "NoAnswer", false), (Str.ofString "Unkept", Str.ofString "NoMachine", false), (Str.ofString "Unkept", Str.ofString "NoName", false), (Str.ofString "Unkept", Str.ofString "NoRange", false), (Str.ofString "Unkept", Str.ofString "NoRun", false), (Str.ofString "Unkept", Str.ofString "NoStep", false), (Str.ofString "Unkept", Str.ofString "NoText", false), (Str.ofString "Unkept", Str.ofString "NoTie", false), (Str.ofString "Unkept", Str.ofString "NotFalling", false), (Str.ofString "Unkept", Str.ofString "NotNearer", false), (Str.ofString "Unkept", Str.ofString "TooMany", false), (Str.ofString "Unkept", Str.ofString "Twice", false), (Str.ofString "Unkept", Str.ofString "Unkept", true), (Str.ofString "Unkept", Str.ofString "WorkError", true)]
abbrev CTl : ITab := []
abbrev XVl : List Str := [Str.ofString "NoAnswer", Str.ofString "NotFalling", Str.ofString "NotNearer", Str.ofString "Unkept"]
abbrev ITl : ITab := []
abbrev MTl : MTab := []
abbrev FTl : FTab := []
abbrev N__law_draw : List Str := ["deck", "many", "number"]
theorem sc__law_draw : FnScope N__law_draw ["deck", "many"] (defScope st__law_draw) := ⟨rfl, rfl, rfl, by decide +kernel, rfl, by decide +kernel, by decide +kernel⟩
def b__law_draw (C : Callee) : S :=
  (seqS (stS (nm 0) (cst (.int 1)) (bin addO (bin ixO (nm 0) (cst (.int 1))) (cst (.int 1)))) (seqS (asgS 2 (bin modO (bin mulO (bin addO (bin addO (bin modO (bin ixO (nm 0) (cst (.int 0))) (cst (.int 2147483629))) (bin mulO (bin mulO (cst (.int 40503)) (bin ixO (nm 0) (cst (.int 1)))) (bin ixO (nm 0) (cst (.int 1))))) (cst (.int 11))) (cst (.int 48271))) (cst (.int 2147483647)))) (seqS (asgS 2 (bin modO (bin addO (bin addO (bin mulO (nm 2) (nm 2)) (bin mulO (cst (.int 69621)) (nm 2))) (bin ixO (nm 0) (cst (.int 1)))) (cst (.int 2147483587)))) (retS (bin modO (bin fdivO (bin modO (bin mulO (nm 2) (cst (.int 16807))) (cst (.int 2147483629))) (cst (.int 64))) (nm 1))))))
abbrev N__law_room : List Str := ["deck", "wide", "k"]
theorem sc__law_room : FnScope N__law_room ["deck", "wide"] (defScope st__law_room) := ⟨rfl, rfl, rfl, by decide +kernel, rfl, by decide +kernel, by decide +kernel⟩
def b__law_room (C : Callee) : S :=
  (retS (bltE tupleO [(compE (evs [(nm 1)]) rng1 [2] (nmT 2) (fun g => .ok true g) (callA C 111 [(nm 0), (cst (.int 100))]))]))
abbrev N__law_run : List Str := ["deck", "wide", "called", "k"]
theorem sc__law_run : FnScope N__law_run ["deck", "wide"] (defScope st__law_run) := ⟨rfl, rfl, rfl, by decide +kernel, rfl, by decide +kernel, by decide +kernel⟩
def b__law_run (C : Callee) : S :=
  (seqS (asgS 2 (lstE (evs [(cst (.str (Str.ofString "up"))), (cst (.str (Str.ofString "down"))), (cst (.str (Str.ofString "back"))), (cst (.str (Str.ofString "away"))), (cst (.str (Str.ofString "a"))), (cst (.str (Str.ofString "zzzzzzzz")))]))) (retS (bltE tupleO [(compE (evs [(callA C 111 [(nm 0), (cst (.int 4))])]) rng1 [3] (nmT 3) (fun g => .ok true g) (tupE (evs [(bin ixO (nm 2) (callA C 111 [(nm 0), (cst (.int 6))])), (callA C 112 [(nm 0), (nm 1)])])))])))
abbrev N__law_kinds : List Str := ["one", "found"]
theorem sc__law_kinds : FnScope N__law_kinds ["one"] (defScope st__law_kinds) := ⟨rfl, rfl, rfl, by decide +kernel, rfl, by decide +kernel, by decide +kernel⟩
def b__law_kinds (C : Callee) : S :=
  (seqS (asgS 1 (lstE (evs [(bltE (isXV XTl XVl) [(nm 0), (cst (.cls (Str.ofString "NoText")))]), (bltE (isXV XTl XVl) [(nm 0), (cst (.cls (Str.ofString "TooMany")))]), (bltE (isXV XTl XVl) [(nm 0), (cst (.cls (Str.ofString "NoRange")))]), (bltE (isXV XTl XVl) [(nm 0), (cst (.cls (Str.ofString "Twice")))])]))) (seqS (asgS 1 (bin addO (nm 1) (lstE (evs [(bltE (isXV XTl XVl) [(nm 0), (cst (.cls (Str.ofString "NoName")))]), (bltE (isXV XTl XVl) [(nm 0), (cst (.cls (Str.ofString "NoStep")))]), (bltE (isXV XTl XVl) [(nm 0), (cst (.cls (Str.ofString "NoRun")))]), (bltE (isXV XTl XVl) [(nm 0), (cst (.cls (Str.ofString "NoTie")))])])))) (seqS (asgS 1 (bin addO (nm 1) (lstE (evs [(bltE (isXV XTl XVl) [(nm 0), (cst (.cls (Str.ofString "NoMachine")))]), (bltE (isXV XTl XVl) [(nm 0), (cst (.cls (Str.ofString "NoAnswer")))]), (bltE (isXV XTl XVl) [(nm 0), (cst (.cls (Str.ofString "Unkept")))])])))) (retS (bin addO (nm 1) (lstE (evs [(bltE (isXV XTl XVl) [(nm 0), (cst (.cls (Str.ofString "NotNearer")))]), (bltE (isXV XTl XVl) [(nm 0), (cst (.cls (Str.ofString "NotFalling")))])])))))))
abbrev N__law_alone : List Str := ["one", "at", "k", "here"]
theorem sc__law_alone : FnScope N__law_alone ["one", "at"] (defScope st__law_alone) := ⟨rfl, rfl, rfl, by decide +kernel, rfl, by decide +kernel, by decide +kernel⟩
def b__law_alone (C : Callee) : S :=
  (seqS (ifS (orT (notT (truT (bltE (isXV XTl XVl) [(nm 0), (cst (.cls (Str.ofString "WorkError")))]))) (notT (truT (bltE (isXV XTl XVl) [(nm 0), (cst (.ty "ValueError"))])))) (retS (cst (.bl false))) nextS) (retS (bin eqO (compE (evs [(callA C 114 [(nm 0)])]) enumI [2, 3] (tupT [(nmT 2), (nmT 3)]) (truT (nm 3)) (nm 2)) (lstE (evs [(nm 1)])))))
abbrev N_law_k09 : List Str := ["script", "cell", "deck", "number", "wide", "run", "room", "called", "verdict", "some", "k", "one"]
theorem sc_law_k09 : FnScope N_law_k09 ["script"] (defScope st_law_k09) := ⟨rfl, rfl, rfl, by decide +kernel, rfl, by decide +kernel, by decide +kernel⟩
def b_law_k09 (C : Callee) : S :=
  (seqS (forS (evs [(slE (bin addO (nm 0) (lstE (evs [(cst (.int 0))]))) noE (intE (cst (.int 4))))]) itemsO (nmT 1) (seqS (asgS 2 (lstE (evs [(nm 1), (cst (.int 0))]))) (seqS (asgS 3 (bin ixO (lstE (evs [(callA C 111 [(nm 2), (cst (.int 10))]), (cst (.int 40)), (cst (.int 0))])) (callA C 111 [(nm 2), (cst (.int 3))]))) (seqS (asgS 4 (bin addO (cst (.int 1)) (callA C 111 [(nm 2), (cst (.int 3))]))) (seqS (asgS 5 (callA C 113 [(nm 2), (nm 4)])) (seqS (asgS 6 (callA C 112 [(nm 2), (nm 4)])) (seqS (asgS 7 (bin ixO (lstE (evs [(cst (.str (Str.ofString "up"))), (cst (.str (Str.ofString "down"))), (cst (.str (Str.ofString "away")))])) (callA C 111 [(nm 2), (cst (.int 3))]))) (seqS (asgS 8 (bin ixO (lstE (evs [(tupE (evs [(cst (.str (Str.ofString "step"))), (nm 5), (nm 7), (nm 6)])), (tupE (evs [(cst (.str (Str.ofString "stop"))), (nm 5)])), (tupE (evs [(cst (.str (Str.ofString "start")))]))])) (callA C 111 [(nm 2), (cst (.int 3))]))) (seqS (asgS 9 (lstE (evs [(mkxE C (Str.ofString "NoAnswer") [Str.ofString "step"] (evs [(nm 3)])), (mkxE C (Str.ofString "Unkept") [Str.ofString "number", Str.ofString "run"] (evs [(bin modO (nm 3) (cst (.int 4))), (nm 5)])), (mkxE C (Str.ofString "NotNearer") [Str.ofString "verdict"] (evs [(nm 8)])), (mkxE C (Str.ofString "NotFalling") [Str.ofString "run", Str.ofString "called", Str.ofString "room"] (evs [(nm 5), (nm 7), (nm 6)]))]))) (seqS (ifS (blT (bin neO (compE (evs [(nm 9)]) enumI [10, 11] (tupT [(nmT 10), (nmT 11)]) (notT (truT (callA C 115 [(nm 11), (bin addO (cst (.int 9)) (nm 10))]))) (nm 10)) (lstE (evs [])))) (retS (cst (.bl false))) nextS) (seqS (ifS (blT (bin neO (lstE (evs [(attrX (ftOf FTl) (ftOf FXl) (Str.ofString "step") (bin ixO (nm 9) (cst (.int 0)))), (attrX (ftOf FTl) (ftOf FXl) (Str.ofString "number") (bin ixO (nm 9) (cst (.int 1)))), (attrX (ftOf FTl) (ftOf FXl) (Str.ofString "run") (bin ixO (nm 9) (cst (.int 1)))), (attrX (ftOf FTl) (ftOf FXl) (Str.ofString "verdict") (bin ixO (nm 9) (cst (.int 2))))])) (lstE (evs [(nm 3), (bin modO (nm 3) (cst (.int 4))), (nm 5), (nm 8)])))) (retS (cst (.bl false))) nextS) (ifS (blT (bin neO (lstE (evs [(attrX (ftOf FTl) (ftOf FXl) (Str.ofString "run") (bin ixO (nm 9) (cst (.int 3)))), (attrX (ftOf FTl) (ftOf FXl) (Str.ofString "called") (bin ixO (nm 9) (cst (.int 3)))), (attrX (ftOf FTl) (ftOf FXl) (Str.ofString "room") (bin ixO (nm 9) (cst (.int 3))))])) (lstE (evs [(nm 5), (nm 7), (nm 6)])))) (retS (cst (.bl false))) nextS)))))))))))) (retS (cst (.bl true))))
abbrev N_NoAnswer___init__ : List Str := ["self", "step"]
theorem sc_NoAnswer___init__ : FnScope N_NoAnswer___init__ ["self", "step"] (defScope st_NoAnswer___init__) := ⟨rfl, rfl, rfl, by decide +kernel, rfl, by decide +kernel, by decide +kernel⟩
def b_NoAnswer___init__ (C : Callee) : S :=
  stuckS
abbrev N_Unkept___init__ : List Str := ["self", "number", "run"]
theorem sc_Unkept___init__ : FnScope N_Unkept___init__ ["self", "number", "run"] (defScope st_Unkept___init__) := ⟨rfl, rfl, rfl, by decide +kernel, rfl, by decide +kernel, by decide +kernel⟩
def b_Unkept___init__ (C : Callee) : S :=
  stuckS
abbrev N_NotNearer___init__ : List Str := ["self", "verdict"]
theorem sc_NotNearer___init__ : FnScope N_NotNearer___init__ ["self", "verdict"] (defScope st_NotNearer___init__) := ⟨rfl, rfl, rfl, by decide +kernel, rfl, by decide +kernel, by decide +kernel⟩
def b_NotNearer___init__ (C : Callee) : S :=
  stuckS
abbrev N_NotFalling___init__ : List Str := ["self", "run", "called", "room"]
theorem sc_NotFalling___init__ : FnScope N_NotFalling___init__ ["self", "run", "called", "room"] (defScope st_NotFalling___init__) := ⟨rfl, rfl, rfl, by decide +kernel, rfl, by decide +kernel, by decide +kernel⟩
def b_NotFalling___init__ (C : Callee) : S :=
  stuckS
def callN : Nat → Callee
  | 0, _, _ => .stuck
  | n + 1, f, os => match f with
    | 111 => bodyC 2 1 (b__law_draw (callN n)) os
    | 112 => bodyC 2 1 (b__law_room (callN n)) os
    | 113 => bodyC 2 2 (b__law_run (callN n)) os
    | 114 => bodyC 1 1 (b__law_kinds (callN n)) os
    | 115 => bodyC 2 2 (b__law_alone (callN n)) os
    | 116 => bodyC 1 11 (b_law_k09 (callN n)) os
    | 117 => bodyC 2 0 (b_NoAnswer___init__ (callN n)) os
    | 118 => bodyC 3 0 (b_Unkept___init__ (callN n)) os
    | 119 => bodyC 2 0 (b_NotNearer___init__ (callN n)) os
    | 120 => bodyC 4 0 (b_NotFalling___init__ (callN n)) os
    | 1000000 => .ok (.pure .non) []
    | _ => .stuck
theorem live_c (n : Nat) : callN (n + 1) 1000000 [] = .ok (.pure .non) [] := rfl
structure Facts (W : Wd) (P : Program) (w : World) (mg : Str → Option Value) (base : Heap) (n : Nat) : Prop where
  m_ValueError : mg "ValueError" = none
  m_enumerate : mg "enumerate" = none
  m_isinstance : mg "isinstance" = none
  m_range : mg "range" = none
  m_tuple : mg "tuple" = none
  f__law_draw : FnAt W (callN n) P w mg base (2 * n) "_law_draw" 111 2
  f__law_room : FnAt W (callN n) P w mg base (2 * n) "_law_room" 112 2
  f__law_run : FnAt W (callN n) P w mg base (2 * n) "_law_run" 113 2
  f__law_kinds : FnAt W (callN n) P w mg base (2 * n) "_law_kinds" 114 1
  f__law_alone : FnAt W (callN n) P w mg base (2 * n) "_law_alone" 115 2
  f_law : FnAt W (callN n) P w mg base (2 * n) "law" 116 1
  e_NoAnswer : ∃ u v, mg "NoAnswer" = some u ∧ RelV v u ∧ ∀ H, RepF W H v (.cls (Str.ofString "NoAnswer"))
  e_NoMachine : ∃ u v, mg "NoMachine" = some u ∧ RelV v u ∧ ∀ H, RepF W H v (.cls (Str.ofString "NoMachine"))
  e_NoName : ∃ u v, mg "NoName" = some u ∧ RelV v u ∧ ∀ H, RepF W H v (.cls (Str.ofString "NoName"))
  e_NoRange : ∃ u v, mg "NoRange" = some u ∧ RelV v u ∧ ∀ H, RepF W H v (.cls (Str.ofString "NoRange"))
  e_NoRun : ∃ u v, mg "NoRun" = some u ∧ RelV v u ∧ ∀ H, RepF W H v (.cls (Str.ofString "NoRun"))
  e_NoStep : ∃ u v, mg "NoStep" = some u ∧ RelV v u ∧ ∀ H, RepF W H v (.cls (Str.ofString "NoStep"))
  e_NoText : ∃ u v, mg "NoText" = some u ∧ RelV v u ∧ ∀ H, RepF W H v (.cls (Str.ofString "NoText"))
  e_NoTie : ∃ u v, mg "NoTie" = some u ∧ RelV v u ∧ ∀ H, RepF W H v (.cls (Str.ofString "NoTie"))
  e_NotFalling : ∃ u v, mg "NotFalling" = some u ∧ RelV v u ∧ ∀ H, RepF W H v (.cls (Str.ofString "NotFalling"))
  e_NotNearer : ∃ u v, mg "NotNearer" = some u ∧ RelV v u ∧ ∀ H, RepF W H v (.cls (Str.ofString "NotNearer"))
  e_TooMany : ∃ u v, mg "TooMany" = some u ∧ RelV v u ∧ ∀ H, RepF W H v (.cls (Str.ofString "TooMany"))
  e_Twice : ∃ u v, mg "Twice" = some u ∧ RelV v u ∧ ∀ H, RepF W H v (.cls (Str.ofString "Twice"))
  e_Unkept : ∃ u v, mg "Unkept" = some u ∧ RelV v u ∧ ∀ H, RepF W H v (.cls (Str.ofString "Unkept"))
  e_WorkError : ∃ u v, mg "WorkError" = some u ∧ RelV v u ∧ ∀ H, RepF W H v (.cls (Str.ofString "WorkError"))
  xi {c d : Str} {b : Bool} : itOf XTl c d = some b → XisAt W c d b
  ct {c d : Str} {b : Bool} : itOf CTl c d = some b → CatchAt W c d b
  xv : ∀ c ∈ XVl, XveAt W c
  fldx {c f : Str} : ftOf FXl c f = true → FldXAt W c f
  kx_NoAnswer : MkXAt W (callN n) P w mg base (2 * n) "NoAnswer" (Str.ofString "NoAnswer") [Str.ofString "step"]
  kx_NotFalling : MkXAt W (callN n) P w mg base (2 * n) "NotFalling" (Str.ofString "NotFalling") [Str.ofString "run", Str.ofString "called", Str.ofString "room"]
  kx_NotNearer : MkXAt W (callN n) P w mg base (2 * n) "NotNearer" (Str.ofString "NotNearer") [Str.ofString "verdict"]
  kx_Unkept : MkXAt W (callN n) P w mg base (2 * n) "Unkept" (Str.ofString "Unkept") [Str.ofString "number", Str.ofString "run"]
  it {c d : Str} {b : Bool} : itOf ITl c d = some b → IsAt W c d b
  mt {a : Nat} {c m : Str} {fn : Nat} : mtOf MTl a c m = some fn → MethAt W (callN n) P w mg base (2 * n) c m fn a
  fld {c f : Str} : ftOf FTl c f = true → FldAt W c f
theorem c__law_draw (n : Nat) (os : List O) : callN (n + 1) 111 os = bodyC 2 1 (b__law_draw (callN n)) os := rfl
theorem c__law_room (n : Nat) (os : List O) : callN (n + 1) 112 os = bodyC 2 1 (b__law_room (callN n)) os := rfl
theorem c__law_run (n : Nat) (os : List O) : callN (n + 1) 113 os = bodyC 2 2 (b__law_run (callN n)) os := rfl
theorem c__law_kinds (n : Nat) (os : List O) : callN (n + 1) 114 os = bodyC 1 1 (b__law_kinds (callN n)) os := rfl
theorem c__law_alone (n : Nat) (os : List O) : callN (n + 1) 115 os = bodyC 2 2 (b__law_alone (callN n)) os := rfl
theorem c_law_k09 (n : Nat) (os : List O) : callN (n + 1) 116 os = bodyC 1 11 (b_law_k09 (callN n)) os := rfl
theorem c_NoAnswer___init__ (n : Nat) (os : List O) : callN (n + 1) 117 os = bodyC 2 0 (b_NoAnswer___init__ (callN n)) os := rfl
theorem c_Unkept___init__ (n : Nat) (os : List O) : callN (n + 1) 118 os = bodyC 3 0 (b_Unkept___init__ (callN n)) os := rfl
theorem c_NotNearer___init__ (n : Nat) (os : List O) : callN (n + 1) 119 os = bodyC 2 0 (b_NotNearer___init__ (callN n)) os := rfl
theorem c_NotFalling___init__ (n : Nat) (os : List O) : callN (n + 1) 120 os = bodyC 4 0 (b_NotFalling___init__ (callN n)) os := rfl
section
variable {W : Wd} {P : Program} {w : World} {mg : Str → Option Value} {base : Heap} {n : Nat}
theorem ok__law_draw (Fc : Facts W P w mg base n) {f : Addr} {fd : FuncData} (F : Fun W.K "_law_draw" "_law_draw" st__law_draw f fd) : FnOk P w W.K mg base (L2.CX P w) (2 * n + 2) f fd ["deck", "many"] (spD W (callN (n + 1)) 111 2) :=
  def_ok (B := b__law_draw (callN n)) F sc__law_draw (fun _ => rfl) (by decide) fun cdv A outer s H Ek vs cx => by
    unfold b__law_draw
    exact (sb_cons (ss_st cx (se_nm 0 (pv 0)) se_int (se_bin (op_addO cx.K) (se_ix cx (se_nm 0 (pv 0)) se_int) se_int) (fun a b d e => ps_asg d (pg_sub a b e))) (sb_cons (ss_set (i := 2) (se_bin op_modO (se_bin op_mulO (se_bin (op_addO cx.K) (se_bin (op_addO cx.K) (se_bin op_modO (se_ix cx (se_nm 0 (pv 0)) se_int) se_int) (se_bin op_mulO (se_bin op_mulO se_int (se_ix cx (se_nm 0 (pv 0)) se_int)) (se_ix cx (se_nm 0 (pv 0)) se_int))) se_int) se_int) se_int) (fun h => ps_set (i := 2) cx.nd rfl (by first | exact .inl rfl | exact .inr rfl) h)) (sb_cons (ss_set (i := 2) (se_bin op_modO (se_bin (op_addO cx.K) (se_bin (op_addO cx.K) (se_bin op_mulO (se_nm 2 (pv 2)) (se_nm 2 (pv 2))) (se_bin op_mulO se_int (se_nm 2 (pv 2)))) (se_ix cx (se_nm 0 (pv 0)) se_int)) se_int) (fun h => ps_set (i := 2) cx.nd rfl (by first | exact .inl rfl | exact .inr rfl) h)) (sb_one (ss_ret (se_bin op_modO (se_bin op_fdivO (se_bin op_modO (se_bin op_mulO (se_nm 2 (pv 2)) se_int) se_int) se_int) (se_nm 1 (pv 1))))))))
theorem ok__law_room (Fc : Facts W P w mg base n) {f : Addr} {fd : FuncData} (F : Fun W.K "_law_room" "_law_room" st__law_room f fd) : FnOk P w W.K mg base (L2.CX P w) (2 * n + 2) f fd ["deck", "wide"] (spD W (callN (n + 1)) 112 2) :=
  def_ok (B := b__law_room (callN n)) F sc__law_room (fun _ => rfl) (by decide) fun cdv A outer s H Ek vs cx => by
    unfold b__law_room
    exact (sb_one (ss_ret (se_ty (cr_tupleO cx.K) (sa_cons (se_comp (own := [(Str.ofString "k", 2)]) cx (N' := N__law_room) (sc' := defScope st__law_room) rfl rfl (by decide +kernel) (si_range1 (by rfl) Fc.m_range (sa_cons (se_nm 1 (pv 1)) sa_nil)) (fun s1 H1 C1 cl1 fp1 => (sg_name 2 (pg_name (i := 2) (Ctx.blk cx s1 H1 _ _ fp1).nd rfl (by first | exact .inl rfl | exact .inr rfl)) (by decide))) (fun s1 H1 C1 cl1 fp1 => (se_call (Ctx.blk cx s1 H1 _ _ fp1).dn Fc.f__law_draw (sa_cons (se_nm 0 (pv 0)) (sa_cons se_int sa_nil)) rfl (by rfl)))) sa_nil) fun a b => pe_callTy a (by rfl) Fc.m_tuple (by decide +kernel) b)))
theorem ok__law_run (Fc : Facts W P w mg base n) {f : Addr} {fd : FuncData} (F : Fun W.K "_law_run" "_law_run" st__law_run f fd) : FnOk P w W.K mg base (L2.CX P w) (2 * n + 2) f fd ["deck", "wide"] (spD W (callN (n + 1)) 113 2) :=
  def_ok (B := b__law_run (callN n)) F sc__law_run (fun _ => rfl) (by decide) fun cdv A outer s H Ek vs cx => by
    unfold b__law_run
    exact (sb_cons (ss_set (i := 2) (se_lst (sa_cons se_str (sa_cons se_str (sa_cons se_str (sa_cons se_str (sa_cons se_str (sa_cons se_str sa_nil))))))) (fun h => ps_set (i := 2) cx.nd rfl (by first | exact .inl rfl | exact .inr rfl) h)) (sb_one (ss_ret (se_ty (cr_tupleO cx.K) (sa_cons (se_comp (own := [(Str.ofString "k", 3)]) cx (N' := N__law_run) (sc' := defScope st__law_run) rfl rfl (by decide +kernel) (si_range1 (by rfl) Fc.m_range (sa_cons (se_call cx.dn Fc.f__law_draw (sa_cons (se_nm 0 (pv 0)) (sa_cons se_int sa_nil)) rfl (by rfl)) sa_nil)) (fun s1 H1 C1 cl1 fp1 => (sg_name 3 (pg_name (i := 3) (Ctx.blk cx s1 H1 _ _ fp1).nd rfl (by first | exact .inl rfl | exact .inr rfl)) (by decide))) (fun s1 H1 C1 cl1 fp1 => (se_tup (sa_cons (se_ix (Ctx.blk cx s1 H1 _ _ fp1) (se_nm 2 (pv 2)) (se_call (Ctx.blk cx s1 H1 _ _ fp1).dn Fc.f__law_draw (sa_cons (se_nm 0 (pv 0)) (sa_cons se_int sa_nil)) rfl (by rfl))) (sa_cons (se_call (Ctx.blk cx s1 H1 _ _ fp1).dn Fc.f__law_room (sa_cons (se_nm 0 (pv 0)) (sa_cons (se_nm 1 (pv 1)) sa_nil)) rfl (by rfl)) sa_nil))))) sa_nil) fun a b => pe_callTy a (by rfl) Fc.m_tuple (by decide +kernel) b))))
theorem ok__law_kinds (Fc : Facts W P w mg base n) {f : Addr} {fd : FuncData} (F : Fun W.K "_law_kinds" "_law_kinds" st__law_kinds f fd) : FnOk P w W.K mg base (L2.CX P w) (2 * n + 2) f fd ["one"] (spD W (callN (n + 1)) 114 1) :=
  def_ok (B := b__law_kinds (callN n)) F sc__law_kinds (fun _ => rfl) (by decide) fun cdv A outer s H Ek vs cx => by
    unfold b__law_kinds
    exact (sb_cons (ss_set (i := 1) (se_lst (sa_cons (se_blt (cr_isXV cx.K (fun h => Fc.xi h) Fc.xv) (by rfl) Fc.m_isinstance (by decide +kernel) (sa_cons (se_nm 0 (pv 0)) (sa_cons (se_glob (by rfl) Fc.e_NoText) sa_nil)) fun a b => pe_callB a (by rfl) Fc.m_isinstance (by decide +kernel) b) (sa_cons (se_blt (cr_isXV cx.K (fun h => Fc.xi h) Fc.xv) (by rfl) Fc.m_isinstance (by decide +kernel) (sa_cons (se_nm 0 (pv 0)) (sa_cons (se_glob (by rfl) Fc.e_TooMany) sa_nil)) fun a b => pe_callB a (by rfl) Fc.m_isinstance (by decide +kernel) b) (sa_cons (se_blt (cr_isXV cx.K (fun h => Fc.xi h) Fc.xv) (by rfl) Fc.m_isinstance (by decide +kernel) (sa_cons (se_nm 0 (pv 0)) (sa_cons (se_glob (by rfl) Fc.e_NoRange) sa_nil)) fun a b => pe_callB a (by rfl) Fc.m_isinstance (by decide +kernel) b) (sa_cons (se_blt (cr_isXV cx.K (fun h => Fc.xi h) Fc.xv) (by rfl) Fc.m_isinstance (by decide +kernel) (sa_cons (se_nm 0 (pv 0)) (sa_cons (se_glob (by rfl) Fc.e_Twice) sa_nil)) fun a b => pe_callB a (by rfl) Fc.m_isinstance (by decide +kernel) b) sa_nil))))) (fun h => ps_set (i := 1) cx.nd rfl (by first | exact .inl rfl | exact .inr rfl) h)) (sb_cons (ss_set (i := 1) (se_bin (op_addO cx.K) (se_nm 1 (pv 1)) (se_lst (sa_cons (se_blt (cr_isXV cx.K (fun h => Fc.xi h) Fc.xv) (by rfl) Fc.m_isinstance (by decide +kernel) (sa_cons (se_nm 0 (pv 0)) (sa_cons (se_glob (by rfl) Fc.e_NoName) sa_nil)) fun a b => pe_callB a (by rfl) Fc.m_isinstance (by decide +kernel) b) (sa_cons (se_blt (cr_isXV cx.K (fun h => Fc.xi h) Fc.xv) (by rfl) Fc.m_isinstance (by decide +kernel) (sa_cons (se_nm 0 (pv 0)) (sa_cons (se_glob (by rfl) Fc.e_NoStep) sa_nil)) fun a b => pe_callB a (by rfl) Fc.m_isinstance (by decide +kernel) b) (sa_cons (se_blt (cr_isXV cx.K (fun h => Fc.xi h) Fc.xv) (by rfl) Fc.m_isinstance (by decide +kernel) (sa_cons (se_nm 0 (pv 0)) (sa_cons (se_glob (by rfl) Fc.e_NoRun) sa_nil)) fun a b => pe_callB a (by rfl) Fc.m_isinstance (by decide +kernel) b) (sa_cons (se_blt (cr_isXV cx.K (fun h => Fc.xi h) Fc.xv) (by rfl) Fc.m_isinstance (by decide +kernel) (sa_cons (se_nm 0 (pv 0)) (sa_cons (se_glob (by rfl) Fc.e_NoTie) sa_nil)) fun a b => pe_callB a (by rfl) Fc.m_isinstance (by decide +kernel) b) sa_nil)))))) (fun h => ps_set (i := 1) cx.nd rfl (by first | exact .inl rfl | exact .inr rfl) h)) (sb_cons (ss_set (i := 1) (se_bin (op_addO cx.K) (se_nm 1 (pv 1)) (se_lst (sa_cons (se_blt (cr_isXV cx.K (fun h => Fc.xi h) Fc.xv) (by rfl) Fc.m_isinstance (by decide +kernel) (sa_cons (se_nm 0 (pv 0)) (sa_cons (se_glob (by rfl) Fc.e_NoMachine) sa_nil)) fun a b => pe_callB a (by rfl) Fc.m_isinstance (by decide +kernel) b) (sa_cons (se_blt (cr_isXV cx.K (fun h => Fc.xi h) Fc.xv) (by rfl) Fc.m_isinstance (by decide +kernel) (sa_cons (se_nm 0 (pv 0)) (sa_cons (se_glob (by rfl) Fc.e_NoAnswer) sa_nil)) fun a b => pe_callB a (by rfl) Fc.m_isinstance (by decide +kernel) b) (sa_cons (se_blt (cr_isXV cx.K (fun h => Fc.xi h) Fc.xv) (by rfl) Fc.m_isinstance (by decide +kernel) (sa_cons (se_nm 0 (pv 0)) (sa_cons (se_glob (by rfl) Fc.e_Unkept) sa_nil)) fun a b => pe_callB a (by rfl) Fc.m_isinstance (by decide +kernel) b) sa_nil))))) (fun h => ps_set (i := 1) cx.nd rfl (by first | exact .inl rfl | exact .inr rfl) h)) (sb_one (ss_ret (se_bin (op_addO cx.K) (se_nm 1 (pv 1)) (se_lst (sa_cons (se_blt (cr_isXV cx.K (fun h => Fc.xi h) Fc.xv) (by rfl) Fc.m_isinstance (by decide +kernel) (sa_cons (se_nm 0 (pv 0)) (sa_cons (se_glob (by rfl) Fc.e_NotNearer) sa_nil)) fun a b => pe_callB a (by rfl) Fc.m_isinstance (by decide +kernel) b) (sa_cons (se_blt (cr_isXV cx.K (fun h => Fc.xi h) Fc.xv) (by rfl) Fc.m_isinstance (by decide +kernel) (sa_cons (se_nm 0 (pv 0)) (sa_cons (se_glob (by rfl) Fc.e_NotFalling) sa_nil)) fun a b => pe_callB a (by rfl) Fc.m_isinstance (by decide +kernel) b) sa_nil)))))))))
theorem ok__law_alone (Fc : Facts W P w mg base n) {f : Addr} {fd : FuncData} (F : Fun W.K "_law_alone" "_law_alone" st__law_alone f fd) : FnOk P w W.K mg base (L2.CX P w) (2 * n + 2) f fd ["one", "at"] (spD W (callN (n + 1)) 115 2) :=
  def_ok (B := b__law_alone (callN n)) F sc__law_alone (fun _ => rfl) (by decide) fun cdv A outer s H Ek vs cx => by
    unfold b__law_alone
    exact (sb_cons (ss_if (st_sw (sw_or (st_not (st_tru cx (se_blt (cr_isXV cx.K (fun h => Fc.xi h) Fc.xv) (by rfl) Fc.m_isinstance (by decide +kernel) (sa_cons (se_nm 0 (pv 0)) (sa_cons (se_glob (by rfl) Fc.e_WorkError) sa_nil)) fun a b => pe_callB a (by rfl) Fc.m_isinstance (by decide +kernel) b))) (sw_or1 (st_not (st_tru cx (se_blt (cr_isXV cx.K (fun h => Fc.xi h) Fc.xv) (by rfl) Fc.m_isinstance (by decide +kernel) (sa_cons (se_nm 0 (pv 0)) (sa_cons (se_tyn (by rfl) Fc.m_ValueError (by decide +kernel)) sa_nil)) fun a b => pe_callB a (by rfl) Fc.m_isinstance (by decide +kernel) b)))))) (sb_one (ss_ret se_bl)) ss_nil) (sb_one (ss_ret (se_cmp (op_eqO cx.K (hu64 cx)) (se_compIf (own := [(Str.ofString "k", 2), (Str.ofString "here", 3)]) cx (N' := N__law_alone) (sc' := defScope st__law_alone) rfl rfl (by decide +kernel) (si_enum cx (by rfl) Fc.m_enumerate (sa_cons (se_call cx.dn Fc.f__law_kinds (sa_cons (se_nm 0 (pv 0)) sa_nil) rfl (by rfl)) sa_nil)) (fun s1 H1 C1 cl1 fp1 => (sg_tup (Ctx.blk cx s1 H1 _ _ fp1) (sgs_cons (sg_name 2 (pg_name (i := 2) (Ctx.blk cx s1 H1 _ _ fp1).nd rfl (by first | exact .inl rfl | exact .inr rfl)) (by decide)) (sgs_cons (sg_name 3 (pg_name (i := 3) (Ctx.blk cx s1 H1 _ _ fp1).nd rfl (by first | exact .inl rfl | exact .inr rfl)) (by decide)) sgs_nil)))) (fun s1 H1 C1 cl1 fp1 => (st_tru (Ctx.blk cx s1 H1 _ _ fp1) (se_nm 3 (pv 3)))) (fun s1 H1 C1 cl1 fp1 => (se_nm 2 (pv 2)))) (se_lst (sa_cons (se_nm 1 (pv 1)) sa_nil)) (nomark _)))))
theorem ok_law_k09 (Fc : Facts W P w mg base n) {f : Addr} {fd : FuncData} (F : Fun W.K "law" "law" st_law_k09 f fd) : FnOk P w W.K mg base (L2.CX P w) (2 * n + 2) f fd ["script"] (spD W (callN (n + 1)) 116 1) :=
  def_ok (B := b_law_k09 (callN n)) F sc_law_k09 (fun _ => rfl) (by decide) fun cdv A outer s H Ek vs cx => by
    unfold b_law_k09
    exact (sb_cons (ss_for (own := [1]) cx po_of (si_seq cx (se_slice cx (se_bin (op_addO cx.K) (se_nm 0 (pv 0)) (se_lst (sa_cons se_int sa_nil))) so_none (so_some se_int))) (fun _ => (sg_name 1 (pg_name (i := 1) cx.nd rfl (by first | exact .inl rfl | exact .inr rfl)) (by decide))) (fun _ => (sb_cons (ss_set (i := 2) (se_lst (sa_cons (se_nm 1 (pv 1)) (sa_cons se_int sa_nil))) (fun h => ps_set (i := 2) cx.nd rfl (by first | exact .inl rfl | exact .inr rfl) h)) (sb_cons (ss_set (i := 3) (se_ix cx (se_lst (sa_cons (se_call cx.dn Fc.f__law_draw (sa_cons (se_nm 2 (pv 2)) (sa_cons se_int sa_nil)) rfl (by rfl)) (sa_cons se_int (sa_cons se_int sa_nil)))) (se_call cx.dn Fc.f__law_draw (sa_cons (se_nm 2 (pv 2)) (sa_cons se_int sa_nil)) rfl (by rfl))) (fun h => ps_set (i := 3) cx.nd rfl (by first | exact .inl rfl | exact .inr rfl) h)) (sb_cons (ss_set (i := 4) (se_bin (op_addO cx.K) se_int (se_call cx.dn Fc.f__law_draw (sa_cons (se_nm 2 (pv 2)) (sa_cons se_int sa_nil)) rfl (by rfl))) (fun h => ps_set (i := 4) cx.nd rfl (by first | exact .inl rfl | exact .inr rfl) h)) (sb_cons (ss_set (i := 5) (se_call cx.dn Fc.f__law_run (sa_cons (se_nm 2 (pv 2)) (sa_cons (se_nm 4 (pv 4)) sa_nil)) rfl (by rfl)) (fun h => ps_set (i := 5) cx.nd rfl (by first | exact .inl rfl | exact .inr rfl) h)) (sb_cons (ss_set (i := 6) (se_call cx.dn Fc.f__law_room (sa_cons (se_nm 2 (pv 2)) (sa_cons (se_nm 4 (pv 4)) sa_nil)) rfl (by rfl)) (fun h => ps_set (i := 6) cx.nd rfl (by first | exact .inl rfl | exact .inr rfl) h)) (sb_cons (ss_set (i := 7) (se_ix cx (se_lst (sa_cons se_str (sa_cons se_str (sa_cons se_str sa_nil)))) (se_call cx.dn Fc.f__law_draw (sa_cons (se_nm 2 (pv 2)) (sa_cons se_int sa_nil)) rfl (by rfl))) (fun h => ps_set (i := 7) cx.nd rfl (by first | exact .inl rfl | exact .inr rfl) h)) (sb_cons (ss_set (i := 8) (se_ix cx (se_lst (sa_cons (se_tup (sa_cons se_str (sa_cons (se_nm 5 (pv 5)) (sa_cons (se_nm 7 (pv 7)) (sa_cons (se_nm 6 (pv 6)) sa_nil))))) (sa_cons (se_tup (sa_cons se_str (sa_cons (se_nm 5 (pv 5)) sa_nil))) (sa_cons (se_tup (sa_cons se_str sa_nil)) sa_nil)))) (se_call cx.dn Fc.f__law_draw (sa_cons (se_nm 2 (pv 2)) (sa_cons se_int sa_nil)) rfl (by rfl))) (fun h => ps_set (i := 8) cx.nd rfl (by first | exact .inl rfl | exact .inr rfl) h)) (sb_cons (ss_set (i := 9) (se_lst (sa_cons (se_mkx cx Fc.kx_NoAnswer (sa_cons (se_nm 3 (pv 3)) sa_nil) (by rfl)) (sa_cons (se_mkx cx Fc.kx_Unkept (sa_cons (se_bin op_modO (se_nm 3 (pv 3)) se_int) (sa_cons (se_nm 5 (pv 5)) sa_nil)) (by rfl)) (sa_cons (se_mkx cx Fc.kx_NotNearer (sa_cons (se_nm 8 (pv 8)) sa_nil) (by rfl)) (sa_cons (se_mkx cx Fc.kx_NotFalling (sa_cons (se_nm 5 (pv 5)) (sa_cons (se_nm 7 (pv 7)) (sa_cons (se_nm 6 (pv 6)) sa_nil))) (by rfl)) sa_nil))))) (fun h => ps_set (i := 9) cx.nd rfl (by first | exact .inl rfl | exact .inr rfl) h)) (sb_cons (ss_if (st_cmp (op_neO cx.K (hu64 cx)) (se_compIf (own := [(Str.ofString "k", 10), (Str.ofString "one", 11)]) cx (N' := N_law_k09) (sc' := defScope st_law_k09) rfl rfl (by decide +kernel) (si_enum cx (by rfl) Fc.m_enumerate (sa_cons (se_nm 9 (pv 9)) sa_nil)) (fun s1 H1 C1 cl1 fp1 => (sg_tup (Ctx.blk cx s1 H1 _ _ fp1) (sgs_cons (sg_name 10 (pg_name (i := 10) (Ctx.blk cx s1 H1 _ _ fp1).nd rfl (by first | exact .inl rfl | exact .inr rfl)) (by decide)) (sgs_cons (sg_name 11 (pg_name (i := 11) (Ctx.blk cx s1 H1 _ _ fp1).nd rfl (by first | exact .inl rfl | exact .inr rfl)) (by decide)) sgs_nil)))) (fun s1 H1 C1 cl1 fp1 => (st_not (st_tru (Ctx.blk cx s1 H1 _ _ fp1) (se_call (Ctx.blk cx s1 H1 _ _ fp1).dn Fc.f__law_alone (sa_cons (se_nm 11 (pv 11)) (sa_cons (se_bin (op_addO (Ctx.blk cx s1 H1 _ _ fp1).K) se_int (se_nm 10 (pv 10))) sa_nil)) rfl (by rfl))))) (fun s1 H1 C1 cl1 fp1 => (se_nm 10 (pv 10)))) (se_lst sa_nil) (nomark _)) (sb_one (ss_ret se_bl)) ss_nil) (sb_cons (ss_if (st_cmp (op_neO cx.K (hu64 cx)) (se_lst (sa_cons (se_attrX cx (fun c f h => Fc.fld h) (fun c f h => Fc.fldx h) (se_ix cx (se_nm 9 (pv 9)) se_int)) (sa_cons (se_attrX cx (fun c f h => Fc.fld h) (fun c f h => Fc.fldx h) (se_ix cx (se_nm 9 (pv 9)) se_int)) (sa_cons (se_attrX cx (fun c f h => Fc.fld h) (fun c f h => Fc.fldx h) (se_ix cx (se_nm 9 (pv 9)) se_int)) (sa_cons (se_attrX cx (fun c f h => Fc.fld h) (fun c f h => Fc.fldx h) (se_ix cx (se_nm 9 (pv 9)) se_int)) sa_nil))))) (se_lst (sa_cons (se_nm 3 (pv 3)) (sa_cons (se_bin op_modO (se_nm 3 (pv 3)) se_int) (sa_cons (se_nm 5 (pv 5)) (sa_cons (se_nm 8 (pv 8)) sa_nil))))) (nomark _)) (sb_one (ss_ret se_bl)) ss_nil) (sb_one (ss_if (st_cmp (op_neO cx.K (hu64 cx)) (se_lst (sa_cons (se_attrX cx (fun c f h => Fc.fld h) (fun c f h => Fc.fldx h) (se_ix cx (se_nm 9 (pv 9)) se_int)) (sa_cons (se_attrX cx (fun c f h => Fc.fld h) (fun c f h => Fc.fldx h) (se_ix cx (se_nm 9 (pv 9)) se_int)) (sa_cons (se_attrX cx (fun c f h => Fc.fld h) (fun c f h => Fc.fldx h) (se_ix cx (se_nm 9 (pv 9)) se_int)) sa_nil)))) (se_lst (sa_cons (se_nm 5 (pv 5)) (sa_cons (se_nm 7 (pv 7)) (sa_cons (se_nm 6 (pv 6)) sa_nil)))) (nomark _)) (sb_one (ss_ret se_bl)) ss_nil)))))))))))))) (sb_one (ss_ret se_bl)))
theorem okx_NoAnswer___init__ {B0 : Addr} (h1 : mg "WorkError" = some (.ref B0)) (h2 : ClX.CRead W.K B0 (.type "type")) (h3 : PySem.W.findCls W.K (.ref B0) (.type "type") "__init__" = some (.val (.builtin "ValueError.__init__"))) {f : Addr} {fd : FuncData} (F : Fun W.K "__init__" "NoAnswer.__init__" st_NoAnswer___init__ f fd) : FnOk P w W.K mg base (L2.CX P w) (2 * n + 2) f fd ["self", "step"] (spI W.K ["step"]) :=
  F.okX sc_NoAnswer___init__ (spI_len rfl) fun cdv A outer s H us Q Ek hr h => ⟨_, pss_cons (ps_expr (pe_oinit (by rfl) h1 h2 h3 (pa_cons (pv 0) (pa_cons pe_str pa_nil)))) (pss_cons (ps_ost (pv 0) (pv 1)) pss_nil), in1_ok rfl h⟩
theorem okx_NotFalling___init__ {B0 : Addr} (h1 : mg "WorkError" = some (.ref B0)) (h2 : ClX.CRead W.K B0 (.type "type")) (h3 : PySem.W.findCls W.K (.ref B0) (.type "type") "__init__" = some (.val (.builtin "ValueError.__init__"))) {f : Addr} {fd : FuncData} (F : Fun W.K "__init__" "NotFalling.__init__" st_NotFalling___init__ f fd) : FnOk P w W.K mg base (L2.CX P w) (2 * n + 2) f fd ["self", "run", "called", "room"] (spI W.K ["run", "called", "room"]) :=
  F.okX sc_NotFalling___init__ (spI_len rfl) fun cdv A outer s H us Q Ek hr h => ⟨_, pss_cons (ps_expr (pe_oinit (by rfl) h1 h2 h3 (pa_cons (pv 0) (pa_cons pe_str pa_nil)))) (pss_cons (ps_ost (pv 0) (pv 1)) (pss_cons (ps_ost (pv 0) (pv 2)) (pss_cons (ps_ost (pv 0) (pv 3)) pss_nil))), in3_ok rfl h⟩
theorem okx_NotNearer___init__ {B0 : Addr} (h1 : mg "WorkError" = some (.ref B0)) (h2 : ClX.CRead W.K B0 (.type "type")) (h3 : PySem.W.findCls W.K (.ref B0) (.type "type") "__init__" = some (.val (.builtin "ValueError.__init__"))) {f : Addr} {fd : FuncData} (F : Fun W.K "__init__" "NotNearer.__init__" st_NotNearer___init__ f fd) : FnOk P w W.K mg base (L2.CX P w) (2 * n + 2) f fd ["self", "verdict"] (spI W.K ["verdict"]) :=
  F.okX sc_NotNearer___init__ (spI_len rfl) fun cdv A outer s H us Q Ek hr h => ⟨_, pss_cons (ps_expr (pe_oinit (by rfl) h1 h2 h3 (pa_cons (pv 0) (pa_cons pe_str pa_nil)))) (pss_cons (ps_ost (pv 0) (pv 1)) pss_nil), in1_ok rfl h⟩
theorem okx_Unkept___init__ {B0 : Addr} (h1 : mg "WorkError" = some (.ref B0)) (h2 : ClX.CRead W.K B0 (.type "type")) (h3 : PySem.W.findCls W.K (.ref B0) (.type "type") "__init__" = some (.val (.builtin "ValueError.__init__"))) {f : Addr} {fd : FuncData} (F : Fun W.K "__init__" "Unkept.__init__" st_Unkept___init__ f fd) : FnOk P w W.K mg base (L2.CX P w) (2 * n + 2) f fd ["self", "number", "run"] (spI W.K ["number", "run"]) :=
  F.okX sc_Unkept___init__ (spI_len rfl) fun cdv A outer s H us Q Ek hr h => ⟨_, pss_cons (ps_expr (pe_oinit (by rfl) h1 h2 h3 (pa_cons (pv 0) (pa_cons pe_str pa_nil)))) (pss_cons (ps_ost (pv 0) (pv 1)) (pss_cons (ps_ost (pv 0) (pv 2)) pss_nil)), in2_ok rfl h⟩
end
local macro_rules | `(tactic| walk_at "vi") => `(tactic| simp -implicitDefEqProofs only [bind_ok, bind_exc, bind_stuck, cst_a, nm_a, nm_pd, nm_ld, nm_pl, nm_ll, nm_pm, nm_lm, nm_pi, nm_li, nm_px, nm_lx, takC_x, stoC_lx, dctE_a, dsp1E_a, dsp1C_a, dsp1R_a, dsp1F_s, dsp1G_s, tplE_a, tplR_a, tplB_s, vals_n, vals_c, valsC_s, subE_a, subC_t, subC_p, subF_s, subD_p, subD_l, ob_sb, subK_t, nm_pt, nm_lt, takC_t, stoC_lt, full_t, fullL_n, fullL_c, er_t, erL_n, erL_c, takes_b, takD_l, takD_p, puts_b, setS1_a, setS2_t, has_b, putR_b, isHole_h, isHole_l, isHole_p, mvC_lx, mvC_lt, ob_val, ob_slot, obj_p, obj_l, setO_a, setC_p, setC_l, frzs_nil, frzs_val, frzs_slot, frzC_s, frzV_t, frzB_s, full_p, full_l, full_m, full_i, fullF_n, fullF_c, er_p, er_l, er_m, er_i, erF_n, erF_c, evs_n, evs_c, evC_a, evC2_a, outE_s, bin_a, binC_a, binD_a, binF_s, una_a, unaD_a, unaF_s, tupE_a, tupC_a, tupG_s, tupH_t, lstE_a, lstC_a, lstG_s, lstH_t, takes_n, takes_v, takes_s, takC_p, takC_l, takC_m, takC_i, takB_s, puts_n, puts_v, puts_s, callA_a, callR_a, callC_s, callD_o, callD_x, obsL_n, obsL_c, obsB_s, bltE_a, bltR_a, bltC_s, bmE_a, bmC_a, bmD_a, ty_s, ty_t, ty_n, ty_b, ty_0, ty_pl, ty_l, ty_pm, ty_m, mutE_a, mutC_a, mutD_a, mutG_s, mutH_s, mutI_s, putR_s, putR_v, app_a, stS_a, stC_a, stC2_a, stD_a, stG_s, stH_s, stI_s, noE_a, intE_a, intC_s, slE_a, slC_a, slC2_a, slD_a, slI_s, slO_l, slO_pl, slO_t, slO_s, revO_l, revO_p, truT_a, truC_a, truD_s, tru_b, tru_i, tru_n, tru_l, tru_pl, tru_t, blT_a, blC_s, andT_a, orT_a, notT_a, andC_t, andC_f, orC_t, orC_f, notC_a, bl1_a, andE_a, orE_a, notE_a, andEC_t, andEC_f, orEC_t, orEC_f, notEC_a, ifE_a, ifEC_t, ifEC_f, seqS_a, seqC_n, seqC_r, seqC_b, seqC_c, nextS_a, dropS_a, drpC_a, ifS_a, ifC_t, ifC_f, retS_a, retR_v, retR_s, retC_l, retC_p, retF_s, storeS_a, stoC_u, stoC_lh, getE1_a, getG1_a, getH1_s, getI1_a, getD1_a, getE2_a, getG2_a, getH2_s, getJ2_a, getI2_a, getD2_a, dicOf_l, dicOf_p, chE_a, chA1_a, chB1_a, chB2_s, chB3_t, chB3_f, chB4_a, dispE_a, dispC_a, into_b, into_i, mvE_a, mvC_pd, mvC_ld, mvC_ll, mvC_lm, mvC_li, stoC_fr, fre_un, fre_d, stoC_pd, stoC_ld, stoC_ll, stoC_lm, stoC_li, asgS_a, asgR_v, asgR_s, asgB_s, asgF_s, nmT_a, tupT_a, foldT_c, folC_s, foldT_n, setS_a, setSC_a, setD_s, forS_a, forC_a, forD_s, forF_s, forR_a, forQ_f, forQ_t, has_n, has_s, has_v, mapG_o, mapD_s, lokC_a, loop_n, loop_c, lopD_s, lopC_n, lopC_c, lopC_b, lopC_r, compE_a, cmpC_a, cmpD_s, cmpF_s, cmpV_t, cmpW_s, compL_n, compL_c, cplT_s, cplC_t, cplC_f, cplX_o, cplY_s, add_i, sub_i, mul_i, mod_i, div_i, mulC_l, mulC_r, lt_i, le_i, gt_i, ge_i, eq_i, ne_i, eq_s, ne_s, ix_l, ix_pl, ix_t, len_l, len_pl, len_t, tup_l, tup_pl, tup_t, list_l, list_pl, list_t, max_i, min_i, isN_f, isN_t, n_n, n_s, n_i, n_t, n_l, it_l, it_pl, it_t, addL, addLp, atI_lt, atI_nat, st_l, if_s, backs_n, backs_c, backs_d, backB_s, endC_r, endC_n, endC_x, endB_s, endX_s, turn_a, turnD_s, turnF_n, turnF_c, whlC_t, whlC_f, whlE_n, whlE_c, whlE_b, whlE_r, fldS_a, fldD_a, fldE_a, fldH_s, fldI_s, fldC_a, putFO_n, putFO_c, attrE_a, atr_p, atr_i, methE_a, methC_a, methF_s, methD_a, methG_p, methG_i, newE_a, makeA_a, mkC_a, mkD_s, mkE_o, str_i, sum_l, ins_0, enum_l, enum_pl, add_t, List.lookup_nil, eq_self, List.map_cons, List.map_nil, List.length_cons, List.length_nil, List.length_map, List.length_append, List.cons_append, List.nil_append, List.getElem?_cons_zero, List.getElem?_cons_succ, List.set_cons_zero, List.set_cons_succ, List.replicate_succ, List.replicate_zero, Option.bind_some, Option.map_some, Option.bind_none, Option.map_none, reduceIte, Nat.reduceAdd, Nat.reduceSub, Nat.reduceLeDiff, Nat.reduceBEq, Nat.reduceLT, Int.reduceLT, Int.reduceLE, Int.reduceToNat, Int.reduceAdd, Int.reduceEq, Int.cast_ofNat_Int, Int.reduceMul, Int.reduceSub, Int.reduceMod, Int.reduceDiv, Nat.zero_add, if_true, if_false, decide_true, decide_false, Bool.false_eq_true, Bool.not_true, Bool.not_false, Bool.and_true, Bool.true_and, Bool.and_false, Bool.false_and, Bool.or_false, Bool.or_true, true_and, and_true, List.all_cons, List.all_nil, Nat.le_refl, Int.le_refl, Int.reduceNeg, wipeG, restG, isPure_a, pur_un, pur_ld, pur_pd, pur_fr, isPar, lock_n, lock_c, unlk_n, unlk_c, lk_p, lk_u, lk_d, lk_l, lk_m, lk_i, lk_h, lk_fr, lk_no, un_s, un_l, un_u, un_pp, un_lp, un_fr, freeR, isSl, List.any_cons, List.any_nil, List.getElem?_map, Bool.false_xor, Bool.true_xor, Bool.xor_false, Bool.xor_true, List.filter_cons, List.range_zero])
local macro_rules | `(tactic| walk_at "vi*") => `(tactic| simp -implicitDefEqProofs only [*, raiseS_a, tryS_a, tryC_o, tryC_x, tryD_t, tryD_f, tryH_o, isXE_a, isXC_s, mapG_x, mapX_s, List.set_cons_zero, List.set_cons_succ, joinE_c, joinE_n, joinC_s, augS_a, itmE_a, itmC_d, setI_a, frzE_a, frzF_s, llsE_a, augC_i, augE_a, augD_i, bind_ok, bind_exc, bind_stuck, cst_a, nm_a, nm_pd, nm_ld, nm_pl, nm_ll, nm_pm, nm_lm, nm_pi, nm_li, nm_px, nm_lx, takC_x, stoC_lx, dctE_a, dsp1E_a, dsp1C_a, dsp1R_a, dsp1F_s, dsp1G_s, tplE_a, tplR_a, tplB_s, vals_n, vals_c, valsC_s, subE_a, subC_t, subC_p, subF_s, subD_p, subD_l, ob_sb, subK_t, nm_pt, nm_lt, takC_t, stoC_lt, full_t, fullL_n, fullL_c, er_t, erL_n, erL_c, takes_b, takD_l, takD_p, puts_b, setS1_a, setS2_t, has_b, putR_b, isHole_h, isHole_l, isHole_p, mvC_lx, mvC_lt, ob_val, ob_slot, obj_p, obj_l, setO_a, setC_p, setC_l, frzs_nil, frzs_val, frzs_slot, frzC_s, frzV_t, frzB_s, full_p, full_l, full_m, full_i, fullF_n, fullF_c, er_p, er_l, er_m, er_i, erF_n, erF_c, evs_n, evs_c, evC_a, evC2_a, outE_s, bin_a, binC_a, binD_a, binF_s, una_a, unaD_a, unaF_s, tupE_a, tupC_a, tupG_s, tupH_t, lstE_a, lstC_a, lstG_s, lstH_t, takes_n, takes_v, takes_s, takC_p, takC_l, takC_m, takC_i, takB_s, puts_n, puts_v, puts_s, callA_a, callR_a, callC_s, callD_o, callD_x, obsL_n, obsL_c, obsB_s, bltE_a, bltR_a, bltC_s, bmE_a, bmC_a, bmD_a, ty_s, ty_t, ty_n, ty_b, ty_0, ty_pl, ty_l, ty_pm, ty_m, mutE_a, mutC_a, mutD_a, mutG_s, mutH_s, mutI_s, putR_s, putR_v, app_a, stS_a, stC_a, stC2_a, stD_a, stG_s, stH_s, stI_s, noE_a, intE_a, intC_s, slE_a, slC_a, slC2_a, slD_a, slI_s, slO_l, slO_pl, slO_t, slO_s, revO_l, revO_p, truT_a, truC_a, truD_s, tru_b, tru_i, tru_n, tru_l, tru_pl, tru_t, blT_a, blC_s, andT_a, orT_a, notT_a, andC_t, andC_f, orC_t, orC_f, notC_a, bl1_a, andE_a, orE_a, notE_a, andEC_t, andEC_f, orEC_t, orEC_f, notEC_a, ifE_a, ifEC_t, ifEC_f, seqS_a, seqC_n, seqC_r, seqC_b, seqC_c, nextS_a, dropS_a, drpC_a, ifS_a, ifC_t, ifC_f, retS_a, retR_v, retR_s, retC_l, retC_p, retF_s, storeS_a, stoC_u, stoC_lh, getE1_a, getG1_a, getH1_s, getI1_a, getD1_a, getE2_a, getG2_a, getH2_s, getJ2_a, getI2_a, getD2_a, dicOf_l, dicOf_p, chE_a, chA1_a, chB1_a, chB2_s, chB3_t, chB3_f, chB4_a, dispE_a, dispC_a, into_b, into_i, mvE_a, mvC_pd, mvC_ld, mvC_ll, mvC_lm, mvC_li, stoC_fr, fre_un, fre_d, stoC_pd, stoC_ld, stoC_ll, stoC_lm, stoC_li, asgS_a, asgR_v, asgR_s, asgB_s, asgF_s, nmT_a, tupT_a, foldT_c, folC_s, foldT_n, setS_a, setSC_a, setD_s, forS_a, forC_a, forD_s, forF_s, forR_a, forQ_f, forQ_t, has_n, has_s, has_v, mapG_o, mapD_s, lokC_a, loop_n, loop_c, lopD_s, lopC_n, lopC_c, lopC_b, lopC_r, compE_a, cmpC_a, cmpD_s, cmpF_s, cmpV_t, cmpW_s, compL_n, compL_c, cplT_s, cplC_t, cplC_f, cplX_o, cplY_s, add_i, sub_i, mul_i, mod_i, div_i, mulC_l, mulC_r, lt_i, le_i, gt_i, ge_i, eq_i, ne_i, eq_s, ne_s, ix_l, ix_pl, ix_t, len_l, len_pl, len_t, tup_l, tup_pl, tup_t, list_l, list_pl, list_t, max_i, min_i, isN_f, isN_t, n_n, n_s, n_i, n_t, n_l, it_l, it_pl, it_t, addL, addLp, atI_lt, atI_nat, st_l, if_s, backs_n, backs_c, backs_d, backB_s, endC_r, endC_n, endC_x, endB_s, endX_s, turn_a, turnD_s, turnF_n, turnF_c, whlC_t, whlC_f, whlE_n, whlE_c, whlE_b, whlE_r, fldS_a, fldD_a, fldE_a, fldH_s, fldI_s, fldC_a, putFO_n, putFO_c, attrE_a, atr_p, atr_i, methE_a, methC_a, methF_s, methD_a, methG_p, methG_i, newE_a, makeA_a, mkC_a, mkD_s, mkE_o, str_i, sum_l, ins_0, enum_l, enum_pl, add_t, List.lookup_nil, eq_self, List.map_cons, List.map_nil, List.length_cons, List.length_nil, List.length_map, List.length_append, List.cons_append, List.nil_append, List.getElem?_cons_zero, List.getElem?_cons_succ, List.set_cons_zero, List.set_cons_succ, List.replicate_succ, List.replicate_zero, Option.bind_some, Option.map_some, Option.bind_none, Option.map_none, reduceIte, Nat.reduceAdd, Nat.reduceSub, Nat.reduceLeDiff, Nat.reduceBEq, Nat.reduceLT, Int.reduceLT, Int.reduceLE, Int.reduceToNat, Int.reduceAdd, Int.reduceEq, Int.cast_ofNat_Int, Int.reduceMul, Int.reduceSub, Int.reduceMod, Int.reduceDiv, Nat.zero_add, if_true, if_false, decide_true, decide_false, Bool.false_eq_true, Bool.not_true, Bool.not_false, Bool.and_true, Bool.true_and, Bool.and_false, Bool.false_and, Bool.or_false, Bool.or_true, true_and, and_true, List.all_cons, List.all_nil, Nat.le_refl, Int.le_refl, Int.reduceNeg, wipeG, restG, isPure_a, pur_un, pur_ld, pur_pd, pur_fr, isPar, lock_n, lock_c, unlk_n, unlk_c, lk_p, lk_u, lk_d, lk_l, lk_m, lk_i, lk_h, lk_fr, lk_no, un_s, un_l, un_u, un_pp, un_lp, un_fr, freeR, isSl, List.any_cons, List.any_nil, List.getElem?_map, Bool.false_xor, Bool.true_xor, Bool.xor_false, Bool.xor_true, List.filter_cons, List.range_zero])
local macro_rules | `(tactic| walk_at "vi*w") => `(tactic| simp -implicitDefEqProofs only [*, raiseS_a, tryS_a, tryC_o, tryC_x, tryD_t, tryD_f, tryH_o, isXE_a, isXC_s, mapG_x, mapX_s, List.set_cons_zero, List.set_cons_succ, joinE_c, joinE_n, joinC_s, augS_a, itmE_a, itmC_d, setI_a, frzE_a, frzF_s, llsE_a, augC_i, augE_a, augD_i, while_s, bind_ok, bind_exc, bind_stuck, cst_a, nm_a, nm_pd, nm_ld, nm_pl, nm_ll, nm_pm, nm_lm, nm_pi, nm_li, nm_px, nm_lx, takC_x, stoC_lx, dctE_a, dsp1E_a, dsp1C_a, dsp1R_a, dsp1F_s, dsp1G_s, tplE_a, tplR_a, tplB_s, vals_n, vals_c, valsC_s, subE_a, subC_t, subC_p, subF_s, subD_p, subD_l, ob_sb, subK_t, nm_pt, nm_lt, takC_t, stoC_lt, full_t, fullL_n, fullL_c, er_t, erL_n, erL_c, takes_b, takD_l, takD_p, puts_b, setS1_a, setS2_t, has_b, putR_b, isHole_h, isHole_l, isHole_p, mvC_lx, mvC_lt, ob_val, ob_slot, obj_p, obj_l, setO_a, setC_p, setC_l, frzs_nil, frzs_val, frzs_slot, frzC_s, frzV_t, frzB_s, full_p, full_l, full_m, full_i, fullF_n, fullF_c, er_p, er_l, er_m, er_i, erF_n, erF_c, evs_n, evs_c, evC_a, evC2_a, outE_s, bin_a, binC_a, binD_a, binF_s, una_a, unaD_a, unaF_s, tupE_a, tupC_a, tupG_s, tupH_t, lstE_a, lstC_a, lstG_s, lstH_t, takes_n, takes_v, takes_s, takC_p, takC_l, takC_m, takC_i, takB_s, puts_n, puts_v, puts_s, callA_a, callR_a, callC_s, callD_o, callD_x, obsL_n, obsL_c, obsB_s, bltE_a, bltR_a, bltC_s, bmE_a, bmC_a, bmD_a, ty_s, ty_t, ty_n, ty_b, ty_0, ty_pl, ty_l, ty_pm, ty_m, mutE_a, mutC_a, mutD_a, mutG_s, mutH_s, mutI_s, putR_s, putR_v, app_a, stS_a, stC_a, stC2_a, stD_a, stG_s, stH_s, stI_s, noE_a, intE_a, intC_s, slE_a, slC_a, slC2_a, slD_a, slI_s, slO_l, slO_pl, slO_t, slO_s, revO_l, revO_p, truT_a, truC_a, truD_s, tru_b, tru_i, tru_n, tru_l, tru_pl, tru_t, blT_a, blC_s, andT_a, orT_a, notT_a, andC_t, andC_f, orC_t, orC_f, notC_a, bl1_a, andE_a, orE_a, notE_a, andEC_t, andEC_f, orEC_t, orEC_f, notEC_a, ifE_a, ifEC_t, ifEC_f, seqS_a, seqC_n, seqC_r, seqC_b, seqC_c, nextS_a, dropS_a, drpC_a, ifS_a, ifC_t, ifC_f, retS_a, retR_v, retR_s, retC_l, retC_p, retF_s, storeS_a, stoC_u, stoC_lh, getE1_a, getG1_a, getH1_s, getI1_a, getD1_a, getE2_a, getG2_a, getH2_s, getJ2_a, getI2_a, getD2_a, dicOf_l, dicOf_p, chE_a, chA1_a, chB1_a, chB2_s, chB3_t, chB3_f, chB4_a, dispE_a, dispC_a, into_b, into_i, mvE_a, mvC_pd, mvC_ld, mvC_ll, mvC_lm, mvC_li, stoC_fr, fre_un, fre_d, stoC_pd, stoC_ld, stoC_ll, stoC_lm, stoC_li, asgS_a, asgR_v, asgR_s, asgB_s, asgF_s, nmT_a, tupT_a, foldT_c, folC_s, foldT_n, setS_a, setSC_a, setD_s, forS_a, forC_a, forD_s, forF_s, forR_a, forQ_f, forQ_t, has_n, has_s, has_v, mapG_o, mapD_s, lokC_a, loop_n, loop_c, lopD_s, lopC_n, lopC_c, lopC_b, lopC_r, compE_a, cmpC_a, cmpD_s, cmpF_s, cmpV_t, cmpW_s, compL_n, compL_c, cplT_s, cplC_t, cplC_f, cplX_o, cplY_s, add_i, sub_i, mul_i, mod_i, div_i, mulC_l, mulC_r, lt_i, le_i, gt_i, ge_i, eq_i, ne_i, eq_s, ne_s, ix_l, ix_pl, ix_t, len_l, len_pl, len_t, tup_l, tup_pl, tup_t, list_l, list_pl, list_t, max_i, min_i, isN_f, isN_t, n_n, n_s, n_i, n_t, n_l, it_l, it_pl, it_t, addL, addLp, atI_lt, atI_nat, st_l, if_s, backs_n, backs_c, backs_d, backB_s, endC_r, endC_n, endC_x, endB_s, endX_s, turn_a, turnD_s, turnF_n, turnF_c, whlC_t, whlC_f, whlE_n, whlE_c, whlE_b, whlE_r, fldS_a, fldD_a, fldE_a, fldH_s, fldI_s, fldC_a, putFO_n, putFO_c, attrE_a, atr_p, atr_i, methE_a, methC_a, methF_s, methD_a, methG_p, methG_i, newE_a, makeA_a, mkC_a, mkD_s, mkE_o, str_i, sum_l, ins_0, enum_l, enum_pl, add_t, List.lookup_nil, eq_self, List.map_cons, List.map_nil, List.length_cons, List.length_nil, List.length_map, List.length_append, List.cons_append, List.nil_append, List.getElem?_cons_zero, List.getElem?_cons_succ, List.set_cons_zero, List.set_cons_succ, List.replicate_succ, List.replicate_zero, Option.bind_some, Option.map_some, Option.bind_none, Option.map_none, reduceIte, Nat.reduceAdd, Nat.reduceSub, Nat.reduceLeDiff, Nat.reduceBEq, Nat.reduceLT, Int.reduceLT, Int.reduceLE, Int.reduceToNat, Int.reduceAdd, Int.reduceEq, Int.cast_ofNat_Int, Int.reduceMul, Int.reduceSub, Int.reduceMod, Int.reduceDiv, Nat.zero_add, if_true, if_false, decide_true, decide_false, Bool.false_eq_true, Bool.not_true, Bool.not_false, Bool.and_true, Bool.true_and, Bool.and_false, Bool.false_and, Bool.or_false, Bool.or_true, true_and, and_true, List.all_cons, List.all_nil, Nat.le_refl, Int.le_refl, Int.reduceNeg, wipeG, restG, isPure_a, pur_un, pur_ld, pur_pd, pur_fr, isPar, lock_n, lock_c, unlk_n, unlk_c, lk_p, lk_u, lk_d, lk_l, lk_m, lk_i, lk_h, lk_fr, lk_no, un_s, un_l, un_u, un_pp, un_lp, un_fr, freeR, isSl, List.any_cons, List.any_nil, List.getElem?_map, Bool.false_xor, Bool.true_xor, Bool.xor_false, Bool.xor_true, List.filter_cons, List.range_zero])
local macro_rules | `(tactic| walk_at "vi*i") => `(tactic| simp -implicitDefEqProofs only [*, raiseS_a, tryS_a, tryC_o, tryC_x, tryD_t, tryD_f, tryH_o, isXE_a, isXC_s, mapG_x, mapX_s, List.set_cons_zero, List.set_cons_succ, joinE_c, joinE_n, joinC_s, augS_a, itmE_a, itmC_d, setI_a, frzE_a, frzF_s, llsE_a, augC_i, augE_a, augD_i, bind_ok, bind_exc, bind_stuck, cst_a, nm_a, nm_pd, nm_ld, nm_pl, nm_ll, nm_pm, nm_lm, nm_pi, nm_li, nm_px, nm_lx, takC_x, stoC_lx, dctE_a, dsp1E_a, dsp1C_a, dsp1R_a, dsp1F_s, dsp1G_s, tplE_a, tplR_a, tplB_s, vals_n, vals_c, valsC_s, subE_a, subC_t, subC_p, subF_s, subD_p, subD_l, ob_sb, subK_t, nm_pt, nm_lt, takC_t, stoC_lt, full_t, fullL_n, fullL_c, er_t, erL_n, erL_c, takes_b, takD_l, takD_p, puts_b, setS1_a, setS2_t, has_b, putR_b, isHole_h, isHole_l, isHole_p, mvC_lx, mvC_lt, ob_val, ob_slot, obj_p, obj_l, setO_a, setC_p, setC_l, frzs_nil, frzs_val, frzs_slot, frzC_s, frzV_t, frzB_s, full_p, full_l, full_m, full_i, fullF_n, fullF_c, er_p, er_l, er_m, er_i, erF_n, erF_c, evs_n, evs_c, evC_a, evC2_a, outE_s, bin_a, binC_a, binD_a, binF_s, una_a, unaD_a, unaF_s, tupE_a, tupC_a, tupG_s, tupH_t, lstE_a, lstC_a, lstG_s, lstH_t, takes_n, takes_v, takes_s, takC_p, takC_l, takC_m, takC_i, takB_s, puts_n, puts_v, puts_s, callA_a, callR_a, callC_s, callD_o, callD_x, obsL_n, obsL_c, obsB_s, bltE_a, bltR_a, bltC_s, bmE_a, bmC_a, bmD_a, ty_s, ty_t, ty_n, ty_b, ty_0, ty_pl, ty_l, ty_pm, ty_m, mutE_a, mutC_a, mutD_a, mutG_s, mutH_s, mutI_s, putR_s, putR_v, app_a, stS_a, stC_a, stC2_a, stD_a, stG_s, stH_s, stI_s, noE_a, intE_a, intC_s, slE_a, slC_a, slC2_a, slD_a, slI_s, slO_l, slO_pl, slO_t, slO_s, revO_l, revO_p, truT_a, truC_a, truD_s, tru_b, tru_i, tru_n, tru_l, tru_pl, tru_t, blT_a, blC_s, andT_a, orT_a, notT_a, andC_t, andC_f, orC_t, orC_f, notC_a, bl1_a, andE_a, orE_a, notE_a, andEC_t, andEC_f, orEC_t, orEC_f, notEC_a, ifE_a, ifEC_t, ifEC_f, seqS_a, seqC_n, seqC_r, seqC_b, seqC_c, nextS_a, dropS_a, drpC_a, ifC_t, ifC_f, retS_a, retR_v, retR_s, retC_l, retC_p, retF_s, storeS_a, stoC_u, stoC_lh, getE1_a, getG1_a, getH1_s, getI1_a, getD1_a, getE2_a, getG2_a, getH2_s, getJ2_a, getI2_a, getD2_a, dicOf_l, dicOf_p, chE_a, chA1_a, chB1_a, chB2_s, chB3_t, chB3_f, chB4_a, dispE_a, dispC_a, into_b, into_i, mvE_a, mvC_pd, mvC_ld, mvC_ll, mvC_lm, mvC_li, stoC_fr, fre_un, fre_d, stoC_pd, stoC_ld, stoC_ll, stoC_lm, stoC_li, asgS_a, asgR_v, asgR_s, asgB_s, asgF_s, nmT_a, tupT_a, foldT_c, folC_s, foldT_n, setS_a, setSC_a, setD_s, forS_a, forC_a, forD_s, forF_s, forR_a, forQ_f, forQ_t, has_n, has_s, has_v, mapG_o, mapD_s, lokC_a, loop_n, loop_c, lopD_s, lopC_n, lopC_c, lopC_b, lopC_r, compE_a, cmpC_a, cmpD_s, cmpF_s, cmpV_t, cmpW_s, compL_n, compL_c, cplT_s, cplC_t, cplC_f, cplX_o, cplY_s, add_i, sub_i, mul_i, mod_i, div_i, mulC_l, mulC_r, lt_i, le_i, gt_i, ge_i, eq_i, ne_i, eq_s, ne_s, ix_l, ix_pl, ix_t, len_l, len_pl, len_t, tup_l, tup_pl, tup_t, list_l, list_pl, list_t, max_i, min_i, isN_f, isN_t, n_n, n_s, n_i, n_t, n_l, it_l, it_pl, it_t, addL, addLp, atI_lt, atI_nat, st_l, if_s, backs_n, backs_c, backs_d, backB_s, endC_r, endC_n, endC_x, endB_s, endX_s, turn_a, turnD_s, turnF_n, turnF_c, whlC_t, whlC_f, whlE_n, whlE_c, whlE_b, whlE_r, fldS_a, fldD_a, fldE_a, fldH_s, fldI_s, fldC_a, putFO_n, putFO_c, attrE_a, atr_p, atr_i, methE_a, methC_a, methF_s, methD_a, methG_p, methG_i, newE_a, makeA_a, mkC_a, mkD_s, mkE_o, str_i, sum_l, ins_0, enum_l, enum_pl, add_t, List.lookup_nil, eq_self, List.map_cons, List.map_nil, List.length_cons, List.length_nil, List.length_map, List.length_append, List.cons_append, List.nil_append, List.getElem?_cons_zero, List.getElem?_cons_succ, List.set_cons_zero, List.set_cons_succ, List.replicate_succ, List.replicate_zero, Option.bind_some, Option.map_some, Option.bind_none, Option.map_none, reduceIte, Nat.reduceAdd, Nat.reduceSub, Nat.reduceLeDiff, Nat.reduceBEq, Nat.reduceLT, Int.reduceLT, Int.reduceLE, Int.reduceToNat, Int.reduceAdd, Int.reduceEq, Int.cast_ofNat_Int, Int.reduceMul, Int.reduceSub, Int.reduceMod, Int.reduceDiv, Nat.zero_add, if_true, if_false, decide_true, decide_false, Bool.false_eq_true, Bool.not_true, Bool.not_false, Bool.and_true, Bool.true_and, Bool.and_false, Bool.false_and, Bool.or_false, Bool.or_true, true_and, and_true, List.all_cons, List.all_nil, Nat.le_refl, Int.le_refl, Int.reduceNeg, wipeG, restG, isPure_a, pur_un, pur_ld, pur_pd, pur_fr, isPar, lock_n, lock_c, unlk_n, unlk_c, lk_p, lk_u, lk_d, lk_l, lk_m, lk_i, lk_h, lk_fr, lk_no, un_s, un_l, un_u, un_pp, un_lp, un_fr, freeR, isSl, List.any_cons, List.any_nil, List.getElem?_map, Bool.false_xor, Bool.true_xor, Bool.xor_false, Bool.xor_true, List.filter_cons, List.range_zero])
abbrev drS (a b : Int) : O := .lst [.int a, .int b]
theorem ix_st0 (a b : Int) : ixO (drS a b) (.pure (.int 0)) = some (.pure (.int a)) := by rw [ix_l, atI_lt _ _ (by omega)]; rfl
theorem ix_st1 (a b : Int) : ixO (drS a b) (.pure (.int 1)) = some (.pure (.int b)) := by rw [ix_l, atI_lt _ _ (by omega)]; rfl
theorem st_st1 (a b v : Int) : stO (drS a b) (.int 1) (.int v) = some (drS a v) := rfl
theorem dr9 (n : Nat) (a b m : Int) (hb0 : 0 ≤ b) (hb1 : b < 1000) (h0 : 0 < m) (h1 : m < 1000) : ∃ r, 0 ≤ r ∧ r < m ∧ callN (n + 1) 111 [drS a b, .pure (.int m)] = .ok (.pure (.int r)) [drS a (b + 1), .pure (.int m)] := by
  obtain ⟨c, hc, c0, c1⟩ : ∃ c : Int, b + 1 = c ∧ 1 ≤ c ∧ c ≤ 1000 := ⟨_, rfl, by omega, by omega⟩
  obtain ⟨q, hq, q0, q1⟩ : ∃ q : Int, (a % 2147483629 + 40503 * c * c + 11) * 48271 % 2147483647 = q ∧ 0 ≤ q ∧ q < 2147483647 := ⟨_, rfl, by omega, by omega⟩
  obtain ⟨r, hr, r0, r1⟩ : ∃ r : Int, (q * q + 69621 * q + c) % 2147483587 = r ∧ 0 ≤ r ∧ r < 2147483587 := ⟨_, rfl, by omega, by omega⟩
  refine ⟨r * 16807 % 2147483629 / 64 % m, Int.emod_nonneg _ (by omega), Int.emod_lt_of_pos _ h0, (c__law_draw n _).trans ((bodyC_a 2 1 _ _ rfl).trans ?_)⟩
  have i0 := ix_st0 a c
  have i1 := ix_st1 a b
  have i2 := ix_st1 a c
  have s1 := st_st1 a b c
  have m1 : mulO (.pure (.int 40503)) (.pure (.int c)) = some (.pure (.int (40503 * c))) := mul_i _ _ (mulC_r _ _ (by omega) (by omega))
  have m2 : mulO (.pure (.int (40503 * c))) (.pure (.int c)) = some (.pure (.int (40503 * c * c))) := mul_i _ _ (mulC_r _ _ (by omega) (by omega))
  have m3 : mulO (.pure (.int (a % 2147483629 + 40503 * c * c + 11))) (.pure (.int 48271)) = some (.pure (.int ((a % 2147483629 + 40503 * c * c + 11) * 48271))) := mul_i _ _ (mulC_r _ _ (by omega) (by omega))
  have m4 : mulO (.pure (.int q)) (.pure (.int q)) = some (.pure (.int (q * q))) := mul_i _ _ (mulC_r _ _ (by omega) (by omega))
  have m5 : mulO (.pure (.int 69621)) (.pure (.int q)) = some (.pure (.int (69621 * q))) := mul_i _ _ (mulC_r _ _ (by omega) (by omega))
  have m6 : mulO (.pure (.int r)) (.pure (.int 16807)) = some (.pure (.int (r * 16807))) := mul_i _ _ (mulC_r _ _ (by omega) (by omega))
  unfold b__law_draw
  walk_at "vi*"
theorem room_loop (n : Nat) (a : Int) (w : O) : ∀ (ds : List D) (b : Int) (acc : List D) (s : Slot), acc.length + ds.length ≤ 10 → 0 ≤ b → b + ds.length ≤ 900 → Fre s → ∃ (rs : List Int) (t : Slot), Fre t ∧ rs.length = ds.length ∧
    compL [2] (nmT 2) (fun g => .ok true g) (callA (callN (n + 1)) 111 [(nm 0), (cst (.int 100))]) ds [.par (drS a b), .par w, s] acc = some (acc ++ rs.map D.int, [.par (drS a (b + ds.length)), .par w, t])
  | [], b, acc, s, h, h0, h1, hs => ⟨[], s, hs, rfl, by simp [compL_n]⟩
  | d :: ds, b, acc, s, h, h0, h1, hs => by
    obtain ⟨r, r0, r1, dr⟩ := dr9 n a b 100 h0 (by simp at h1; omega) (by omega) (by omega)
    obtain ⟨rs, t, ht, hl, e⟩ := room_loop n a w ds (b + 1) (acc ++ [.int r]) (.loc (.pure d)) (by simp at h ⊢; omega) (by omega) (by simp at h1 ⊢; omega) (fre_d _)
    refine ⟨r :: rs, t, ht, by simp [hl], ?_⟩
    have l0 : acc.length < 16777216 := by simp at h; omega
    have eb : b + ((d :: ds).length : Int) = b + 1 + (ds.length : Int) := by simp; omega
    rw [eb]
    clear h h1 eb
    walk_at "vi*"
    simp
theorem room_spec (n : Nat) (a b w : Int) (hb0 : 0 ≤ b) (hb1 : b < 800) (h0 : 0 ≤ w) (h1 : w < 5) : ∃ rs : List Int, callN (n + 2) 112 [drS a b, .pure (.int w)] = .ok (.pure (.tup (rs.map D.int))) [drS a (b + w), .pure (.int w)] := by
  obtain ⟨rs, t, ht, hl, e⟩ := room_loop n a (.pure (.int w)) ((List.range w.toNat).map fun (k : Nat) => D.int (k : Int)) b [] .un (by simp; omega) hb0 (by simp; omega) fre_un
  have r1 := rng1_a w h0 (by omega)
  refine ⟨rs, (c__law_room (n + 1) _).trans ((bodyC_a 2 1 _ _ rfl).trans ?_)⟩
  have eb : b + (((List.range w.toNat).map fun (k : Nat) => D.int (k : Int)).length : Int) = b + w := by simp; omega
  rw [eb] at e
  unfold b__law_room
  clear eb
  generalize ((List.range w.toNat).map fun (k : Nat) => D.int (k : Int)) = ds at *
  walk_at "vi*"
def CALLED : List Str := [Str.ofString "up", Str.ofString "down", Str.ofString "back", Str.ofString "away", Str.ofString "a", Str.ofString "zzzzzzzz"]
theorem called_ix (r : Int) (h0 : 0 ≤ r) (h1 : r < 6) : ∃ s ∈ CALLED, ixO (.lst [.str (Str.ofString "up"), .str (Str.ofString "down"), .str (Str.ofString "back"), .str (Str.ofString "away"), .str (Str.ofString "a"), .str (Str.ofString "zzzzzzzz")]) (.pure (.int r)) = some (.pure (.str s)) := by
  have : r = 0 ∨ r = 1 ∨ r = 2 ∨ r = 3 ∨ r = 4 ∨ r = 5 := by omega
  rcases this with h | h | h | h | h | h <;> subst h
  · exact ⟨Str.ofString "up", by simp [CALLED], by rw [ix_l, atI_lt _ _ (by omega)]; rfl⟩
  · exact ⟨Str.ofString "down", by simp [CALLED], by rw [ix_l, atI_lt _ _ (by omega)]; rfl⟩
  · exact ⟨Str.ofString "back", by simp [CALLED], by rw [ix_l, atI_lt _ _ (by omega)]; rfl⟩
  · exact ⟨Str.ofString "away", by simp [CALLED], by rw [ix_l, atI_lt _ _ (by omega)]; rfl⟩
  · exact ⟨Str.ofString "a", by simp [CALLED], by rw [ix_l, atI_lt _ _ (by omega)]; rfl⟩
  · exact ⟨Str.ofString "zzzzzzzz", by simp [CALLED], by rw [ix_l, atI_lt _ _ (by omega)]; rfl⟩
abbrev runD (l : List (Str × List Int)) : D := .tup (l.map fun p => D.tup [.str p.1, .tup (p.2.map D.int)])
theorem run_loop (n : Nat) (a w : Int) (hw0 : 0 ≤ w) (hw : w < 5) : ∀ (ds : List D) (b : Int) (acc : List D) (s : Slot), acc.length + ds.length ≤ 10 → 0 ≤ b → b + 10 * ds.length ≤ 700 → Fre s → ∃ (l : List (Str × List Int)) (b' : Int) (t : Slot), Fre t ∧ (∀ p ∈ l, p.1 ∈ CALLED) ∧ b ≤ b' ∧ b' ≤ b + 10 * ds.length ∧
    compL [3] (nmT 3) (fun g => .ok true g) (tupE (evs [(bin ixO (nm 2) (callA (callN (n + 2)) 111 [(nm 0), (cst (.int 6))])), (callA (callN (n + 2)) 112 [(nm 0), (nm 1)])])) ds [.par (drS a b), .par (.pure (.int w)), .loc (.lst (CALLED.map D.str)), s] acc = some (acc ++ l.map (fun p => D.tup [.str p.1, .tup (p.2.map D.int)]), [.par (drS a b'), .par (.pure (.int w)), .loc (.lst (CALLED.map D.str)), t])
  | [], b, acc, s, h, h0, h1, hs => ⟨[], b, s, hs, by simp, by omega, by simp, by simp [compL_n]⟩
  | d :: ds, b, acc, s, h, h0, h1, hs => by
    simp only [List.length_cons] at h1
    obtain ⟨r, r0, r1, dr⟩ := dr9 (n + 1) a b 6 h0 (by omega) (by omega) (by omega)
    obtain ⟨rs, ro⟩ := room_spec n a (b + 1) w (by omega) (by omega) hw0 hw
    obtain ⟨c, hc, ic⟩ := called_ix r r0 r1
    obtain ⟨l, b', t, ht, hm, q1, q2, e⟩ := run_loop n a w hw0 hw ds (b + 1 + w) (acc ++ [.tup [.str c, .tup (rs.map D.int)]]) (.loc (.pure d)) (by simp at h ⊢; omega) (by omega) (by omega) (fre_d _)
    refine ⟨(c, rs) :: l, b', t, ht, by simp only [List.forall_mem_cons]; exact ⟨hc, hm⟩, by omega, by simp only [List.length_cons]; omega, ?_⟩
    have l0 : acc.length < 16777216 := by simp at h; omega
    have dr : callN (n + 2) 111 [drS a b, .pure (.int 6)] = .ok (.pure (.int r)) [drS a (b + 1), .pure (.int 6)] := dr
    have ec : CALLED.map D.str = [.str (Str.ofString "up"), .str (Str.ofString "down"), .str (Str.ofString "back"), .str (Str.ofString "away"), .str (Str.ofString "a"), .str (Str.ofString "zzzzzzzz")] := rfl
    rw [ec] at e ⊢
    clear h h1 q1 q2 ec hm hc r0 r1
    walk_at "vi*"
    simp
theorem run_spec (n : Nat) (a b w : Int) (hb0 : 0 ≤ b) (hb1 : b < 500) (hw0 : 0 ≤ w) (hw : w < 5) : ∃ (l : List (Str × List Int)) (b' : Int), (∀ p ∈ l, p.1 ∈ CALLED) ∧ b ≤ b' ∧ b' ≤ b + 41 ∧ callN (n + 3) 113 [drS a b, .pure (.int w)] = .ok (.pure (runD l)) [drS a b', .pure (.int w)] := by
  obtain ⟨r, r0, r1, dr⟩ := dr9 (n + 1) a b 4 hb0 (by omega) (by omega) (by omega)
  have dr : callN (n + 2) 111 [drS a b, .pure (.int 4)] = .ok (.pure (.int r)) [drS a (b + 1), .pure (.int 4)] := dr
  obtain ⟨l, b', t, ht, hm, q1, q2, e⟩ := run_loop n a w hw0 hw ((List.range r.toNat).map fun (k : Nat) => D.int (k : Int)) (b + 1) [] .un (by simp; omega) (by omega) (by simp; omega) fre_un
  have rg := rng1_a r r0 (by omega)
  refine ⟨l, b', hm, by omega, by simp at q2; omega, (c__law_run (n + 2) _).trans ((bodyC_a 2 2 _ _ rfl).trans ?_)⟩
  have ec : CALLED.map D.str = [.str (Str.ofString "up"), .str (Str.ofString "down"), .str (Str.ofString "back"), .str (Str.ofString "away"), .str (Str.ofString "a"), .str (Str.ofString "zzzzzzzz")] := rfl
  rw [ec] at e
  unfold b__law_run
  generalize ((List.range r.toNat).map fun (k : Nat) => D.int (k : Int)) = ds at *
  clear q1 q2 hm r0 r1 ec
  walk_at "vi*"
theorem isXV_c (T : ITab) (V : List Str) (c d : Str) (fs : List (Str × D)) : isXV T V [.pure (.ins c fs), .pure (.cls d)] = (itOf T c d).map fun b => .pure (.bl b) := rfl
theorem isXV_v (T : ITab) (V : List Str) (c : Str) (fs : List (Str × D)) : isXV T V [.pure (.ins c fs), .pure (.ty "ValueError")] = (xve V c).map fun b => .pure (.bl b) := rfl
theorem ix_NoAnswer_NoText (fs : List (Str × D)) : isXV XTl XVl [.pure (.ins (Str.ofString "NoAnswer") fs), .pure (.cls (Str.ofString "NoText"))] = some (.pure (.bl false)) := by
  have e : itOf XTl (Str.ofString "NoAnswer") (Str.ofString "NoText") = some false := by decide +kernel
  rw [isXV_c, e]; rfl
theorem ix_NoAnswer_TooMany (fs : List (Str × D)) : isXV XTl XVl [.pure (.ins (Str.ofString "NoAnswer") fs), .pure (.cls (Str.ofString "TooMany"))] = some (.pure (.bl false)) := by
  have e : itOf XTl (Str.ofString "NoAnswer") (Str.ofString "TooMany") = some false := by decide +kernel
  rw [isXV_c, e]; rfl
theorem ix_NoAnswer_NoRange (fs : List (Str × D)) : isXV XTl XVl [.pure (.ins (Str.ofString "NoAnswer") fs), .pure (.cls (Str.ofString "NoRange"))] = some (.pure (.bl false)) := by
  have e : itOf XTl (Str.ofString "NoAnswer") (Str.ofString "NoRange") = some false := by decide +kernel
  rw [isXV_c, e]; rfl
theorem ix_NoAnswer_Twice (fs : List (Str × D)) : isXV XTl XVl [.pure (.ins (Str.ofString "NoAnswer") fs), .pure (.cls (Str.ofString "Twice"))] = some (.pure (.bl false)) := by
  have e : itOf XTl (Str.ofString "NoAnswer") (Str.ofString "Twice") = some false := by decide +kernel
  rw [isXV_c, e]; rfl
theorem ix_NoAnswer_NoName (fs : List (Str × D)) : isXV XTl XVl [.pure (.ins (Str.ofString "NoAnswer") fs), .pure (.cls (Str.ofString "NoName"))] = some (.pure (.bl false)) := by
  have e : itOf XTl (Str.ofString "NoAnswer") (Str.ofString "NoName") = some false := by decide +kernel
  rw [isXV_c, e]; rfl
theorem ix_NoAnswer_NoStep (fs : List (Str × D)) : isXV XTl XVl [.pure (.ins (Str.ofString "NoAnswer") fs), .pure (.cls (Str.ofString "NoStep"))] = some (.pure (.bl false)) := by
  have e : itOf XTl (Str.ofString "NoAnswer") (Str.ofString "NoStep") = some false := by decide +kernel
  rw [isXV_c, e]; rfl
theorem ix_NoAnswer_NoRun (fs : List (Str × D)) : isXV XTl XVl [.pure (.ins (Str.ofString "NoAnswer") fs), .pure (.cls (Str.ofString "NoRun"))] = some (.pure (.bl false)) := by
  have e : itOf XTl (Str.ofString "NoAnswer") (Str.ofString "NoRun") = some false := by decide +kernel
  rw [isXV_c, e]; rfl
theorem ix_NoAnswer_NoTie (fs : List (Str × D)) : isXV XTl XVl [.pure (.ins (Str.ofString "NoAnswer") fs), .pure (.cls (Str.ofString "NoTie"))] = some (.pure (.bl false)) := by
  have e : itOf XTl (Str.ofString "NoAnswer") (Str.ofString "NoTie") = some false := by decide +kernel
  rw [isXV_c, e]; rfl
theorem ix_NoAnswer_NoMachine (fs : List (Str × D)) : isXV XTl XVl [.pure (.ins (Str.ofString "NoAnswer") fs), .pure (.cls (Str.ofString "NoMachine"))] = some (.pure (.bl false)) := by
  have e : itOf XTl (Str.ofString "NoAnswer") (Str.ofString "NoMachine") = some false := by decide +kernel
  rw [isXV_c, e]; rfl
theorem ix_NoAnswer_NoAnswer (fs : List (Str × D)) : isXV XTl XVl [.pure (.ins (Str.ofString "NoAnswer") fs), .pure (.cls (Str.ofString "NoAnswer"))] = some (.pure (.bl true)) := by
  have e : itOf XTl (Str.ofString "NoAnswer") (Str.ofString "NoAnswer") = some true := by decide +kernel
  rw [isXV_c, e]; rfl
theorem ix_NoAnswer_Unkept (fs : List (Str × D)) : isXV XTl XVl [.pure (.ins (Str.ofString "NoAnswer") fs), .pure (.cls (Str.ofString "Unkept"))] = some (.pure (.bl false)) := by
  have e : itOf XTl (Str.ofString "NoAnswer") (Str.ofString "Unkept") = some false := by decide +kernel
  rw [isXV_c, e]; rfl
theorem ix_NoAnswer_NotNearer (fs : List (Str × D)) : isXV XTl XVl [.pure (.ins (Str.ofString "NoAnswer") fs), .pure (.cls (Str.ofString "NotNearer"))] = some (.pure (.bl false)) := by
  have e : itOf XTl (Str.ofString "NoAnswer") (Str.ofString "NotNearer") = some false := by decide +kernel
  rw [isXV_c, e]; rfl
theorem ix_NoAnswer_NotFalling (fs : List (Str × D)) : isXV XTl XVl [.pure (.ins (Str.ofString "NoAnswer") fs), .pure (.cls (Str.ofString "NotFalling"))] = some (.pure (.bl false)) := by
  have e : itOf XTl (Str.ofString "NoAnswer") (Str.ofString "NotFalling") = some false := by decide +kernel
  rw [isXV_c, e]; rfl
theorem ix_NoAnswer_WorkError (fs : List (Str × D)) : isXV XTl XVl [.pure (.ins (Str.ofString "NoAnswer") fs), .pure (.cls (Str.ofString "WorkError"))] = some (.pure (.bl true)) := by
  have e : itOf XTl (Str.ofString "NoAnswer") (Str.ofString "WorkError") = some true := by decide +kernel
  rw [isXV_c, e]; rfl
theorem ix_NoAnswer_ve (fs : List (Str × D)) : isXV XTl XVl [.pure (.ins (Str.ofString "NoAnswer") fs), .pure (.ty "ValueError")] = some (.pure (.bl true)) := by
  have e : xve XVl (Str.ofString "NoAnswer") = some true := by decide +kernel
  rw [isXV_v, e]; rfl
theorem kinds_NoAnswer (n : Nat) (fs : List (Str × D)) : callN (n + 1) 114 [.pure (.ins (Str.ofString "NoAnswer") fs)] = .ok (.lst [.bl false, .bl false, .bl false, .bl false, .bl false, .bl false, .bl false, .bl false, .bl false, .bl true, .bl false, .bl false, .bl false]) [.pure (.ins (Str.ofString "NoAnswer") fs)] := by
  refine (c__law_kinds n _).trans ((bodyC_a 1 1 _ _ rfl).trans ?_)
  have := ix_NoAnswer_NoText fs
  have := ix_NoAnswer_TooMany fs
  have := ix_NoAnswer_NoRange fs
  have := ix_NoAnswer_Twice fs
  have := ix_NoAnswer_NoName fs
  have := ix_NoAnswer_NoStep fs
  have := ix_NoAnswer_NoRun fs
  have := ix_NoAnswer_NoTie fs
  have := ix_NoAnswer_NoMachine fs
  have := ix_NoAnswer_NoAnswer fs
  have := ix_NoAnswer_Unkept fs
  have := ix_NoAnswer_NotNearer fs
  have := ix_NoAnswer_NotFalling fs
  unfold b__law_kinds
  walk_at "vi*"
theorem alone_NoAnswer (n : Nat) (fs : List (Str × D)) : callN (n + 2) 115 [.pure (.ins (Str.ofString "NoAnswer") fs), .pure (.int 9)] = .ok (.pure (.bl true)) [.pure (.ins (Str.ofString "NoAnswer") fs), .pure (.int 9)] := by
  refine (c__law_alone (n + 1) _).trans ((bodyC_a 2 2 _ _ rfl).trans ?_)
  have k1 := kinds_NoAnswer n fs
  have k5 : enumL [.bl false, .bl false, .bl false, .bl false, .bl false, .bl false, .bl false, .bl false, .bl false, .bl true, .bl false, .bl false, .bl false] = [.tup [.int 0, .bl false], .tup [.int 1, .bl false], .tup [.int 2, .bl false], .tup [.int 3, .bl false], .tup [.int 4, .bl false], .tup [.int 5, .bl false], .tup [.int 6, .bl false], .tup [.int 7, .bl false], .tup [.int 8, .bl false], .tup [.int 9, .bl true], .tup [.int 10, .bl false], .tup [.int 11, .bl false], .tup [.int 12, .bl false]] := rfl
  have k2 := ix_NoAnswer_WorkError fs
  have k3 := ix_NoAnswer_ve fs
  have k4 : eqO (.lst [.int 9]) (.lst [.int 9]) = some (.pure (.bl true)) := rfl
  unfold b__law_alone
  walk_at "vi*"
theorem ix_Unkept_NoText (fs : List (Str × D)) : isXV XTl XVl [.pure (.ins (Str.ofString "Unkept") fs), .pure (.cls (Str.ofString "NoText"))] = some (.pure (.bl false)) := by
  have e : itOf XTl (Str.ofString "Unkept") (Str.ofString "NoText") = some false := by decide +kernel
  rw [isXV_c, e]; rfl
theorem ix_Unkept_TooMany (fs : List (Str × D)) : isXV XTl XVl [.pure (.ins (Str.ofString "Unkept") fs), .pure (.cls (Str.ofString "TooMany"))] = some (.pure (.bl false)) := by
  have e : itOf XTl (Str.ofString "Unkept") (Str.ofString "TooMany") = some false := by decide +kernel
  rw [isXV_c, e]; rfl
theorem ix_Unkept_NoRange (fs : List (Str × D)) : isXV XTl XVl [.pure (.ins (Str.ofString "Unkept") fs), .pure (.cls (Str.ofString "NoRange"))] = some (.pure (.bl false)) := by
  have e : itOf XTl (Str.ofString "Unkept") (Str.ofString "NoRange") = some false := by decide +kernel
  rw [isXV_c, e]; rfl
theorem ix_Unkept_Twice (fs : List (Str × D)) : isXV XTl XVl [.pure (.ins (Str.ofString "Unkept") fs), .pure (.cls (Str.ofString "Twice"))] = some (.pure (.bl false)) := by
  have e : itOf XTl (Str.ofString "Unkept") (Str.ofString "Twice") = some false := by decide +kernel
  rw [isXV_c, e]; rfl
theorem ix_Unkept_NoName (fs : List (Str × D)) : isXV XTl XVl [.pure (.ins (Str.ofString "Unkept") fs), .pure (.cls (Str.ofString "NoName"))] = some (.pure (.bl false)) := by
  have e : itOf XTl (Str.ofString "Unkept") (Str.ofString "NoName") = some false := by decide +kernel
  rw [isXV_c, e]; rfl
theorem ix_Unkept_NoStep (fs : List (Str × D)) : isXV XTl XVl [.pure (.ins (Str.ofString "Unkept") fs), .pure (.cls (Str.ofString "NoStep"))] = some (.pure (.bl false)) := by
  have e : itOf XTl (Str.ofString "Unkept") (Str.ofString "NoStep") = some false := by decide +kernel
  rw [isXV_c, e]; rfl
theorem ix_Unkept_NoRun (fs : List (Str × D)) : isXV XTl XVl [.pure (.ins (Str.ofString "Unkept") fs), .pure (.cls (Str.ofString "NoRun"))] = some (.pure (.bl false)) := by
  have e : itOf XTl (Str.ofString "Unkept") (Str.ofString "NoRun") = some false := by decide +kernel
  rw [isXV_c, e]; rfl
theorem ix_Unkept_NoTie (fs : List (Str × D)) : isXV XTl XVl [.pure (.ins (Str.ofString "Unkept") fs), .pure (.cls (Str.ofString "NoTie"))] = some (.pure (.bl false)) := by
  have e : itOf XTl (Str.ofString "Unkept") (Str.ofString "NoTie") = some false := by decide +kernel
  rw [isXV_c, e]; rfl
theorem ix_Unkept_NoMachine (fs : List (Str × D)) : isXV XTl XVl [.pure (.ins (Str.ofString "Unkept") fs), .pure (.cls (Str.ofString "NoMachine"))] = some (.pure (.bl false)) := by
  have e : itOf XTl (Str.ofString "Unkept") (Str.ofString "NoMachine") = some false := by decide +kernel
  rw [isXV_c, e]; rfl
theorem ix_Unkept_NoAnswer (fs : List (Str × D)) : isXV XTl XVl [.pure (.ins (Str.ofString "Unkept") fs), .pure (.cls (Str.ofString "NoAnswer"))] = some (.pure (.bl false)) := by
  have e : itOf XTl (Str.ofString "Unkept") (Str.ofString "NoAnswer") = some false := by decide +kernel
  rw [isXV_c, e]; rfl
theorem ix_Unkept_Unkept (fs : List (Str × D)) : isXV XTl XVl [.pure (.ins (Str.ofString "Unkept") fs), .pure (.cls (Str.ofString "Unkept"))] = some (.pure (.bl true)) := by
  have e : itOf XTl (Str.ofString "Unkept") (Str.ofString "Unkept") = some true := by decide +kernel
  rw [isXV_c, e]; rfl
theorem ix_Unkept_NotNearer (fs : List (Str × D)) : isXV XTl XVl [.pure (.ins (Str.ofString "Unkept") fs), .pure (.cls (Str.ofString "NotNearer"))] = some (.pure (.bl false)) := by
  have e : itOf XTl (Str.ofString "Unkept") (Str.ofString "NotNearer") = some false := by decide +kernel
  rw [isXV_c, e]; rfl
theorem ix_Unkept_NotFalling (fs : List (Str × D)) : isXV XTl XVl [.pure (.ins (Str.ofString "Unkept") fs), .pure (.cls (Str.ofString "NotFalling"))] = some (.pure (.bl false)) := by
  have e : itOf XTl (Str.ofString "Unkept") (Str.ofString "NotFalling") = some false := by decide +kernel
  rw [isXV_c, e]; rfl
theorem ix_Unkept_WorkError (fs : List (Str × D)) : isXV XTl XVl [.pure (.ins (Str.ofString "Unkept") fs), .pure (.cls (Str.ofString "WorkError"))] = some (.pure (.bl true)) := by
  have e : itOf XTl (Str.ofString "Unkept") (Str.ofString "WorkError") = some true := by decide +kernel
  rw [isXV_c, e]; rfl
theorem ix_Unkept_ve (fs : List (Str × D)) : isXV XTl XVl [.pure (.ins (Str.ofString "Unkept") fs), .pure (.ty "ValueError")] = some (.pure (.bl true)) := by
  have e : xve XVl (Str.ofString "Unkept") = some true := by decide +kernel
  rw [isXV_v, e]; rfl
theorem kinds_Unkept (n : Nat) (fs : List (Str × D)) : callN (n + 1) 114 [.pure (.ins (Str.ofString "Unkept") fs)] = .ok (.lst [.bl false, .bl false, .bl false, .bl false, .bl false, .bl false, .bl false, .bl false, .bl false, .bl false, .bl true, .bl false, .bl false]) [.pure (.ins (Str.ofString "Unkept") fs)] := by
  refine (c__law_kinds n _).trans ((bodyC_a 1 1 _ _ rfl).trans ?_)
  have := ix_Unkept_NoText fs
  have := ix_Unkept_TooMany fs
  have := ix_Unkept_NoRange fs
  have := ix_Unkept_Twice fs
  have := ix_Unkept_NoName fs
  have := ix_Unkept_NoStep fs
  have := ix_Unkept_NoRun fs
  have := ix_Unkept_NoTie fs
  have := ix_Unkept_NoMachine fs
  have := ix_Unkept_NoAnswer fs
  have := ix_Unkept_Unkept fs
  have := ix_Unkept_NotNearer fs
  have := ix_Unkept_NotFalling fs
  unfold b__law_kinds
  walk_at "vi*"
theorem alone_Unkept (n : Nat) (fs : List (Str × D)) : callN (n + 2) 115 [.pure (.ins (Str.ofString "Unkept") fs), .pure (.int 10)] = .ok (.pure (.bl true)) [.pure (.ins (Str.ofString "Unkept") fs), .pure (.int 10)] := by
  refine (c__law_alone (n + 1) _).trans ((bodyC_a 2 2 _ _ rfl).trans ?_)
  have k1 := kinds_Unkept n fs
  have k5 : enumL [.bl false, .bl false, .bl false, .bl false, .bl false, .bl false, .bl false, .bl false, .bl false, .bl false, .bl true, .bl false, .bl false] = [.tup [.int 0, .bl false], .tup [.int 1, .bl false], .tup [.int 2, .bl false], .tup [.int 3, .bl false], .tup [.int 4, .bl false], .tup [.int 5, .bl false], .tup [.int 6, .bl false], .tup [.int 7, .bl false], .tup [.int 8, .bl false], .tup [.int 9, .bl false], .tup [.int 10, .bl true], .tup [.int 11, .bl false], .tup [.int 12, .bl false]] := rfl
  have k2 := ix_Unkept_WorkError fs
  have k3 := ix_Unkept_ve fs
  have k4 : eqO (.lst [.int 10]) (.lst [.int 10]) = some (.pure (.bl true)) := rfl
  unfold b__law_alone
  walk_at "vi*"
theorem ix_NotNearer_NoText (fs : List (Str × D)) : isXV XTl XVl [.pure (.ins (Str.ofString "NotNearer") fs), .pure (.cls (Str.ofString "NoText"))] = some (.pure (.bl false)) := by
  have e : itOf XTl (Str.ofString "NotNearer") (Str.ofString "NoText") = some false := by decide +kernel
  rw [isXV_c, e]; rfl
theorem ix_NotNearer_TooMany (fs : List (Str × D)) : isXV XTl XVl [.pure (.ins (Str.ofString "NotNearer") fs), .pure (.cls (Str.ofString "TooMany"))] = some (.pure (.bl false)) := by
  have e : itOf XTl (Str.ofString "NotNearer") (Str.ofString "TooMany") = some false := by decide +kernel
  rw [isXV_c, e]; rfl
theorem ix_NotNearer_NoRange (fs : List (Str × D)) : isXV XTl XVl [.pure (.ins (Str.ofString "NotNearer") fs), .pure (.cls (Str.ofString "NoRange"))] = some (.pure (.bl false)) := by
  have e : itOf XTl (Str.ofString "NotNearer") (Str.ofString "NoRange") = some false := by decide +kernel
  rw [isXV_c, e]; rfl
theorem ix_NotNearer_Twice (fs : List (Str × D)) : isXV XTl XVl [.pure (.ins (Str.ofString "NotNearer") fs), .pure (.cls (Str.ofString "Twice"))] = some (.pure (.bl false)) := by
  have e : itOf XTl (Str.ofString "NotNearer") (Str.ofString "Twice") = some false := by decide +kernel
  rw [isXV_c, e]; rfl
theorem ix_NotNearer_NoName (fs : List (Str × D)) : isXV XTl XVl [.pure (.ins (Str.ofString "NotNearer") fs), .pure (.cls (Str.ofString "NoName"))] = some (.pure (.bl false)) := by
  have e : itOf XTl (Str.ofString "NotNearer") (Str.ofString "NoName") = some false := by decide +kernel
  rw [isXV_c, e]; rfl
theorem ix_NotNearer_NoStep (fs : List (Str × D)) : isXV XTl XVl [.pure (.ins (Str.ofString "NotNearer") fs), .pure (.cls (Str.ofString "NoStep"))] = some (.pure (.bl false)) := by
  have e : itOf XTl (Str.ofString "NotNearer") (Str.ofString "NoStep") = some false := by decide +kernel
  rw [isXV_c, e]; rfl
theorem ix_NotNearer_NoRun (fs : List (Str × D)) : isXV XTl XVl [.pure (.ins (Str.ofString "NotNearer") fs), .pure (.cls (Str.ofString "NoRun"))] = some (.pure (.bl false)) := by
  have e : itOf XTl (Str.ofString "NotNearer") (Str.ofString "NoRun") = some false := by decide +kernel
  rw [isXV_c, e]; rfl
theorem ix_NotNearer_NoTie (fs : List (Str × D)) : isXV XTl XVl [.pure (.ins (Str.ofString "NotNearer") fs), .pure (.cls (Str.ofString "NoTie"))] = some (.pure (.bl false)) := by
  have e : itOf XTl (Str.ofString "NotNearer") (Str.ofString "NoTie") = some false := by decide +kernel
  rw [isXV_c, e]; rfl
theorem ix_NotNearer_NoMachine (fs : List (Str × D)) : isXV XTl XVl [.pure (.ins (Str.ofString "NotNearer") fs), .pure (.cls (Str.ofString "NoMachine"))] = some (.pure (.bl false)) := by
  have e : itOf XTl (Str.ofString "NotNearer") (Str.ofString "NoMachine") = some false := by decide +kernel
  rw [isXV_c, e]; rfl
theorem ix_NotNearer_NoAnswer (fs : List (Str × D)) : isXV XTl XVl [.pure (.ins (Str.ofString "NotNearer") fs), .pure (.cls (Str.ofString "NoAnswer"))] = some (.pure (.bl false)) := by
  have e : itOf XTl (Str.ofString "NotNearer") (Str.ofString "NoAnswer") = some false := by decide +kernel
  rw [isXV_c, e]; rfl
theorem ix_NotNearer_Unkept (fs : List (Str × D)) : isXV XTl XVl [.pure (.ins (Str.ofString "NotNearer") fs), .pure (.cls (Str.ofString "Unkept"))] = some (.pure (.bl false)) := by
  have e : itOf XTl (Str.ofString "NotNearer") (Str.ofString "Unkept") = some false := by decide +kernel
  rw [isXV_c, e]; rfl
theorem ix_NotNearer_NotNearer (fs : List (Str × D)) : isXV XTl XVl [.pure (.ins (Str.ofString "NotNearer") fs), .pure (.cls (Str.ofString "NotNearer"))] = some (.pure (.bl true)) := by
  have e : itOf XTl (Str.ofString "NotNearer") (Str.ofString "NotNearer") = some true := by decide +kernel
  rw [isXV_c, e]; rfl
theorem ix_NotNearer_NotFalling (fs : List (Str × D)) : isXV XTl XVl [.pure (.ins (Str.ofString "NotNearer") fs), .pure (.cls (Str.ofString "NotFalling"))] = some (.pure (.bl false)) := by
  have e : itOf XTl (Str.ofString "NotNearer") (Str.ofString "NotFalling") = some false := by decide +kernel
  rw [isXV_c, e]; rfl
theorem ix_NotNearer_WorkError (fs : List (Str × D)) : isXV XTl XVl [.pure (.ins (Str.ofString "NotNearer") fs), .pure (.cls (Str.ofString "WorkError"))] = some (.pure (.bl true)) := by
  have e : itOf XTl (Str.ofString "NotNearer") (Str.ofString "WorkError") = some true := by decide +kernel
  rw [isXV_c, e]; rfl
theorem ix_NotNearer_ve (fs : List (Str × D)) : isXV XTl XVl [.pure (.ins (Str.ofString "NotNearer") fs), .pure (.ty "ValueError")] = some (.pure (.bl true)) := by
  have e : xve XVl (Str.ofString "NotNearer") = some true := by decide +kernel
  rw [isXV_v, e]; rfl
theorem kinds_NotNearer (n : Nat) (fs : List (Str × D)) : callN (n + 1) 114 [.pure (.ins (Str.ofString "NotNearer") fs)] = .ok (.lst [.bl false, .bl false, .bl false, .bl false, .bl false, .bl false, .bl false, .bl false, .bl false, .bl false, .bl false, .bl true, .bl false]) [.pure (.ins (Str.ofString "NotNearer") fs)] := by
  refine (c__law_kinds n _).trans ((bodyC_a 1 1 _ _ rfl).trans ?_)
  have := ix_NotNearer_NoText fs
  have := ix_NotNearer_TooMany fs
  have := ix_NotNearer_NoRange fs
  have := ix_NotNearer_Twice fs
  have := ix_NotNearer_NoName fs
  have := ix_NotNearer_NoStep fs
  have := ix_NotNearer_NoRun fs
  have := ix_NotNearer_NoTie fs
  have := ix_NotNearer_NoMachine fs
  have := ix_NotNearer_NoAnswer fs
  have := ix_NotNearer_Unkept fs
  have := ix_NotNearer_NotNearer fs
  have := ix_NotNearer_NotFalling fs
  unfold b__law_kinds
  walk_at "vi*"
theorem alone_NotNearer (n : Nat) (fs : List (Str × D)) : callN (n + 2) 115 [.pure (.ins (Str.ofString "NotNearer") fs), .pure (.int 11)] = .ok (.pure (.bl true)) [.pure (.ins (Str.ofString "NotNearer") fs), .pure (.int 11)] := by
  refine (c__law_alone (n + 1) _).trans ((bodyC_a 2 2 _ _ rfl).trans ?_)
  have k1 := kinds_NotNearer n fs
  have k5 : enumL [.bl false, .bl false, .bl false, .bl false, .bl false, .bl false, .bl false, .bl false, .bl false, .bl false, .bl false, .bl true, .bl false] = [.tup [.int 0, .bl false], .tup [.int 1, .bl false], .tup [.int 2, .bl false], .tup [.int 3, .bl false], .tup [.int 4, .bl false], .tup [.int 5, .bl false], .tup [.int 6, .bl false], .tup [.int 7, .bl false], .tup [.int 8, .bl false], .tup [.int 9, .bl false], .tup [.int 10, .bl false], .tup [.int 11, .bl true], .tup [.int 12, .bl false]] := rfl
  have k2 := ix_NotNearer_WorkError fs
  have k3 := ix_NotNearer_ve fs
  have k4 : eqO (.lst [.int 11]) (.lst [.int 11]) = some (.pure (.bl true)) := rfl
  unfold b__law_alone
  walk_at "vi*"
theorem ix_NotFalling_NoText (fs : List (Str × D)) : isXV XTl XVl [.pure (.ins (Str.ofString "NotFalling") fs), .pure (.cls (Str.ofString "NoText"))] = some (.pure (.bl false)) := by
  have e : itOf XTl (Str.ofString "NotFalling") (Str.ofString "NoText") = some false := by decide +kernel
  rw [isXV_c, e]; rfl
theorem ix_NotFalling_TooMany (fs : List (Str × D)) : isXV XTl XVl [.pure (.ins (Str.ofString "NotFalling") fs), .pure (.cls (Str.ofString "TooMany"))] = some (.pure (.bl false)) := by
  have e : itOf XTl (Str.ofString "NotFalling") (Str.ofString "TooMany") = some false := by decide +kernel
  rw [isXV_c, e]; rfl
theorem ix_NotFalling_NoRange (fs : List (Str × D)) : isXV XTl XVl [.pure (.ins (Str.ofString "NotFalling") fs), .pure (.cls (Str.ofString "NoRange"))] = some (.pure (.bl false)) := by
  have e : itOf XTl (Str.ofString "NotFalling") (Str.ofString "NoRange") = some false := by decide +kernel
  rw [isXV_c, e]; rfl
theorem ix_NotFalling_Twice (fs : List (Str × D)) : isXV XTl XVl [.pure (.ins (Str.ofString "NotFalling") fs), .pure (.cls (Str.ofString "Twice"))] = some (.pure (.bl false)) := by
  have e : itOf XTl (Str.ofString "NotFalling") (Str.ofString "Twice") = some false := by decide +kernel
  rw [isXV_c, e]; rfl
theorem ix_NotFalling_NoName (fs : List (Str × D)) : isXV XTl XVl [.pure (.ins (Str.ofString "NotFalling") fs), .pure (.cls (Str.ofString "NoName"))] = some (.pure (.bl false)) := by
  have e : itOf XTl (Str.ofString "NotFalling") (Str.ofString "NoName") = some false := by decide +kernel
  rw [isXV_c, e]; rfl
theorem ix_NotFalling_NoStep (fs : List (Str × D)) : isXV XTl XVl [.pure (.ins (Str.ofString "NotFalling") fs), .pure (.cls (Str.ofString "NoStep"))] = some (.pure (.bl false)) := by
  have e : itOf XTl (Str.ofString "NotFalling") (Str.ofString "NoStep") = some false := by decide +kernel
  rw [isXV_c, e]; rfl
theorem ix_NotFalling_NoRun (fs : List (Str × D)) : isXV XTl XVl [.pure (.ins (Str.ofString "NotFalling") fs), .pure (.cls (Str.ofString "NoRun"))] = some (.pure (.bl false)) := by
  have e : itOf XTl (Str.ofString "NotFalling") (Str.ofString "NoRun") = some false := by decide +kernel
  rw [isXV_c, e]; rfl
theorem ix_NotFalling_NoTie (fs : List (Str × D)) : isXV XTl XVl [.pure (.ins (Str.ofString "NotFalling") fs), .pure (.cls (Str.ofString "NoTie"))] = some (.pure (.bl false)) := by
  have e : itOf XTl (Str.ofString "NotFalling") (Str.ofString "NoTie") = some false := by decide +kernel
  rw [isXV_c, e]; rfl
theorem ix_NotFalling_NoMachine (fs : List (Str × D)) : isXV XTl XVl [.pure (.ins (Str.ofString "NotFalling") fs), .pure (.cls (Str.ofString "NoMachine"))] = some (.pure (.bl false)) := by
  have e : itOf XTl (Str.ofString "NotFalling") (Str.ofString "NoMachine") = some false := by decide +kernel
  rw [isXV_c, e]; rfl
theorem ix_NotFalling_NoAnswer (fs : List (Str × D)) : isXV XTl XVl [.pure (.ins (Str.ofString "NotFalling") fs), .pure (.cls (Str.ofString "NoAnswer"))] = some (.pure (.bl false)) := by
  have e : itOf XTl (Str.ofString "NotFalling") (Str.ofString "NoAnswer") = some false := by decide +kernel
  rw [isXV_c, e]; rfl
theorem ix_NotFalling_Unkept (fs : List (Str × D)) : isXV XTl XVl [.pure (.ins (Str.ofString "NotFalling") fs), .pure (.cls (Str.ofString "Unkept"))] = some (.pure (.bl false)) := by
  have e : itOf XTl (Str.ofString "NotFalling") (Str.ofString "Unkept") = some false := by decide +kernel
  rw [isXV_c, e]; rfl
theorem ix_NotFalling_NotNearer (fs : List (Str × D)) : isXV XTl XVl [.pure (.ins (Str.ofString "NotFalling") fs), .pure (.cls (Str.ofString "NotNearer"))] = some (.pure (.bl false)) := by
  have e : itOf XTl (Str.ofString "NotFalling") (Str.ofString "NotNearer") = some false := by decide +kernel
  rw [isXV_c, e]; rfl
theorem ix_NotFalling_NotFalling (fs : List (Str × D)) : isXV XTl XVl [.pure (.ins (Str.ofString "NotFalling") fs), .pure (.cls (Str.ofString "NotFalling"))] = some (.pure (.bl true)) := by
  have e : itOf XTl (Str.ofString "NotFalling") (Str.ofString "NotFalling") = some true := by decide +kernel
  rw [isXV_c, e]; rfl
theorem ix_NotFalling_WorkError (fs : List (Str × D)) : isXV XTl XVl [.pure (.ins (Str.ofString "NotFalling") fs), .pure (.cls (Str.ofString "WorkError"))] = some (.pure (.bl true)) := by
  have e : itOf XTl (Str.ofString "NotFalling") (Str.ofString "WorkError") = some true := by decide +kernel
  rw [isXV_c, e]; rfl
theorem ix_NotFalling_ve (fs : List (Str × D)) : isXV XTl XVl [.pure (.ins (Str.ofString "NotFalling") fs), .pure (.ty "ValueError")] = some (.pure (.bl true)) := by
  have e : xve XVl (Str.ofString "NotFalling") = some true := by decide +kernel
  rw [isXV_v, e]; rfl
theorem kinds_NotFalling (n : Nat) (fs : List (Str × D)) : callN (n + 1) 114 [.pure (.ins (Str.ofString "NotFalling") fs)] = .ok (.lst [.bl false, .bl false, .bl false, .bl false, .bl false, .bl false, .bl false, .bl false, .bl false, .bl false, .bl false, .bl false, .bl true]) [.pure (.ins (Str.ofString "NotFalling") fs)] := by
  refine (c__law_kinds n _).trans ((bodyC_a 1 1 _ _ rfl).trans ?_)
  have := ix_NotFalling_NoText fs
  have := ix_NotFalling_TooMany fs
  have := ix_NotFalling_NoRange fs
  have := ix_NotFalling_Twice fs
  have := ix_NotFalling_NoName fs
  have := ix_NotFalling_NoStep fs
  have := ix_NotFalling_NoRun fs
  have := ix_NotFalling_NoTie fs
  have := ix_NotFalling_NoMachine fs
  have := ix_NotFalling_NoAnswer fs
  have := ix_NotFalling_Unkept fs
  have := ix_NotFalling_NotNearer fs
  have := ix_NotFalling_NotFalling fs
  unfold b__law_kinds
  walk_at "vi*"
theorem alone_NotFalling (n : Nat) (fs : List (Str × D)) : callN (n + 2) 115 [.pure (.ins (Str.ofString "NotFalling") fs), .pure (.int 12)] = .ok (.pure (.bl true)) [.pure (.ins (Str.ofString "NotFalling") fs), .pure (.int 12)] := by
  refine (c__law_alone (n + 1) _).trans ((bodyC_a 2 2 _ _ rfl).trans ?_)
  have k1 := kinds_NotFalling n fs
  have k5 : enumL [.bl false, .bl false, .bl false, .bl false, .bl false, .bl false, .bl false, .bl false, .bl false, .bl false, .bl false, .bl false, .bl true] = [.tup [.int 0, .bl false], .tup [.int 1, .bl false], .tup [.int 2, .bl false], .tup [.int 3, .bl false], .tup [.int 4, .bl false], .tup [.int 5, .bl false], .tup [.int 6, .bl false], .tup [.int 7, .bl false], .tup [.int 8, .bl false], .tup [.int 9, .bl false], .tup [.int 10, .bl false], .tup [.int 11, .bl false], .tup [.int 12, .bl true]] := rfl
  have k2 := ix_NotFalling_WorkError fs
  have k3 := ix_NotFalling_ve fs
  have k4 : eqO (.lst [.int 12]) (.lst [.int 12]) = some (.pure (.bl true)) := rfl
  unfold b__law_alone
  walk_at "vi*"
theorem called_ok : ∀ s ∈ CALLED, PyData.strOk s = true := by decide +kernel
theorem pl_run {l : List (Str × List Int)} (h : ∀ p ∈ l, p.1 ∈ CALLED) : Pl 4 (runD l) := pl_tup fun d hd => by
  obtain ⟨p, hp, rfl⟩ := List.mem_map.mp hd
  refine pl_le (pl_tup (n := 1) fun e he => ?_) (by omega)
  simp only [List.mem_cons, List.not_mem_nil, or_false] at he
  rcases he with rfl | rfl
  · exact pl_le (pl_str 0 _ (called_ok _ (h p hp))) (by omega)
  · exact pl_tup (n := 0) fun x hx => by
      obtain ⟨i, _, rfl⟩ := List.mem_map.mp hx
      exact pl_int 0 i
theorem ne_same {l : List D} (h : ∀ d ∈ l, Pl 10 d) : neO (.lst l) (.lst l) = some (.pure (.bl false)) := by
  have p : Pl 64 (.lst l) := pl_le (pl_lst h) (by omega)
  rw [neO_pl (a := .lst l) (b := .lst l) rfl rfl (by simp [O.er]) (by simp [O.er]) p p]
  simp
theorem ix3 (x y z : D) (r : Int) (h0 : 0 ≤ r) (h1 : r < 3) : ∃ v ∈ [x, y, z], ixO (.lst [x, y, z]) (.pure (.int r)) = some (.pure v) := by
  have : r = 0 ∨ r = 1 ∨ r = 2 := by omega
  rcases this with h | h | h <;> subst h
  · exact ⟨x, by simp, by rw [ix_l, atI_lt _ _ (by omega)]; rfl⟩
  · exact ⟨y, by simp, by rw [ix_l, atI_lt _ _ (by omega)]; rfl⟩
  · exact ⟨z, by simp, by rw [ix_l, atI_lt _ _ (by omega)]; rfl⟩
def xatr (f : Str) (o : O) : Option O := match clsO o with
  | some c => if ftOf FTl c f then attrF f o else match o with
    | .pure (.ins _ fs) => if ftOf FXl c f then (fs.lookup f).map .pure else none
    | _ => none
  | none => none
theorem attrX_x (f : Str) (A : E) (g : G) : attrX (ftOf FTl) (ftOf FXl) f A g = una (xatr f) A g := rfl
theorem xatr_s {c f : Str} {fs : List (Str × D)} {d : D} (h1 : ftOf FTl c f = false) (h2 : ftOf FXl c f = true) (h3 : fs.lookup f = some d) : xatr f (.pure (.ins c fs)) = some (.pure d) := by
  unfold xatr
  simp [clsO, h1, h2, h3]
abbrev naX (a : D) : D := .ins (Str.ofString "NoAnswer") [(Str.ofString "step", a)]
abbrev ukX (a b : D) : D := .ins (Str.ofString "Unkept") [(Str.ofString "run", b), (Str.ofString "number", a)]
abbrev nnX (a : D) : D := .ins (Str.ofString "NotNearer") [(Str.ofString "verdict", a)]
abbrev nfX (a b c : D) : D := .ins (Str.ofString "NotFalling") [(Str.ofString "room", c), (Str.ofString "called", b), (Str.ofString "run", a)]
theorem xa1 (a : D) : xatr (Str.ofString "step") (.pure (naX a)) = some (.pure a) := xatr_s (by decide +kernel) (by decide +kernel) rfl
theorem xa2 (a b : D) : xatr (Str.ofString "number") (.pure (ukX a b)) = some (.pure a) := xatr_s (by decide +kernel) (by decide +kernel) rfl
theorem xa3 (a b : D) : xatr (Str.ofString "run") (.pure (ukX a b)) = some (.pure b) := xatr_s (by decide +kernel) (by decide +kernel) rfl
theorem xa4 (a : D) : xatr (Str.ofString "verdict") (.pure (nnX a)) = some (.pure a) := xatr_s (by decide +kernel) (by decide +kernel) rfl
theorem xa5 (a b c : D) : xatr (Str.ofString "run") (.pure (nfX a b c)) = some (.pure a) := xatr_s (by decide +kernel) (by decide +kernel) rfl
theorem xa6 (a b c : D) : xatr (Str.ofString "called") (.pure (nfX a b c)) = some (.pure b) := xatr_s (by decide +kernel) (by decide +kernel) rfl
theorem xa7 (a b c : D) : xatr (Str.ofString "room") (.pure (nfX a b c)) = some (.pure c) := xatr_s (by decide +kernel) (by decide +kernel) rfl
theorem mk1 (c f : Str) (d : D) (g : G) : mkxG c [f] (some ([d], g)) = .ok (.val (.pure (.ins c [(f, d)]))) g := rfl
theorem mk2 (c f f2 : Str) (d d2 : D) (g : G) : mkxG c [f, f2] (some ([d, d2], g)) = .ok (.val (.pure (.ins c [(f2, d2), (f, d)]))) g := rfl
theorem mk3 (c f f2 f3 : Str) (d d2 d3 : D) (g : G) : mkxG c [f, f2, f3] (some ([d, d2, d3], g)) = .ok (.val (.pure (.ins c [(f3, d3), (f2, d2), (f, d)]))) g := rfl
structure StoS (s : Slot) : Prop where
  st : ∀ (i : Nat) (o : O) (g : G), stoC i o g (some s) = some (g.set i (.loc o))
  no : NoH s
theorem Fre.sto {s : Slot} (h : Fre s) : StoS s := ⟨fun i o g => stoC_fr h i o g, h.no⟩
theorem sto_l (l : List D) : StoS (.loc (.lst l)) := ⟨fun i o g => rfl, no_l l⟩
abbrev k09B (C : Callee) : S := (seqS (asgS 2 (lstE (evs [(nm 1), (cst (.int 0))]))) (seqS (asgS 3 (bin ixO (lstE (evs [(callA C 111 [(nm 2), (cst (.int 10))]), (cst (.int 40)), (cst (.int 0))])) (callA C 111 [(nm 2), (cst (.int 3))]))) (seqS (asgS 4 (bin addO (cst (.int 1)) (callA C 111 [(nm 2), (cst (.int 3))]))) (seqS (asgS 5 (callA C 113 [(nm 2), (nm 4)])) (seqS (asgS 6 (callA C 112 [(nm 2), (nm 4)])) (seqS (asgS 7 (bin ixO (lstE (evs [(cst (.str (Str.ofString "up"))), (cst (.str (Str.ofString "down"))), (cst (.str (Str.ofString "away")))])) (callA C 111 [(nm 2), (cst (.int 3))]))) (seqS (asgS 8 (bin ixO (lstE (evs [(tupE (evs [(cst (.str (Str.ofString "step"))), (nm 5), (nm 7), (nm 6)])), (tupE (evs [(cst (.str (Str.ofString "stop"))), (nm 5)])), (tupE (evs [(cst (.str (Str.ofString "start")))]))])) (callA C 111 [(nm 2), (cst (.int 3))]))) (seqS (asgS 9 (lstE (evs [(mkxE C (Str.ofString "NoAnswer") [Str.ofString "step"] (evs [(nm 3)])), (mkxE C (Str.ofString "Unkept") [Str.ofString "number", Str.ofString "run"] (evs [(bin modO (nm 3) (cst (.int 4))), (nm 5)])), (mkxE C (Str.ofString "NotNearer") [Str.ofString "verdict"] (evs [(nm 8)])), (mkxE C (Str.ofString "NotFalling") [Str.ofString "run", Str.ofString "called", Str.ofString "room"] (evs [(nm 5), (nm 7), (nm 6)]))]))) (seqS (ifS (blT (bin neO (compE (evs [(nm 9)]) enumI [10, 11] (tupT [(nmT 10), (nmT 11)]) (notT (truT (callA C 115 [(nm 11), (bin addO (cst (.int 9)) (nm 10))]))) (nm 10)) (lstE (evs [])))) (retS (cst (.bl false))) nextS) (seqS (ifS (blT (bin neO (lstE (evs [(attrX (ftOf FTl) (ftOf FXl) (Str.ofString "step") (bin ixO (nm 9) (cst (.int 0)))), (attrX (ftOf FTl) (ftOf FXl) (Str.ofString "number") (bin ixO (nm 9) (cst (.int 1)))), (attrX (ftOf FTl) (ftOf FXl) (Str.ofString "run") (bin ixO (nm 9) (cst (.int 1)))), (attrX (ftOf FTl) (ftOf FXl) (Str.ofString "verdict") (bin ixO (nm 9) (cst (.int 2))))])) (lstE (evs [(nm 3), (bin modO (nm 3) (cst (.int 4))), (nm 5), (nm 8)])))) (retS (cst (.bl false))) nextS) (ifS (blT (bin neO (lstE (evs [(attrX (ftOf FTl) (ftOf FXl) (Str.ofString "run") (bin ixO (nm 9) (cst (.int 3)))), (attrX (ftOf FTl) (ftOf FXl) (Str.ofString "called") (bin ixO (nm 9) (cst (.int 3)))), (attrX (ftOf FTl) (ftOf FXl) (Str.ofString "room") (bin ixO (nm 9) (cst (.int 3))))])) (lstE (evs [(nm 5), (nm 7), (nm 6)])))) (retS (cst (.bl false))) nextS)))))))))))
theorem k09_turn (n : Nat) (S0 : O) (c : Int) (t2 t3 t4 t5 t6 t7 t8 t9 : Slot) (f2 : StoS t2) (f3 : Fre t3) (f4 : Fre t4) (f5 : Fre t5) (f6 : Fre t6) (f7 : Fre t7) (f8 : Fre t8) (f9 : StoS t9) :
    ∃ (L2 L9 : List D) (v3 v4 v5 v6 v7 v8 : D), k09B (callN (n + 4)) [.par S0, .loc (.pure (.int c)), t2, t3, t4, t5, t6, t7, t8, t9, .un, .un] = .ok .next [.par S0, .loc (.pure (.int c)), .loc (.lst L2), .loc (.pure v3), .loc (.pure v4), .loc (.pure v5), .loc (.pure v6), .loc (.pure v7), .loc (.pure v8), .loc (.lst L9), .un, .un] := by
  have D1 : ∀ (b b2 m : Int) (a1 : 0 ≤ b) (a2 : b < 1000) (a3 : 0 < m) (a4 : m < 1000) (a5 : b + 1 = b2), ∃ r, 0 ≤ r ∧ r < m ∧ callN (n + 4) 111 [drS c b, .pure (.int m)] = .ok (.pure (.int r)) [drS c b2, .pure (.int m)] := fun b b2 m a1 a2 a3 a4 a5 => a5 ▸ dr9 (n + 3) c b m a1 a2 a3 a4
  obtain ⟨r1, r10, r11, d1⟩ := D1 0 1 10 (by omega) (by omega) (by omega) (by omega) rfl
  obtain ⟨r2, r20, r21, d2⟩ := D1 1 2 3 (by omega) (by omega) (by omega) (by omega) rfl
  obtain ⟨r3, r30, r31, d3⟩ := D1 2 3 3 (by omega) (by omega) (by omega) (by omega) rfl
  obtain ⟨l, b4, hm, b40, b41, d4⟩ := run_spec (n + 1) c 3 (1 + r3) (by omega) (by omega) (by omega) (by omega)
  obtain ⟨rs, d5⟩ := room_spec (n + 2) c b4 (1 + r3) (by omega) (by omega) (by omega) (by omega)
  obtain ⟨b5, hb5, b50, b51⟩ : ∃ x, b4 + (1 + r3) = x ∧ 0 ≤ x ∧ x < 100 := ⟨_, rfl, by omega, by omega⟩
  rw [hb5] at d5
  obtain ⟨r6, r60, r61, d6⟩ := D1 b5 _ 3 (by omega) (by omega) (by omega) (by omega) rfl
  obtain ⟨r7, r70, r71, d7⟩ := D1 (b5 + 1) _ 3 (by omega) (by omega) (by omega) (by omega) rfl
  clear D1
  obtain ⟨nv, hnv, i1⟩ := ix3 (.int r1) (.int 40) (.int 0) r2 r20 r21
  obtain ⟨nb, rfl, nb0⟩ : ∃ m : Int, nv = .int m ∧ 0 ≤ m := by
    simp only [List.mem_cons, List.not_mem_nil, or_false] at hnv
    rcases hnv with h | h | h <;> exact ⟨_, h, by omega⟩
  obtain ⟨cv, hcv, i2⟩ := ix3 (.str (Str.ofString "up")) (.str (Str.ofString "down")) (.str (Str.ofString "away")) r6 r60 r61
  have pc : Pl 4 cv := by
    simp only [List.mem_cons, List.not_mem_nil, or_false] at hcv
    rcases hcv with h | h | h <;> subst h <;> exact pl_str 4 _ (by decide +kernel)
  have pr := pl_run hm
  have po : Pl 4 (.tup (rs.map D.int)) := pl_tup fun x hx => by
    obtain ⟨i, _, rfl⟩ := List.mem_map.mp hx
    exact pl_int 3 i
  obtain ⟨RD, hRD⟩ : ∃ x, runD l = x := ⟨_, rfl⟩
  obtain ⟨OD, hOD⟩ : ∃ x, D.tup (rs.map D.int) = x := ⟨_, rfl⟩
  rw [hRD] at d4 pr
  rw [hOD] at d5 po
  obtain ⟨vv, hvv, i3⟩ := ix3 (.tup [.str (Str.ofString "step"), RD, cv, OD]) (.tup [.str (Str.ofString "stop"), RD]) (.tup [.str (Str.ofString "start")]) r7 r70 r71
  have pv' : Pl 6 vv := by
    simp only [List.mem_cons, List.not_mem_nil, or_false] at hvv
    rcases hvv with h | h | h <;> subst h <;> refine pl_tup fun x hx => ?_ <;> simp only [List.mem_cons, List.not_mem_nil, or_false] at hx
    · rcases hx with h | h | h | h <;> subst h
      · exact pl_str 5 _ (by decide +kernel)
      · exact pl_le pr (by omega)
      · exact pl_le pc (by omega)
      · exact pl_le po (by omega)
    · rcases hx with h | h <;> subst h
      · exact pl_str 5 _ (by decide +kernel)
      · exact pl_le pr (by omega)
    · subst hx; exact pl_str 5 _ (by decide +kernel)
  have n1 : neO (.lst [.int nb, .int (nb % 4), RD, vv]) (.lst [.int nb, .int (nb % 4), RD, vv]) = some (.pure (.bl false)) := ne_same fun d hd => by
    simp only [List.mem_cons, List.not_mem_nil, or_false] at hd
    rcases hd with h | h | h | h <;> subst h
    · exact pl_int _ _
    · exact pl_int _ _
    · exact pl_le pr (by omega)
    · exact pl_le pv' (by omega)
  have n2 : neO (.lst [RD, cv, OD]) (.lst [RD, cv, OD]) = some (.pure (.bl false)) := ne_same fun d hd => by
    simp only [List.mem_cons, List.not_mem_nil, or_false] at hd
    rcases hd with h | h | h <;> subst h
    · exact pl_le pr (by omega)
    · exact pl_le pc (by omega)
    · exact pl_le po (by omega)
  have n0 : neO (.lst []) (.lst []) = some (.pure (.bl false)) := rfl
  have e1 := alone_NoAnswer (n + 2) [(Str.ofString "step", D.int nb)]
  have e2 := alone_Unkept (n + 2) [(Str.ofString "run", RD), (Str.ofString "number", .int (nb % 4))]
  have e3 := alone_NotNearer (n + 2) [(Str.ofString "verdict", vv)]
  have e4 := alone_NotFalling (n + 2) [(Str.ofString "room", OD), (Str.ofString "called", cv), (Str.ofString "run", RD)]
  have en : enumL [naX (.int nb), ukX (.int (nb % 4)) RD, nnX vv, nfX RD cv OD] = [.tup [.int 0, naX (.int nb)], .tup [.int 1, ukX (.int (nb % 4)) RD], .tup [.int 2, nnX vv], .tup [.int 3, nfX RD cv OD]] := rfl
  have j0 : ixO (.lst [naX (.int nb), ukX (.int (nb % 4)) RD, nnX vv, nfX RD cv OD]) (.pure (.int 0)) = some (.pure (naX (.int nb))) := by rw [ix_l, atI_lt _ _ (by omega)]; rfl
  have j1 : ixO (.lst [naX (.int nb), ukX (.int (nb % 4)) RD, nnX vv, nfX RD cv OD]) (.pure (.int 1)) = some (.pure (ukX (.int (nb % 4)) RD)) := by rw [ix_l, atI_lt _ _ (by omega)]; rfl
  have j2 : ixO (.lst [naX (.int nb), ukX (.int (nb % 4)) RD, nnX vv, nfX RD cv OD]) (.pure (.int 2)) = some (.pure (nnX vv)) := by rw [ix_l, atI_lt _ _ (by omega)]; rfl
  have j3 : ixO (.lst [naX (.int nb), ukX (.int (nb % 4)) RD, nnX vv, nfX RD cv OD]) (.pure (.int 3)) = some (.pure (nfX RD cv OD)) := by rw [ix_l, atI_lt _ _ (by omega)]; rfl
  have y1 := xa1 (.int nb)
  have y2 := xa2 (.int (nb % 4)) RD
  have y3 := xa3 (.int (nb % 4)) RD
  have y4 := xa4 vv
  have y5 := xa5 RD cv OD
  have y6 := xa6 RD cv OD
  have y7 := xa7 RD cv OD
  have q1 := fun c fs A g => mkxE_a (C := callN (n + 4)) (c := c) (fs := fs) (A := A) (g := g) (live_c (n + 3))
  have q2 := fun c fs g rs => mkxC_a (c := c) (fs := fs) (g := g) rs
  have q3 := mk1
  have q4 := mk2
  have q5 := mk3
  have q6 := attrX_x
  have z2 := f2.st
  have z9 := f9.st
  have o9 := f9.no
  have o2 := f2.no
  refine ⟨[.int c, .int (b5 + 1 + 1)], [naX (.int nb), ukX (.int (nb % 4)) RD, nnX vv, nfX RD cv OD], .int nb, .int (1 + r3), RD, OD, cv, vv, ?_⟩
  clear hnv hcv hvv pc pr po pv' hm hRD hOD hb5 b50 b51 b40 b41 r10 r11 r20 r21 r30 r31 r60 r61 r70 r71 nb0
  unfold k09B
  walk_at "vi*"
theorem k09_loop (n : Nat) (S0 : O) : ∀ (cs : List Int) (t1 t2 t3 t4 t5 t6 t7 t8 t9 : Slot), Fre t1 → StoS t2 → Fre t3 → Fre t4 → Fre t5 → Fre t6 → Fre t7 → Fre t8 → StoS t9 →
    ∃ g', loopS (nmT 1) (k09B (callN (n + 4))) (cs.map D.int) [.par S0, t1, t2, t3, t4, t5, t6, t7, t8, t9, .un, .un] = .ok .next (.par S0 :: g')
  | [], t1, t2, t3, t4, t5, t6, t7, t8, t9, f1, f2, f3, f4, f5, f6, f7, f8, f9 => ⟨[t1, t2, t3, t4, t5, t6, t7, t8, t9, .un, .un], by simp [loop_n]⟩
  | c :: cs, t1, t2, t3, t4, t5, t6, t7, t8, t9, f1, f2, f3, f4, f5, f6, f7, f8, f9 => by
    obtain ⟨L2, L9, v3, v4, v5, v6, v7, v8, e⟩ := k09_turn n S0 c t2 t3 t4 t5 t6 t7 t8 t9 f2 f3 f4 f5 f6 f7 f8 f9
    obtain ⟨g', e2⟩ := k09_loop n S0 cs (.loc (.pure (.int c))) (.loc (.lst L2)) (.loc (.pure v3)) (.loc (.pure v4)) (.loc (.pure v5)) (.loc (.pure v6)) (.loc (.pure v7)) (.loc (.pure v8)) (.loc (.lst L9)) (fre_d _) (sto_l _) (fre_d _) (fre_d _) (fre_d _) (fre_d _) (fre_d _) (fre_d _) (sto_l _)
    refine ⟨g', ?_⟩
    generalize k09B (callN (n + 4)) = B at e e2 ⊢
    walk_at "vi*"
theorem law_true (ns : List Int) (hl : ns.length ≤ 63) : ∃ os, callN 30 116 [.pure (.lst (ns.map D.int))] = .ok (.pure (.bl true)) os := by
  obtain ⟨CS, hCS⟩ : ∃ x, cutL (ns.map D.int ++ [.int 0]) none (some 4) = x := ⟨_, rfl⟩
  obtain ⟨cs, hcs⟩ : ∃ cs : List Int, CS = cs.map D.int := ⟨cutL (ns ++ [0]) none (some 4), by
    rw [← hCS]
    have : ns.map D.int ++ [D.int 0] = (ns ++ [0]).map D.int := by simp
    rw [this]
    unfold cutL
    rw [List.map_take, List.map_drop, List.length_map]⟩
  obtain ⟨g', e⟩ := k09_loop 25 (.pure (.lst (ns.map D.int))) cs .un .un .un .un .un .un .un .un .un fre_un fre_un.sto fre_un fre_un fre_un fre_un fre_un fre_un fre_un.sto
  refine ⟨[.pure (.lst (ns.map D.int))], (c_law_k09 29 _).trans ((bodyC_a 1 11 _ _ rfl).trans ?_)⟩
  have l1 : ns.length + 1 ≤ 16777216 := by omega
  unfold b_law_k09
  show endC _ ((seqS (forS _ itemsO (nmT 1) (k09B (callN 29))) _) _) = _
  have e' : loopS (nmT 1) (k09B (callN 29)) (cs.map D.int) _ = _ := e
  generalize k09B (callN 29) = B at *
  rw [← hcs, ← hCS] at e'
  walk_at "vi*"
/-! ## the facts at every depth -/
section
variable {W : Wd} {P : Program} {w : World} {mg : Str → Option Value} {base : Heap}
structure Base (W : Wd) (mg : Str → Option Value) : Prop where
  m_ValueError : mg "ValueError" = none
  m_enumerate : mg "enumerate" = none
  m_isinstance : mg "isinstance" = none
  m_range : mg "range" = none
  m_tuple : mg "tuple" = none
  f__law_draw : ∃ (f : Addr) (fd : FuncData), mg "_law_draw" = some (.ref f) ∧ Fun W.K "_law_draw" "_law_draw" st__law_draw f fd ∧ Binds W.K fd ["deck", "many"] []
  f__law_room : ∃ (f : Addr) (fd : FuncData), mg "_law_room" = some (.ref f) ∧ Fun W.K "_law_room" "_law_room" st__law_room f fd ∧ Binds W.K fd ["deck", "wide"] []
  f__law_run : ∃ (f : Addr) (fd : FuncData), mg "_law_run" = some (.ref f) ∧ Fun W.K "_law_run" "_law_run" st__law_run f fd ∧ Binds W.K fd ["deck", "wide"] []
  f__law_kinds : ∃ (f : Addr) (fd : FuncData), mg "_law_kinds" = some (.ref f) ∧ Fun W.K "_law_kinds" "_law_kinds" st__law_kinds f fd ∧ Binds W.K fd ["one"] []
  f__law_alone : ∃ (f : Addr) (fd : FuncData), mg "_law_alone" = some (.ref f) ∧ Fun W.K "_law_alone" "_law_alone" st__law_alone f fd ∧ Binds W.K fd ["one", "at"] []
  f_law : ∃ (f : Addr) (fd : FuncData), mg "law" = some (.ref f) ∧ Fun W.K "law" "law" st_law_k09 f fd ∧ Binds W.K fd ["script"] []
  e_NoAnswer : ∃ u v, mg "NoAnswer" = some u ∧ RelV v u ∧ ∀ H, RepF W H v (.cls (Str.ofString "NoAnswer"))
  e_NoMachine : ∃ u v, mg "NoMachine" = some u ∧ RelV v u ∧ ∀ H, RepF W H v (.cls (Str.ofString "NoMachine"))
  e_NoName : ∃ u v, mg "NoName" = some u ∧ RelV v u ∧ ∀ H, RepF W H v (.cls (Str.ofString "NoName"))
  e_NoRange : ∃ u v, mg "NoRange" = some u ∧ RelV v u ∧ ∀ H, RepF W H v (.cls (Str.ofString "NoRange"))
  e_NoRun : ∃ u v, mg "NoRun" = some u ∧ RelV v u ∧ ∀ H, RepF W H v (.cls (Str.ofString "NoRun"))
  e_NoStep : ∃ u v, mg "NoStep" = some u ∧ RelV v u ∧ ∀ H, RepF W H v (.cls (Str.ofString "NoStep"))
  e_NoText : ∃ u v, mg "NoText" = some u ∧ RelV v u ∧ ∀ H, RepF W H v (.cls (Str.ofString "NoText"))
  e_NoTie : ∃ u v, mg "NoTie" = some u ∧ RelV v u ∧ ∀ H, RepF W H v (.cls (Str.ofString "NoTie"))
  e_NotFalling : ∃ u v, mg "NotFalling" = some u ∧ RelV v u ∧ ∀ H, RepF W H v (.cls (Str.ofString "NotFalling"))
  e_NotNearer : ∃ u v, mg "NotNearer" = some u ∧ RelV v u ∧ ∀ H, RepF W H v (.cls (Str.ofString "NotNearer"))
  e_TooMany : ∃ u v, mg "TooMany" = some u ∧ RelV v u ∧ ∀ H, RepF W H v (.cls (Str.ofString "TooMany"))
  e_Twice : ∃ u v, mg "Twice" = some u ∧ RelV v u ∧ ∀ H, RepF W H v (.cls (Str.ofString "Twice"))
  e_Unkept : ∃ u v, mg "Unkept" = some u ∧ RelV v u ∧ ∀ H, RepF W H v (.cls (Str.ofString "Unkept"))
  e_WorkError : ∃ u v, mg "WorkError" = some u ∧ RelV v u ∧ ∀ H, RepF W H v (.cls (Str.ofString "WorkError"))
  xi : ∀ {c d : Str} {b : Bool}, itOf XTl c d = some b → XisAt W c d b
  ct : ∀ {c d : Str} {b : Bool}, itOf CTl c d = some b → CatchAt W c d b
  xv : ∀ c ∈ XVl, XveAt W c
  fldx : ∀ {c f : Str}, ftOf FXl c f = true → FldXAt W c f
  y_NoAnswer : ∃ (f : Addr) (fd : FuncData) (B0 Ca : Addr), Fun W.K "__init__" "NoAnswer.__init__" st_NoAnswer___init__ f fd ∧ Binds W.K fd ["self", "step"] [] ∧ mg "WorkError" = some (.ref B0) ∧ ClX.CRead W.K B0 (.type "type") ∧ PySem.W.findCls W.K (.ref B0) (.type "type") "__init__" = some (.val (.builtin "ValueError.__init__")) ∧ W.cl "NoAnswer" = some Ca ∧ XfC W.K Ca ∧ OexC W.K Ca ∧ PySem.W.findIn W.K (.ref Ca) "__init__" = some (some (.ref f)) ∧ PySem.W.typeIn W.K (.ref f) = some (.type "function") ∧ mg "NoAnswer" = some (.ref Ca) ∧ ∀ y ∈ (["step"] : List Str), PySem.W.findIn W.K (.ref Ca) y = some none
  y_NotFalling : ∃ (f : Addr) (fd : FuncData) (B0 Ca : Addr), Fun W.K "__init__" "NotFalling.__init__" st_NotFalling___init__ f fd ∧ Binds W.K fd ["self", "run", "called", "room"] [] ∧ mg "WorkError" = some (.ref B0) ∧ ClX.CRead W.K B0 (.type "type") ∧ PySem.W.findCls W.K (.ref B0) (.type "type") "__init__" = some (.val (.builtin "ValueError.__init__")) ∧ W.cl "NotFalling" = some Ca ∧ XfC W.K Ca ∧ OexC W.K Ca ∧ PySem.W.findIn W.K (.ref Ca) "__init__" = some (some (.ref f)) ∧ PySem.W.typeIn W.K (.ref f) = some (.type "function") ∧ mg "NotFalling" = some (.ref Ca) ∧ ∀ y ∈ (["run", "called", "room"] : List Str), PySem.W.findIn W.K (.ref Ca) y = some none
  y_NotNearer : ∃ (f : Addr) (fd : FuncData) (B0 Ca : Addr), Fun W.K "__init__" "NotNearer.__init__" st_NotNearer___init__ f fd ∧ Binds W.K fd ["self", "verdict"] [] ∧ mg "WorkError" = some (.ref B0) ∧ ClX.CRead W.K B0 (.type "type") ∧ PySem.W.findCls W.K (.ref B0) (.type "type") "__init__" = some (.val (.builtin "ValueError.__init__")) ∧ W.cl "NotNearer" = some Ca ∧ XfC W.K Ca ∧ OexC W.K Ca ∧ PySem.W.findIn W.K (.ref Ca) "__init__" = some (some (.ref f)) ∧ PySem.W.typeIn W.K (.ref f) = some (.type "function") ∧ mg "NotNearer" = some (.ref Ca) ∧ ∀ y ∈ (["verdict"] : List Str), PySem.W.findIn W.K (.ref Ca) y = some none
  y_Unkept : ∃ (f : Addr) (fd : FuncData) (B0 Ca : Addr), Fun W.K "__init__" "Unkept.__init__" st_Unkept___init__ f fd ∧ Binds W.K fd ["self", "number", "run"] [] ∧ mg "WorkError" = some (.ref B0) ∧ ClX.CRead W.K B0 (.type "type") ∧ PySem.W.findCls W.K (.ref B0) (.type "type") "__init__" = some (.val (.builtin "ValueError.__init__")) ∧ W.cl "Unkept" = some Ca ∧ XfC W.K Ca ∧ OexC W.K Ca ∧ PySem.W.findIn W.K (.ref Ca) "__init__" = some (some (.ref f)) ∧ PySem.W.typeIn W.K (.ref f) = some (.type "function") ∧ mg "Unkept" = some (.ref Ca) ∧ ∀ y ∈ (["number", "run"] : List Str), PySem.W.findIn W.K (.ref Ca) y = some none
  it : ∀ {c d : Str} {b : Bool}, itOf ITl c d = some b → IsAt W c d b
  fld : ∀ {c f : Str}, ftOf FTl c f = true → FldAt W c f
theorem fn_zero {f : Addr} {fd : FuncData} {ps : List Str} {fn m : Nat} (hm : m = ps.length) : FnOk P w W.K mg base (L2.CX P w) 0 f fd ps (spD W (callN 0) fn m) :=
  ⟨fun _ _ _ _ h => h.1.trans hm, fun _ _ _ _ _ _ _ _ _ _ _ _ _ ⟨_, _, _, _, _, _, z⟩ => z.elim⟩
theorem mkx0 {Q : Prop} (h : callN 0 1000000 [] = .ok (.pure .non) []) : Q := by cases h
theorem facts_all (B : Base W mg) : ∀ n, Facts W P w mg base n
  | 0 => ⟨B.m_ValueError,
      B.m_enumerate,
      B.m_isinstance,
      B.m_range,
      B.m_tuple,
      (let ⟨f, fd, h1, F, b⟩ := B.f__law_draw; ⟨f, fd, _, h1, F.kp, fn_zero rfl, b⟩),
      (let ⟨f, fd, h1, F, b⟩ := B.f__law_room; ⟨f, fd, _, h1, F.kp, fn_zero rfl, b⟩),
      (let ⟨f, fd, h1, F, b⟩ := B.f__law_run; ⟨f, fd, _, h1, F.kp, fn_zero rfl, b⟩),
      (let ⟨f, fd, h1, F, b⟩ := B.f__law_kinds; ⟨f, fd, _, h1, F.kp, fn_zero rfl, b⟩),
      (let ⟨f, fd, h1, F, b⟩ := B.f__law_alone; ⟨f, fd, _, h1, F.kp, fn_zero rfl, b⟩),
      (let ⟨f, fd, h1, F, b⟩ := B.f_law; ⟨f, fd, _, h1, F.kp, fn_zero rfl, b⟩),
      B.e_NoAnswer,
      B.e_NoMachine,
      B.e_NoName,
      B.e_NoRange,
      B.e_NoRun,
      B.e_NoStep,
      B.e_NoText,
      B.e_NoTie,
      B.e_NotFalling,
      B.e_NotNearer,
      B.e_TooMany,
      B.e_Twice,
      B.e_Unkept,
      B.e_WorkError,
      B.xi,
      B.ct,
      B.xv,
      B.fldx,
      (let ⟨f, fd, B0, Ca, F, b, h1, h2, h3, g1, g2, g3, g4, g5, g6, g7⟩ := B.y_NoAnswer; ⟨Ca, f, fd, _, g1, g2, g3, g4, g5, g6, g7, mkx0, b⟩),
      (let ⟨f, fd, B0, Ca, F, b, h1, h2, h3, g1, g2, g3, g4, g5, g6, g7⟩ := B.y_NotFalling; ⟨Ca, f, fd, _, g1, g2, g3, g4, g5, g6, g7, mkx0, b⟩),
      (let ⟨f, fd, B0, Ca, F, b, h1, h2, h3, g1, g2, g3, g4, g5, g6, g7⟩ := B.y_NotNearer; ⟨Ca, f, fd, _, g1, g2, g3, g4, g5, g6, g7, mkx0, b⟩),
      (let ⟨f, fd, B0, Ca, F, b, h1, h2, h3, g1, g2, g3, g4, g5, g6, g7⟩ := B.y_Unkept; ⟨Ca, f, fd, _, g1, g2, g3, g4, g5, g6, g7, mkx0, b⟩),
      B.it,
      fun h => mt_of (T := MTl) (P := fun c m fn a => MethAt W (callN 0) P w mg base (2 * 0) c m fn a) (List.forall_mem_nil _) h,
      B.fld⟩
  | n + 1 => ⟨B.m_ValueError,
      B.m_enumerate,
      B.m_isinstance,
      B.m_range,
      B.m_tuple,
      (let ⟨f, fd, h1, F, b⟩ := B.f__law_draw; ⟨f, fd, _, h1, F.kp, ok__law_draw (facts_all B n) F, b⟩),
      (let ⟨f, fd, h1, F, b⟩ := B.f__law_room; ⟨f, fd, _, h1, F.kp, ok__law_room (facts_all B n) F, b⟩),
      (let ⟨f, fd, h1, F, b⟩ := B.f__law_run; ⟨f, fd, _, h1, F.kp, ok__law_run (facts_all B n) F, b⟩),
      (let ⟨f, fd, h1, F, b⟩ := B.f__law_kinds; ⟨f, fd, _, h1, F.kp, ok__law_kinds (facts_all B n) F, b⟩),
      (let ⟨f, fd, h1, F, b⟩ := B.f__law_alone; ⟨f, fd, _, h1, F.kp, ok__law_alone (facts_all B n) F, b⟩),
      (let ⟨f, fd, h1, F, b⟩ := B.f_law; ⟨f, fd, _, h1, F.kp, ok_law_k09 (facts_all B n) F, b⟩),
      B.e_NoAnswer,
      B.e_NoMachine,
      B.e_NoName,
      B.e_NoRange,
      B.e_NoRun,
      B.e_NoStep,
      B.e_NoText,
      B.e_NoTie,
      B.e_NotFalling,
      B.e_NotNearer,
      B.e_TooMany,
      B.e_Twice,
      B.e_Unkept,
      B.e_WorkError,
      B.xi,
      B.ct,
      B.xv,
      B.fldx,
      (let ⟨f, fd, B0, Ca, F, b, h1, h2, h3, g1, g2, g3, g4, g5, g6, g7⟩ := B.y_NoAnswer; ⟨Ca, f, fd, _, g1, g2, g3, g4, g5, g6, g7, fun _ => okx_NoAnswer___init__ h1 h2 h3 F, b⟩),
      (let ⟨f, fd, B0, Ca, F, b, h1, h2, h3, g1, g2, g3, g4, g5, g6, g7⟩ := B.y_NotFalling; ⟨Ca, f, fd, _, g1, g2, g3, g4, g5, g6, g7, fun _ => okx_NotFalling___init__ h1 h2 h3 F, b⟩),
      (let ⟨f, fd, B0, Ca, F, b, h1, h2, h3, g1, g2, g3, g4, g5, g6, g7⟩ := B.y_NotNearer; ⟨Ca, f, fd, _, g1, g2, g3, g4, g5, g6, g7, fun _ => okx_NotNearer___init__ h1 h2 h3 F, b⟩),
      (let ⟨f, fd, B0, Ca, F, b, h1, h2, h3, g1, g2, g3, g4, g5, g6, g7⟩ := B.y_Unkept; ⟨Ca, f, fd, _, g1, g2, g3, g4, g5, g6, g7, fun _ => okx_Unkept___init__ h1 h2 h3 F, b⟩),
      B.it,
      fun h => mt_of (T := MTl) (P := fun c m fn a => MethAt W (callN (n + 1)) P w mg base (2 * (n + 1)) c m fn a) (List.forall_mem_nil _) h,
      B.fld⟩
end
theorem base_of {K : PySem.W.Frag} {h : Heap} {mg : Str → Option Value} (X : K.In h) (G : h.Ns mainGlobals mg) (c : SeenV fnl (fxs fxl) K) : Base (wdOf K) mg :=
  have k0 : fxs fxl0 K = true := (fx_l c.more)
  have k1 : fxs fxl1 K = true := (fx_l (fx_r c.more))
  have k2 : fxs fxl2 K = true := (fx_l (fx_r (fx_r c.more)))
  have k3 : fxs fxl3 K = true := ((fx_r (fx_r (fx_r c.more))))
  ⟨
    fx_free X G (fx_at k0 0 rfl),
    fx_free X G (fx_at k0 1 rfl),
    fx_free X G (fx_at k0 2 rfl),
    fx_free X G (fx_at k0 3 rfl),
    fx_free X G (fx_at k0 4 rfl),
    (let ⟨fd, F⟩ := c.d.def_ 0 (d := dd0) rfl; ⟨clsAt K "_law_draw", fd, (fx_glo X G (fx_at k0 5 rfl)), fun_of F, (fun_of (x := "_law_draw") (q := "_law_draw") (st := st__law_draw) F).binds (ps := ["deck", "many"]) (fun _ _ _ _ _ _ us hl => match us, hl with | [_, _], _ => by kernel_rfl)⟩),
    (let ⟨fd, F⟩ := c.d.def_ 1 (d := dd1) rfl; ⟨clsAt K "_law_room", fd, (fx_glo X G (fx_at k0 6 rfl)), fun_of F, (fun_of (x := "_law_room") (q := "_law_room") (st := st__law_room) F).binds (ps := ["deck", "wide"]) (fun _ _ _ _ _ _ us hl => match us, hl with | [_, _], _ => by kernel_rfl)⟩),
    (let ⟨fd, F⟩ := c.d.def_ 2 (d := dd2) rfl; ⟨clsAt K "_law_run", fd, (fx_glo X G (fx_at k0 7 rfl)), fun_of F, (fun_of (x := "_law_run") (q := "_law_run") (st := st__law_run) F).binds (ps := ["deck", "wide"]) (fun _ _ _ _ _ _ us hl => match us, hl with | [_, _], _ => by kernel_rfl)⟩),
    (let ⟨fd, F⟩ := c.d.def_ 3 (d := dd3) rfl; ⟨clsAt K "_law_kinds", fd, (fx_glo X G (fx_at k0 8 rfl)), fun_of F, (fun_of (x := "_law_kinds") (q := "_law_kinds") (st := st__law_kinds) F).binds (ps := ["one"]) (fun _ _ _ _ _ _ us hl => match us, hl with | [_], _ => by kernel_rfl)⟩),
    (let ⟨fd, F⟩ := c.d.def_ 4 (d := dd4) rfl; ⟨clsAt K "_law_alone", fd, (fx_glo X G (fx_at k0 9 rfl)), fun_of F, (fun_of (x := "_law_alone") (q := "_law_alone") (st := st__law_alone) F).binds (ps := ["one", "at"]) (fun _ _ _ _ _ _ us hl => match us, hl with | [_, _], _ => by kernel_rfl)⟩),
    (let ⟨fd, F⟩ := c.d.def_ 5 (d := dd5) rfl; ⟨clsAt K "law", fd, (fx_glo X G (fx_at k0 10 rfl)), fun_of F, (fun_of (x := "law") (q := "law") (st := st_law_k09) F).binds (ps := ["script"]) (fun _ _ _ _ _ _ us hl => match us, hl with | [_], _ => by kernel_rfl)⟩),
    fx_clsv X G (fx_at k0 11 rfl),
    fx_clsv X G (fx_at k0 12 rfl),
    fx_clsv X G (fx_at k0 13 rfl),
    fx_clsv X G (fx_at k0 14 rfl),
    fx_clsv X G (fx_at k0 15 rfl),
    fx_clsv X G (fx_at k0 16 rfl),
    fx_clsv X G (fx_at k0 17 rfl),
    fx_clsv X G (fx_at k0 18 rfl),
    fx_clsv X G (fx_at k0 19 rfl),
    fx_clsv X G (fx_at k0 20 rfl),
    fx_clsv X G (fx_at k0 21 rfl),
    fx_clsv X G (fx_at k0 22 rfl),
    fx_clsv X G (fx_at k0 23 rfl),
    fx_clsv X G (fx_at k0 24 rfl),
    fun h => it_of (T := XTl) (P := XisAt (wdOf K)) (List.forall_mem_cons.mpr ⟨fx_xis (fx_at k2 29 rfl) (fx_at k2 15 rfl) (fx_at k2 16 rfl) (fx_at k0 28 rfl), (List.forall_mem_cons.mpr ⟨fx_xis (fx_at k2 28 rfl) (fx_at k2 15 rfl) (fx_at k2 16 rfl) (fx_at k0 28 rfl), (List.forall_mem_cons.mpr ⟨fx_xis (fx_at k2 27 rfl) (fx_at k2 15 rfl) (fx_at k2 16 rfl) (fx_at k0 28 rfl), (List.forall_mem_cons.mpr ⟨fx_xis (fx_at k2 26 rfl) (fx_at k2 15 rfl) (fx_at k2 16 rfl) (fx_at k0 28 rfl), (List.forall_mem_cons.mpr ⟨fx_xis (fx_at k2 25 rfl) (fx_at k2 15 rfl) (fx_at k2 16 rfl) (fx_at k0 28 rfl), (List.forall_mem_cons.mpr ⟨fx_xis (fx_at k2 24 rfl) (fx_at k2 15 rfl) (fx_at k2 16 rfl) (fx_at k0 28 rfl), (List.forall_mem_cons.mpr ⟨fx_xis (fx_at k2 23 rfl) (fx_at k2 15 rfl) (fx_at k2 16 rfl) (fx_at k0 28 rfl), (List.forall_mem_cons.mpr ⟨fx_xis (fx_at k2 22 rfl) (fx_at k2 15 rfl) (fx_at k2 16 rfl) (fx_at k0 28 rfl), (List.forall_mem_cons.mpr ⟨fx_xis (fx_at k2 21 rfl) (fx_at k2 15 rfl) (fx_at k2 16 rfl) (fx_at k0 28 rfl), (List.forall_mem_cons.mpr ⟨fx_xis (fx_at k2 20 rfl) (fx_at k2 15 rfl) (fx_at k2 16 rfl) (fx_at k0 28 rfl), (List.forall_mem_cons.mpr ⟨fx_xis (fx_at k2 19 rfl) (fx_at k2 15 rfl) (fx_at k2 16 rfl) (fx_at k0 28 rfl), (List.forall_mem_cons.mpr ⟨fx_xis (fx_at k2 18 rfl) (fx_at k2 15 rfl) (fx_at k2 16 rfl) (fx_at k0 28 rfl), (List.forall_mem_cons.mpr ⟨fx_xis (fx_at k2 17 rfl) (fx_at k2 15 rfl) (fx_at k2 16 rfl) (fx_at k0 28 rfl), (List.forall_mem_cons.mpr ⟨fx_xis (fx_at k2 14 rfl) (fx_at k2 15 rfl) (fx_at k2 16 rfl) (fx_at k0 28 rfl), (List.forall_mem_cons.mpr ⟨fx_xis (fx_at k2 13 rfl) (fx_at k1 29 rfl) (fx_at k2 0 rfl) (fx_at k0 28 rfl), (List.forall_mem_cons.mpr ⟨fx_xis (fx_at k2 12 rfl) (fx_at k1 29 rfl) (fx_at k2 0 rfl) (fx_at k0 28 rfl), (List.forall_mem_cons.mpr ⟨fx_xis (fx_at k2 11 rfl) (fx_at k1 29 rfl) (fx_at k2 0 rfl) (fx_at k0 28 rfl), (List.forall_mem_cons.mpr ⟨fx_xis (fx_at k2 10 rfl) (fx_at k1 29 rfl) (fx_at k2 0 rfl) (fx_at k0 28 rfl), (List.forall_mem_cons.mpr ⟨fx_xis (fx_at k2 9 rfl) (fx_at k1 29 rfl) (fx_at k2 0 rfl) (fx_at k0 28 rfl), (List.forall_mem_cons.mpr ⟨fx_xis (fx_at k2 8 rfl) (fx_at k1 29 rfl) (fx_at k2 0 rfl) (fx_at k0 28 rfl), (List.forall_mem_cons.mpr ⟨fx_xis (fx_at k2 7 rfl) (fx_at k1 29 rfl) (fx_at k2 0 rfl) (fx_at k0 28 rfl), (List.forall_mem_cons.mpr ⟨fx_xis (fx_at k2 6 rfl) (fx_at k1 29 rfl) (fx_at k2 0 rfl) (fx_at k0 28 rfl), (List.forall_mem_cons.mpr ⟨fx_xis (fx_at k2 5 rfl) (fx_at k1 29 rfl) (fx_at k2 0 rfl) (fx_at k0 28 rfl), (List.forall_mem_cons.mpr ⟨fx_xis (fx_at k2 4 rfl) (fx_at k1 29 rfl) (fx_at k2 0 rfl) (fx_at k0 28 rfl), (List.forall_mem_cons.mpr ⟨fx_xis (fx_at k2 3 rfl) (fx_at k1 29 rfl) (fx_at k2 0 rfl) (fx_at k0 28 rfl), (List.forall_mem_cons.mpr ⟨fx_xis (fx_at k2 2 rfl) (fx_at k1 29 rfl) (fx_at k2 0 rfl) (fx_at k0 28 rfl), (List.forall_mem_cons.mpr ⟨fx_xis (fx_at k2 1 rfl) (fx_at k1 29 rfl) (fx_at k2 0 rfl) (fx_at k0 28 rfl), (List.forall_mem_cons.mpr ⟨fx_xis (fx_at k1 28 rfl) (fx_at k1 29 rfl) (fx_at k2 0 rfl) (fx_at k0 28 rfl), (List.forall_mem_cons.mpr ⟨fx_xis (fx_at k1 27 rfl) (fx_at k1 13 rfl) (fx_at k1 14 rfl) (fx_at k0 28 rfl), (List.forall_mem_cons.mpr ⟨fx_xis (fx_at k1 26 rfl) (fx_at k1 13 rfl) (fx_at k1 14 rfl) (fx_at k0 28 rfl), (List.forall_mem_cons.mpr ⟨fx_xis (fx_at k1 25 rfl) (fx_at k1 13 rfl) (fx_at k1 14 rfl) (fx_at k0 28 rfl), (List.forall_mem_cons.mpr ⟨fx_xis (fx_at k1 24 rfl) (fx_at k1 13 rfl) (fx_at k1 14 rfl) (fx_at k0 28 rfl), (List.forall_mem_cons.mpr ⟨fx_xis (fx_at k1 23 rfl) (fx_at k1 13 rfl) (fx_at k1 14 rfl) (fx_at k0 28 rfl), (List.forall_mem_cons.mpr ⟨fx_xis (fx_at k1 22 rfl) (fx_at k1 13 rfl) (fx_at k1 14 rfl) (fx_at k0 28 rfl), (List.forall_mem_cons.mpr ⟨fx_xis (fx_at k1 21 rfl) (fx_at k1 13 rfl) (fx_at k1 14 rfl) (fx_at k0 28 rfl), (List.forall_mem_cons.mpr ⟨fx_xis (fx_at k1 20 rfl) (fx_at k1 13 rfl) (fx_at k1 14 rfl) (fx_at k0 28 rfl), (List.forall_mem_cons.mpr ⟨fx_xis (fx_at k1 19 rfl) (fx_at k1 13 rfl) (fx_at k1 14 rfl) (fx_at k0 28 rfl), (List.forall_mem_cons.mpr ⟨fx_xis (fx_at k1 18 rfl) (fx_at k1 13 rfl) (fx_at k1 14 rfl) (fx_at k0 28 rfl), (List.forall_mem_cons.mpr ⟨fx_xis (fx_at k1 17 rfl) (fx_at k1 13 rfl) (fx_at k1 14 rfl) (fx_at k0 28 rfl), (List.forall_mem_cons.mpr ⟨fx_xis (fx_at k1 16 rfl) (fx_at k1 13 rfl) (fx_at k1 14 rfl) (fx_at k0 28 rfl), (List.forall_mem_cons.mpr ⟨fx_xis (fx_at k1 15 rfl) (fx_at k1 13 rfl) (fx_at k1 14 rfl) (fx_at k0 28 rfl), (List.forall_mem_cons.mpr ⟨fx_xis (fx_at k1 12 rfl) (fx_at k1 13 rfl) (fx_at k1 14 rfl) (fx_at k0 28 rfl), (List.forall_mem_cons.mpr ⟨fx_xis (fx_at k1 11 rfl) (fx_at k0 26 rfl) (fx_at k0 27 rfl) (fx_at k0 28 rfl), (List.forall_mem_cons.mpr ⟨fx_xis (fx_at k1 10 rfl) (fx_at k0 26 rfl) (fx_at k0 27 rfl) (fx_at k0 28 rfl), (List.forall_mem_cons.mpr ⟨fx_xis (fx_at k1 9 rfl) (fx_at k0 26 rfl) (fx_at k0 27 rfl) (fx_at k0 28 rfl), (List.forall_mem_cons.mpr ⟨fx_xis (fx_at k1 8 rfl) (fx_at k0 26 rfl) (fx_at k0 27 rfl) (fx_at k0 28 rfl), (List.forall_mem_cons.mpr ⟨fx_xis (fx_at k1 7 rfl) (fx_at k0 26 rfl) (fx_at k0 27 rfl) (fx_at k0 28 rfl), (List.forall_mem_cons.mpr ⟨fx_xis (fx_at k1 6 rfl) (fx_at k0 26 rfl) (fx_at k0 27 rfl) (fx_at k0 28 rfl), (List.forall_mem_cons.mpr ⟨fx_xis (fx_at k1 5 rfl) (fx_at k0 26 rfl) (fx_at k0 27 rfl) (fx_at k0 28 rfl), (List.forall_mem_cons.mpr ⟨fx_xis (fx_at k1 4 rfl) (fx_at k0 26 rfl) (fx_at k0 27 rfl) (fx_at k0 28 rfl), (List.forall_mem_cons.mpr ⟨fx_xis (fx_at k1 3 rfl) (fx_at k0 26 rfl) (fx_at k0 27 rfl) (fx_at k0 28 rfl), (List.forall_mem_cons.mpr ⟨fx_xis (fx_at k1 2 rfl) (fx_at k0 26 rfl) (fx_at k0 27 rfl) (fx_at k0 28 rfl), (List.forall_mem_cons.mpr ⟨fx_xis (fx_at k1 1 rfl) (fx_at k0 26 rfl) (fx_at k0 27 rfl) (fx_at k0 28 rfl), (List.forall_mem_cons.mpr ⟨fx_xis (fx_at k1 0 rfl) (fx_at k0 26 rfl) (fx_at k0 27 rfl) (fx_at k0 28 rfl), (List.forall_mem_cons.mpr ⟨fx_xis (fx_at k0 29 rfl) (fx_at k0 26 rfl) (fx_at k0 27 rfl) (fx_at k0 28 rfl), (List.forall_mem_cons.mpr ⟨fx_xis (fx_at k0 25 rfl) (fx_at k0 26 rfl) (fx_at k0 27 rfl) (fx_at k0 28 rfl), (List.forall_mem_nil _)⟩)⟩)⟩)⟩)⟩)⟩)⟩)⟩)⟩)⟩)⟩)⟩)⟩)⟩)⟩)⟩)⟩)⟩)⟩)⟩)⟩)⟩)⟩)⟩)⟩)⟩)⟩)⟩)⟩)⟩)⟩)⟩)⟩)⟩)⟩)⟩)⟩)⟩)⟩)⟩)⟩)⟩)⟩)⟩)⟩)⟩)⟩)⟩)⟩)⟩)⟩)⟩)⟩)⟩)⟩)⟩) h,
    fun h => it_of (T := CTl) (P := CatchAt (wdOf K)) (List.forall_mem_nil _) h,
    (List.forall_mem_cons.mpr ⟨fx_xve (fx_at k3 3 rfl) (fx_at k2 15 rfl) (fx_at k2 16 rfl) (fx_at k0 28 rfl), (List.forall_mem_cons.mpr ⟨fx_xve (fx_at k3 2 rfl) (fx_at k1 29 rfl) (fx_at k2 0 rfl) (fx_at k0 28 rfl), (List.forall_mem_cons.mpr ⟨fx_xve (fx_at k3 1 rfl) (fx_at k1 13 rfl) (fx_at k1 14 rfl) (fx_at k0 28 rfl), (List.forall_mem_cons.mpr ⟨fx_xve (fx_at k3 0 rfl) (fx_at k0 26 rfl) (fx_at k0 27 rfl) (fx_at k0 28 rfl), (List.forall_mem_nil _)⟩)⟩)⟩)⟩),
    fun h => ft_of (T := FXl) (P := FldXAt (wdOf K)) (List.forall_mem_cons.mpr ⟨fx_fldx (fx_at k2 15 rfl) (fx_at k3 10 rfl), (List.forall_mem_cons.mpr ⟨fx_fldx (fx_at k1 29 rfl) (fx_at k3 9 rfl), (List.forall_mem_cons.mpr ⟨fx_fldx (fx_at k1 29 rfl) (fx_at k3 8 rfl), (List.forall_mem_cons.mpr ⟨fx_fldx (fx_at k1 29 rfl) (fx_at k3 7 rfl), (List.forall_mem_cons.mpr ⟨fx_fldx (fx_at k1 13 rfl) (fx_at k3 6 rfl), (List.forall_mem_cons.mpr ⟨fx_fldx (fx_at k0 26 rfl) (fx_at k3 5 rfl), (List.forall_mem_cons.mpr ⟨fx_fldx (fx_at k0 26 rfl) (fx_at k3 4 rfl), (List.forall_mem_nil _)⟩)⟩)⟩)⟩)⟩)⟩)⟩) h,
    (let ⟨fd, F⟩ := c.d.def_ 6 (d := dd6) rfl; ⟨metAt K "NoAnswer" "__init__", fd, clsAt K "WorkError", clsAt K "NoAnswer", fun_of F, (fun_of (x := "__init__") (q := "NoAnswer.__init__") (st := st_NoAnswer___init__) F).binds (ps := ["self", "step"]) (fun _ _ _ _ _ _ us hl => match us, hl with | [_, _], _ => by kernel_rfl), (fx_glo X G (fx_at k0 24 rfl)), (fx_vei (fx_at k3 12 rfl)).1, (fx_vei (fx_at k3 12 rfl)).2, rfl, fx_xfc (fx_at k2 15 rfl), fx_oex (fx_at k3 13 rfl), (fx_xin (fx_at k3 11 rfl)).1, (fx_xin (fx_at k3 11 rfl)).2, (fx_glo X G (fx_at k0 11 rfl)), (List.forall_mem_cons.mpr ⟨fx_nof (fx_at k3 10 rfl), (List.forall_mem_nil _)⟩)⟩),
    (let ⟨fd, F⟩ := c.d.def_ 7 (d := dd7) rfl; ⟨metAt K "NotFalling" "__init__", fd, clsAt K "WorkError", clsAt K "NotFalling", fun_of F, (fun_of (x := "__init__") (q := "NotFalling.__init__") (st := st_NotFalling___init__) F).binds (ps := ["self", "run", "called", "room"]) (fun _ _ _ _ _ _ us hl => match us, hl with | [_, _, _, _], _ => by kernel_rfl), (fx_glo X G (fx_at k0 24 rfl)), (fx_vei (fx_at k3 12 rfl)).1, (fx_vei (fx_at k3 12 rfl)).2, rfl, fx_xfc (fx_at k1 29 rfl), fx_oex (fx_at k3 15 rfl), (fx_xin (fx_at k3 14 rfl)).1, (fx_xin (fx_at k3 14 rfl)).2, (fx_glo X G (fx_at k0 19 rfl)), (List.forall_mem_cons.mpr ⟨fx_nof (fx_at k3 9 rfl), (List.forall_mem_cons.mpr ⟨fx_nof (fx_at k3 8 rfl), (List.forall_mem_cons.mpr ⟨fx_nof (fx_at k3 7 rfl), (List.forall_mem_nil _)⟩)⟩)⟩)⟩),
    (let ⟨fd, F⟩ := c.d.def_ 8 (d := dd8) rfl; ⟨metAt K "NotNearer" "__init__", fd, clsAt K "WorkError", clsAt K "NotNearer", fun_of F, (fun_of (x := "__init__") (q := "NotNearer.__init__") (st := st_NotNearer___init__) F).binds (ps := ["self", "verdict"]) (fun _ _ _ _ _ _ us hl => match us, hl with | [_, _], _ => by kernel_rfl), (fx_glo X G (fx_at k0 24 rfl)), (fx_vei (fx_at k3 12 rfl)).1, (fx_vei (fx_at k3 12 rfl)).2, rfl, fx_xfc (fx_at k1 13 rfl), fx_oex (fx_at k3 17 rfl), (fx_xin (fx_at k3 16 rfl)).1, (fx_xin (fx_at k3 16 rfl)).2, (fx_glo X G (fx_at k0 20 rfl)), (List.forall_mem_cons.mpr ⟨fx_nof (fx_at k3 6 rfl), (List.forall_mem_nil _)⟩)⟩),
    (let ⟨fd, F⟩ := c.d.def_ 9 (d := dd9) rfl; ⟨metAt K "Unkept" "__init__", fd, clsAt K "WorkError", clsAt K "Unkept", fun_of F, (fun_of (x := "__init__") (q := "Unkept.__init__") (st := st_Unkept___init__) F).binds (ps := ["self", "number", "run"]) (fun _ _ _ _ _ _ us hl => match us, hl with | [_, _, _], _ => by kernel_rfl), (fx_glo X G (fx_at k0 24 rfl)), (fx_vei (fx_at k3 12 rfl)).1, (fx_vei (fx_at k3 12 rfl)).2, rfl, fx_xfc (fx_at k0 26 rfl), fx_oex (fx_at k3 19 rfl), (fx_xin (fx_at k3 18 rfl)).1, (fx_xin (fx_at k3 18 rfl)).2, (fx_glo X G (fx_at k0 23 rfl)), (List.forall_mem_cons.mpr ⟨fx_nof (fx_at k3 5 rfl), (List.forall_mem_cons.mpr ⟨fx_nof (fx_at k3 4 rfl), (List.forall_mem_nil _)⟩)⟩)⟩),
    fun h => it_of (T := ITl) (P := IsAt (wdOf K)) (List.forall_mem_nil _) h,
    fun h => ft_of (T := FTl) (P := FldAt (wdOf K)) (List.forall_mem_nil _) h⟩
theorem law_ok {K : PySem.W.Frag} {h : Heap} {mg : Str → Option Value} {w : World} {f : Addr} (X : K.In h) (G : h.Ns mainGlobals mg) (c : SeenV fnl (fxs fxl) K) (hm : mg "law" = some (.ref f)) :
    ∃ (fd : FuncData) (sp : Sp), (∀ (s : Shared) (u : Value), BindsTo s fd ⟨[u], []⟩ [("script", u)]) ∧ (∀ (H : Hp) (a : Addr) (ns : List Int), ns.length ≤ 63 → SqL K H a (ns.map V.int) → sp [.ref a] H (fun v _ => v = .bl true) fun _ _ _ => False) ∧
      ∀ b : Heap, K.In b → b.Ns mainGlobals mg → FnOk PySem.Challenge.rw_nearerwork_k09_refusals_by_hand.prog w K mg b (L2.CX PySem.Challenge.rw_nearerwork_k09_refusals_by_hand.prog w) 60 f fd ["script"] sp := by
  have B := base_of X G c
  obtain ⟨fd, F⟩ := c.d.def_ 5 (d := dd5) rfl
  have k0 : fxs fxl0 K = true := (fx_l c.more)
  have k1 : fxs fxl1 K = true := (fx_l (fx_r c.more))
  have k2 : fxs fxl2 K = true := (fx_l (fx_r (fx_r c.more)))
  have k3 : fxs fxl3 K = true := ((fx_r (fx_r (fx_r c.more))))
  have e := hm.symm.trans (fx_glo X G (fx_at k0 10 rfl))
  cases e
  have b := FunD.bindsA (ps := ["script"]) F fun _ _ _ _ _ _ us hl => match us, hl with | [_], _ => rfl
  exact ⟨fd, spL K, fun s u => b s [u] rfl, fun H a ns hl S => ⟨a, ns, rfl, hl, S, fun _ _ e => e⟩, fun _ _ _ => (ok_law_k09 (facts_all B 29) (fun_of F)).imp fun vs H Q E h => spL_of law_true h⟩
end VI
open PySem PySem.W PySem.Calls PyProof.Rows
set_option maxHeartbeats 0 in
theorem PySem.Challenge.cw_nearerwork_k09_refusals_by_hand_holds : PySem.Challenge.rw_nearerwork_k09_refusals_by_hand.Holds := by
  w_on; o_law
  refine HandSHeadRun.head_any (r := VI.RR) (q := view VI.RR.prog [21]) (H := VI.hk) (ob := VI.obT) (M := 40000) (loose := VI.loo) (d := HandSHeadRun.topDef VI.RR.prog 21) (kwd := []) VI.obT_eq
    (by kernel_rfl) (fun s => by kernel_rfl) VI.run (by kernel_rfl) (by kernel_rfl) (by kernel_rfl) (by rfl) (by first | assumption | decide +kernel) (by decide +kernel) ⟨rfl, rfl, rfl, rfl, rfl, by decide +kernel⟩ ?hw ?hc
  case hw => w_witness2
  case hc =>
    refine VI.law_end (l := PySem.Challenge.rw_nearerwork_k09_refusals_by_hand) (n := 63) (k := 60) (x := "script") rfl (by decide) (by kernel_rfl) ⟨rfl, by decide, by decide⟩ ?F
    intro w mg fa h Y G hm0
    obtain ⟨K, KX, c⟩ := Y
    have hm : mg ("law" : PySem.Str) = some (.ref fa) := by
      have e : (HandSHeadRun.topDef VI.RR.prog 21).name = ("law" : PySem.Str) := by kernel_rfl
      rw [← e]
      exact hm0
    obtain ⟨fd, sp, h1, h2, h3⟩ := VI.law_ok KX G c hm
    exact ⟨K, fd, sp, KX, h1, h2, h3⟩
