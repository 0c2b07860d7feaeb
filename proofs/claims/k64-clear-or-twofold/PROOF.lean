import PyProof.Rows.All
import Wide.All
import OpenK.AllK
import Wide.FinOn
import HandS.ForMost
import HandS.Conv
import HandS.Wide
import HandS.TupAny
import HandS.Deep
import HandS.TupLe
import HandS.ForExc
import HandS.IsInst
import HandS.SortInts
import HandS.TupMul
import HandS.WideBits
import HandS.Zip
import HandS.Text
import HandS.ExcInit
import KE.KExcIs
import KE.KIsAll
import HandS.SetFor
import HandS.ExcIs
import KE.KRevSl
import HandS.FStr
import HandS.Dict
import HandS.Comp
import KE.GoesRaise
import KE.GoesComp
import HandS.Set
import HandS.Strs
import KE.SortData
import KE.DatumOrd
import HandS.More
import HandS.Iter
import HandS.SetKeys
import HandS.Words
import HandS.Head0
import HandS.Head1
import HandS.Head2
import HandS.HeadEnd
import HandS.HeadHook1
import HandS.HeadHook2
import HandS.HeadHook3
import HandS.HeadHook4
import KE.KDictKeyed
import HandS.CallSlots
import HandS.Defaults
import KE.KDictDisplayH
import PyProof.Rows.SeqRoads
import HandS.TryMany
import HandS.Style
import KE.KEqDict
import PyProof.Rows.SortStr
import HandS.Remove
import HandS.TryOnly
import HandS.Flow
import KE.DataCmp
import KE.KDictPairs
import PySem.Challenge.RW_chordbed_k64_whole_clear_or_twofold
set_option Elab.async false
set_option maxRecDepth 100000
set_option linter.all false
set_option maxHeartbeats 1000000
namespace MP
open PySem PySem.Spec PyProof.Rows
def oexB (K : PySem.W.Frag) (C : Addr) : Bool := match K.lookup C with
  | some ⟨.type c, _, .cls cd, sl⟩ => (match cd.mro, sl.toList with
    | .ref C' :: bm, [_, _, _, _, some (.builtin n), _] => decide (c = "type") && (decide (C' = C) && (decide (n = "ValueError.__new__") && (!cd.hasDel && (cd.hasDict && PySem.HandSPX.refsVE bm))))
    | _, _ => false)
  | _ => false
/-- what a class call finds -/
def fclsB (K : PySem.W.Frag) (C : Addr) (m : Str) (n : String) : Bool := match PySem.W.findCls K (.ref C) (.type "type") m with
  | some (.val (.builtin x)) => decide (x = n)
  | _ => false
def inL (a : Addr) : List Addr → Bool
  | [] => false
  | b :: r => match Nat.beq a b with
    | true => true
    | false => inL a r
/-- the objects at as, in front of acc -/
def frK {α : Type} (g : Addr → Option Obj) : List Addr → PySem.W.Frag → (PySem.W.Frag → α) → α
  | [], acc, k => k acc
  | a :: r, acc, k => match g a with
    | some ⟨c, d, dt, sl⟩ => frK g r ((a, ⟨c, d, dt, sl⟩) :: acc) k
    | none => frK g r acc k
/-- what of as is new -/
def frN {α : Type} : List Addr → List Addr → List Addr → (List Addr → List Addr → α) → α
  | [], new, seen, k => k new seen
  | a :: r, new, seen, k => HandSHeadRun.frNat a fun a => match inL a seen with
    | true => frN r new seen k
    | false => frN r (a :: new) (a :: seen) k
def frLev {α : Type} (g : Addr → Option Obj) : Nat → List Addr → List Addr → (List Addr → α) → α
  | 0, _, seen, k => k seen
  | n + 1, new, seen, k => frK g new [] fun K => frN (K.flatMap fun q => He.refsO q.2) [] seen fun new seen => frLev g n new seen k
def FragG (g : Addr → Option Obj) (K : PySem.W.Frag) : Prop := ∀ a o, K.lookup a = some o → g a = some o
theorem frK_ok {α : Type} {g : Addr → Option Obj} {k : PySem.W.Frag → α} : ∀ (as : List Addr) (acc : PySem.W.Frag), FragG g acc → ∃ K, FragG g K ∧ frK g as acc k = k K
  | [], acc, h => ⟨acc, h, rfl⟩
  | a :: r, acc, h => by
    cases e : g a with
    | none =>
      obtain ⟨K, h1, h2⟩ := frK_ok (k := k) r acc h
      refine ⟨K, h1, ?_⟩
      rw [← h2, frK, e]
    | some o =>
      obtain ⟨c, d, dt, sl⟩ := o
      have h0 : FragG g ((a, ⟨c, d, dt, sl⟩) :: acc) := fun b o hb => by
        have hb2 : (match b == a with | true => some (⟨c, d, dt, sl⟩ : Obj) | false => List.lookup b acc) = some o := hb
        cases q : (b == a) with
        | true =>
          rw [q] at hb2
          rw [beq_iff_eq.mp q, e]
          exact hb2
        | false =>
          rw [q] at hb2
          exact h b o hb2
      obtain ⟨K, h1, h2⟩ := frK_ok (k := k) r _ h0
      refine ⟨K, h1, ?_⟩
      rw [← h2, frK, e]
theorem frN_ok {α : Type} {k : List Addr → List Addr → α} : ∀ (as new seen : List Addr), ∃ x y, frN as new seen k = k x y
  | [], new, seen => ⟨new, seen, rfl⟩
  | a :: r, new, seen => by
    rw [frN, HandSHeadRun.frNat_eq]
    cases inL a seen
    · exact frN_ok r _ _
    · exact frN_ok r _ _
theorem frLev_ok {α : Type} {g : Addr → Option Obj} {k : List Addr → α} : ∀ (n : Nat) (new seen : List Addr), ∃ x, frLev g n new seen k = k x
  | 0, _, seen => ⟨seen, rfl⟩
  | n + 1, new, seen => by
    rw [frLev]
    obtain ⟨K, _, h⟩ := frK_ok (g := g) (k := fun K => frN (K.flatMap fun q => He.refsO q.2) [] seen fun new seen => frLev g n new seen k) new [] (fun _ _ e => by cases e)
    rw [h]
    obtain ⟨x, y, h2⟩ := frN_ok (k := fun new seen => frLev g n new seen k) (K.flatMap fun q => He.refsO q.2) [] seen
    rw [h2]
    exact frLev_ok n x y
/-- rs: the names of the top that are looked at; n: how far -/
def obsZ (n : Nat) (rs : List Str) (fa : List He.Fa) (fn : List He.DefD) (ts : List He.Tab) (ex : PySem.W.Frag → Bool) (g : Addr → Option Obj) : He.AlX :=
  frK g [mainGlobals] [] fun K0 => frN (rs.map (He.ga K0)) [] [PySem.cStatics, mainGlobals] fun new seen => frLev g n new seen fun as => frK g as [] fun K => (He.obsT fa fn ts K, ex K)
theorem obsZ_ok {n : Nat} {rs : List Str} {fa : List He.Fa} {fn : List He.DefD} {ts : List He.Tab} {ex : PySem.W.Frag → Bool} {g : Addr → Option Obj} : ∃ K, FragG g K ∧ obsZ n rs fa fn ts ex g = (He.obsT fa fn ts K, ex K) := by
  unfold obsZ
  obtain ⟨K0, _, h⟩ := frK_ok (g := g) (k := fun K0 => frN (rs.map (He.ga K0)) [] [PySem.cStatics, mainGlobals] fun new seen => frLev g n new seen fun as => frK g as [] fun K => ((He.obsT fa fn ts K, ex K) : He.AlX)) [mainGlobals] [] (fun _ _ e => by cases e)
  rw [h]
  obtain ⟨x, y, h2⟩ := frN_ok (k := fun new seen => frLev g n new seen fun as => frK g as [] fun K => ((He.obsT fa fn ts K, ex K) : He.AlX)) (rs.map (He.ga K0)) [] [PySem.cStatics, mainGlobals]
  rw [h2]
  obtain ⟨z, h3⟩ := frLev_ok (g := g) (k := fun as => frK g as [] fun K => ((He.obsT fa fn ts K, ex K) : He.AlX)) n x y
  rw [h3]
  exact frK_ok z [] (fun _ _ e => by cases e)
def hookZ (n : Nat) (rs : List Str) (fa : List He.Fa) (fn : List He.DefD) (ts : List He.Tab) (ex : PySem.W.Frag → Bool) : PySem.W.Hook where
  α := He.AlX
  obs := fun s => obsZ n rs fa fn ts ex s.heap.get?
  val := fun w => He.valX fn ts w
  says := fun w h => ∃ K : PySem.W.Frag, K.In h ∧ He.SaysX fa fn ts [] ex w h K
  of := fun w s e => by
    obtain ⟨K, h1, h2⟩ := obsZ_ok (n := n) (rs := rs) (fa := fa) (fn := fn) (ts := ts) (ex := ex) (g := s.heap.get?)
    rw [h2] at e
    exact ⟨K, h1, congrArg (fun z : He.AlX => z.1) e, congrArg (fun z : He.AlX => z.2) e, (fun _ h => nomatch h), (fun _ h => nomatch h), fun _ h => nomatch h⟩
  keeps := fun _ _ _ ⟨K, hK, c⟩ k => ⟨K, PySem.W.Frag.In.keeps hK k, ⟨c.t, c.more, c.hd, c.out, fun p hp => k _ _ (c.empty p hp)⟩⟩
theorem obsZ_eq {n : Nat} {rs : List Str} {fa : List He.Fa} {fn : List He.DefD} {ts : List He.Tab} {ex : PySem.W.Frag → Bool} {g : Addr → Option Obj} {s : Shared} (h : ∀ a, g a = s.heap.get? a) : obsZ n rs fa fn ts ex g = (hookZ n rs fa fn ts ex).obs s := by
  have e : g = s.heap.get? := funext h
  rw [e] <;> rfl
theorem row2 {P : World → Prop} (row : String) (h0 : ∀ w : World, P (w.withFollow row false)) (h1 : ∀ w : World, P (w.withFollow row true)) : ∀ w, P w := fun w => by
  have e := World.withFollow_self w row
  cases hb : w.params.followText row <;> rw [hb] at e
  · rw [← e]; exact h0 w
  · rw [← e]; exact h1 w
end MP

namespace H_k64
open PySem PySem.Spec PyProof.Rows L2 MP
def top (i : Nat) : Stmt := PySem.Challenge.pw_chordbed_k64_whole_clear_or_twofold.main.body.getD i (.Pass ⟨0, 0, 0, 0⟩)
abbrev s_l_cell : Stmt := top 14
abbrev s_l_stirred : Stmt := top 15
abbrev s_l_wide : Stmt := top 16
abbrev s_l_names : Stmt := top 20
abbrev s_l_name_of : Stmt := top 21
abbrev s_l_stroke_of : Stmt := top 22
abbrev s_l_read_book : Stmt := top 23
abbrev s_l_stream : Stmt := top 17
abbrev s_l_stroke : Stmt := top 19
abbrev s_l_book : Stmt := top 24
abbrev s_l_drawn : Stmt := top 29
abbrev s_begins : Stmt := top 1
abbrev s_first_ways : Stmt := top 2
abbrev s_next_ways : Stmt := top 3
abbrev s_ways_of : Stmt := top 4
abbrev s_twofold : Stmt := top 6
abbrev s_written : Stmt := top 11
abbrev s_read_strokes : Stmt := top 12
abbrev s_rests : Stmt := top 5
abbrev s_l_written : Stmt := top 25
abbrev s_l_row : Stmt := top 26
abbrev s_l_twofold : Stmt := top 28
abbrev s_l_asked : Stmt := top 30
abbrev s_law : Stmt := top 31
abbrev s_NoWord___init__ : Stmt := inClass (top 9) 0
def hNm0 : List Str := [("__name__" : Str), ("begins" : Str), ("first_ways" : Str), ("next_ways" : Str), ("ways_of" : Str), ("rests" : Str), ("twofold" : Str), ("BedError" : Str), ("NoWord" : Str), ("written" : Str), ("read_strokes" : Str), ("_law_cell" : Str), ("_law_stirred" : Str), ("_law_wide" : Str), ("_law_stream" : Str), ("_law_whole" : Str), ("_law_stroke" : Str), ("_law_names" : Str), ("_law_name_of" : Str), ("_law_stroke_of" : Str), ("_law_read_book" : Str), ("_law_book" : Str), ("_law_written" : Str), ("_law_row" : Str), ("_law_strokes" : Str), ("_law_twofold" : Str), ("_law_drawn" : Str), ("_law_asked" : Str)]
def hNm : List Str := hNm0
def hFa0 : List He.Fa := [.meth "NoWord" "__init__", .glo "NoWord", .glo "BedError", .noat "NoWord" "word", .glo "_law_cell", .glo "_law_stirred", .glo "_law_wide", .glo "_law_names", .glo "_law_name_of", .glo "_law_stroke_of", .glo "_law_read_book", .glo "_law_stream", .glo "_law_stroke", .glo "_law_book", .glo "_law_drawn", .glo "begins", .glo "first_ways", .glo "next_ways", .glo "ways_of", .glo "twofold", .glo "written", .glo "read_strokes", .glo "rests", .glo "_law_written", .glo "_law_row", .glo "_law_twofold", .glo "_law_asked", .glo "law", .free "all", .free "dict"]
def hFa1 : List He.Fa := [.free "isinstance", .free "len", .free "list", .free "max", .free "range", .free "sorted", .free "str", .free "tuple"]
def hFa : List He.Fa := hFa0 ++ (hFa1)
def hFn0 : List He.DefD := [⟨("_law_cell", none), "_law_cell", "_law_cell", defArgs s_l_cell, defBody s_l_cell, defScope s_l_cell, [], []⟩, ⟨("_law_stirred", none), "_law_stirred", "_law_stirred", defArgs s_l_stirred, defBody s_l_stirred, defScope s_l_stirred, [], []⟩, ⟨("_law_wide", none), "_law_wide", "_law_wide", defArgs s_l_wide, defBody s_l_wide, defScope s_l_wide, [], []⟩, ⟨("_law_names", none), "_law_names", "_law_names", defArgs s_l_names, defBody s_l_names, defScope s_l_names, [], []⟩, ⟨("_law_name_of", none), "_law_name_of", "_law_name_of", defArgs s_l_name_of, defBody s_l_name_of, defScope s_l_name_of, [], []⟩, ⟨("_law_stroke_of", none), "_law_stroke_of", "_law_stroke_of", defArgs s_l_stroke_of, defBody s_l_stroke_of, defScope s_l_stroke_of, [], []⟩, ⟨("_law_read_book", none), "_law_read_book", "_law_read_book", defArgs s_l_read_book, defBody s_l_read_book, defScope s_l_read_book, [], []⟩, ⟨("_law_stream", none), "_law_stream", "_law_stream", defArgs s_l_stream, defBody s_l_stream, defScope s_l_stream, [], []⟩, ⟨("_law_stroke", none), "_law_stroke", "_law_stroke", defArgs s_l_stroke, defBody s_l_stroke, defScope s_l_stroke, [], []⟩, ⟨("_law_book", none), "_law_book", "_law_book", defArgs s_l_book, defBody s_l_book, defScope s_l_book, [], []⟩, ⟨("_law_drawn", none), "_law_drawn", "_law_drawn", defArgs s_l_drawn, defBody s_l_drawn, defScope s_l_drawn, [], []⟩, ⟨("begins", none), "begins", "begins", defArgs s_begins, defBody s_begins, defScope s_begins, [], []⟩, ⟨("first_ways", none), "first_ways", "first_ways", defArgs s_first_ways, defBody s_first_ways, defScope s_first_ways, [], []⟩, ⟨("next_ways", none), "next_ways", "next_ways", defArgs s_next_ways, defBody s_next_ways, defScope s_next_ways, [], []⟩, ⟨("ways_of", none), "ways_of", "ways_of", defArgs s_ways_of, defBody s_ways_of, defScope s_ways_of, [], []⟩, ⟨("twofold", none), "twofold", "twofold", defArgs s_twofold, defBody s_twofold, defScope s_twofold, [], []⟩, ⟨("written", none), "written", "written", defArgs s_written, defBody s_written, defScope s_written, [], []⟩, ⟨("read_strokes", none), "read_strokes", "read_strokes", defArgs s_read_strokes, defBody s_read_strokes, defScope s_read_strokes, [], []⟩, ⟨("rests", none), "rests", "rests", defArgs s_rests, defBody s_rests, defScope s_rests, [], []⟩, ⟨("_law_written", none), "_law_written", "_law_written", defArgs s_l_written, defBody s_l_written, defScope s_l_written, [], []⟩, ⟨("_law_row", none), "_law_row", "_law_row", defArgs s_l_row, defBody s_l_row, defScope s_l_row, [], []⟩, ⟨("_law_twofold", none), "_law_twofold", "_law_twofold", defArgs s_l_twofold, defBody s_l_twofold, defScope s_l_twofold, [], []⟩, ⟨("_law_asked", none), "_law_asked", "_law_asked", defArgs s_l_asked, defBody s_l_asked, defScope s_l_asked, [], []⟩, ⟨("law", none), "law", "law", defArgs s_law, defBody s_law, defScope s_law, [], []⟩, ⟨("NoWord", some "__init__"), "__init__", "NoWord.__init__", defArgs s_NoWord___init__, defBody s_NoWord___init__, defScope s_NoWord___init__, [], []⟩]
def hFn : List He.DefD := hFn0
def hTs : List He.Tab := []
def hXs0 (K : PySem.W.Frag) : List Bool := [decide (PySem.W.findIn K (.ref (He.ga K "NoWord")) "__setattr__" = some (some (.builtin "object.__setattr__"))), oexB K (He.ga K "NoWord"), decide (PySem.W.subIn K (.ref (He.ga K "NoWord")) (.type "BaseException") = some true), decide (PySem.W.typeIn K (.ref (He.ga K "NoWord")) = some (.type "type")), PySem.W.keepIn K (.ref (He.ga K "NoWord")), PySem.W.readsIn K (He.ga K "BedError") (.type "type"), decide (PySem.W.specialIn K (.ref (He.ga K "BedError")) "__getattribute__" = some (some (.builtin "type.__getattribute__"))), fclsB K (He.ga K "BedError") "__init__" "ValueError.__init__", PySem.W.isClsIn K (He.ga K "NoWord"), decide (PySem.W.findIn K (.ref (He.ga K "NoWord")) "__getattribute__" = some (some (.builtin "BaseException.__getattribute__"))), decide (PySem.W.findIn K (.ref (He.ga K "NoWord")) "__getattr__" = some none), decide (PySem.W.findIn K (.ref (He.ga K "NoWord")) "__class__" = some (some (.builtin "object.__class__"))), decide (PySem.W.mroIn K (He.ga K "NoWord") (.type "object") = some true), PySem.W.hasDictIn K (He.ga K "NoWord"), decide (PySem.W.typeIn K (.ref (He.ma K (He.ga K "NoWord") "__init__")) = some (.type "function")), decide (PySem.W.specialIn K (.builtin "object.__class__") "__get__" = some (some (.builtin "getset_descriptor.__get__"))), decide (PySem.W.takesIn K (.builtin "object.__class__") = some true)]
def hXs (K : PySem.W.Frag) : List Bool := hXs0 K
def hEx (K : PySem.W.Frag) : Bool := (hXs K).all id
def hRs0 : List Str := ["NoWord", "BedError", "_law_cell", "_law_stirred", "_law_wide", "_law_names", "_law_name_of", "_law_stroke_of", "_law_read_book", "_law_stream", "_law_stroke", "_law_book", "_law_drawn", "begins", "first_ways", "next_ways", "ways_of", "twofold", "written", "read_strokes", "rests", "_law_written", "_law_row", "_law_twofold", "_law_asked", "law"]
def hRs : List Str := hRs0
abbrev hR : PySem.W.OpenRow := PySem.W.OpenLaw.row PySem.Challenge.rw_chordbed_k64_whole_clear_or_twofold
def hQ : Program := PySem.W.view hR.prog [31]
def hk : PySem.W.Hook := MP.hookZ 5 hRs hFa hFn hTs hEx
def hOb (s : PySem.W.SharedT) : He.AlX := MP.obsZ 5 hRs hFa hFn hTs hEx (HandSHeadRun.getT s)
theorem hOb_eq (s : PySem.W.SharedT) : hOb s = hk.obs s.abs := MP.obsZ_eq (HandSHeadRun.getT_eq s)
theorem run_false (w : World) : HandSHeadRun.RunEq hR hQ hk hOb 8000 hNm (w.withFollow "special-get-raises" false) := by
  intro os
  kernel_rfl
theorem run_true (w : World) : HandSHeadRun.RunEq hR hQ hk hOb 8000 hNm (w.withFollow "special-get-raises" true) := by
  intro os
  kernel_rfl
theorem run (w : World) : HandSHeadRun.RunEq hR hQ hk hOb 8000 hNm w := MP.row2 "special-get-raises" run_false run_true w
end H_k64

namespace MP
open PySem PySem.Spec PyProof.Rows L2

/-- a value by its content -/
inductive D where
  | none | bool (b : Bool) | int (i : Int) | str (x : Str) | list (xs : List D) | lk (xs : List D) | tup (xs : List D) | dic (kvs : List (Key × D)) | obj (n : Nat) | xv (c : Str) (fs : List (Str × D)) | btp (xs : List D)
  deriving Inhabited

mutual
def D.py : D → PyData
  | .none => .none
  | .bool b => .bool b
  | .int i => .int i
  | .str x => .str x
  | .list xs => .list (pys xs)
  | .lk xs => .list (pys xs)
  | .tup xs => .tuple (pys xs)
  | .dic _ => .dict []
  | .obj _ => .dict []
  | .xv _ _ => .dict []
  | .btp _ => .dict []
def pys : List D → List PyData
  | [] => []
  | x :: xs => x.py :: pys xs
end
/-- at a: a caught exception of the class at C, its dict (none | at d) -/
def exv (a C : Addr) (d : Option Addr) : HO := .ext fun h => ∃ (oe : Obj) (vs : Array Value), h.get? a = some oe ∧ Zc (.ref C) d oe ∧ oe.data = .fields vs
/-- the class that a name of the top stands for -/
def NmC (K : PySem.W.Frag) (c : Str) (C : Addr) : Prop := PySem.W.nsIn K mainGlobals c = some (some (.ref C))
theorem NmC.eq {K : PySem.W.Frag} {c : Str} {C C' : Addr} (h : NmC K c C) (h' : NmC K c C') : C = C' := by
  have := h.symm.trans h'
  cases this
  rfl
mutual
inductive DR (K : PySem.W.Frag) (m : List Addr) (H : Hp) : V → D → Prop
  | non : DR K m H .non .none
  | bl (b : Bool) : DR K m H (.bl b) (.bool b)
  | int (i : Int) : DR K m H (.int i) (.int i)
  | str (x : Str) : DR K m H (.str x) (.str x)
  | list {a : Addr} {xs : List V} {ds : List D} : H a = some (.lst xs) → DRs K m H xs ds → DR K m H (.ref a) (.list ds)
  | lk {a : Addr} {xs : List V} {ds : List D} : SqL K H a xs → DRs K m H xs ds → DR K m H (.ref a) (.lk ds)
  | tup {a : Addr} {xs : List V} {ds : List D} : SqT K H a xs → DRs K m H xs ds → DR K m H (.ref a) (.tup ds)
  | dic {a : Addr} {ks : List (Key × V)} {kvs : List (Key × D)} : H a = some (.dK ks) → DRk K m H ks kvs → DR K m H (.ref a) (.dic kvs)
  | obj {a : Addr} {n : Nat} : m[n]? = some a → DR K m H (.ref a) (.obj n)
  | xn {a C : Addr} {c : Str} : NmC K c C → H a = some (exv a C none) → DR K m H (.ref a) (.xv c [])
  | xf {a C dd : Addr} {c : Str} {vs : List (Str × V)} {fs : List (Str × D)} : NmC K c C → H a = some (exv a C (some dd)) → H dd = some (.xd vs) → DRf K m H vs fs → DR K m H (.ref a) (.xv c fs)
  | btp {a : Addr} {o : Obj} {xs : List V} {ds : List D} : H a = some (.frz o (.tup xs)) → o.dict = Option.none → DRs K m H xs ds → DR K m H (.ref a) (.btp ds)
inductive DRs (K : PySem.W.Frag) (m : List Addr) (H : Hp) : List V → List D → Prop
  | nil : DRs K m H [] []
  | cons {v : V} {vs : List V} {d : D} {ds : List D} : DR K m H v d → DRs K m H vs ds → DRs K m H (v :: vs) (d :: ds)
inductive DRk (K : PySem.W.Frag) (m : List Addr) (H : Hp) : List (Key × V) → List (Key × D) → Prop
  | nil : DRk K m H [] []
  | cons {k : Key} {v : V} {vs : List (Key × V)} {d : D} {ds : List (Key × D)} : DR K m H v d → DRk K m H vs ds → DRk K m H ((k, v) :: vs) ((k, d) :: ds)
inductive DRf (K : PySem.W.Frag) (m : List Addr) (H : Hp) : List (Str × V) → List (Str × D) → Prop
  | nil : DRf K m H [] []
  | cons {k : Str} {v : V} {vs : List (Str × V)} {d : D} {ds : List (Str × D)} : DR K m H v d → DRf K m H vs ds → DRf K m H ((k, v) :: vs) ((k, d) :: ds)
end

theorem Same.seqT {K : PySem.W.Frag} {H H' : Hp} {a : Addr} {xs : List V} (e : Same H H') (h : SqT K H a xs) : SqT K H' a xs := by
  rcases h with (h | ⟨o, h⟩) | h
  · exact .inl (.inl (e _ _ h))
  · exact .inl (.inr ⟨o, e _ _ h⟩)
  · exact .inr h

def MLe (m m' : List Addr) : Prop := ∀ (n : Nat) (a : Addr), m[n]? = some a → m'[n]? = some a
theorem MLe.refl (m : List Addr) : MLe m m := fun _ _ h => h
theorem MLe.trans {m1 m2 m3 : List Addr} (a : MLe m1 m2) (b : MLe m2 m3) : MLe m1 m3 := fun n x h => b n x (a n x h)
theorem MLe.snoc (m : List Addr) (x : Addr) : MLe m (m ++ [x]) := fun n a h => by
  have hl : n < m.length := (List.getElem?_eq_some_iff.mp h).1
  rw [List.getElem?_append_left hl]
  exact h

section
variable {K : PySem.W.Frag} {m m' : List Addr} {H H' : Hp}
mutual
theorem DR.mono (hm : MLe m m') (hs : Same H H') : ∀ (d : D) (v : V), DR K m H v d → DR K m' H' v d
  | .none, _, h => by cases h; exact .non
  | .bool b, _, h => by cases h; exact .bl b
  | .int i, _, h => by cases h; exact .int i
  | .str x, _, h => by cases h; exact .str x
  | .list ds, _, h => by
    cases h with
    | list h1 h2 => exact .list (hs _ _ h1) (DRs.mono hm hs ds _ h2)
  | .lk ds, _, h => by
    cases h with
    | lk h1 h2 => exact .lk (hs.seq h1) (DRs.mono hm hs ds _ h2)
  | .tup ds, _, h => by
    cases h with
    | tup h1 h2 => exact .tup (Same.seqT hs h1) (DRs.mono hm hs ds _ h2)
  | .dic kvs, _, h => by
    cases h with
    | dic h1 h2 => exact .dic (hs _ _ h1) (DRk.mono hm hs kvs _ h2)
  | .obj n, _, h => by
    cases h with
    | obj h1 => exact .obj (hm _ _ h1)
  | .xv c fs, _, h => by
    cases h with
    | xn h1 h2 => exact .xn h1 (hs _ _ h2)
    | xf h1 h2 h3 h4 => exact .xf h1 (hs _ _ h2) (hs _ _ h3) (DRf.mono hm hs fs _ h4)
  | .btp ds, _, h => by
    cases h with
    | btp h1 h2 h3 => exact .btp (hs _ _ h1) h2 (DRs.mono hm hs ds _ h3)
theorem DRs.mono (hm : MLe m m') (hs : Same H H') : ∀ (ds : List D) (vs : List V), DRs K m H vs ds → DRs K m' H' vs ds
  | [], _, h => by cases h; exact .nil
  | d :: ds, _, h => by
    cases h with
    | cons h1 h2 => exact .cons (DR.mono hm hs d _ h1) (DRs.mono hm hs ds _ h2)
theorem DRk.mono (hm : MLe m m') (hs : Same H H') : ∀ (ds : List (Key × D)) (vs : List (Key × V)), DRk K m H vs ds → DRk K m' H' vs ds
  | [], _, h => by cases h; exact .nil
  | (k, d) :: ds, _, h => by
    cases h with
    | cons h1 h2 => exact .cons (DR.mono hm hs d _ h1) (DRk.mono hm hs ds _ h2)
theorem DRf.mono (hm : MLe m m') (hs : Same H H') : ∀ (ds : List (Str × D)) (vs : List (Str × V)), DRf K m H vs ds → DRf K m' H' vs ds
  | [], _, h => by cases h; exact .nil
  | (k, d) :: ds, _, h => by
    cases h with
    | cons h1 h2 => exact .cons (DR.mono hm hs d _ h1) (DRf.mono hm hs ds _ h2)
end
theorem DR.up {v : V} {d : D} (h : DR K m H v d) (hs : Same H H') : DR K m H' v d := DR.mono (MLe.refl m) hs d v h
theorem DRs.up {v : List V} {d : List D} (h : DRs K m H v d) (hs : Same H H') : DRs K m H' v d := DRs.mono (MLe.refl m) hs d v h
theorem DRk.up {v : List (Key × V)} {d : List (Key × D)} (h : DRk K m H v d) (hs : Same H H') : DRk K m H' v d := DRk.mono (MLe.refl m) hs d v h
theorem DRs.length : ∀ {vs : List V} {ds : List D}, DRs K m H vs ds → vs.length = ds.length
  | _, _, .nil => rfl
  | _, _, .cons _ t => by simp [DRs.length t]
theorem DRs.get : ∀ {vs : List V} {ds : List D} {i : Nat} {d : D}, DRs K m H vs ds → ds[i]? = some d → ∃ v, vs[i]? = some v ∧ DR K m H v d
  | _, _, _, _, .nil, e => by simp at e
  | _, _, 0, _, .cons r _, e => by simp at e; subst e; exact ⟨_, rfl, r⟩
  | _, _, i + 1, d, .cons _ t, e => by
    obtain ⟨v, h1, h2⟩ := DRs.get (i := i) (d := d) t (by simpa using e)
    exact ⟨v, by simpa using h1, h2⟩
theorem DRs.append : ∀ {xs ys : List V} {us ws : List D}, DRs K m H xs us → DRs K m H ys ws → DRs K m H (xs ++ ys) (us ++ ws)
  | _, _, _, _, .nil, s => s
  | _, _, _, _, .cons r t, s => .cons r (DRs.append t s)
theorem DRs.set {x : V} {u : D} (r : DR K m H x u) : ∀ {xs : List V} {us : List D} (i : Nat), DRs K m H xs us → DRs K m H (xs.set i x) (us.set i u)
  | _, _, _, .nil => .nil
  | _, _, 0, .cons _ t => .cons r t
  | _, _, i + 1, .cons q t => .cons q (DRs.set r i t)
theorem DRs.take : ∀ {xs : List V} {us : List D} (n : Nat), DRs K m H xs us → DRs K m H (xs.take n) (us.take n)
  | _, _, 0, _ => .nil
  | _, _, _ + 1, .nil => .nil
  | _, _, n + 1, .cons r t => .cons r (DRs.take n t)
theorem DRs.drop : ∀ {xs : List V} {us : List D} (n : Nat), DRs K m H xs us → DRs K m H (xs.drop n) (us.drop n)
  | _, _, 0, r => r
  | _, _, _ + 1, .nil => .nil
  | _, _, n + 1, .cons _ t => DRs.drop n t
theorem DRs.reverse {xs : List V} {us : List D} (h : DRs K m H xs us) : DRs K m H xs.reverse us.reverse := by
  induction us generalizing xs with
  | nil => cases h; exact .nil
  | cons d ds ih =>
    cases h with
    | cons h1 h2 =>
      rw [List.reverse_cons, List.reverse_cons]
      exact (ih h2).append (.cons h1 .nil)
theorem DRs.ints : ∀ {ns : List Int}, DRs K m H (ns.map V.int) (ns.map D.int)
  | [] => .nil
  | _ :: _ => .cons (.int _) DRs.ints
end

/-- what a name holds: nothing, a value that nobody changes, a list or dict of its own, one of its own that is put away for a while, a tuple whose k-th is of its own -/
inductive Slot where
  | un | v (d : D) | own (d : D) | hid (a : Addr) | tpo (k : Nat) (ds : List D)
structure Ob where
  cls : Nat
  fs : List (Nat × Slot)
structure Sta where
  env : List Slot
  st : List Ob
/-- the names of classes and attributes -/
structure Tab where
  ca : Nat → Addr
  nm : Nat → Str
  inj : ∀ i j, nm i = nm j → i = j
  w : World

/-- an object of its own stands by content -/
inductive ObD (K : PySem.W.Frag) (m : List Addr) (M : Hp) : HO → D → Prop
  | lst {xs : List V} {ds : List D} : DRs K m M xs ds → ObD K m M (.lst xs) (.list ds)
  | dic {xs : List (Key × V)} {ds : List (Key × D)} : DRk K m M xs ds → ObD K m M (.dK xs) (.dic ds)
theorem ObD.mono {K : PySem.W.Frag} {m m' : List Addr} {M M' : Hp} {o : HO} {d : D} (h : ObD K m M o d) (hm : MLe m m') (hs : Same M M') : ObD K m' M' o d := by
  cases h with
  | lst h => exact .lst (DRs.mono hm hs _ _ h)
  | dic h => exact .dic (DRk.mono hm hs _ _ h)
theorem ObD.dr {K : PySem.W.Frag} {m : List Addr} {M H : Hp} {o : HO} {d : D} {a : Addr} (h : ObD K m M o d) (hs : Same M H) (e : H a = some o) : DR K m H (.ref a) d := by
  cases h with
  | lst h => exact .list e (h.up hs)
  | dic h => exact .dic e (h.up hs)

def SlotR (K : PySem.W.Frag) (m : List Addr) (M H : Hp) : Slot → Option V → List Addr → Prop
  | .un, _, fp => fp = []
  | .v d, x, fp => fp = [] ∧ ∃ y, x = some y ∧ DR K m M y d
  | .own d, x, fp => ∃ a o, fp = [a] ∧ x = some (.ref a) ∧ H a = some o ∧ ObD K m M o d
  | .hid a, x, fp => fp = [] ∧ x = some (.ref a)
  | .tpo k ds, x, fp => ∃ t a o vs d, fp = [a] ∧ x = some (.ref t) ∧ M t = some (.tup vs) ∧ vs.length = ds.length ∧ vs[k]? = some (.ref a) ∧ ds[k]? = some d ∧ H a = some o ∧ ObD K m M o d ∧ ∀ j v e, j ≠ k → vs[j]? = some v → ds[j]? = some e → DR K m M v e
def SlotsR (K : PySem.W.Frag) (m : List Addr) (M H : Hp) : List Slot → List (Option V) → List Addr → Prop
  | [], [], fp => fp = []
  | s :: ss, x :: xs, fp => ∃ f1 f2, fp = f1 ++ f2 ∧ SlotR K m M H s x f1 ∧ SlotsR K m M H ss xs f2
  | _, _, _ => False
def FsR (K : PySem.W.Frag) (nm : Nat → Str) (m : List Addr) (M H : Hp) : List (Nat × Slot) → List (Str × V) → List Addr → Prop
  | [], [], fp => fp = []
  | (i, s) :: ss, (x, v) :: xs, fp => ∃ f1 f2, fp = f1 ++ f2 ∧ x = nm i ∧ SlotR K m M H s (some v) f1 ∧ FsR K nm m M H ss xs f2
  | _, _, _ => False
/-- the class number of boxes: a list or dict of its own that stands among the objects -/
def boxC : Nat := 4095
/-- the class number of dicts whose keys are texts that the text names: each entry a slot -/
def dctC : Nat := 4094
/-- the class number of dicts whose keys are tuples, nested: their content in one field -/
def ndC : Nat := 4093
abbrev NB (c : Nat) : Prop := c ≠ boxC ∧ c ≠ ndC
abbrev IsI (c : Nat) : Prop := NB c ∧ c ≠ dctC
mutual
/-- a value as a part of a key -/
def nkD : D → Option NestedKey
  | .none => some .none
  | .bool b => some (.num (if b = true then 1 else 0))
  | .int i => some (.num i)
  | .str x => some (.text x)
  | .tup xs => (nkDs xs).map NestedKey.tup
  | .list _ => none
  | .lk _ => none
  | .dic _ => none
  | .obj _ => none
  | .xv _ _ => none
  | .btp _ => none
def nkDs : List D → Option (List NestedKey)
  | [] => some []
  | x :: xs => (nkD x).bind fun k => (nkDs xs).map fun ks => k :: ks
end
/-- a tuple as a key -/
def keyN (d : D) : Option NestedKey := match d with
  | .tup _ => (nkD d).bind fun k => if k.depth ≤ 8 then some k else none
  | _ => none
def ndE (w : World) (x : NestedKey × Addr × Value) : DictEntry := ⟨x.1.hash w, .ref x.2.1, x.2.2⟩
def KvR (p : NestedKey × Addr × V) (q : NestedKey × Addr × Value) : Prop := p.1 = q.1 ∧ p.2.1 = q.2.1 ∧ RelV p.2.2 q.2.2
/-- at a: a dict with these keys, where they stand, and values -/
def ndO (w : World) (a : Addr) (xs : List (NestedKey × Addr × V)) : HO := .ext fun h => xs.length ≤ sizeLine ∧ (a == sysModules) = false ∧ ∃ us, Paired KvR xs us ∧ (us.map (·.1)).Nodup ∧ ∃ o es ep, h.get? a = some o ∧ o.ExactDict ∧ o.data = .dict es ep ∧ es.toList = us.map (ndE w)
/-- the same, and just which object it is: while it is walked -/
def ndX (w : World) (a : Addr) (xs : List (NestedKey × Addr × V)) (od : Obj) : HO := .ext fun h => h.get? a = some od ∧ xs.length ≤ sizeLine ∧ (a == sysModules) = false ∧ ∃ us, Paired KvR xs us ∧ (us.map (·.1)).Nodup ∧ ∃ o es ep, h.get? a = some o ∧ o.ExactDict ∧ o.data = .dict es ep ∧ es.toList = us.map (ndE w)
def NdU (w : World) (a : Addr) (xs : List (NestedKey × Addr × V)) (u : HO) : Prop := u = ndO w a xs ∨ ∃ od, u = ndX w a xs od
inductive NdR (K : PySem.W.Frag) (m : List Addr) (M : Hp) : List (NestedKey × Addr × V) → List (D × D) → Prop
  | nil : NdR K m M [] []
  | cons {k : NestedKey} {a : Addr} {v : V} {dk dv : D} {xs : List (NestedKey × Addr × V)} {kvs : List (D × D)} : keyN dk = some k → DR K m M (.ref a) dk → DR K m M v dv → NdR K m M xs kvs → NdR K m M ((k, a, v) :: xs) ((dk, dv) :: kvs)
theorem NdR.mono {K : PySem.W.Frag} {m m' : List Addr} {M M' : Hp} {xs : List (NestedKey × Addr × V)} {kvs : List (D × D)} (h : NdR K m M xs kvs) (hm : MLe m m') (hs : Same M M') : NdR K m' M' xs kvs := by
  induction h with
  | nil => exact .nil
  | cons h1 h2 h3 _ ih => exact .cons h1 (DR.mono hm hs _ _ h2) (DR.mono hm hs _ _ h3) ih
def prD (p : D × D) : D := .tup [p.1, p.2]
def ndOb (kvs : List (D × D)) : Ob := ⟨ndC, [(0, .v (.lk (kvs.map prD)))]⟩
def txK (p : Str × V) : Key × V := (Sum.inr p.1, p.2)
/-- what stands at an object with fields -/
def obH (T : Tab) (c : Nat) (dx : Addr) (fs : List (Str × V)) : HO := if c = dctC then .dK (fs.map txK) else .ins (T.ca c) dx fs
theorem obH_ins {T : Tab} {c : Nat} (h : IsI c) (dx : Addr) (fs : List (Str × V)) : obH T c dx fs = .ins (T.ca c) dx fs := if_neg h.2
theorem obH_inj {T : Tab} {c : Nat} {dx dx' : Addr} {fs fs' : List (Str × V)} (h : obH T c dx fs = obH T c dx' fs') : fs = fs' := by
  unfold obH at h
  by_cases q : c = dctC
  · rw [if_pos q, if_pos q] at h
    injection h with h
    have inj : ∀ (l l' : List (Str × V)), l.map txK = l'.map txK → l = l' := by
      intro l
      induction l with
      | nil => intro l' e; cases l' with
        | nil => rfl
        | cons _ _ => cases e
      | cons a l ih => intro l' e; cases l' with
        | nil => cases e
        | cons a' l' =>
          rw [List.map_cons, List.map_cons] at e
          injection e with e1 e2
          obtain ⟨x, v⟩ := a
          obtain ⟨x', v'⟩ := a'
          unfold txK at e1
          injection e1 with e3 e4
          injection e3 with e3
          have e3 : x = x' := e3
          have e4 : v = v' := e4
          rw [e3, e4, ih l' e2]
    exact inj _ _ h
  · rw [if_neg q, if_neg q] at h
    injection h
def ObR (K : PySem.W.Frag) (T : Tab) (m : List Addr) (M H : Hp) (ob : Ob) (a : Addr) (fp : List Addr) : Prop :=
  (NB ob.cls ∧ ∃ dx fs f, fp = a :: f ∧ H a = some (obH T ob.cls dx fs) ∧ FsR K T.nm m M H ob.fs fs f) ∨ (ob.cls = boxC ∧ ∃ sl, ob.fs = [(0, sl)] ∧ SlotR K m M H sl (some (.ref a)) fp) ∨
    (∃ kvs xs u, ob = ndOb kvs ∧ fp = [a] ∧ H a = some u ∧ NdU T.w a xs u ∧ NdR K m M xs kvs)
def StoreR (K : PySem.W.Frag) (T : Tab) (m : List Addr) (M H : Hp) : List Ob → List Addr → List Addr → Prop
  | [], _, fp => fp = []
  | ob :: obs, a :: as, fp => ∃ f1 f2, fp = f1 ++ f2 ∧ ObR K T m M H ob a f1 ∧ StoreR K T m M H obs as f2
  | _ :: _, [], _ => False

/-- THE RELATION: M the values that nobody changes any more; G what must stay; the rest of the heap is of no account -/
structure Rel (K : PySem.W.Frag) (T : Tab) (m : List Addr) (M G H : Hp) (s : Sta) (σ : L2.St) : Prop where
  mh : Same M H
  gh : Same G H
  fp : ∃ f1 f2, SlotsR K m M H s.env σ f1 ∧ StoreR K T m M H s.st m f2 ∧ (f1 ++ f2).Nodup ∧ ∀ a ∈ f1 ++ f2, M a = Option.none ∧ G a = Option.none

/-- the heap grew, the values that nobody changes with it -/
structure Grow (H M H' M' : Hp) : Prop where
  same : Same H H'
  mm : Same M M'
  mh : Same M' H'
  new : ∀ a o, M' a = some o → M a = some o ∨ H a = Option.none
theorem Grow.refl {H M : Hp} (h : Same M H) : Grow H M H M := ⟨Same.refl _, Same.refl _, h, fun _ _ h => .inl h⟩
theorem Grow.trans {H M H1 M1 H2 M2 : Hp} (a : Grow H M H1 M1) (b : Grow H1 M1 H2 M2) : Grow H M H2 M2 :=
  ⟨a.same.trans b.same, a.mm.trans b.mm, b.mh, fun x o h => (b.new x o h).elim (fun h => a.new x o h) fun h => .inr (a.same.free h)⟩
theorem Grow.keepNone {H M H' M' : Hp} (g : Grow H M H' M') {a : Addr} {o : HO} (h : H a = some o) (n : M a = Option.none) : M' a = Option.none := by
  cases q : M' a with
  | none => rfl
  | some u =>
    rcases g.new a u q with z | z
    · rw [n] at z; cases z
    · rw [h] at z; cases z
/-- a new object, not shared -/
theorem Same.upd {H : Hp} {p : Addr} {o : HO} (h : H p = Option.none) : Same H (upd H p o) := fun b u e => by
  rw [upd_ne (ne_of_none e h)]; exact e
theorem Grow.fresh {H M : Hp} {p : Addr} {o : HO} (mh : Same M H) (h : H p = Option.none) : Grow H M (upd H p o) M :=
  ⟨Same.upd h, Same.refl _, mh.trans (Same.upd h), fun _ _ h => .inl h⟩
/-- a new object, shared at once -/
theorem Grow.share {H M : Hp} {p : Addr} {o : HO} (mh : Same M H) (h : H p = Option.none) : Grow H M (upd H p o) (upd M p o) := by
  have hM : M p = Option.none := mh.free h
  refine ⟨Same.upd h, Same.upd hM, fun b u e => ?_, fun a u e => ?_⟩
  · by_cases hb : b = p
    · subst hb; rw [upd_same] at e ⊢; exact e
    · rw [upd_ne hb] at e ⊢; exact mh _ _ e
  · by_cases hb : a = p
    · subst hb; exact .inr h
    · rw [upd_ne hb] at e; exact .inl e
/-- an object that stands alone is shared from now on -/
theorem Grow.freeze {H0 M0 H M : Hp} {p : Addr} {o : HO} (g : Grow H0 M0 H M) (h0 : H0 p = Option.none) (h : H p = some o) (hM : M p = Option.none) : Grow H0 M0 H (upd M p o) := by
  refine ⟨g.same, g.mm.trans (Same.upd hM), fun b u e => ?_, fun a u e => ?_⟩
  · by_cases hb : b = p
    · subst hb; rw [upd_same] at e; rw [← e]; exact h
    · rw [upd_ne hb] at e; exact g.mh _ _ e
  · by_cases hb : a = p
    · subst hb; exact .inr h0
    · rw [upd_ne hb] at e; exact g.new _ _ e

section
variable {K : PySem.W.Frag} {T : Tab} {m m' : List Addr} {M M' G G' H H' : Hp}
theorem SlotR.mono {s : Slot} {x : Option V} {fp : List Addr} (h : SlotR K m M H s x fp) (hm : MLe m m') (mm : Same M M') (hh : ∀ a ∈ fp, H' a = H a) : SlotR K m' M' H' s x fp := by
  cases s with
  | un => exact h
  | v d =>
    obtain ⟨e, y, ex, r⟩ := h
    exact ⟨e, y, ex, DR.mono hm mm _ _ r⟩
  | own d =>
    obtain ⟨a, o, e, ex, ha, r⟩ := h
    exact ⟨a, o, e, ex, by rw [hh a (by rw [e]; simp)]; exact ha, r.mono hm mm⟩
  | hid a => exact h
  | tpo k ds =>
    obtain ⟨t, a, o, vs, d, e, ex, h1, h2, h3, h4, h5, h6, h7⟩ := h
    exact ⟨t, a, o, vs, d, e, ex, mm _ _ h1, h2, h3, h4, by rw [hh a (by rw [e]; simp)]; exact h5, h6.mono hm mm, fun j v e' hj hv he => DR.mono hm mm _ _ (h7 j v e' hj hv he)⟩
theorem SlotsR.mono : ∀ {s : List Slot} {x : List (Option V)} {fp : List Addr}, SlotsR K m M H s x fp → MLe m m' → Same M M' → (∀ a ∈ fp, H' a = H a) → SlotsR K m' M' H' s x fp
  | [], [], _, h, _, _, _ => h
  | s :: ss, x :: xs, fp, h, hm, mm, hh => by
    obtain ⟨f1, f2, e, h1, h2⟩ := h
    subst e
    exact ⟨f1, f2, rfl, h1.mono hm mm fun a ha => hh a (List.mem_append_left _ ha), SlotsR.mono h2 hm mm fun a ha => hh a (List.mem_append_right _ ha)⟩
  | [], _ :: _, _, h, _, _, _ => h.elim
  | _ :: _, [], _, h, _, _, _ => h.elim
theorem FsR.mono {nm : Nat → Str} : ∀ {s : List (Nat × Slot)} {x : List (Str × V)} {fp : List Addr}, FsR K nm m M H s x fp → MLe m m' → Same M M' → (∀ a ∈ fp, H' a = H a) → FsR K nm m' M' H' s x fp
  | [], [], _, h, _, _, _ => h
  | (i, s) :: ss, (x, v) :: xs, fp, h, hm, mm, hh => by
    obtain ⟨f1, f2, e, e2, h1, h2⟩ := h
    subst e
    exact ⟨f1, f2, rfl, e2, h1.mono hm mm fun a ha => hh a (List.mem_append_left _ ha), FsR.mono h2 hm mm fun a ha => hh a (List.mem_append_right _ ha)⟩
  | [], _ :: _, _, h, _, _, _ => h.elim
  | _ :: _, [], _, h, _, _, _ => h.elim
theorem ObR.mono {ob : Ob} {a : Addr} {fp : List Addr} (h : ObR K T m M H ob a fp) (hm : MLe m m') (mm : Same M M') (hh : ∀ b ∈ fp, H' b = H b) : ObR K T m' M' H' ob a fp := by
  rcases h with ⟨hn, dx, fs, f, e, h1, h2⟩ | ⟨hb, sl, e, h1⟩ | ⟨kvs, xs, u, e, e2, h1, hu, h2⟩
  · subst e
    exact .inl ⟨hn, dx, fs, f, rfl, by rw [hh a (by simp)]; exact h1, h2.mono hm mm fun b hb => hh b (List.mem_cons_of_mem _ hb)⟩
  · exact .inr (.inl ⟨hb, sl, e, h1.mono hm mm hh⟩)
  · subst e2
    exact .inr (.inr ⟨kvs, xs, u, e, rfl, by rw [hh a (by simp)]; exact h1, hu, h2.mono hm mm⟩)
theorem StoreR.mono : ∀ {s : List Ob} {as as' : List Addr} {fp : List Addr}, StoreR K T m M H s as fp → MLe m m' → MLe as as' → Same M M' → (∀ a ∈ fp, H' a = H a) → StoreR K T m' M' H' s as' fp
  | [], _, _, _, h, _, _, _, _ => h
  | ob :: obs, a :: as, [], fp, h, hm, hl, mm, hh => by
    have := hl 0 a rfl
    simp at this
  | ob :: obs, a :: as, a' :: as', fp, h, hm, hl, mm, hh => by
    obtain ⟨f1, f2, e, h1, h2⟩ := h
    subst e
    have e0 : a' = a := by
      have := hl 0 a rfl
      simpa using this
    subst e0
    exact ⟨f1, f2, rfl, h1.mono hm mm fun a ha => hh a (List.mem_append_left _ ha), StoreR.mono h2 hm (fun n x hx => by have := hl (n + 1) x (by simpa using hx); simpa using this) mm fun a ha => hh a (List.mem_append_right _ ha)⟩
  | _ :: _, [], _, _, h, _, _, _, _ => h.elim

/-- everything in a footprint stands in the heap -/
theorem SlotR.here {s : Slot} {x : Option V} {fp : List Addr} (h : SlotR K m M H s x fp) : ∀ a ∈ fp, ∃ o, H a = some o := by
  cases s with
  | un => intro a ha; rw [show fp = [] from h] at ha; cases ha
  | v d => intro a ha; rw [h.1] at ha; cases ha
  | own d =>
    obtain ⟨b, o, e, _, hb, _⟩ := h
    intro a ha
    rw [e] at ha
    have : a = b := by simpa using ha
    subst this
    exact ⟨o, hb⟩
  | hid b => intro a ha; rw [h.1] at ha; cases ha
  | tpo k ds =>
    obtain ⟨t, b, o, vs, d, e, ex, h1, h2, h3, h4, h5, h6, h7⟩ := h
    intro a ha
    rw [e] at ha
    have : a = b := by simpa using ha
    subst this
    exact ⟨o, h5⟩
theorem SlotsR.here : ∀ {s : List Slot} {x : List (Option V)} {fp : List Addr}, SlotsR K m M H s x fp → ∀ a ∈ fp, ∃ o, H a = some o
  | [], [], _, h, a, ha => by rw [show _ = [] from h] at ha; cases ha
  | s :: ss, x :: xs, fp, h, a, ha => by
    obtain ⟨f1, f2, e, h1, h2⟩ := h
    rw [e] at ha
    rcases List.mem_append.mp ha with ha | ha
    · exact h1.here a ha
    · exact SlotsR.here h2 a ha
  | [], _ :: _, _, h, _, _ => h.elim
  | _ :: _, [], _, h, _, _ => h.elim
theorem FsR.here {nm : Nat → Str} : ∀ {s : List (Nat × Slot)} {x : List (Str × V)} {fp : List Addr}, FsR K nm m M H s x fp → ∀ a ∈ fp, ∃ o, H a = some o
  | [], [], _, h, a, ha => by rw [show _ = [] from h] at ha; cases ha
  | (i, s) :: ss, (x, v) :: xs, fp, h, a, ha => by
    obtain ⟨f1, f2, e, _, h1, h2⟩ := h
    rw [e] at ha
    rcases List.mem_append.mp ha with ha | ha
    · exact h1.here a ha
    · exact FsR.here h2 a ha
  | [], _ :: _, _, h, _, _ => h.elim
  | _ :: _, [], _, h, _, _ => h.elim
theorem StoreR.here : ∀ {s : List Ob} {as : List Addr} {fp : List Addr}, StoreR K T m M H s as fp → ∀ a ∈ fp, ∃ o, H a = some o
  | [], _, _, h, a, ha => by rw [show _ = [] from h] at ha; cases ha
  | ob :: obs, a' :: as, fp, h, a, ha => by
    obtain ⟨f1, f2, e, h1, h2⟩ := h
    rw [e] at ha
    rcases List.mem_append.mp ha with ha | ha
    · rcases h1 with ⟨_, dx, fs, f, e, h3, h4⟩ | ⟨_, sl, e, h3⟩ | ⟨kvs, xs, u, e, e2, h3, hu, h4⟩
      · rw [e] at ha
        rcases List.mem_cons.mp ha with rfl | ha
        · exact ⟨_, h3⟩
        · exact h4.here a ha
      · exact h3.here a ha
      · rw [e2] at ha
        have : a = a' := by simpa using ha
        subst this
        exact ⟨_, h3⟩
    · exact StoreR.here h2 a ha
  | _ :: _, [], _, h, _, _ => h.elim

theorem Rel.grow {s : Sta} {σ : L2.St} (R : Rel K T m M G H s σ) (g : Grow H M H' M') : Rel K T m M' G H' s σ := by
  obtain ⟨mh, gh, ⟨f1, f2, h1, h2, nd, dj⟩⟩ := R
  have same : ∀ a ∈ f1 ++ f2, H' a = H a := fun a ha => by
    have : ∃ o, H a = some o := by
      rcases List.mem_append.mp ha with ha | ha
      · exact h1.here a ha
      · exact h2.here a ha
    obtain ⟨o, e⟩ := this
    rw [e]
    exact g.same a o e
  have here : ∀ a ∈ f1 ++ f2, ∃ o, H a = some o := fun a ha => by
    rcases List.mem_append.mp ha with ha | ha
    · exact h1.here a ha
    · exact h2.here a ha
  refine ⟨g.mh, gh.trans g.same, ⟨f1, f2, h1.mono (MLe.refl _) g.mm fun a ha => same a (List.mem_append_left _ ha), h2.mono (MLe.refl _) (MLe.refl _) g.mm fun a ha => same a (List.mem_append_right _ ha), nd, fun a ha => ?_⟩⟩
  obtain ⟨o, e⟩ := here a ha
  exact ⟨g.keepNone e (dj a ha).1, (dj a ha).2⟩
theorem SlotsR.len : ∀ {s : List Slot} {x : List (Option V)} {fp : List Addr}, SlotsR K m M H s x fp → s.length = x.length
  | [], [], _, _ => rfl
  | s :: ss, x :: xs, fp, h => by
    obtain ⟨f1, f2, e, h1, h2⟩ := h
    simp [SlotsR.len h2]
  | [], _ :: _, _, h => h.elim
  | _ :: _, [], _, h => h.elim
/-- one slot, cut out -/
theorem SlotsR.split : ∀ {s : List Slot} {x : List (Option V)} {fp : List Addr} {i : Nat} {sl : Slot}, SlotsR K m M H s x fp → s[i]? = some sl →
    ∃ f0 f1 f2 y, fp = f0 ++ f1 ++ f2 ∧ x[i]? = some y ∧ SlotR K m M H sl y f1 ∧
      ∀ (m' : List Addr) (M' H' : Hp) (sl' : Slot) (y' : Option V) (f1' : List Addr), MLe m m' → Same M M' → (∀ a ∈ f0 ++ f2, H' a = H a) → SlotR K m' M' H' sl' y' f1' → SlotsR K m' M' H' (s.set i sl') (x.set i y') (f0 ++ f1' ++ f2)
  | [], _, _, _, _, _, e => by simp at e
  | s :: ss, [], _, _, _, h, _ => h.elim
  | s :: ss, x :: xs, fp, 0, sl, h, e => by
    obtain ⟨f1, f2, ef, h1, h2⟩ := h
    have e' : s = sl := by simpa using e
    subst e'
    refine ⟨[], f1, f2, x, by simp [ef], rfl, h1, fun m' M' H' sl' y' f1' hm hM hh hs => ?_⟩
    exact ⟨f1', f2, by simp, hs, h2.mono hm hM fun a ha => hh a (by simp [ha])⟩
  | s :: ss, x :: xs, fp, i + 1, sl, h, e => by
    obtain ⟨f1, f2, ef, h1, h2⟩ := h
    obtain ⟨g0, g1, g2, y, eg, ey, hy, k⟩ := SlotsR.split h2 (i := i) (sl := sl) (by simpa using e)
    refine ⟨f1 ++ g0, g1, g2, y, by simp [ef, eg, List.append_assoc], by simpa using ey, hy, fun m' M' H' sl' y' f1' hm hM hh hs => ?_⟩
    refine ⟨f1, g0 ++ f1' ++ g2, by simp [List.append_assoc], h1.mono hm hM fun a ha => hh a (by simp [ha]), ?_⟩
    exact k m' M' H' sl' y' f1' hm hM (fun a ha => hh a (by
      rcases List.mem_append.mp ha with ha | ha
      · simp [ha]
      · simp [ha])) hs
end
end MP

namespace MP
open PySem PySem.Spec PyProof.Rows L2

/-- how a result stands: shared, new and nobody else's, somebody's own that is only looked at -/
inductive RK where
  | sh | fr | pk
structure RV where
  k : RK
  d : D
abbrev sh (d : D) : RV := ⟨.sh, d⟩
abbrev fr (d : D) : RV := ⟨.fr, d⟩
/-- an exception: its class, its fields -/
structure Ex where
  cls : Str
  fs : List (Str × D)
inductive PR (α : Type) where
  | ok (a : α) | exc (e : Ex) | stuck
def PR.bind {α β : Type} (x : PR α) (f : α → PR β) : PR β := match x with
  | .ok a => f a
  | .exc e => .exc e
  | .stuck => .stuck
def PR.of {α : Type} : Option α → PR α
  | some a => .ok a
  | none => .stuck

def RR (K : PySem.W.Frag) (m : List Addr) (M H0 H : Hp) (y : V) (r : RV) : Prop := match r.k with
  | .sh => DR K m M y r.d
  | .fr => ∃ a o, y = .ref a ∧ H a = some o ∧ ObD K m M o r.d ∧ M a = none ∧ H0 a = none
  | .pk => ∃ a o, y = .ref a ∧ H a = some o ∧ ObD K m M o r.d
/-- what an operation may read -/
def Arg (K : PySem.W.Frag) (m : List Addr) (M H : Hp) (y : V) (d : D) : Prop := DR K m M y d ∨ ∃ a o, y = .ref a ∧ H a = some o ∧ ObD K m M o d

section
variable {K : PySem.W.Frag} {m : List Addr} {M M' H0 H H' : Hp} {y : V} {r : RV} {d : D}
theorem RR.arg (h : RR K m M H0 H y r) : Arg K m M H y r.d := by
  obtain ⟨k, d⟩ := r
  cases k with
  | sh => exact .inl h
  | fr => obtain ⟨a, o, h1, h2, h3, _⟩ := h; exact .inr ⟨a, o, h1, h2, h3⟩
  | pk => obtain ⟨a, o, h1, h2, h3⟩ := h; exact .inr ⟨a, o, h1, h2, h3⟩
theorem RR.grow (h : RR K m M H0 H y r) (g : Grow H M H' M') : RR K m M' H0 H' y r := by
  obtain ⟨k, d⟩ := r
  cases k with
  | sh => exact DR.up h g.mm
  | fr => obtain ⟨a, o, h1, h2, h3, h4, h5⟩ := h; exact ⟨a, o, h1, g.same _ _ h2, h3.mono (MLe.refl _) g.mm, g.keepNone h2 h4, h5⟩
  | pk => obtain ⟨a, o, h1, h2, h3⟩ := h; exact ⟨a, o, h1, g.same _ _ h2, h3.mono (MLe.refl _) g.mm⟩
theorem RR.since (h : RR K m M H H' y r) (s : Same H0 H) : RR K m M H0 H' y r := by
  obtain ⟨k, d⟩ := r
  cases k with
  | sh => exact h
  | fr => obtain ⟨a, o, h1, h2, h3, h4, h5⟩ := h; exact ⟨a, o, h1, h2, h3, h4, s.free h5⟩
  | pk => exact h
theorem Arg.grow (h : Arg K m M H y d) (g : Grow H M H' M') : Arg K m M' H' y d := by
  rcases h with h | ⟨a, o, h1, h2, h3⟩
  · exact .inl (h.up g.mm)
  · exact .inr ⟨a, o, h1, g.same _ _ h2, h3.mono (MLe.refl _) g.mm⟩
theorem Arg.dr (h : Arg K m M H y d) (s : Same M H) : DR K m H y d := by
  rcases h with h | ⟨a, o, rfl, h2, h3⟩
  · exact h.up s
  · exact h3.dr s h2
theorem Arg.int {i : Int} (h : Arg K m M H y (.int i)) : y = .int i := by
  rcases h with h | ⟨a, o, rfl, h2, h3⟩
  · cases h; rfl
  · cases h3
theorem Arg.bl {i : Bool} (h : Arg K m M H y (.bool i)) : y = .bl i := by
  rcases h with h | ⟨a, o, rfl, h2, h3⟩
  · cases h; rfl
  · cases h3
theorem Arg.str {i : Str} (h : Arg K m M H y (.str i)) : y = .str i := by
  rcases h with h | ⟨a, o, rfl, h2, h3⟩
  · cases h; rfl
  · cases h3
theorem Arg.non (h : Arg K m M H y .none) : y = .non := by
  rcases h with h | ⟨a, o, rfl, h2, h3⟩
  · cases h; rfl
  · cases h3
theorem Arg.list {ds : List D} (h : Arg K m M H y (.list ds)) (s : Same M H) : ∃ a xs, y = .ref a ∧ H a = some (.lst xs) ∧ DRs K m M xs ds := by
  rcases h with h | ⟨a, o, rfl, h2, h3⟩
  · cases h with
    | list h1 h2 => exact ⟨_, _, rfl, s _ _ h1, h2⟩
  · cases h3 with
    | lst h3 => exact ⟨_, _, rfl, h2, h3⟩
theorem Arg.lk {ds : List D} (h : Arg K m M H y (.lk ds)) (s : Same M H) : ∃ a xs, y = .ref a ∧ SqL K H a xs ∧ DRs K m M xs ds := by
  rcases h with h | ⟨a, o, rfl, h2, h3⟩
  · cases h with
    | lk h1 h2 => exact ⟨_, _, rfl, s.seq h1, h2⟩
  · cases h3
theorem Arg.tup {ds : List D} (h : Arg K m M H y (.tup ds)) (s : Same M H) : ∃ a xs, y = .ref a ∧ SqT K H a xs ∧ DRs K m M xs ds ∧ DR K m M y (.tup ds) := by
  rcases h with h | ⟨a, o, rfl, h2, h3⟩
  · cases h with
    | tup h1 h2 => exact ⟨_, _, rfl, Same.seqT s h1, h2, .tup h1 h2⟩
  · cases h3
theorem Arg.dic {ds : List (Key × D)} (h : Arg K m M H y (.dic ds)) (s : Same M H) : ∃ a xs, y = .ref a ∧ H a = some (.dK xs) ∧ DRk K m M xs ds := by
  rcases h with h | ⟨a, o, rfl, h2, h3⟩
  · cases h with
    | dic h1 h2 => exact ⟨_, _, rfl, s _ _ h1, h2⟩
  · cases h3 with
    | dic h3 => exact ⟨_, _, rfl, h2, h3⟩
/-- a list or a tuple, its items -/
def seqOf : D → Option (List D)
  | .list ds => some ds
  | .lk ds => some ds
  | .tup ds => some ds
  | _ => none
theorem Arg.seq {d : D} {ds : List D} (h : Arg K m M H y d) (e : seqOf d = some ds) (s : Same M H) : ∃ a xs, y = .ref a ∧ (SqL K H a xs ∨ SqT K H a xs) ∧ DRs K m M xs ds := by
  cases d with
  | list ds' =>
    cases e
    obtain ⟨a, xs, h1, h2, h3⟩ := h.list s
    exact ⟨a, xs, h1, .inl (SqL.of h2), h3⟩
  | lk ds' =>
    cases e
    obtain ⟨a, xs, h1, h2, h3⟩ := h.lk s
    exact ⟨a, xs, h1, .inl h2, h3⟩
  | tup ds' =>
    cases e
    obtain ⟨a, xs, h1, h2, h3, _⟩ := h.tup s
    exact ⟨a, xs, h1, .inr h2, h3⟩
  | _ => cases e
mutual
theorem DR.dp : ∀ (d : D) (v : V), DR K m H v d → d.py.canLay0 = true → Dp K H v d.py
  | .none, _, h, _ => by cases h; rw [D.py]; exact .non
  | .bool b, _, h, _ => by cases h; rw [D.py]; exact .bl b
  | .int i, _, h, _ => by cases h; rw [D.py]; exact .int i
  | .str x, _, h, _ => by cases h; rw [D.py]; exact .str x
  | .list ds, _, h, c => by
    cases h with
    | list h1 h2 =>
      rw [D.py] at c ⊢
      rw [PyData.canLay0] at c
      exact .lst (SqL.of h1) (DRs.dp ds _ h2 c)
  | .lk ds, _, h, c => by
    cases h with
    | lk h1 h2 =>
      rw [D.py] at c ⊢
      rw [PyData.canLay0] at c
      exact .lst h1 (DRs.dp ds _ h2 c)
  | .tup ds, _, h, c => by
    cases h with
    | tup h1 h2 =>
      rw [D.py] at c ⊢
      rw [PyData.canLay0] at c
      exact .tup h1 (DRs.dp ds _ h2 c)
  | .dic kvs, _, h, c => by rw [D.py] at c; simp [PyData.canLay0] at c
  | .obj n, _, h, c => by rw [D.py] at c; simp [PyData.canLay0] at c
  | .xv _ _, _, h, c => by rw [D.py] at c; simp [PyData.canLay0] at c
  | .btp _, _, h, c => by rw [D.py] at c; simp [PyData.canLay0] at c
theorem DRs.dp : ∀ (ds : List D) (vs : List V), DRs K m H vs ds → PyData.canLayAll0 (pys ds) = true → DpAll K H vs (pys ds)
  | [], _, h, _ => by cases h; rw [pys]; exact .nil
  | d :: ds, _, h, c => by
    cases h with
    | cons h1 h2 =>
      rw [pys] at c ⊢
      rw [PyData.canLayAll0, Bool.and_eq_true] at c
      exact .cons (DR.dp d _ h1 c.1) (DRs.dp ds _ h2 c.2)
end
end

/-- an exception by content -/
def ExR (K : PySem.W.Frag) (T : Tab) (m : List Addr) (M H : Hp) (e : Ex) (cls : Value) (d : Option Addr) : Prop :=
  ∃ C, NmC K e.cls C ∧ cls = .ref C ∧ ((e.fs = [] ∧ d = none) ∨ ∃ dd fs, d = some dd ∧ M dd = some (.xd fs) ∧ DRf K m M fs e.fs)

section
variable (X : Cx) (T : Tab) (W : WX)
def tP (f : Sta → PR RV) : TE := fun σ H Q => ∃ s m M G, Rel X.K T m M G H s σ ∧ match f s with
  | .ok r => ∀ y H' M', Grow H M H' M' → RR X.K m M' H H' y r → Q y H'
  | .exc e => ∀ cls d H' M', Grow H M H' M' → ExR X.K T m M' H' e cls d → W cls d σ H'
  | .stuck => False
/-- shared -/
def tD (f : Sta → PR D) : TE := fun σ H Q => ∃ s m M G, Rel X.K T m M G H s σ ∧ match f s with
  | .ok d => ∀ y H' M', Grow H M H' M' → DR X.K m M' y d → Q y H'
  | .exc e => ∀ cls d H' M', Grow H M H' M' → ExR X.K T m M' H' e cls d → W cls d σ H'
  | .stuck => False
/-- a test -/
def tT (f : Sta → PR Bool) : TT := fun σ H Q => ∃ s m M G, Rel X.K T m M G H s σ ∧ match f s with
  | .ok b => ∀ H' M', Grow H M H' M' → Q b H'
  | .exc e => ∀ cls d H' M', Grow H M H' M' → ExR X.K T m M' H' e cls d → W cls d σ H'
  | .stuck => False
/-- arguments, all shared -/
def tAs (f : Sta → PR (List D)) : TA := fun σ H Q => ∃ s m M G, Rel X.K T m M G H s σ ∧ match f s with
  | .ok ds => ∀ ys H' M', Grow H M H' M' → DRs X.K m M' ys ds → Q ys H'
  | .exc e => ∀ cls d H' M', Grow H M H' M' → ExR X.K T m M' H' e cls d → W cls d σ H'
  | .stuck => False
/-- arguments, as they come -/
def tAr (f : Sta → PR (List RV)) : TA := fun σ H Q => ∃ s m M G, Rel X.K T m M G H s σ ∧ match f s with
  | .ok rs => ∀ ys H' M', Grow H M H' M' → Paired (RR X.K m M' H H') ys rs → Q ys H'
  | .exc e => ∀ cls d H' M', Grow H M H' M' → ExR X.K T m M' H' e cls d → W cls d σ H'
  | .stuck => False
abbrev PEv (e : Expr) (f : Sta → PR RV) : Prop := PE X e (tP X T W f)
abbrev PDv (e : Expr) (f : Sta → PR D) : Prop := PE X e (tD X T W f)
abbrev PTv (e : Expr) (f : Sta → PR Bool) : Prop := PT X e (tT X T W f)
abbrev PAs (es : List Expr) (f : Sta → PR (List D)) : Prop := PA X es (tAs X T W f)
abbrev PAr (es : List Expr) (f : Sta → PR (List RV)) : Prop := PA X es (tAr X T W f)
end

theorem PE.wk {X : Cx} {e : Expr} {t t' : TE} (h : PE X e t) (w : ∀ σ H Q, t' σ H Q → t σ H Q) : PE X e t' := ⟨fun pins s σ H Q I q => h.run pins s σ H Q I (w _ _ _ q)⟩
theorem PT.wk {X : Cx} {e : Expr} {t t' : TT} (h : PT X e t) (w : ∀ σ H Q, t' σ H Q → t σ H Q) : PT X e t' := ⟨fun pins s σ H Q I q => h.run pins s σ H Q I (w _ _ _ q)⟩
theorem PW.wk {X : Cx} {e : Expr} {t t' : TT} (h : PW X e t) (w : ∀ σ H Q, t' σ H Q → t σ H Q) : PW X e t' := ⟨fun wh pins s σ H Q I q => h.run wh pins s σ H Q I (w _ _ _ q)⟩
theorem PA.wk {X : Cx} {e : List Expr} {t t' : TA} (h : PA X e t) (w : ∀ σ H Q, t' σ H Q → t σ H Q) : PA X e t' := ⟨fun pos pins s σ H Q I q => h.run pos pins s σ H Q I (w _ _ _ q)⟩

section
variable {X : Cx} {T : Tab} {W : WX} {a b c e : Expr} {es : List Expr} {pos p : Pos} {fa fb fc : Sta → PR RV}

def RV.shr (r : RV) : PR D := match r.k with
  | .sh => .ok r.d
  | .fr => .ok r.d
  | .pk => .stuck
def pD (f : Sta → PR RV) : Sta → PR D := fun s => (f s).bind RV.shr
theorem RR.share {K : PySem.W.Frag} {m : List Addr} {M0 M H0 H : Hp} {y : V} {r : RV} {d : D} (h : RR K m M H0 H y r) (g : Grow H0 M0 H M) (e : r.shr = .ok d) : ∃ M', Grow H0 M0 H M' ∧ Same M M' ∧ DR K m M' y d := by
  obtain ⟨k, d'⟩ := r
  cases k with
  | sh =>
    cases e
    exact ⟨M, g, Same.refl _, h⟩
  | fr =>
    cases e
    obtain ⟨a, o, rfl, h2, h3, h4, h5⟩ := h
    refine ⟨upd M a o, g.freeze h5 h2 h4, Same.upd h4, ?_⟩
    exact (h3.mono (MLe.refl _) (Same.upd h4)).dr (Same.refl _) upd_same
  | pk => cases e
theorem pd_of (h : PEv X T W e fa) : PDv X T W e (pD fa) := by
  refine PE.wk h ?_
  rintro σ H Q ⟨s, m, M, G, R, q⟩
  refine ⟨s, m, M, G, R, ?_⟩
  revert q
  unfold pD PR.bind
  cases fa s with
  | ok r =>
    intro q y H' M' g rr
    cases hr : r.shr with
    | ok d =>
      simp only [hr] at q
      obtain ⟨M2, g2, mm, dr⟩ := rr.share g hr
      exact q y H' M2 g2 dr
    | exc e => obtain ⟨k, d⟩ := r; cases k <;> cases hr
    | stuck => simp only [hr] at q
  | exc e => intro q; exact q
  | stuck => intro q; exact q
def Slot.look : Slot → Option RV
  | .un => none
  | .v d => some (sh d)
  | .own d => some ⟨.pk, d⟩
  | .hid _ => none
  | .tpo _ _ => none
def pVar (i : Nat) : Sta → PR RV := fun s => PR.of (s.env[i]?.bind Slot.look)
theorem SlotsR.at {K : PySem.W.Frag} {m : List Addr} {M H : Hp} : ∀ {s : List Slot} {x : List (Option V)} {fp : List Addr} {i : Nat} {sl : Slot}, SlotsR K m M H s x fp → s[i]? = some sl → ∃ y f, x[i]? = some y ∧ SlotR K m M H sl y f ∧ ∀ a ∈ f, a ∈ fp
  | [], _, _, _, _, _, e => by simp at e
  | s :: ss, [], _, _, _, h, _ => h.elim
  | s :: ss, x :: xs, fp, 0, sl, h, e => by
    obtain ⟨f1, f2, ef, h1, h2⟩ := h
    have e' : s = sl := by simpa using e
    subst e'
    exact ⟨x, f1, rfl, h1, fun a ha => by rw [ef]; exact List.mem_append_left _ ha⟩
  | s :: ss, x :: xs, fp, i + 1, sl, h, e => by
    obtain ⟨f1, f2, ef, h1, h2⟩ := h
    obtain ⟨y, f, ey, hy, hf⟩ := SlotsR.at h2 (i := i) (sl := sl) (by simpa using e)
    exact ⟨y, f, by simpa using ey, hy, fun a ha => by rw [ef]; exact List.mem_append_right _ (hf a ha)⟩
theorem Rel.look {K : PySem.W.Frag} {m : List Addr} {M G H : Hp} {s : Sta} {σ : L2.St} {i : Nat} {r : RV} (R : Rel K T m M G H s σ) (e : s.env[i]?.bind Slot.look = some r) : ∃ y, σ[i]? = some (some y) ∧ RR K m M H H y r := by
  obtain ⟨mh, gh, ⟨f1, f2, h1, h2, nd, dj⟩⟩ := R
  cases hs : s.env[i]? with
  | none => rw [hs] at e; cases e
  | some sl =>
    rw [hs] at e
    obtain ⟨y, f, ey, hy, hf⟩ := h1.at hs
    cases sl with
    | un => cases e
    | v d =>
      cases e
      obtain ⟨_, y', rfl, r⟩ := hy
      exact ⟨y', ey, r⟩
    | own d =>
      cases e
      obtain ⟨a, o, _, rfl, h3, h4⟩ := hy
      exact ⟨_, ey, a, o, rfl, h3, h4⟩
    | hid a => cases e
    | tpo _ _ => cases e
theorem ev_var {i : Nat} {x : Str} (h : PE X (.Name x pos) (tVar i)) : PEv X T W (.Name x pos) (pVar i) := by
  refine PE.wk h ?_
  rintro σ H Q ⟨s, m, M, G, R, q⟩
  unfold pVar at q
  cases hl : s.env[i]?.bind Slot.look with
  | none => rw [hl] at q; exact q.elim
  | some r =>
    rw [hl] at q
    obtain ⟨y, ey, rr⟩ := R.look hl
    exact ⟨y, ey, q y H M (Grow.refl R.mh) rr⟩
def pC (d : D) : Sta → PR RV := fun _ => .ok (sh d)
theorem ev_const {v : V} {d : D} (h : PE X e (tC v)) (r : ∀ m M, DR X.K m M v d) : PEv X T W e (pC d) := by
  refine PE.wk h ?_
  rintro σ H Q ⟨s, m, M, G, R, q⟩
  exact q v H M (Grow.refl R.mh) (r m M)
theorem ev_int {i : Int} {j} : PEv X T W (.Constant (.int i) j pos) (pC (.int i)) := ev_const pe_int fun _ _ => .int i
theorem ev_bl {i : Bool} {j} : PEv X T W (.Constant (.bool i) j pos) (pC (.bool i)) := ev_const pe_bl fun _ _ => .bl i
theorem ev_non {j} : PEv X T W (.Constant .none j pos) (pC .none) := ev_const pe_non fun _ _ => .non
theorem ev_str {i : Str} {j} : PEv X T W (.Constant (.str i) j pos) (pC (.str i)) := ev_const pe_str fun _ _ => .str i

def p2 (g : D → D → Option RV) (fa fb : Sta → PR RV) : Sta → PR RV := fun s => (fa s).bind fun x => (fb s).bind fun y => .of (g x.d y.d)
def p1 (g : D → Option RV) (fa : Sta → PR RV) : Sta → PR RV := fun s => (fa s).bind fun x => .of (g x.d)
/-- a rule on two values keeps what g says -/
def R2Ok (K : PySem.W.Frag) (r : R2) (g : D → D → Option RV) : Prop := ∀ m M H x y d1 d2 res Q, Same M H → Arg K m M H x d1 → Arg K m M H y d2 → g d1 d2 = some res →
  (∀ z H' M', Grow H M H' M' → RR K m M' H H' z res → Q z H') → r x y H Q
def Op2Ok (X : Cx) (f : Value → Value → Sem Value) (g : D → D → Option RV) : Prop := ∃ r, OpR X f r ∧ R2Ok X.K r g
theorem tOp_of {r : R2} {g : D → D → Option RV} (hr : R2Ok X.K r g) {σ : L2.St} {H : Hp} {Q : VK} (h : tP X T W (p2 g fa fb) σ H Q) : tOp r (tP X T W fa) (tP X T W fb) σ H Q := by
  obtain ⟨s, m, M, G, R, q⟩ := h
  refine ⟨s, m, M, G, R, ?_⟩
  revert q
  unfold p2 PR.bind
  cases fa s with
  | ok r1 =>
    intro q y1 H1 M1 g1 rr1
    refine ⟨s, m, M1, G, R.grow g1, ?_⟩
    revert q
    cases fb s with
    | ok r2 =>
      intro q y2 H2 M2 g2 rr2
      cases hg : g r1.d r2.d with
      | none => simp only [hg, PR.of] at q
      | some res =>
        simp only [hg, PR.of] at q
        refine hr m M2 H2 y1 y2 _ _ res Q g2.mh ((rr1.grow g2).arg) rr2.arg hg fun z H' M' g3 rr3 => ?_
        exact q z H' M' (g1.trans (g2.trans g3)) (rr3.since (g1.same.trans g2.same))
    | exc e => intro q cls d H' M' g2 x; exact q cls d H' M' (g1.trans g2) x
    | stuck => intro q; exact q
  | exc e => intro q; exact q
  | stuck => intro q; exact q
theorem ev_bin {op : Operator} {g : D → D → Option RV} (ho : Op2Ok X (binaryOp op) g) (ha : PEv X T W a fa) (hb : PEv X T W b fb) : PEv X T W (.BinOp a op b pos) (p2 g fa fb) := by
  obtain ⟨r, h1, h2⟩ := ho
  exact PE.wk (pe_op h1 ha hb) fun σ H Q h => tOp_of h2 h
theorem ev_cmp {op : CmpOp} {g : D → D → Option RV} (ho : Op2Ok X (compareOp op) g) (ha : PEv X T W a fa) (hb : PEv X T W b fb) (hm : behindInMarks op b = false) : PEv X T W (.Compare a [op] [b] pos) (p2 g fa fb) := by
  obtain ⟨r, h1, h2⟩ := ho
  exact PE.wk (pe_cmpR h1 ha hb hm) fun σ H Q h => tOp_of h2 h
def UnOk (X : Cx) (f : Value → Sem Value) (g : D → Option RV) : Prop := ∃ r, UnR X f r ∧ ∀ m M H x d1 res Q, Same M H → Arg X.K m M H x d1 → g d1 = some res →
  (∀ z H' M', Grow H M H' M' → RR X.K m M' H H' z res → Q z H') → r x H Q
theorem ev_un {op : UnaryOp} {g : D → Option RV} (ho : UnOk X (unaryOp op) g) (ha : PEv X T W a fa) : PEv X T W (.UnaryOp op a pos) (p1 g fa) := by
  obtain ⟨r, h1, h2⟩ := ho
  refine PE.wk (pe_un h1 ha) ?_
  rintro σ H Q ⟨s, m, M, G, R, q⟩
  refine ⟨s, m, M, G, R, ?_⟩
  revert q
  unfold p1 PR.bind
  cases fa s with
  | ok r1 =>
    intro q y1 H1 M1 g1 rr1
    cases hg : g r1.d with
    | none => simp only [hg, PR.of] at q
    | some res =>
      simp only [hg, PR.of] at q
      exact h2 m M1 H1 y1 _ res Q g1.mh rr1.arg hg fun z H' M' g3 rr3 => q z H' M' (g1.trans g3) (rr3.since g1.same)
  | exc e => intro q; exact q
  | stuck => intro q; exact q

theorem R2Ok.or {K : PySem.W.Frag} {r r' : R2} {g g' : D → D → Option RV} (h : R2Ok K r g) (h' : R2Ok K r' g') : R2Ok K (fun x y H Q => r x y H Q ∨ r' x y H Q) (fun a b => (g a b).or (g' a b)) := by
  intro m M H x y d1 d2 res Q s a1 a2 e k
  dsimp only at e
  cases hg : g d1 d2 with
  | some z =>
    rw [hg] at e
    have e' : z = res := Option.some.inj e
    subst e'
    exact .inl (h m M H x y d1 d2 z Q s a1 a2 hg k)
  | none =>
    rw [hg] at e
    exact .inr (h' m M H x y d1 d2 res Q s a1 a2 e k)
theorem Op2Ok.or {f : Value → Value → Sem Value} {g g' : D → D → Option RV} (h : Op2Ok X f g) (h' : Op2Ok X f g') : Op2Ok X f (fun a b => (g a b).or (g' a b)) := by
  obtain ⟨r, h1, h2⟩ := h
  obtain ⟨r', h1', h2'⟩ := h'
  exact ⟨_, h1.or h1', h2.or h2'⟩
/-- ints to a scalar -/
def gI (C : Int → Int → Bool) (g : Int → Int → D) : D → D → Option RV
  | .int i, .int j => if C i j = true then some (sh (g i j)) else none
  | _, _ => none
theorem ok_I {f : Value → Value → Sem Value} {C : Int → Int → Bool} {P : Int → Int → Prop} {gv : Int → Int → V} {g : Int → Int → D} (ho : OpR X f (rI P gv)) (hC : ∀ i j, C i j = true → P i j) (hg : ∀ i j m M, DR X.K m M (gv i j) (g i j)) : Op2Ok X f (gI C g) := by
  refine ⟨_, ho, fun m M H x y d1 d2 res Q s a1 a2 e k => ?_⟩
  cases d1 <;> try (cases e; done)
  cases d2 <;> try (cases e; done)
  rename_i i j
  dsimp only [gI] at e
  by_cases hc : C i j = true
  · rw [if_pos hc] at e
    cases e
    exact ⟨i, j, a1.int, a2.int, hC _ _ hc, k _ H M (Grow.refl s) (hg i j m M)⟩
  · rw [if_neg hc] at e
    cases e
def gI0 (g : Int → Int → D) : D → D → Option RV
  | .int i, .int j => some (sh (g i j))
  | _, _ => none
theorem ok_I0 {f : Value → Value → Sem Value} {gv : Int → Int → V} {g : Int → Int → D} (ho : OpR X f (rI0 gv)) (hg : ∀ i j m M, DR X.K m M (gv i j) (g i j)) : Op2Ok X f (gI0 g) := by
  refine ⟨_, ho, fun m M H x y d1 d2 res Q s a1 a2 e k => ?_⟩
  cases d1 <;> try (cases e; done)
  cases d2 <;> try (cases e; done)
  rename_i i j
  cases e
  exact ⟨i, j, a1.int, a2.int, k _ H M (Grow.refl s) (hg i j m M)⟩
def gAdd : D → D → Option RV := gI0 fun i j => .int (i + j)
def gSub : D → D → Option RV := gI0 fun i j => .int (i - j)
def small64b (i : Int) : Bool := decide (-(2 ^ 64) < i ∧ i < 2 ^ 64)
def gMul : D → D → Option RV := gI (fun i j => small64b i || small64b j) fun i j => .int (i * j)
def gDiv : D → D → Option RV := gI (fun _ j => decide (0 < j ∧ j < 2 ^ 200)) fun i j => .int (i / j)
def gMod : D → D → Option RV := gI (fun _ j => decide (0 < j)) fun i j => .int (i % j)
def gPow : D → D → Option RV := gI (fun i j => decide (0 ≤ j ∧ j ≤ 1000000 ∧ i.natAbs < 2 ^ 64)) fun i j => .int (i ^ j.toNat)
theorem ok_add : Op2Ok X (binaryOp .Add) gAdd := ok_I0 op_add fun _ _ _ _ => .int _
theorem ok_sub : Op2Ok X (binaryOp .Sub) gSub := ok_I0 op_sub fun _ _ _ _ => .int _
theorem ok_mul : Op2Ok X (binaryOp .Mult) gMul := ok_I op_mul (fun i j h => by
  rcases (Bool.or_eq_true _ _).mp h with h | h
  · exact .inl (of_decide_eq_true h)
  · exact .inr (of_decide_eq_true h)) fun _ _ _ _ => .int _
theorem ok_div : Op2Ok X (binaryOp .FloorDiv) gDiv := ok_I op_fdivW (fun i j h => by
  have h := of_decide_eq_true h
  refine wide_div h.1 (b := 200) ?_ (by decide) (by decide)
  have h1 := h.1
  have h2 := h.2
  have e : ((j.natAbs : Nat) : Int) = j := Int.natAbs_of_nonneg (by omega)
  have : ((j.natAbs : Nat) : Int) < ((2 ^ 200 : Nat) : Int) := by rw [e]; exact_mod_cast h2
  exact Int.ofNat_lt.mp this) fun _ _ _ _ => .int _
theorem ok_mod : Op2Ok X (binaryOp .Mod) gMod := ok_I op_mod (fun i j h => by simpa [CDiv, CPow] using h) fun _ _ _ _ => .int _
theorem ok_pow : Op2Ok X (binaryOp .Pow) gPow := ok_I op_pow (fun i j h => by simpa [CDiv, CPow] using h) fun _ _ _ _ => .int _
def gNeg : D → Option RV
  | .int i => some (sh (.int (-i)))
  | _ => none
theorem ok_neg : UnOk X (unaryOp .USub) gNeg := by
  refine ⟨_, un_neg, fun m M H x d1 res Q s a1 e k => ?_⟩
  cases d1 <;> try (cases e; done)
  rename_i i
  cases e
  exact ⟨i, a1.int, k _ H M (Grow.refl s) (.int _)⟩
def gLt : D → D → Option RV := gI0 fun i j => .bool (decide (i < j))
def gLe : D → D → Option RV := gI0 fun i j => .bool (decide (i ≤ j))
def gGt : D → D → Option RV := gI0 fun i j => .bool (decide (j < i))
def gGe : D → D → Option RV := gI0 fun i j => .bool (decide (j ≤ i))
theorem ok_lt : Op2Ok X (compareOp .Lt) gLt := ok_I0 op_lt fun _ _ _ _ => .bl _
theorem ok_le : Op2Ok X (compareOp .LtE) gLe := ok_I0 op_le fun _ _ _ _ => .bl _
theorem ok_gt : Op2Ok X (compareOp .Gt) gGt := ok_I0 op_gt fun _ _ _ _ => .bl _
theorem ok_ge : Op2Ok X (compareOp .GtE) gGe := ok_I0 op_ge fun _ _ _ _ => .bl _
/-- list + list -/
def gCatL : D → D → Option RV
  | .list xs, .list ys => if xs.length + ys.length ≤ 16777216 then some (fr (.list (xs ++ ys))) else none
  | _, _ => none
theorem le_line {n : Nat} (h : n ≤ 16777216) : n ≤ sizeLine := by rw [sizeLine_eq]; exact h
theorem ok_catL : Op2Ok X (binaryOp .Add) gCatL := by
  refine ⟨_, op_cat, fun m M H x y d1 d2 res Q s a1 a2 e k => ?_⟩
  cases d1 <;> try (cases e; done)
  cases d2 <;> try (cases e; done)
  rename_i xs ys
  dsimp only [gCatL] at e
  by_cases hl : xs.length + ys.length ≤ 16777216
  · rw [if_pos hl] at e
    cases e
    obtain ⟨a, us, rfl, h1, r1⟩ := a1.list s
    obtain ⟨b, ws, rfl, h2, r2⟩ := a2.list s
    refine ⟨a, b, us, ws, rfl, rfl, h1, h2, by rw [r1.length, r2.length]; exact le_line hl, fun p hp => ?_⟩
    exact k _ _ M (Grow.fresh s hp) ⟨p, _, rfl, upd_same, .lst (r1.append r2), s.free hp, hp⟩
  · rw [if_neg hl] at e
    cases e
/-- tuple + tuple -/
def gCatT : D → D → Option RV
  | .tup xs, .tup ys => if xs.length + ys.length ≤ 16777216 then some (sh (.tup (xs ++ ys))) else none
  | _, _ => none
def gCatS : D → D → Option RV
  | .str xs, .str ys => if xs.length + ys.length ≤ 16777216 then some (sh (.str (xs ++ ys))) else none
  | _, _ => none
theorem ok_catS : Op2Ok X (binaryOp .Add) gCatS := by
  refine ⟨_, op_add_str, fun m M H x y d1 d2 res Q s a1 a2 e k => ?_⟩
  cases d1 <;> try (cases e; done)
  cases d2 <;> try (cases e; done)
  rename_i xs ys
  dsimp only [gCatS] at e
  by_cases hl : xs.length + ys.length ≤ 16777216
  · rw [if_pos hl] at e
    cases e
    exact ⟨xs, ys, a1.str, a2.str, le_line hl, k _ H M (Grow.refl s) (.str _)⟩
  · rw [if_neg hl] at e
    cases e
/-- list * int -/
def gRepL : D → D → Option RV
  | .list xs, .int n => if n < 16777216 ∧ xs.length * n.toNat ≤ 16777216 ∧ -16777216 < n then some (fr (.list (List.replicate n.toNat xs).flatten)) else none
  | _, _ => none
theorem DRs.rep {K : PySem.W.Frag} {m : List Addr} {H : Hp} {xs : List V} {us : List D} (h : DRs K m H xs us) : ∀ k : Nat, DRs K m H (List.replicate k xs).flatten (List.replicate k us).flatten
  | 0 => .nil
  | k + 1 => by
    rw [List.replicate_succ, List.replicate_succ, List.flatten_cons, List.flatten_cons]
    exact h.append (DRs.rep h k)
theorem ok_repL : Op2Ok X (binaryOp .Mult) gRepL := by
  refine ⟨_, op_rep, fun m M H x y d1 d2 res Q s a1 a2 e k => ?_⟩
  cases d1 <;> try (cases e; done)
  cases d2 <;> try (cases e; done)
  rename_i xs n
  dsimp only [gRepL] at e
  by_cases hl : n < 16777216 ∧ xs.length * n.toNat ≤ 16777216 ∧ -16777216 < n
  · rw [if_pos hl] at e
    cases e
    obtain ⟨a, us, rfl, h1, r1⟩ := a1.list s
    refine ⟨a, n, us, rfl, a2.int, h1, by omega, by omega, by rw [r1.length]; exact le_line hl.2.1, fun p hp => ?_⟩
    exact k _ _ M (Grow.fresh s hp) ⟨p, _, rfl, upd_same, .lst (DRs.rep r1 _), s.free hp, hp⟩
  · rw [if_neg hl] at e
    cases e
theorem ok_catT : Op2Ok X (binaryOp .Add) gCatT := by
  refine ⟨_, op_catA, fun m M H x y d1 d2 res Q s a1 a2 e k => ?_⟩
  cases d1 <;> try (cases e; done)
  cases d2 <;> try (cases e; done)
  rename_i xs ys
  dsimp only [gCatT] at e
  by_cases hl : xs.length + ys.length ≤ 16777216
  · rw [if_pos hl] at e
    cases e
    obtain ⟨a, us, rfl, h1, r1, r1'⟩ := a1.tup s
    obtain ⟨b, ws, rfl, h2, r2, r2'⟩ := a2.tup s
    refine ⟨a, b, us, ws, rfl, rfl, h1, h2, by rw [r1.length, r2.length]; exact le_line hl, fun he => ?_, fun _ he => ?_, fun _ _ p hp => ?_⟩
    · subst he
      cases r1
      exact k _ H M (Grow.refl s) r2'
    · subst he
      cases r2
      exact k _ H M (Grow.refl s) (show DR X.K m M (.ref a) (.tup (xs ++ [])) from by rw [List.append_nil]; exact r1')
    · have gs := Grow.share (o := .tup (us ++ ws)) s hp
      exact k _ _ _ gs (.tup (SqT.of upd_same) ((r1.append r2).up gs.mm))
  · rw [if_neg hl] at e
    cases e
def gPlus : D → D → Option RV := fun a b => (gAdd a b).or ((gCatS a b).or ((gCatL a b).or (gCatT a b)))
theorem ok_plus : Op2Ok X (binaryOp .Add) gPlus := ok_add.or (ok_catS.or (ok_catL.or ok_catT))
def gTimes : D → D → Option RV := fun a b => (gMul a b).or (gRepL a b)
theorem ok_times : Op2Ok X (binaryOp .Mult) gTimes := ok_mul.or ok_repL
/-- == and != -/
def eqB (a b : D) : Option Bool := match a, b with
  | .int i, .int j => some (i == j)
  | .str x, .str y => some (x == y)
  | .bool x, .bool y => some (x == y)
  | a, b => if SeqAt.shaped a.py = true ∧ SeqAt.shaped b.py = true then some (PyData.eqv a.py b.py) else none
def gEq (a b : D) : Option RV := (eqB a b).map fun r => sh (.bool r)
def gNe (a b : D) : Option RV := (eqB a b).map fun r => sh (.bool (!r))
theorem eqB_cases {K : PySem.W.Frag} {m : List Addr} {M H : Hp} {x y : V} {d1 d2 : D} {r : Bool} (s : Same M H) (a1 : Arg K m M H x d1) (a2 : Arg K m M H y d2) (e : eqB d1 d2 = some r) :
    (scal x y = true ∧ decide (x = y) = r) ∨ ∃ d e, Dp K H x d ∧ Dp K H y e ∧ SeqAt.shaped d = true ∧ SeqAt.shaped e = true ∧ PyData.eqv d e = r := by
  have gen : (if SeqAt.shaped d1.py = true ∧ SeqAt.shaped d2.py = true then some (PyData.eqv d1.py d2.py) else none) = some r →
      ∃ d e, Dp K H x d ∧ Dp K H y e ∧ SeqAt.shaped d = true ∧ SeqAt.shaped e = true ∧ PyData.eqv d e = r := fun e => by
    by_cases hs : SeqAt.shaped d1.py = true ∧ SeqAt.shaped d2.py = true
    · rw [if_pos hs] at e
      exact ⟨_, _, DR.dp _ _ (a1.dr s) (SeqAt.canLay_of_shaped hs.1), DR.dp _ _ (a2.dr s) (SeqAt.canLay_of_shaped hs.2), hs.1, hs.2, Option.some.inj e⟩
    · rw [if_neg hs] at e
      cases e
  unfold eqB at e
  split at e
  · rw [a1.int, a2.int]
    exact .inl ⟨rfl, by rw [dec_int]; exact Option.some.inj e⟩
  · rw [a1.str, a2.str]
    exact .inl ⟨rfl, by rw [dec_str]; exact Option.some.inj e⟩
  · rw [a1.bl, a2.bl]
    exact .inl ⟨rfl, by rw [dec_bl]; exact Option.some.inj e⟩
  · exact .inr (gen e)
theorem ok_eq (hu : X.A.units + 64 < cLine) : Op2Ok X (compareOp .Eq) gEq := by
  refine ⟨_, op_eq.or (op_eqD hu), fun m M H x y d1 d2 res Q s a1 a2 e k => ?_⟩
  unfold gEq at e
  cases he : eqB d1 d2 with
  | none => rw [he] at e; cases e
  | some r =>
    rw [he] at e
    cases e
    rcases eqB_cases s a1 a2 he with ⟨h1, h2⟩ | ⟨d, e, h1, h2, h3, h4, h5⟩
    · exact .inl ⟨h1, by rw [h2]; exact k _ H M (Grow.refl s) (.bl _)⟩
    · exact .inr ⟨d, e, h1, h2, h3, h4, by rw [h5]; exact k _ H M (Grow.refl s) (.bl _)⟩
theorem ok_ne (hu : X.A.units + 64 < cLine) : Op2Ok X (compareOp .NotEq) gNe := by
  refine ⟨_, op_ne.or (op_neD hu), fun m M H x y d1 d2 res Q s a1 a2 e k => ?_⟩
  unfold gNe at e
  cases he : eqB d1 d2 with
  | none => rw [he] at e; cases e
  | some r =>
    rw [he] at e
    cases e
    rcases eqB_cases s a1 a2 he with ⟨h1, h2⟩ | ⟨d, e, h1, h2, h3, h4, h5⟩
    · exact .inl ⟨h1, by rw [h2]; exact k _ H M (Grow.refl s) (.bl _)⟩
    · exact .inr ⟨d, e, h1, h2, h3, h4, by rw [h5]; exact k _ H M (Grow.refl s) (.bl _)⟩
/-- is None -/
def D.isNone : D → Bool
  | .none => true
  | _ => false
def gIs : D → D → Option RV
  | d, .none => some (sh (.bool d.isNone))
  | _, _ => none
def gIsNot : D → D → Option RV
  | d, .none => some (sh (.bool (!d.isNone)))
  | _, _ => none
theorem Arg.isNon {K : PySem.W.Frag} {m : List Addr} {M H : Hp} {x : V} {d : D} (h : Arg K m M H x d) : decide (x = .non) = d.isNone := by
  rcases h with h | ⟨a, o, rfl, h2, h3⟩
  · cases h <;> rfl
  · cases h3 <;> rfl
theorem ok_is : Op2Ok X (compareOp .Is) gIs := by
  refine ⟨_, op_isN, fun m M H x y d1 d2 res Q s a1 a2 e k => ?_⟩
  cases d2 <;> try (cases e; done)
  cases e
  exact ⟨a2.non, by rw [a1.isNon]; exact k _ H M (Grow.refl s) (.bl _)⟩
theorem ok_isnot : Op2Ok X (compareOp .IsNot) gIsNot := by
  refine ⟨_, op_notN, fun m M H x y d1 d2 res Q s a1 a2 e k => ?_⟩
  cases d2 <;> try (cases e; done)
  cases e
  exact ⟨a2.non, by rw [a1.isNon]; exact k _ H M (Grow.refl s) (.bl _)⟩
end
end MP

namespace MP
open PySem PySem.Spec PyProof.Rows L2

section
variable {X : Cx} {T : Tab} {W : WX} {a b c e : Expr} {es : List Expr} {pos p : Pos} {fa fb fc : Sta → PR RV} {ta tb tc : Sta → PR Bool}

def RV.bool (r : RV) : PR Bool := match r.d with
  | .bool b => .ok b
  | _ => .stuck
def pB (f : Sta → PR RV) : Sta → PR Bool := fun s => (f s).bind RV.bool
theorem tB_of {σ : L2.St} {H : Hp} {Q : Bool → Hp → Prop} (h : tT X T W (pB fa) σ H Q) : tP X T W fa σ H (fun x H' => ∃ k, x = .bl k ∧ Q k H') := by
  obtain ⟨s, m, M, G, R, q⟩ := h
  refine ⟨s, m, M, G, R, ?_⟩
  revert q
  unfold pB PR.bind
  cases fa s with
  | ok r =>
    intro q y H' M' g rr
    obtain ⟨k, d⟩ := r
    cases d <;> try (exact q.elim)
    rename_i b
    exact ⟨b, rr.arg.bl, q H' M' g⟩
  | exc e => intro q; exact q
  | stuck => intro q; exact q
/-- a comparison as a test -/
theorem et_cmp {op : CmpOp} {g : D → D → Option RV} (ho : Op2Ok X (compareOp op) g) (ha : PEv X T W a fa) (hb : PEv X T W b fb) (hm : behindInMarks op b = false) : PTv X T W (.Compare a [op] [b] pos) (pB (p2 g fa fb)) := by
  obtain ⟨r, h1, h2⟩ := ho
  exact PT.wk (pt_cmpR h1 ha hb hm) fun σ H Q h => tOp_of h2 (tB_of h)
/-- a value that is a bool, as a test -/
theorem et_val (h : PEv X T W e fa) (he : ∀ whole, isTrue e X.env whole = (do let v ← whole; standAt e.pos; holding [v] (truthy v)) := by intro _; rfl) : PTv X T W e (pB fa) :=
  PT.wk (pt_val h he) fun σ H Q h => tB_of h
def pNot (f : Sta → PR Bool) : Sta → PR Bool := fun s => (f s).bind fun b => .ok (!b)
theorem et_not (h : PTv X T W a ta) : PTv X T W (.UnaryOp .Not a pos) (pNot ta) := by
  refine PT.wk (pt_not h) ?_
  rintro σ H Q ⟨s, m, M, G, R, q⟩
  refine ⟨s, m, M, G, R, ?_⟩
  revert q
  unfold pNot PR.bind
  cases ta s with
  | ok r => intro q; exact q
  | exc e => intro q; exact q
  | stuck => intro q; exact q
abbrev PWv (X : Cx) (T : Tab) (W : WX) (e : Expr) (f : Sta → PR Bool) : Prop := PW X e (tT X T W f)
def pAnd (f g : Sta → PR Bool) : Sta → PR Bool := fun s => (f s).bind fun b => if b then g s else .ok false
def pOr (f g : Sta → PR Bool) : Sta → PR Bool := fun s => (f s).bind fun b => if b then .ok true else g s
theorem ew_and1 (h : PTv X T W a ta) : PWv X T W (.BoolOp .And [a] pos) ta := pw_and1 h
theorem ew_or1 (h : PTv X T W a ta) : PWv X T W (.BoolOp .Or [a] pos) ta := pw_or1 h
theorem tT_seq {f g : Sta → PR Bool} {σ : L2.St} {H : Hp} {Q : Bool → Hp → Prop} {k : Sta → Bool → PR Bool} (h : tT X T W (fun s => (f s).bind fun b => k s b) σ H Q) :
    tT X T W f σ H fun b H1 => tT X T W (fun s => k s b) σ H1 Q := by
  obtain ⟨s, m, M, G, R, q⟩ := h
  refine ⟨s, m, M, G, R, ?_⟩
  revert q
  dsimp only
  unfold PR.bind
  cases f s with
  | ok b =>
    intro q H1 M1 g1
    refine ⟨s, m, M1, G, R.grow g1, ?_⟩
    revert q
    dsimp only
    cases k s b with
    | ok c => intro q H2 M2 g2; exact q H2 M2 (g1.trans g2)
    | exc e => intro q cls d H' M' g2 x; exact q cls d H' M' (g1.trans g2) x
    | stuck => intro q; exact q
  | exc e => intro q; exact q
  | stuck => intro q; exact q
theorem tT_ok {b : Bool} {σ : L2.St} {H : Hp} {Q : Bool → Hp → Prop} (h : tT X T W (fun _ => .ok b) σ H Q) : Q b H := by
  obtain ⟨s, m, M, G, R, q⟩ := h
  exact q H M (Grow.refl R.mh)
theorem ew_and {rest : List Expr} (ha : PTv X T W a ta) (hb : PWv X T W (.BoolOp .And (b :: rest) pos) tb) : PWv X T W (.BoolOp .And (a :: b :: rest) pos) (pAnd ta tb) := by
  refine PW.wk (pw_and ha hb) fun σ H Q h => ?_
  have h2 := tT_seq (f := ta) (g := tb) (k := fun s b => if b then tb s else .ok false) h
  obtain ⟨s, m, M, G, R, q⟩ := h2
  refine ⟨s, m, M, G, R, ?_⟩
  revert q
  cases ta s with
  | ok r =>
    intro q H1 M1 g1
    have q := q H1 M1 g1
    cases r with
    | true => exact q
    | false => exact tT_ok q
  | exc e => intro q; exact q
  | stuck => intro q; exact q
theorem ew_or {rest : List Expr} (ha : PTv X T W a ta) (hb : PWv X T W (.BoolOp .Or (b :: rest) pos) tb) : PWv X T W (.BoolOp .Or (a :: b :: rest) pos) (pOr ta tb) := by
  refine PW.wk (pw_or ha hb) fun σ H Q h => ?_
  have h2 := tT_seq (f := ta) (g := tb) (k := fun s b => if b then .ok true else tb s) h
  obtain ⟨s, m, M, G, R, q⟩ := h2
  refine ⟨s, m, M, G, R, ?_⟩
  revert q
  cases ta s with
  | ok r =>
    intro q H1 M1 g1
    have q := q H1 M1 g1
    cases r with
    | true => exact tT_ok q
    | false => exact q
  | exc e => intro q; exact q
  | stuck => intro q; exact q
theorem et_w (h : PWv X T W e ta) : PTv X T W e ta := PW.pt h

def pAndV (f g : Sta → PR RV) : Sta → PR RV := fun s => (pB f s).bind fun b => if b then g s else .ok (sh (.bool false))
theorem tV_seq {f : Sta → PR RV} {σ : L2.St} {H : Hp} {Q : VK} {k : Sta → Bool → PR RV} (h : tP X T W (fun s => (pB f s).bind fun b => k s b) σ H Q) :
    tP X T W f σ H fun x H1 => ∃ c, x = .bl c ∧ tP X T W (fun s => k s c) σ H1 Q := by
  refine tB_of ?_
  obtain ⟨s, m, M, G, R, q⟩ := h
  refine ⟨s, m, M, G, R, ?_⟩
  revert q
  dsimp only
  unfold PR.bind
  cases pB f s with
  | ok b =>
    intro q H1 M1 g1
    refine ⟨s, m, M1, G, R.grow g1, ?_⟩
    revert q
    dsimp only
    cases k s b with
    | ok c => intro q y H2 M2 g2 rr; exact q y H2 M2 (g1.trans g2) (rr.since g1.same)
    | exc e => intro q cls d H' M' g2 x; exact q cls d H' M' (g1.trans g2) x
    | stuck => intro q; exact q
  | exc e => intro q; exact q
  | stuck => intro q; exact q
theorem tP_ok {d : D} {v : V} {σ : L2.St} {H : Hp} {Q : VK} (h : tP X T W (fun _ => .ok (sh d)) σ H Q) (r : ∀ m M, DR X.K m M v d) : Q v H := by
  obtain ⟨s, m, M, G, R, q⟩ := h
  exact q v H M (Grow.refl R.mh) (r m M)
theorem ev_one {op : BoolOp} (h : PEv X T W a fa) : PEv X T W (.BoolOp op [a] pos) fa := pe_one h
theorem ev_and {rest : List Expr} (ha : PEv X T W a fa) (hb : PEv X T W (.BoolOp .And (b :: rest) pos) fb) : PEv X T W (.BoolOp .And (a :: b :: rest) pos) (pAndV fa fb) := by
  refine PE.wk (pe_and ha hb) fun σ H Q h => ?_
  have h2 := tV_seq (f := fa) (k := fun s b => if b then fb s else .ok (sh (.bool false))) h
  obtain ⟨s, m, M, G, R, q⟩ := h2
  refine ⟨s, m, M, G, R, ?_⟩
  revert q
  cases fa s with
  | ok r =>
    intro q y H1 M1 g1 rr
    obtain ⟨c, e1, q⟩ := q y H1 M1 g1 rr
    refine ⟨c, e1, ?_⟩
    cases c with
    | true => exact q
    | false => exact tP_ok q fun _ _ => .bl false
  | exc e => intro q; exact q
  | stuck => intro q; exact q
/-- a < b < c -/
def p3 (g g' : D → D → Option RV) (fa fb fc : Sta → PR RV) : Sta → PR RV := fun s => (fa s).bind fun x => (fb s).bind fun y => (PR.of (g x.d y.d)).bind fun r => (RV.bool r).bind fun k =>
  if k then (fc s).bind fun z => .of (g' y.d z.d) else .ok (sh (.bool false))
end

section
variable {X : Cx} {T : Tab} {W : WX} {a b c e : Expr} {es : List Expr} {pos p : Pos} {fa fb fc : Sta → PR RV}
def pNil {α : Type} : Sta → PR (List α) := fun _ => .ok []
def pCons {α : Type} (f : Sta → PR α) (fs : Sta → PR (List α)) : Sta → PR (List α) := fun s => (f s).bind fun x => (fs s).bind fun xs => .ok (x :: xs)
theorem as_nil : PAs X T W [] pNil := PA.wk pa_nil fun σ H Q ⟨s, m, M, G, R, q⟩ => q [] H M (Grow.refl R.mh) .nil
theorem ar_nil : PAr X T W [] pNil := PA.wk pa_nil fun σ H Q ⟨s, m, M, G, R, q⟩ => q [] H M (Grow.refl R.mh) .nil
theorem as_cons {f : Sta → PR D} {fs : Sta → PR (List D)} (ha : PDv X T W e f) (hr : PAs X T W es fs) (hs : starEach (e :: es) X.env = (false, eval e X.env) :: starEach es X.env := by rfl) : PAs X T W (e :: es) (pCons f fs) := by
  refine PA.wk (pa_cons ha hr hs) ?_
  rintro σ H Q ⟨s, m, M, G, R, q⟩
  refine ⟨s, m, M, G, R, ?_⟩
  revert q
  unfold pCons PR.bind
  cases f s with
  | ok x =>
    intro q y H1 M1 g1 r1
    refine ⟨s, m, M1, G, R.grow g1, ?_⟩
    revert q
    cases fs s with
    | ok xs => intro q ys H2 M2 g2 r2; exact q (y :: ys) H2 M2 (g1.trans g2) (.cons (r1.up g2.mm) r2)
    | exc e => intro q cls d H' M' g2 x; exact q cls d H' M' (g1.trans g2) x
    | stuck => intro q; exact q
  | exc e => intro q; exact q
  | stuck => intro q; exact q
theorem ar_cons {f : Sta → PR RV} {fs : Sta → PR (List RV)} (ha : PEv X T W e f) (hr : PAr X T W es fs) (hs : starEach (e :: es) X.env = (false, eval e X.env) :: starEach es X.env := by rfl) : PAr X T W (e :: es) (pCons f fs) := by
  refine PA.wk (pa_cons ha hr hs) ?_
  rintro σ H Q ⟨s, m, M, G, R, q⟩
  refine ⟨s, m, M, G, R, ?_⟩
  revert q
  unfold pCons PR.bind
  cases f s with
  | ok x =>
    intro q y H1 M1 g1 r1
    refine ⟨s, m, M1, G, R.grow g1, ?_⟩
    revert q
    cases fs s with
    | ok xs => intro q ys H2 M2 g2 r2; exact q (y :: ys) H2 M2 (g1.trans g2) (.cons (r1.grow g2) (Paired.mapP r2 fun _ _ z => z.since g1.same))
    | exc e => intro q cls d H' M' g2 x; exact q cls d H' M' (g1.trans g2) x
    | stuck => intro q; exact q
  | exc e => intro q; exact q
  | stuck => intro q; exact q

def pTup (fs : Sta → PR (List D)) : Sta → PR RV := fun s => (fs s).bind fun ds => if ds.length ≤ 1000 then .ok (sh (.tup ds)) else .stuck
def pLst (fs : Sta → PR (List D)) : Sta → PR RV := fun s => (fs s).bind fun ds => if ds.length ≤ 1000 then .ok (fr (.list ds)) else .stuck
theorem ev_tup {fs : Sta → PR (List D)} {x1} (h : PAs X T W es fs) : PEv X T W (.Tuple es x1 pos) (pTup fs) := by
  refine PE.wk (pe_tup h) ?_
  rintro σ H Q ⟨s, m, M, G, R, q⟩
  refine ⟨s, m, M, G, R, ?_⟩
  revert q
  unfold pTup PR.bind
  cases fs s with
  | ok ds =>
    intro q ys H1 M1 g1 r1
    dsimp only at q
    by_cases hl : ds.length ≤ 1000
    · rw [if_pos hl] at q
      refine ⟨by rw [r1.length]; exact le_line (by omega), fun p hp => ?_⟩
      have gs := Grow.share (o := .tup ys) g1.mh hp
      exact q _ _ _ (g1.trans gs) (.tup (SqT.of upd_same) (r1.up gs.mm))
    · rw [if_neg hl] at q
      exact q.elim
  | exc e => intro q; exact q
  | stuck => intro q; exact q
theorem ev_lst {fs : Sta → PR (List D)} (h : PAs X T W es fs) : PEv X T W (.List es pos) (pLst fs) := by
  refine PE.wk (pe_lst h) ?_
  rintro σ H Q ⟨s, m, M, G, R, q⟩
  refine ⟨s, m, M, G, R, ?_⟩
  revert q
  unfold pLst PR.bind
  cases fs s with
  | ok ds =>
    intro q ys H1 M1 g1 r1
    dsimp only at q
    by_cases hl : ds.length ≤ 1000
    · rw [if_pos hl] at q
      refine ⟨by rw [r1.length]; exact le_line (by omega), fun p hp => ?_⟩
      have gs := Grow.fresh (o := .lst ys) g1.mh hp
      exact q _ _ _ (g1.trans gs) ⟨p, _, rfl, upd_same, .lst r1, g1.mh.free hp, g1.same.free hp⟩
    · rw [if_neg hl] at q
      exact q.elim
  | exc e => intro q; exact q
  | stuck => intro q; exact q

def gIx : D → D → Option RV
  | .str z, .int i => if z.length ≤ 16777216 then (atI z.cps.toList i).map fun c => sh (.str ⟨#[c]⟩) else none
  | d, .int i => (seqOf d).bind fun ds => (atI ds i).map sh
  | _, _ => none
theorem DRs.atI {K : PySem.W.Frag} {m : List Addr} {H : Hp} {vs : List V} {ds : List D} {i : Int} {d : D} (h : DRs K m H vs ds) (e : L2.atI ds i = some d) : ∃ v, L2.atI vs i = some v ∧ DR K m H v d := by
  unfold L2.atI at e ⊢
  rw [h.length]
  cases hj : ixN ds.length i with
  | none => rw [hj] at e; cases e
  | some j =>
    rw [hj] at e
    exact h.get e
theorem ok_ix : R2Ok X.K (rIx X.K) gIx := by
  intro m M H x y d1 d2 res Q s a1 a2 e k
  have gen : ∀ (i : Int), d2 = .int i → ((seqOf d1).bind fun ds => (L2.atI ds i).map sh) = some res → rIx X.K x y H Q := fun i e2 e3 => by
    subst e2
    cases hs : seqOf d1 with
    | none => rw [hs] at e3; cases e3
    | some ds =>
      rw [hs] at e3
      cases ha : L2.atI ds i with
      | none => simp [ha] at e3
      | some d =>
        simp only [Option.bind_some, ha, Option.map_some, Option.some.injEq] at e3
        subst e3
        obtain ⟨a, xs, rfl, h1, r1⟩ := a1.seq hs s
        obtain ⟨v, hv, rv⟩ := r1.atI ha
        have q := k v H M (Grow.refl s) rv
        rcases h1 with h1 | h1
        · exact .inl ⟨a, xs, i, v, rfl, a2.int, h1, hv, q⟩
        · exact .inr (.inl ⟨a, xs, i, v, rfl, a2.int, h1, hv, q⟩)
  unfold gIx at e
  split at e
  · rename_i z i
    by_cases hl : z.length ≤ 16777216
    · rw [if_pos hl] at e
      cases hc : L2.atI z.cps.toList i with
      | none => rw [hc] at e; cases e
      | some c =>
        rw [hc] at e
        cases e
        exact .inr (.inr ⟨z, i, c, a1.str, a2.int, le_line hl, hc, k _ H M (Grow.refl s) (.str _)⟩)
    · rw [if_neg hl] at e
      cases e
  · exact gen _ rfl e
  · cases e
theorem ev_ix (ha : PEv X T W a fa) (hb : PEv X T W b fb) (hs : PlainIx b) : PEv X T W (.Subscript a b pos) (p2 gIx fa fb) :=
  PE.wk (pe_ix ix_seq ha hb hs) fun σ H Q h => tOp_of ok_ix h

def tO (X : Cx) (T : Tab) (W : WX) (f : Sta → PR (Option Int)) : TO := fun σ H Q => ∃ s m M G, Rel X.K T m M G H s σ ∧ match f s with
  | .ok o => ∀ H' M', Grow H M H' M' → Q o H'
  | .exc e => ∀ cls d H' M', Grow H M H' M' → ExR X.K T m M' H' e cls d → W cls d σ H'
  | .stuck => False
abbrev POv (X : Cx) (T : Tab) (W : WX) (e : Option Expr) (f : Sta → PR (Option Int)) : Prop := PO X e (tO X T W f)
theorem PO.wk {X : Cx} {e : Option Expr} {t t' : TO} (h : PO X e t) (w : ∀ σ H Q, t' σ H Q → t σ H Q) : PO X e t' := ⟨fun pins s σ H Q I q => h.run pins s σ H Q I (w _ _ _ q)⟩
def pNo : Sta → PR (Option Int) := fun _ => .ok none
def RV.int (r : RV) : PR Int := match r.d with
  | .int i => .ok i
  | _ => .stuck
def pSome (f : Sta → PR RV) : Sta → PR (Option Int) := fun s => (f s).bind fun r => (RV.int r).bind fun i => .ok (some i)
theorem eo_none : POv X T W none pNo := PO.wk po_none fun σ H Q ⟨s, m, M, G, R, q⟩ => q H M (Grow.refl R.mh)
theorem eo_some (h : PEv X T W e fa) : POv X T W (some e) (pSome fa) := by
  refine PO.wk (po_some h) ?_
  rintro σ H Q ⟨s, m, M, G, R, q⟩
  refine ⟨s, m, M, G, R, ?_⟩
  revert q
  unfold pSome PR.bind
  cases fa s with
  | ok r =>
    intro q y H1 M1 g1 rr
    obtain ⟨k, d⟩ := r
    cases d <;> try (exact q.elim)
    rename_i i
    exact ⟨i, rr.arg.int, q H1 M1 g1⟩
  | exc e => intro q; exact q
  | stuck => intro q; exact q
def cutD {α : Type} (xs : List α) (lo hi : Option Int) : List α := (xs.drop (HT.sIx xs.length 0 lo)).take (HT.sIx xs.length xs.length hi - HT.sIx xs.length 0 lo)
theorem DRs.cut {K : PySem.W.Frag} {m : List Addr} {H : Hp} {vs : List V} {ds : List D} (h : DRs K m H vs ds) (lo hi : Option Int) : DRs K m H (cutV vs lo hi) (cutD ds lo hi) := by
  unfold cutV cutD
  rw [h.length]
  exact (h.drop _).take _
theorem cutD_whole {α : Type} (xs : List α) (lo hi : Option Int) (h : HT.sIx xs.length 0 lo = 0 ∧ HT.sIx xs.length xs.length hi = xs.length) : cutD xs lo hi = xs := by
  unfold cutD
  rw [h.1, h.2]
  simp
def gSl : D → Option Int → Option Int → Option RV
  | .list ds, lo, hi => some (fr (.list (cutD ds lo hi)))
  | .lk ds, lo, hi => some (fr (.list (cutD ds lo hi)))
  | .tup ds, lo, hi => some (sh (.tup (cutD ds lo hi)))
  | .str z, lo, hi => if z.length ≤ 16777216 then some (sh (.str (cutS z lo hi))) else none
  | _, _, _ => none
def rSlice (K : PySem.W.Frag) : V → Option Int → Option Int → Hp → VK → Prop := fun x lo hi H Q => rSlL K x lo hi H Q ∨ (rSlA K x lo hi H Q ∨ rSlS x lo hi H Q)
theorem ok_sl {m : List Addr} {M H : Hp} {x : V} {d : D} {lo hi : Option Int} {res : RV} {Q : VK} (s : Same M H) (a1 : Arg X.K m M H x d) (e : gSl d lo hi = some res)
    (k : ∀ z H' M', Grow H M H' M' → RR X.K m M' H H' z res → Q z H') : rSlice X.K x lo hi H Q := by
  have lst : ∀ (a : Addr) (xs : List V) (ds : List D), x = .ref a → SqL X.K H a xs → DRs X.K m M xs ds → res = fr (.list (cutD ds lo hi)) → rSlice X.K x lo hi H Q := fun a xs ds e1 h1 r1 e2 => by
    subst e1 e2
    refine .inl ⟨a, xs, rfl, h1, fun p hp => ?_⟩
    exact k _ _ M (Grow.fresh s hp) ⟨p, _, rfl, upd_same, .lst (r1.cut lo hi), s.free hp, hp⟩
  cases d <;> try (cases e; done)
  · rename_i z
    dsimp only [gSl] at e
    by_cases hl : z.length ≤ 16777216
    · rw [if_pos hl] at e
      cases e
      exact .inr (.inr ⟨z, a1.str, le_line hl, k _ H M (Grow.refl s) (.str _)⟩)
    · rw [if_neg hl] at e
      cases e
  · rename_i ds
    cases e
    obtain ⟨a, xs, h0, h1, r1⟩ := a1.list s
    exact lst a xs ds h0 (SqL.of h1) r1 rfl
  · rename_i ds
    cases e
    obtain ⟨a, xs, h0, h1, r1⟩ := a1.lk s
    exact lst a xs ds h0 h1 r1 rfl
  · rename_i ds
    cases e
    obtain ⟨a, xs, rfl, h1, r1, r0⟩ := a1.tup s
    refine .inr (.inl ⟨a, xs, rfl, h1, fun hw => ?_, fun _ p hp => ?_⟩)
    · rw [r1.length] at hw
      exact k _ H M (Grow.refl s) (show DR X.K m M (.ref a) (.tup (cutD ds lo hi)) from by rw [cutD_whole ds lo hi hw]; exact r0)
    · have gs := Grow.share (o := .tup (cutV xs lo hi)) s hp
      exact k _ _ _ gs (.tup (SqT.of upd_same) ((r1.cut lo hi).up gs.mm))
def pSl (fa : Sta → PR RV) (lo hi : Sta → PR (Option Int)) : Sta → PR RV := fun s => (fa s).bind fun x => (lo s).bind fun l => (hi s).bind fun u => .of (gSl x.d l u)
theorem ev_sl {lo hi : Option Expr} {fl fh : Sta → PR (Option Int)} {p2 : Pos} (ha : PEv X T W e fa) (hl : POv X T W lo fl) (hh : POv X T W hi fh) : PEv X T W (.Subscript e (.Slice lo hi none p2) pos) (pSl fa fl fh) := by
  refine PE.wk (pe_slice (sl_list.or (sl_tupA.or sl_str)) ha hl hh) ?_
  rintro σ H Q ⟨s, m, M, G, R, q⟩
  refine ⟨s, m, M, G, R, ?_⟩
  revert q
  unfold pSl PR.bind
  cases fa s with
  | ok r1 =>
    intro q y1 H1 M1 g1 rr1
    refine ⟨s, m, M1, G, R.grow g1, ?_⟩
    revert q
    cases fl s with
    | ok l =>
      intro q H2 M2 g2
      refine ⟨s, m, M2, G, (R.grow g1).grow g2, ?_⟩
      revert q
      cases fh s with
      | ok u =>
        intro q H3 M3 g3
        dsimp only at q
        cases hg : gSl r1.d l u with
        | none => simp only [hg, PR.of] at q
        | some res =>
          simp only [hg, PR.of] at q
          have gs := g1.trans (g2.trans g3)
          exact ok_sl g3.mh ((rr1.grow g2).grow g3).arg hg fun z H' M' g4 rr4 => q z H' M' (gs.trans g4) (rr4.since gs.same)
      | exc e => intro q cls d H' M' g3 x; exact q cls d H' M' (g1.trans (g2.trans g3)) x
      | stuck => intro q; exact q
    | exc e => intro q cls d H' M' g2 x; exact q cls d H' M' (g1.trans g2) x
    | stuck => intro q; exact q
  | exc e => intro q; exact q
  | stuck => intro q; exact q

def CallOk (X : Cx) (v : Value) (g : List D → Option RV) : Prop := ∃ r, CallR X v r ∧ ∀ m M H ys ds res Q, Same M H → Paired (Arg X.K m M H) ys ds → g ds = some res →
  (∀ z H' M', Grow H M H' M' → RR X.K m M' H H' z res → Q z H') → r ys H Q
theorem CallOk.or {v : Value} {g g' : List D → Option RV} (h : CallOk X v g) (h' : CallOk X v g') : CallOk X v (fun a => (g a).or (g' a)) := by
  obtain ⟨r, h1, h2⟩ := h
  obtain ⟨r', h1', h2'⟩ := h'
  refine ⟨_, h1.or h1', fun m M H ys ds res Q s a e k => ?_⟩
  dsimp only at e
  cases hg : g ds with
  | some z =>
    rw [hg] at e
    have e' : z = res := Option.some.inj e
    subst e'
    exact .inl (h2 m M H ys ds z Q s a hg k)
  | none =>
    rw [hg] at e
    exact .inr (h2' m M H ys ds res Q s a e k)
def pCall (g : List D → Option RV) (fs : Sta → PR (List RV)) : Sta → PR RV := fun s => (fs s).bind fun rs => .of (g (rs.map RV.d))
theorem args_of {K : PySem.W.Frag} {m : List Addr} {M H0 H : Hp} : ∀ {ys : List V} {rs : List RV}, Paired (RR K m M H0 H) ys rs → Paired (Arg K m M H) ys (rs.map RV.d)
  | _, _, .nil => .nil
  | _, _, .cons r t => .cons r.arg (args_of t)
theorem tCB_of {v : Value} {g : List D → Option RV} {fs : Sta → PR (List RV)} {r : List V → Hp → VK → Prop} (h2 : ∀ m M H ys ds res Q, Same M H → Paired (Arg X.K m M H) ys ds → g ds = some res →
    (∀ z H' M', Grow H M H' M' → RR X.K m M' H H' z res → Q z H') → r ys H Q) {σ : L2.St} {H : Hp} {Q : VK} (h : tP X T W (pCall g fs) σ H Q) : tCB r (tAr X T W fs) σ H Q := by
  obtain ⟨s, m, M, G, R, q⟩ := h
  refine ⟨s, m, M, G, R, ?_⟩
  revert q
  unfold pCall PR.bind
  cases fs s with
  | ok rs =>
    intro q ys H1 M1 g1 rr
    dsimp only at q
    cases hg : g (rs.map RV.d) with
    | none => simp only [hg, PR.of] at q
    | some res =>
      simp only [hg, PR.of] at q
      exact h2 m M1 H1 ys _ res Q g1.mh (args_of rr) hg fun z H' M' g2 rr2 => q z H' M' (g1.trans g2) (rr2.since g1.same)
  | exc e => intro q; exact q
  | stuck => intro q; exact q
theorem ev_callB {x : Str} {id : String} {g : List D → Option RV} {fs : Sta → PR (List RV)} (hc : CallOk X (.builtin id) g) (hg : Gl X x) (hm : X.mg x = none) (hv : bootBuiltins x = some (.builtin id)) (ha : PAr X T W (e :: es) fs)
    (hn : x ≠ "__name__" := by decide) (hdb : (x == ("__debug__" : Str)) = false := by decide)
    (he : starEach (e :: es) X.env = (false, eval e X.env) :: starEach es X.env := by rfl) (hpl : (backTo pos (starEach es X.env)).any (·.1) = false := by rfl) :
    PEv X T W (.Call (.Name x p) (e :: es) [] pos) (pCall g fs) := by
  obtain ⟨r, h1, h2⟩ := hc
  exact PE.wk (pe_callB h1 hg hm hv ha hn hdb he hpl) fun σ H Q h => tCB_of (v := .builtin id) h2 h
theorem ev_callTy {x : Str} {id : String} {g : List D → Option RV} {fs : Sta → PR (List RV)} (hc : CallOk X (.type id) g) (hg : Gl X x) (hm : X.mg x = none) (hv : bootBuiltins x = some (.type id)) (ha : PAr X T W (e :: es) fs)
    (hn : x ≠ "__name__" := by decide) (hdb : (x == ("__debug__" : Str)) = false := by decide)
    (he : starEach (e :: es) X.env = (false, eval e X.env) :: starEach es X.env := by rfl) (hpl : (backTo pos (starEach es X.env)).any (·.1) = false := by rfl) :
    PEv X T W (.Call (.Name x p) (e :: es) [] pos) (pCall g fs) := by
  obtain ⟨r, h1, h2⟩ := hc
  exact PE.wk (pe_callTy h1 hg hm hv ha hn hdb he hpl) fun σ H Q h => tCB_of (v := .type id) h2 h
def gLen : List D → Option RV
  | [.str z] => if z.length ≤ 16777216 then some (sh (.int z.length)) else none
  | [d] => (seqOf d).map fun ds => sh (.int ds.length)
  | _ => none
theorem ok_len : CallOk X (.builtin "len") gLen := by
  refine ⟨_, call_len_str.or call_len_seq, fun m M H ys ds res Q s a e k => ?_⟩
  unfold gLen at e
  split at e
  · rename_i z
    cases a with
    | cons a1 an =>
      cases an
      by_cases hl : z.length ≤ 16777216
      · rw [if_pos hl] at e
        cases e
        exact .inl ⟨z, by rw [a1.str], le_line hl, k _ H M (Grow.refl s) (.int _)⟩
      · rw [if_neg hl] at e
        cases e
  · rename_i d _
    cases a with
    | cons a1 an =>
      cases an
      cases hs : seqOf d with
      | none => rw [hs] at e; cases e
      | some ds =>
        rw [hs] at e
        cases e
        obtain ⟨p, xs, rfl, h1, r1⟩ := a1.seq hs s
        refine .inr ⟨p, xs, rfl, h1, ?_⟩
        rw [r1.length]
        exact k _ H M (Grow.refl s) (.int _)
  · cases e
def gMax : List D → Option RV
  | [.int i, .int j] => some (sh (.int (if j > i then j else i)))
  | _ => none
theorem ok_max (hc : X.calm = true) : CallOk X (.builtin "max") gMax := by
  refine ⟨_, call_max2 hc, fun m M H ys ds res Q s a e k => ?_⟩
  unfold gMax at e
  split at e
  · cases e
    cases a with
    | cons a1 an => cases an with
      | cons a2 an =>
        cases an
        exact ⟨_, _, by rw [a1.int, a2.int], k _ H M (Grow.refl s) (.int _)⟩
  · cases e
def gList : List D → Option RV
  | [d] => (seqOf d).map fun ds => fr (.list ds)
  | _ => none
theorem ok_list : CallOk X (.type "list") gList := by
  refine ⟨_, call_list_of, fun m M H ys ds res Q s a e k => ?_⟩
  unfold gList at e
  split at e
  · rename_i d
    cases a with
    | cons a1 an =>
      cases an
      cases hs : seqOf d with
      | none => rw [hs] at e; cases e
      | some ds =>
        rw [hs] at e
        cases e
        obtain ⟨p, xs, rfl, h1, r1⟩ := a1.seq hs s
        refine ⟨p, xs, rfl, h1, fun l hl => ?_⟩
        exact k _ _ M (Grow.fresh s hl) ⟨l, _, rfl, upd_same, .lst r1, s.free hl, hl⟩
  · cases e
def gTuple : List D → Option RV
  | [d] => (seqOf d).map fun ds => sh (.tup ds)
  | _ => none
theorem ok_tuple : CallOk X (.type "tuple") gTuple := by
  refine ⟨_, call_tuple_of, fun m M H ys ds res Q s a e k => ?_⟩
  unfold gTuple at e
  split at e
  · rename_i d
    cases a with
    | cons a1 an =>
      cases an
      have lst : ∀ (p : Addr) (xs : List V) (ds : List D), SqL X.K H p xs → DRs X.K m M xs ds → res = sh (.tup ds) → ∀ l, H l = Option.none → Q (.ref l) (upd H l (.tup xs)) := fun p xs ds h1 r1 e2 l hl => by
        subst e2
        have gs := Grow.share (o := .tup xs) s hl
        exact k _ _ _ gs (.tup (SqT.of upd_same) (r1.up gs.mm))
      cases d <;> try (cases e; done)
      · rename_i ds
        cases e
        obtain ⟨p, xs, rfl, h1, r1⟩ := a1.list s
        exact ⟨p, xs, rfl, .inl ⟨SqL.of h1, lst p xs ds (SqL.of h1) r1 rfl⟩⟩
      · rename_i ds
        cases e
        obtain ⟨p, xs, rfl, h1, r1⟩ := a1.lk s
        exact ⟨p, xs, rfl, .inl ⟨h1, lst p xs ds h1 r1 rfl⟩⟩
      · rename_i ds
        cases e
        obtain ⟨p, xs, rfl, h1, r1, r0⟩ := a1.tup s
        exact ⟨p, xs, rfl, .inr ⟨h1, k _ H M (Grow.refl s) r0⟩⟩
  · cases e
end

/-- an iterator that yields what ds are, where M0 stands (and B, for a comprehension) -/
def ItOk (K : PySem.W.Frag) (m : List Addr) (J : It) (ds : List D) (M0 B : Hp) : Prop := ∀ (i : Nat) (M H : Hp), Same M0 M → Same M H → Same B H →
  (∀ d, ds[i]? = some d → J.go i H ∧ ∀ x H', J.yld i H x H' → ∃ M', Grow H M H' M' ∧ DR K m M' x d) ∧ (ds.length ≤ i → J.stop i H)
section
variable (X : Cx) (T : Tab) (W : WX)
def tI (f : Sta → PR (List D)) : TI := fun σ H R => ∃ s m M G, Rel X.K T m M G H s σ ∧ match f s with
  | .ok ds => ∀ J H' M', Grow H M H' M' → ItOk X.K m J ds M' (fun _ => Option.none) → R J H'
  | .exc e => ∀ cls d H' M', Grow H M H' M' → ExR X.K T m M' H' e cls d → W cls d σ H'
  | .stuck => False
def tIc (f : Sta → PR (List D)) : TI := fun σ H R => ∃ s m M G, Rel X.K T m M G H s σ ∧ match f s with
  | .ok ds => ∀ J H' M', Grow H M H' M' → ItOk X.K m J ds M' H' → R J H'
  | .exc e => ∀ cls d H' M', Grow H M H' M' → ExR X.K T m M' H' e cls d → W cls d σ H'
  | .stuck => False
abbrev PIv (tg iter : Expr) (f : Sta → PR (List D)) : Prop := PI X tg iter (tI X T W f)
abbrev PIc (tg iter : Expr) (f : Sta → PR (List D)) : Prop := PI X tg iter (tIc X T W f)
end
theorem PI.wk {X : Cx} {tg e : Expr} {t t' : TI} (h : PI X tg e t) (w : ∀ σ H Q, t' σ H Q → t σ H Q) : PI X tg e t' := ⟨fun pins s σ H Q I q => h.run pins s σ H Q I (w _ _ _ q)⟩
section
variable {X : Cx} {T : Tab} {W : WX} {a b c e tg iter : Expr} {es : List Expr} {pos p : Pos} {fa fb fc : Sta → PR RV}
theorem Same.none (H : Hp) : Same (fun _ => Option.none) H := fun _ _ h => nomatch h
theorem ic_of {f : Sta → PR (List D)} (h : PIv X T W tg iter f) : PIc X T W tg iter f := by
  refine PI.wk h ?_
  rintro σ H Q ⟨s, m, M, G, R, q⟩
  refine ⟨s, m, M, G, R, ?_⟩
  revert q
  cases f s with
  | ok ds => intro q J H' M' g ok; exact q J H' M' g fun i M H a b _ => ok i M H a b (Same.none _)
  | exc e => intro q; exact q
  | stuck => intro q; exact q
/-- a list or a tuple that is walked -/
def iSeq (K : PySem.W.Frag) (tl : TE) : TI := fun σ H R => tl σ H fun x H1 => ∃ a, x = .ref a ∧ (((∃ xs, SqL K H1 a xs) ∧ R (Itl K a) H1) ∨ ((∃ xs, SqT K H1 a xs) ∧ R (Itt K a) H1))
theorem pi_seq {l : Expr} {tl : TE} (hl : PE X l tl) : PI X tg l (iSeq X.K tl) := by
  refine ⟨fun pins s σ H R I h => ?_⟩
  refine thn (hl.run pins s σ H _ I h) fun v s1 ⟨x, H1, I1, r1, q1⟩ => ?_
  obtain ⟨a, e, q⟩ := q1
  subst e
  cases r1
  rcases q with ⟨⟨xs, hq⟩, q⟩ | ⟨⟨xs, hq⟩, q⟩
  · obtain ⟨its, rv, p, hz⟩ := I1.list hq
    refine wpAny_pyIter_list p.isList ?_
    refine ⟨s1.heap.objs.size, [s1.heap.objs.size], _, _, H1, rfl, I1.kept (t' := s1.toks) fun b o e => Heap.get?_push_of_some _ e, turn_list a _, ⟨_, Heap.get?_push_size _ rfl, rfl, rfl⟩, fun b hb => ?_, q⟩
    have e : b = s1.heap.objs.size := by simpa using hb
    subst e
    exact I1.fpOk (Nat.le_refl _) (I1.hok.fresh (Nat.le_refl _))
  · obtain ⟨its, rv, p, hz⟩ := I1.tuple hq
    refine wpAny_pyIter_tuple (show s1.heap.IsTuple a its.toArray from p) ?_
    refine ⟨s1.heap.objs.size, [s1.heap.objs.size], _, _, H1, rfl, I1.kept (t' := s1.toks) fun b o e => Heap.get?_push_of_some _ e, turn_tuple a _, ⟨_, Heap.get?_push_size _ rfl, rfl, rfl⟩, fun b hb => ?_, q⟩
    have e : b = s1.heap.objs.size := by simpa using hb
    subst e
    exact I1.fpOk (Nat.le_refl _) (I1.hok.fresh (Nat.le_refl _))
theorem itl_ok {K : PySem.W.Frag} {m : List Addr} {a' : Addr} {xs : List V} {ds : List D} {M0 B : Hp} (h : ∀ M H, Same M0 M → Same M H → Same B H → SqL K H a' xs) (r : DRs K m M0 xs ds) : ItOk K m (Itl K a') ds M0 B := by
  intro i M H s1 s2 s3
  refine ⟨fun d e => ?_, fun hl => ⟨xs, h M H s1 s2 s3, by rw [r.length]; exact hl⟩⟩
  obtain ⟨v, hv, rv⟩ := r.get e
  refine ⟨⟨xs, v, h M H s1 s2 s3, hv⟩, fun x H' y => ?_⟩
  obtain ⟨rfl, y⟩ := y
  have := y xs (h M H' s1 s2 s3)
  rw [hv] at this
  cases this
  exact ⟨M, Grow.refl s2, rv.up s1⟩
theorem itt_ok {K : PySem.W.Frag} {m : List Addr} {a' : Addr} {xs : List V} {ds : List D} {M0 B : Hp} (h : ∀ M H, Same M0 M → Same M H → Same B H → SqT K H a' xs) (r : DRs K m M0 xs ds) : ItOk K m (Itt K a') ds M0 B := by
  intro i M H s1 s2 s3
  refine ⟨fun d e => ?_, fun hl => ⟨xs, h M H s1 s2 s3, by rw [r.length]; exact hl⟩⟩
  obtain ⟨v, hv, rv⟩ := r.get e
  refine ⟨⟨xs, v, h M H s1 s2 s3, hv⟩, fun x H' y => ?_⟩
  obtain ⟨rfl, y⟩ := y
  have := y xs (h M H' s1 s2 s3)
  rw [hv] at this
  cases this
  exact ⟨M, Grow.refl s2, rv.up s1⟩
def pSeq (f : Sta → PR D) : Sta → PR (List D) := fun s => (f s).bind fun d => .of (seqOf d)
theorem iv_seq {f : Sta → PR D} (h : PDv X T W iter f) : PIv X T W tg iter (pSeq f) := by
  refine PI.wk (pi_seq h) ?_
  rintro σ H R ⟨s, m, M, G, Rl, q⟩
  refine ⟨s, m, M, G, Rl, ?_⟩
  revert q
  unfold pSeq PR.bind
  cases f s with
  | ok d =>
    intro q y H' M' g r
    dsimp only at q
    cases hs : seqOf d with
    | none => simp only [hs, PR.of] at q
    | some ds =>
      simp only [hs, PR.of] at q
      cases d <;> try (cases hs; done)
      · cases hs
        cases r with
        | list h1 h2 => exact ⟨_, rfl, .inl ⟨⟨_, SqL.of (g.mh _ _ h1)⟩, q _ H' M' g (itl_ok (fun M H a b _ => SqL.of (b _ _ (a _ _ h1))) h2)⟩⟩
      · cases hs
        cases r with
        | lk h1 h2 => exact ⟨_, rfl, .inl ⟨⟨_, g.mh.seq h1⟩, q _ H' M' g (itl_ok (fun M H a b _ => b.seq (a.seq h1)) h2)⟩⟩
      · cases hs
        cases r with
        | tup h1 h2 => exact ⟨_, rfl, .inr ⟨⟨_, Same.seqT g.mh h1⟩, q _ H' M' g (itt_ok (fun M H a b _ => Same.seqT b (Same.seqT a h1)) h2)⟩⟩
  | exc e => intro q; exact q
  | stuck => intro q; exact q
def pSeqR (f : Sta → PR RV) : Sta → PR (List D) := fun s => (f s).bind fun r => .of (seqOf r.d)
theorem ic_seq (h : PEv X T W iter fa) : PIc X T W tg iter (pSeqR fa) := by
  refine PI.wk (pi_seq h) ?_
  rintro σ H R ⟨s, m, M, G, Rl, q⟩
  refine ⟨s, m, M, G, Rl, ?_⟩
  revert q
  unfold pSeqR PR.bind
  cases fa s with
  | ok r =>
    intro q y H' M' g rr
    dsimp only at q
    cases hs : seqOf r.d with
    | none => simp only [hs, PR.of] at q
    | some ds =>
      simp only [hs, PR.of] at q
      obtain ⟨a, xs, rfl, h1, r1⟩ := rr.arg.seq hs g.mh
      rcases h1 with h1 | h1
      · exact ⟨a, rfl, .inl ⟨⟨_, h1⟩, q _ H' M' g (itl_ok (fun M H _ _ c => c.seq h1) r1)⟩⟩
      · exact ⟨a, rfl, .inr ⟨⟨_, h1⟩, q _ H' M' g (itt_ok (fun M H _ _ c => Same.seqT c h1) r1)⟩⟩
  | exc e => intro q; exact q
  | stuck => intro q; exact q
/-- range -/
def rng (i j : Int) : List D := (List.range (j - i).toNat).map fun k => D.int (i + (k : Nat))
theorem itr_ok {K : PySem.W.Frag} {m : List Addr} {i j : Int} {M0 B : Hp} : ItOk K m (Itr i (j - i).toNat) (rng i j) M0 B := by
  intro k M H s1 s2 s3
  have hl : (rng i j).length = (j - i).toNat := by simp [rng]
  refine ⟨fun d e => ?_, fun hk => by rw [hl] at hk; exact hk⟩
  have hk : k < (j - i).toNat := by rw [← hl]; exact (List.getElem?_eq_some_iff.mp e).1
  refine ⟨hk, fun x H' y => ?_⟩
  obtain ⟨rfl, rfl⟩ := y
  have : d = .int (i + (k : Nat)) := by
    rw [rng, List.getElem?_map, List.getElem?_range hk] at e
    exact (Option.some.inj e).symm
  subst this
  exact ⟨M, Grow.refl s2, .int _⟩
def big62 (i : Int) : Bool := decide (-(2 ^ 62) ≤ i ∧ i < 2 ^ 62)
def gRng1 : List D → Option (List D)
  | [.int j] => if big62 j then some (rng 0 j) else none
  | _ => none
def pRng (g : List D → Option (List D)) (fs : Sta → PR (List RV)) : Sta → PR (List D) := fun s => (fs s).bind fun rs => .of (g (rs.map RV.d))
theorem iv_range1 {fs : Sta → PR (List RV)} (hg : Gl X "range") (hm : X.mg "range" = none) (ha : PAr X T W [a] fs) (hs : starEach [a] X.env = [(false, eval a X.env)] := by rfl) : PIv X T W tg (.Call (.Name "range" p) [a] [] pos) (pRng gRng1 fs) := by
  refine PI.wk (pi_range1 hg hm ha hs) ?_
  rintro σ H R ⟨s, m, M, G, Rl, q⟩
  refine ⟨s, m, M, G, Rl, ?_⟩
  revert q
  unfold pRng PR.bind
  cases fs s with
  | ok rs =>
    intro q ys H' M' g rr
    dsimp only at q
    cases hr : gRng1 (rs.map RV.d) with
    | none => simp only [hr, PR.of] at q
    | some ds =>
      simp only [hr, PR.of] at q
      have aa := args_of rr
      revert hr aa
      generalize rs.map RV.d = zs
      intro hr aa
      unfold gRng1 at hr
      split at hr
      · rename_i j
        cases aa with
        | cons a1 an =>
          cases an
          by_cases hb : big62 j = true
          · rw [if_pos hb] at hr
            cases hr
            have hb' := of_decide_eq_true hb
            refine ⟨j, by rw [a1.int], hb'.1, hb'.2, ?_⟩
            have := q (Itr 0 (j - 0).toNat) H' M' g itr_ok
            simpa using this
          · rw [if_neg hb] at hr
            cases hr
      · cases hr
  | exc e => intro q; exact q
  | stuck => intro q; exact q
/-- a list alone -/
def lstOf : D → Option (List D)
  | .list ds => some ds
  | .lk ds => some ds
  | _ => none
theorem Arg.lst {K : PySem.W.Frag} {m : List Addr} {M H : Hp} {y : V} {d : D} {ds : List D} (h : Arg K m M H y d) (e : lstOf d = some ds) (s : Same M H) : ∃ a xs, y = .ref a ∧ SqL K H a xs ∧ DRs K m M xs ds := by
  cases d with
  | list ds' =>
    cases e
    obtain ⟨a, xs, h1, h2, h3⟩ := h.list s
    exact ⟨a, xs, h1, SqL.of h2, h3⟩
  | lk ds' =>
    cases e
    exact h.lk s
  | _ => cases e
end
end MP

namespace MP
open PySem PySem.Spec PyProof.Rows L2

section
variable {K : PySem.W.Frag} {T : Tab} {m m' : List Addr} {M M' G H H' : Hp}
theorem Rel.setAll {s : Sta} {σ : L2.St} (mh : Same M H) (gh : Same G H) {f1 f2 : List Addr} (h1 : SlotsR K m M H s.env σ f1) (h2 : StoreR K T m M H s.st m f2) (nd0 : (f1 ++ f2).Nodup) (dj : ∀ a ∈ f1 ++ f2, M a = Option.none ∧ G a = Option.none)
    (i : Nat) {sl : Slot} {y : Option V} {f : List Addr} (h : SlotR K m M H sl y f) (nd : f.Nodup)
    (fresh : ∀ a ∈ f, a ∉ f1 ++ f2 ∧ M a = Option.none ∧ G a = Option.none) : Rel K T m M G H { s with env := s.env.set i sl } (σ.set i y) := by
  cases hs : s.env[i]? with
  | none =>
    have hl : s.env.length ≤ i := List.getElem?_eq_none_iff.mp hs
    have e1 : s.env.set i sl = s.env := List.set_eq_of_length_le hl
    have e2 : σ.set i y = σ := List.set_eq_of_length_le (by rw [← h1.len]; exact hl)
    rw [e1, e2]
    exact ⟨mh, gh, ⟨f1, f2, h1, h2, nd0, dj⟩⟩
  | some sl0 =>
    obtain ⟨g0, g1, g2, y0, ef, ey, _, k⟩ := h1.split hs
    have k := k m M H sl y f (MLe.refl _) (Same.refl _) (fun _ _ => rfl) h
    have fr := fun a ha => (fresh a ha).1
    subst ef
    refine ⟨mh, gh, ⟨g0 ++ f ++ g2, f2, k, h2, ?_, fun a ha => ?_⟩⟩
    · have sub : ((g0 ++ g2) ++ f2).Sublist ((g0 ++ g1 ++ g2) ++ f2) := by
        refine List.Sublist.append ?_ (List.Sublist.refl _)
        rw [List.append_assoc]
        exact List.Sublist.append (List.Sublist.refl _) (List.sublist_append_right _ _)
      have nd1 := nd0.sublist sub
      have perm : List.Perm ((g0 ++ f ++ g2) ++ f2) (f ++ ((g0 ++ g2) ++ f2)) := by
        rw [List.append_assoc, List.append_assoc, List.append_assoc]
        exact List.perm_append_comm_assoc g0 f (g2 ++ f2)
      rw [perm.nodup_iff, List.nodup_append]
      refine ⟨nd, nd1, fun a ha b hb e => ?_⟩
      subst e
      exact fr a ha (sub.subset hb)
    · simp only [List.mem_append] at ha
      rcases ha with ((ha | ha) | ha) | ha
      · exact dj a (by simp [ha])
      · exact (fresh a ha).2
      · exact dj a (by simp [ha])
      · exact dj a (by simp [ha])
theorem Rel.setAny {s : Sta} {σ : L2.St} (R : Rel K T m M G H s σ) (i : Nat) {sl : Slot} {y : Option V} {f : List Addr} (h : SlotR K m M H sl y f) (nd : f.Nodup)
    (fresh : ∀ a ∈ f, (∀ f1 f2, SlotsR K m M H s.env σ f1 → StoreR K T m M H s.st m f2 → a ∉ f1 ++ f2) ∧ M a = Option.none ∧ G a = Option.none) : Rel K T m M G H { s with env := s.env.set i sl } (σ.set i y) := by
  obtain ⟨mh, gh, ⟨f1, f2, h1, h2, nd0, dj⟩⟩ := R
  exact Rel.setAll mh gh h1 h2 nd0 dj i h nd fun a ha => ⟨(fresh a ha).1 f1 f2 h1 h2, (fresh a ha).2⟩
theorem Rel.setV {s : Sta} {σ : L2.St} (R : Rel K T m M G H s σ) (i : Nat) {d : D} {y : V} (h : DR K m M y d) : Rel K T m M G H { s with env := s.env.set i (.v d) } (σ.set i (some y)) :=
  R.setAny i (f := []) ⟨rfl, y, rfl, h⟩ List.nodup_nil fun a ha => nomatch ha
theorem Rel.setU {s : Sta} {σ : L2.St} (R : Rel K T m M G H s σ) (i : Nat) (y : Option V) : Rel K T m M G H { s with env := s.env.set i .un } (σ.set i y) :=
  R.setAny i (f := []) rfl List.nodup_nil fun a ha => nomatch ha
/-- an object of its own, new since H0 where the relation held already -/
theorem Rel.setOwn {H0 M0 : Hp} {s : Sta} {σ : L2.St} (R0 : Rel K T m M0 G H0 s σ) (g : Grow H0 M0 H M) (i : Nat) {d : D} {a : Addr} {o : HO} (ha : H a = some o) (h : ObD K m M o d) (hM : M a = Option.none) (h0 : H0 a = Option.none) :
    Rel K T m M G H { s with env := s.env.set i (.own d) } (σ.set i (some (.ref a))) := by
  obtain ⟨mh0, gh0, ⟨f1, f2, h1, h2, nd0, dj⟩⟩ := R0
  have here : ∀ c ∈ f1 ++ f2, ∃ o, H0 c = some o := fun c hc => by
    rcases List.mem_append.mp hc with hc | hc
    · exact h1.here c hc
    · exact h2.here c hc
  have hh : ∀ c ∈ f1 ++ f2, H c = H0 c := fun c hc => by
    obtain ⟨o, ho⟩ := here c hc
    rw [ho]
    exact g.same _ _ ho
  refine Rel.setAll g.mh (gh0.trans g.same) (h1.mono (MLe.refl _) g.mm fun c hc => hh c (by simp [hc])) (h2.mono (MLe.refl _) (MLe.refl _) g.mm fun c hc => hh c (by simp [hc])) nd0 (fun c hc => ?_) i (f := [a]) ⟨a, o, rfl, rfl, ha, h⟩ (by simp) fun b hb => ?_
  · obtain ⟨o', ho'⟩ := here c hc
    exact ⟨g.keepNone ho' (dj c hc).1, (dj c hc).2⟩
  · have e : b = a := by simpa using hb
    subst e
    refine ⟨fun hm => ?_, hM, gh0.free h0⟩
    obtain ⟨o', ho'⟩ := here b hm
    rw [h0] at ho'
    cases ho'
end

inductive Tg where
  | nm (i : Nat) | tp (is : List Nat)
def gNames : List Nat → TGs
  | [] => gNil
  | i :: is => gCons (gName i) (gNames is)
def tgR (K : PySem.W.Frag) : Tg → TG
  | .nm i => gName i
  | .tp is => gTup K is.length (gNames is)
def setAll : List Nat → List D → List Slot → List Slot
  | i :: is, d :: ds, env => setAll is ds (env.set i (.v d))
  | _, _, env => env
def Tg.bind : Tg → D → List Slot → Option (List Slot)
  | .nm i, d, env => some (env.set i (.v d))
  | .tp is, .tup ds, env => if ds.length = is.length then some (setAll is ds env) else none
  | .tp _, _, _ => none
def Tg.ixs : Tg → List Nat
  | .nm i => [i]
  | .tp is => is
section
variable {X : Cx} {T : Tab} {m : List Addr} {M G H : Hp}
/-- what is outside of some places stays -/
def Off (vs : List Nat) (σ σ' : L2.St) : Prop := σ'.length = σ.length ∧ ∀ j, j ∉ vs → σ'[j]? = σ[j]?
theorem Off.refl (vs : List Nat) (σ : L2.St) : Off vs σ σ := ⟨rfl, fun _ _ => rfl⟩
theorem Off.set {vs : List Nat} {σ σ' : L2.St} (h : Off vs σ σ') {i : Nat} (hi : i ∈ vs) (y : Option V) : Off vs σ (σ'.set i y) :=
  ⟨by rw [List.length_set]; exact h.1, fun j hj => by rw [List.getElem?_set_ne (fun e => hj (by rw [← e]; exact hi))]; exact h.2 j hj⟩
theorem gNames_of {Q : L2.St → Hp → Prop} {vs : List Nat} {σ0 : L2.St} : ∀ (is : List Nat) (ds : List D) (ys : List V) (s : Sta) (σ : L2.St), DRs X.K m M ys ds → ds.length = is.length → Rel X.K T m M G H s σ → Off vs σ0 σ → (∀ i ∈ is, i ∈ vs) →
    (∀ σ', Rel X.K T m M G H { s with env := setAll is ds s.env } σ' → Off vs σ0 σ' → Q σ' H) → gNames is ys σ H Q
  | [], [], _, s, σ, r, _, R, o, _, k => by
    cases r
    exact ⟨rfl, k σ R o⟩
  | i :: is, d :: ds, _, s, σ, r, hl, R, o, hi, k => by
    cases r with
    | cons r1 r2 =>
      refine ⟨_, _, rfl, ?_⟩
      exact gNames_of is ds _ { s with env := s.env.set i (.v d) } _ r2 (by simpa using hl) (R.setV i r1) (o.set (hi i (by simp)) _) (fun j hj => hi j (by simp [hj])) k
  | [], _ :: _, _, _, _, _, hl, _, _, _, _ => by simp at hl
  | _ :: _, [], _, _, _, _, hl, _, _, _, _ => by simp at hl
theorem tgR_of {Q : L2.St → Hp → Prop} {vs : List Nat} {σ0 : L2.St} {t : Tg} {d : D} {y : V} {s : Sta} {σ : L2.St} {env : List Slot} (e : t.bind d s.env = some env) (r : DR X.K m M y d) (R : Rel X.K T m M G H s σ) (o : Off vs σ0 σ) (hi : ∀ i ∈ t.ixs, i ∈ vs)
    (k : ∀ σ', Rel X.K T m M G H { s with env := env } σ' → Off vs σ0 σ' → Q σ' H) : tgR X.K t y σ H Q := by
  cases t with
  | nm i =>
    cases e
    exact k _ (R.setV i r) (o.set (hi i (by simp [Tg.ixs])) _)
  | tp is =>
    cases d <;> try (cases e; done)
    rename_i ds
    dsimp only [Tg.bind] at e
    by_cases hl : ds.length = is.length
    · rw [if_pos hl] at e
      cases e
      cases r with
      | tup h1 h2 =>
        exact ⟨_, _, rfl, Same.seqT R.mh h1, by rw [h2.length]; exact hl, gNames_of is ds _ s σ h2 hl R o hi k⟩
    · rw [if_neg hl] at e
      cases e
theorem wipe_get (σ : L2.St) : ∀ (vs : List Nat) (j : Nat), (wipe σ vs)[j]? = if j ∈ vs then (if j < σ.length then some Option.none else Option.none) else σ[j]?
  | [], j => by simp [wipe]
  | v :: vs, j => by
    rw [wipe]
    by_cases hj : v = j
    · subst hj
      simp only [List.mem_cons, true_or, if_true]
      by_cases hl : v < σ.length
      · rw [List.getElem?_set_self (by rw [wipe_length]; exact hl), if_pos hl]
      · rw [List.getElem?_eq_none (by rw [List.length_set, wipe_length]; omega), if_neg hl]
    · rw [List.getElem?_set_ne hj, wipe_get σ vs j]
      have : (j ∈ v :: vs) ↔ j ∈ vs := by
        simp only [List.mem_cons]
        constructor
        · rintro (h | h)
          · exact absurd h.symm hj
          · exact h
        · exact .inr
      simp only [this]
theorem wipe_off {vs : List Nat} {σ σ' : L2.St} (h : Off vs σ σ') : wipe σ' vs = wipe σ vs := by
  apply List.ext_getElem?
  intro j
  rw [wipe_get, wipe_get, h.1]
  by_cases hj : j ∈ vs
  · rw [if_pos hj, if_pos hj]
  · rw [if_neg hj, if_neg hj]
    exact h.2 j hj
theorem Off.wipe (vs : List Nat) (σ : L2.St) : Off vs σ (L2.wipe σ vs) := ⟨wipe_length σ vs, fun j hj => by rw [wipe_get, if_neg hj]⟩
def wipeE (env : List Slot) : List Nat → List Slot
  | [] => env
  | v :: vs => (wipeE env vs).set v .un
theorem Rel.wipe {s : Sta} {σ : L2.St} (R : Rel X.K T m M G H s σ) : ∀ vs : List Nat, Rel X.K T m M G H { s with env := wipeE s.env vs } (L2.wipe σ vs)
  | [] => R
  | v :: vs => (Rel.wipe R vs).setU v Option.none
end

def compL (t : Tg) (tt : Sta → PR Bool) (te : Sta → PR D) (s : Sta) : List D → PR (List D)
  | [] => .ok []
  | d :: ds => match t.bind d s.env with
    | none => .stuck
    | some env => match tt { s with env := env } with
      | .ok true => match te { s with env := env } with
        | .ok y => (compL t tt te s ds).bind fun r => .ok (y :: r)
        | _ => .stuck
      | .ok false => compL t tt te s ds
      | _ => .stuck
def pComp (f : Sta → PR (List D)) (t : Tg) (vs : List Nat) (tt : Sta → PR Bool) (te : Sta → PR D) : Sta → PR RV := fun s => (f s).bind fun ds =>
  if ds.length ≤ 16777216 then (compL t tt te { s with env := wipeE s.env vs } ds).bind fun r => .ok (fr (.list r)) else .stuck
abbrev W0 : WX := fun _ _ _ _ => False
abbrev PTsv (X : Cx) (T : Tab) (W : WX) (ifs : List Expr) (f : Sta → PR Bool) : Prop := PTs X ifs (tT X T W f)
def pYes : Sta → PR Bool := fun _ => .ok true
section
variable {X : Cx} {T : Tab} {W : WX}
theorem PTs.wk {X : Cx} {e : List Expr} {t t' : TT} (h : PTs X e t) (w : ∀ σ H Q, t' σ H Q → t σ H Q) : PTs X e t' := ⟨fun pins s σ H Q I q => h.run pins s σ H Q I (w _ _ _ q)⟩
theorem ets_nil : PTsv X T W [] pYes := PTs.wk pts_nil fun σ H Q ⟨s, m, M, G, R, q⟩ => q H M (Grow.refl R.mh)
/-- the reading of a comprehension -/
theorem tLc_of {f : Sta → PR (List D)} {t : Tg} {vs : List Nat} {tt : Sta → PR Bool} {te : Sta → PR D} (hv : ∀ i ∈ t.ixs, i ∈ vs) {σ : L2.St} {H : Hp} {Q : VK} (h : tP X T W (pComp f t vs tt te) σ H Q) :
    tLc (tIc X T W f) (tgR X.K t) (tT X T W0 tt) (tD X T W0 te) vs σ H Q := by
  obtain ⟨s, m, M, G, R, q⟩ := h
  refine ⟨s, m, M, G, R, ?_⟩
  revert q
  unfold pComp PR.bind
  cases f s with
  | ok ds =>
    intro q J H1 M1 g1 it
    dsimp only at q
    by_cases hl : ds.length ≤ 16777216
    · rw [if_pos hl] at q
      generalize hs0 : ({ s with env := wipeE s.env vs } : Sta) = s0 at q
      cases hc : compL t tt te s0 ds with
      | ok r =>
        simp only [hc] at q
        intro D hD
        have hM1D : M1 D = Option.none := g1.mh.free hD
        refine ⟨fun i μ Hc => μ = ds.length - i ∧ i ≤ ds.length ∧ ∃ Mi acc dacc rest, Grow H1 M1 Hc Mi ∧ Mi D = Option.none ∧ Hc D = some (.lst acc) ∧ DRs X.K m Mi acc dacc ∧ acc.length ≤ i ∧ compL t tt te s0 (ds.drop i) = .ok rest ∧ dacc ++ rest = r,
          ⟨ds.length, rfl, Nat.zero_le _, M1, [], [], r, Grow.fresh g1.mh hD, hM1D, upd_same, .nil, Nat.le_refl _, hc, rfl⟩, ?_⟩
        rintro i μ Hc ⟨rfl, hi, Mi, acc, dacc, rest, gc, hMD, hHD, rD, hal, hcr, he⟩
        have iti := it i Mi Hc gc.mm gc.mh gc.same
        by_cases hlt : i < ds.length
        · have hd : ds[i]? = some ds[i] := by simp [hlt]
          have hdrop : ds.drop i = ds[i] :: ds.drop (i + 1) := List.drop_eq_getElem_cons hlt
          generalize ds[i] = d at hd hdrop
          obtain ⟨go, yld⟩ := iti.1 d hd
          refine .inr ⟨go, fun H' => ∃ Mi acc dacc rest, Grow H1 M1 H' Mi ∧ Mi D = Option.none ∧ H' D = some (.lst acc) ∧ DRs X.K m Mi acc dacc ∧ acc.length ≤ i + 1 ∧ compL t tt te s0 (ds.drop (i + 1)) = .ok rest ∧ dacc ++ rest = r,
            fun H' hN => ⟨ds.length - (i + 1), by omega, rfl, hlt, hN⟩, fun x H' hy => ?_⟩
          obtain ⟨M', gy, rx⟩ := yld x H' hy
          rw [hdrop, compL] at hcr
          cases hb : t.bind d s0.env with
          | none => rw [hb] at hcr; cases hcr
          | some env =>
            simp only [hb] at hcr
            have R0 : Rel X.K T m M' G H' s0 (L2.wipe σ vs) := by
              rw [← hs0]
              exact ((R.wipe vs).grow g1).grow (gc.trans gy)
            refine tgR_of (T := T) (G := G) hb rx R0 (Off.refl vs _) hv fun σ2 R2 o2 => ?_
            refine ⟨by rw [wipe_off o2]; exact wipe_off (Off.wipe vs σ), ?_⟩
            refine ⟨_, m, M', G, R2, ?_⟩
            cases ht : tt { s0 with env := env } with
            | ok b =>
              simp only [ht] at hcr
              intro H3 M3 g3
              cases b with
              | false =>
                rw [if_neg Bool.false_ne_true]
                have gg := gc.trans (gy.trans g3)
                have h1 := (gy.trans g3).same _ _ hHD
                exact ⟨M3, acc, dacc, rest, gg, (gy.trans g3).keepNone hHD hMD, h1, rD.up (gy.trans g3).mm, Nat.le_succ_of_le hal, hcr, he⟩
              | true =>
                rw [if_pos rfl]
                refine ⟨_, m, M3, G, R2.grow g3, ?_⟩
                cases hte : te { s0 with env := env } with
                | ok y =>
                  simp only [hte, PR.bind] at hcr
                  intro yv H4 M4 g4 ry
                  have g34 := gy.trans (g3.trans g4)
                  have h4 := g34.same _ _ hHD
                  have hM4 := g34.keepNone hHD hMD
                  cases hr : compL t tt te s0 (ds.drop (i + 1)) with
                  | ok rest' =>
                    simp only [hr] at hcr
                    cases hcr
                    refine ⟨acc, h4, by rw [sizeLine_eq]; omega, M4, acc ++ [yv], dacc ++ [y], rest', ?_, hM4, upd_same, (rD.up g34.mm).append (.cons ry .nil), by simp; omega, rfl, by rw [← he]; simp⟩
                    have gg := gc.trans g34
                    refine ⟨fun b o e => ?_, gg.mm, fun b o e => ?_, gg.new⟩
                    · have hb : b ≠ D := fun z => by rw [z, hD] at e; cases e
                      rw [upd_ne hb]
                      exact gg.same _ _ e
                    · have hb : b ≠ D := fun z => by rw [z, hM4] at e; cases e
                      rw [upd_ne hb]
                      exact gg.mh _ _ e
                  | exc e => simp only [hr] at hcr; cases hcr
                  | stuck => simp only [hr] at hcr; cases hcr
                | exc e => simp only [hte] at hcr; cases hcr
                | stuck => simp only [hte] at hcr; cases hcr
            | exc e => simp only [ht] at hcr; cases hcr
            | stuck => simp only [ht] at hcr; cases hcr
        · have hie : i = ds.length := by omega
          subst hie
          refine .inl ⟨iti.2 (Nat.le_refl _), ?_⟩
          rw [List.drop_length, compL] at hcr
          cases hcr
          rw [List.append_nil] at he
          subst he
          exact q _ Hc Mi (g1.trans gc) ⟨D, _, rfl, hHD, .lst rD, hMD, g1.same.free hD⟩
      | exc e => simp only [hc] at q; exact absurd hc (by
          have : ∀ ds, compL t tt te s0 ds ≠ .exc e := by
            intro ds
            induction ds with
            | nil => intro z; cases z
            | cons d ds ih =>
              intro z
              rw [compL] at z
              split at z
              · cases z
              · split at z
                · split at z
                  · cases hq : compL t tt te s0 ds with
                    | ok _ => rw [hq] at z; cases z
                    | exc _ => rw [hq] at z; cases z; exact ih hq
                    | stuck => rw [hq] at z; cases z
                  · cases z
                · exact ih z
                · cases z
          exact this ds)
      | stuck => simp only [hc] at q
    · rw [if_neg hl] at q
      exact q.elim
  | exc e => intro q; exact q
  | stuck => intro q; exact q
variable {elt tg iter : Expr} {ifs : List Expr} {scope : Scope} {own : List (Str × Nat)} {pos : Pos} {f : Sta → PR (List D)} {t : Tg} {tt : Sta → PR Bool} {te : Sta → PR D}
theorem ev_lc (hc : X.calm = true) (hN : X.N.Nodup) (hi : PIc X T W tg iter f) (ok : BlkOk X.N X.env.scope scope own) (hv : ∀ i ∈ t.ixs, i ∈ own.map (·.2))
    (hg : ∀ (s : Shared) (H : Hp) (C : Addr) (cl : List (Str × Addr)) (fp : List Addr), PG (X.blk s H scope (compEnvC scope cl C X.env) fp) tg (tgR X.K t))
    (ht : ∀ (s : Shared) (H : Hp) (C : Addr) (cl : List (Str × Addr)) (fp : List Addr), PTsv (X.blk s H scope (compEnvC scope cl C X.env) fp) T W0 ifs tt)
    (he : ∀ (s : Shared) (H : Hp) (C : Addr) (cl : List (Str × Addr)) (fp : List Addr), PDv (X.blk s H scope (compEnvC scope cl C X.env) fp) T W0 elt te) (hs : ∀ x, foldedSetIterable iter X.env x = pure x := by intro _; rfl) :
    PEv X T W (.ListComp elt [⟨tg, iter, ifs, 0⟩] scope pos) (pComp f t (own.map (·.2)) tt te) :=
  PE.wk (pe_lc hc hN hi ok hg ht he hs) fun σ H Q h => tLc_of hv h
end

section
variable {X : Cx} {T : Tab} {W : WX}
def flatD : D → Bool
  | .none => true
  | .bool _ => true
  | .int _ => true
  | .str _ => true
  | _ => false
def eqF : D → D → Bool
  | .none, .none => true
  | .bool a, .bool b => a == b
  | .bool a, .int b => (if a then 1 else 0) == b
  | .int a, .bool b => a == (if b then 1 else 0)
  | .int a, .int b => a == b
  | .str a, .str b => a == b
  | _, _ => false
theorem DR.flat {K : PySem.W.Frag} {m : List Addr} {H : Hp} {v : V} {d : D} (h : DR K m H v d) (f : flatD d = true) : flatV v = true := by
  cases h <;> first | rfl | cases f
theorem DRs.flat {K : PySem.W.Frag} {m : List Addr} {H : Hp} : ∀ {vs : List V} {ds : List D}, DRs K m H vs ds → ds.all flatD = true → vs.all flatV = true
  | _, _, .nil, _ => rfl
  | _, _, .cons r t, f => by
    rw [List.all_cons, Bool.and_eq_true] at f ⊢
    exact ⟨r.flat f.1, DRs.flat t f.2⟩
theorem eqV_eqF {K : PySem.W.Frag} {m : List Addr} {H : Hp} {x y : V} {d e : D} (h : DR K m H x d) (h' : DR K m H y e) (f : flatD d = true) (f' : flatD e = true) : eqV x y = eqF d e := by
  cases h <;> first | exact absurd f Bool.false_ne_true | (cases h' <;> first | exact absurd f' Bool.false_ne_true | rfl)
theorem any_eqF {K : PySem.W.Frag} {m : List Addr} {H : Hp} {x : V} {d : D} (h : DR K m H x d) (f : flatD d = true) : ∀ {vs : List V} {ds : List D}, DRs K m H vs ds → ds.all flatD = true → vs.any (fun y => eqV y x) = ds.any fun z => eqF z d
  | _, _, .nil, _ => rfl
  | _, _, .cons r t, fs => by
    rw [List.all_cons, Bool.and_eq_true] at fs
    rw [List.any_cons, List.any_cons, any_eqF h f t fs.2, eqV_eqF r h fs.1 f]
def inB (d e : D) : Option Bool := match seqOf e with
  | some ds => if flatD d = true ∧ ds.all flatD = true then some (ds.any fun z => eqF z d)
    else if (lstOf e).isSome = true ∧ SeqAt.shaped d.py = true ∧ SeqAt.shaped (.list (pys ds)) = true then some ((pys ds).any fun z => PyData.eqv z d.py) else none
  | none => none
def gIn (d e : D) : Option RV := (inB d e).map fun b => sh (.bool b)
def gNin (d e : D) : Option RV := (inB d e).map fun b => sh (.bool (!b))
theorem inB_cases {K : PySem.W.Frag} {m : List Addr} {M H : Hp} {x y : V} {d e : D} {b : Bool} (s : Same M H) (a1 : Arg K m M H x d) (a2 : Arg K m M H y e) (h : inB d e = some b) :
    (∃ p xs, y = .ref p ∧ (SqL K H p xs ∨ SqT K H p xs) ∧ flatV x = true ∧ xs.all flatV = true ∧ inV x xs = b) ∨
    ∃ pd ds, Dp K H x pd ∧ Dp K H y (.list ds) ∧ SeqAt.shaped pd = true ∧ SeqAt.shaped (.list ds) = true ∧ (ds.any fun z => PyData.eqv z pd) = b := by
  unfold inB at h
  cases hs : seqOf e with
  | none => rw [hs] at h; cases h
  | some ds =>
    simp only [hs] at h
    by_cases hf : flatD d = true ∧ ds.all flatD = true
    · rw [if_pos hf] at h
      cases h
      obtain ⟨p, xs, rfl, h1, r1⟩ := a2.seq hs s
      have dr := a1.dr s
      exact .inl ⟨p, xs, rfl, h1, dr.flat hf.1, (r1.up s).flat hf.2, any_eqF dr hf.1 (r1.up s) hf.2⟩
    · rw [if_neg hf] at h
      by_cases hq : (lstOf e).isSome = true ∧ SeqAt.shaped d.py = true ∧ SeqAt.shaped (.list (pys ds)) = true
      · rw [if_pos hq] at h
        cases h
        obtain ⟨h1, h2, h3⟩ := hq
        refine .inr ⟨d.py, pys ds, DR.dp _ _ (a1.dr s) (SeqAt.canLay_of_shaped h2), ?_, h2, h3, rfl⟩
        have c := SeqAt.canLay_of_shaped h3
        have ee : e.py = .list (pys ds) := by
          cases e <;> try (cases h1; done)
          · cases hs; rw [D.py]
          · cases hs; rw [D.py]
        rw [← ee] at c ⊢
        exact DR.dp _ _ (a2.dr s) c
      · rw [if_neg hq] at h
        cases h
theorem ok_in (hu : X.A.units + 65 < cLine) : Op2Ok X (compareOp .In) gIn := by
  refine ⟨_, op_in_seq.or (op_inD hu), fun m M H x y d1 d2 res Q s a1 a2 e k => ?_⟩
  unfold gIn at e
  cases he : inB d1 d2 with
  | none => rw [he] at e; cases e
  | some b =>
    rw [he] at e
    cases e
    rcases inB_cases s a1 a2 he with ⟨p, xs, h1, h2, h3, h4, h5⟩ | ⟨pd, ds, h1, h2, h3, h4, h5⟩
    · exact .inl ⟨p, xs, h1, h2, h3, h4, by rw [h5]; exact k _ H M (Grow.refl s) (.bl _)⟩
    · exact .inr ⟨pd, ds, h1, h2, h3, h4, by rw [h5]; exact k _ H M (Grow.refl s) (.bl _)⟩
theorem ok_nin (hu : X.A.units + 65 < cLine) : Op2Ok X (compareOp .NotIn) gNin := by
  refine ⟨_, op_notIn_seq.or (op_notInD hu), fun m M H x y d1 d2 res Q s a1 a2 e k => ?_⟩
  unfold gNin at e
  cases he : inB d1 d2 with
  | none => rw [he] at e; cases e
  | some b =>
    rw [he] at e
    cases e
    rcases inB_cases s a1 a2 he with ⟨p, xs, h1, h2, h3, h4, h5⟩ | ⟨pd, ds, h1, h2, h3, h4, h5⟩
    · exact .inl ⟨p, xs, h1, h2, h3, h4, by simp only [h5, if_true]; exact k _ H M (Grow.refl s) (.bl _)⟩
    · exact .inr ⟨pd, ds, h1, h2, h3, h4, by rw [h5]; exact k _ H M (Grow.refl s) (.bl _)⟩

def tyN : D → Option String
  | .none => some "NoneType"
  | .bool _ => some "bool"
  | .int _ => some "int"
  | .str _ => some "str"
  | .list _ => some "list"
  | .lk _ => some "list"
  | .tup _ => some "tuple"
  | .dic _ => some "dict"
  | .obj _ => none
  | .xv _ _ => none
  | .btp _ => none
theorem Rd.tyL {K : PySem.W.Frag} {H : Hp} {a : Addr} {xs : List V} (h : SqL K H a xs) : TyX K H (.ref a) (.type "list") := by
  rcases h with (h | ⟨o, h⟩) | ⟨o, its, n, hk, hc, _⟩
  · exact .base (.lst h)
  · exact .base (.frz h)
  · exact .kList hk hc
theorem Rd.tyT {K : PySem.W.Frag} {H : Hp} {a : Addr} {xs : List V} (h : SqT K H a xs) : TyX K H (.ref a) (.type "tuple") := by
  rcases h with (h | ⟨o, h⟩) | ⟨o, its, n, hk, hc, _⟩
  · exact .base (.tup h)
  · exact .fTuple h
  · exact .kTuple hk hc
theorem DR.ty {K : PySem.W.Frag} {m : List Addr} {H : Hp} {v : V} {d : D} {n : String} (h : DR K m H v d) (e : tyN d = some n) : TyX K H v (.type n) := by
  cases h with
  | non => cases e; exact .base .non
  | bl b => cases e; exact .base (.bl b)
  | int b => cases e; exact .base (.int b)
  | str b => cases e; exact .base (.str b)
  | list h _ => cases e; exact .base (.lst h)
  | lk h _ => cases e; exact Rd.tyL h
  | tup h _ => cases e; exact Rd.tyT h
  | dic h _ => cases e; exact .base (.dK h)
  | obj h => cases e
  | xn _ _ => cases e
  | xf _ _ _ _ => cases e
  | btp _ _ _ => cases e
def isiB (n : String) (d : D) : Option Bool := (tyN d).bind fun t =>
  if t = n then some true else if t = "bool" ∧ n = "int" then some true else
    if n ∈ ["int", "bool", "str", "list", "tuple"] ∧ t ∈ ["NoneType", "bool", "int", "str", "list", "tuple", "dict"] then some false else none
theorem isiB_ok {n t : String} {b : Bool} (hn : n ∈ ["int", "bool", "str", "list", "tuple"]) (ht : t ∈ ["NoneType", "bool", "int", "str", "list", "tuple", "dict"])
    (h : (if t = n then some true else if t = "bool" ∧ n = "int" then some true else
      if n ∈ ["int", "bool", "str", "list", "tuple"] ∧ t ∈ ["NoneType", "bool", "int", "str", "list", "tuple", "dict"] then some false else none) = some b) : kitB t n = some b := by
  have all : ∀ n ∈ ["int", "bool", "str", "list", "tuple"], ∀ t ∈ ["NoneType", "bool", "int", "str", "list", "tuple", "dict"],
      kitB t n = (if t = n then some true else if t = "bool" ∧ n = "int" then some true else
      if n ∈ ["int", "bool", "str", "list", "tuple"] ∧ t ∈ ["NoneType", "bool", "int", "str", "list", "tuple", "dict"] then some false else none) := by decide +kernel
  rw [all n hn t ht]
  exact h
theorem tyN_mem {d : D} {t : String} (h : tyN d = some t) : t ∈ ["NoneType", "bool", "int", "str", "list", "tuple", "dict"] := by
  cases d <;> first | (cases h; decide) | cases h
def pIsi (n : String) (f : Sta → PR RV) : Sta → PR RV := p1 (fun d => (isiB n d).map fun b => sh (.bool b)) f
theorem ev_isi {a : Expr} {x : Str} {n : String} {fa : Sta → PR RV} {p p' pos : Pos} (hn : n ∈ ["int", "bool", "str", "list", "tuple"]) (ha : PEv X T W a fa) (hg : Gl X "isinstance") (hm : X.mg "isinstance" = Option.none)
    (hgx : Gl X x) (hmx : X.mg x = Option.none) (hv : bootBuiltins x = some (.type n)) (hnx : x ≠ "__name__" := by decide) (hdx : (x == ("__debug__" : Str)) = false := by decide)
    (he1 : starEach [.Name x p'] X.env = (false, eval (.Name x p') X.env) :: starEach [] X.env := by rfl)
    (he : starEach [a, .Name x p'] X.env = (false, eval a X.env) :: starEach [.Name x p'] X.env := by rfl) (hpl : (backTo pos (starEach [.Name x p'] X.env)).any (·.1) = false := by rfl) :
    PEv X T W (.Call (.Name "isinstance" p) [a, .Name x p'] [] pos) (pIsi n fa) := by
  refine PE.wk (pe_callB call_isi hg hm (by decide +kernel) (pa_cons ha (pa_cons (pe_bltn (v := .ty n) hgx hmx hv rfl hnx hdx) pa_nil he1) he) (by decide) (by decide) he hpl) ?_
  rintro σ H Q ⟨s, m, M, G, R, q⟩
  refine ⟨s, m, M, G, R, ?_⟩
  revert q
  unfold pIsi p1 PR.bind
  cases fa s with
  | ok r =>
    intro q y H1 M1 g1 rr
    dsimp only at q
    cases hb : isiB n r.d with
    | none => simp only [hb, Option.map_none, PR.of] at q
    | some b =>
      simp only [hb, Option.map_some, PR.of] at q
      unfold isiB at hb
      cases ht : tyN r.d with
      | none => rw [ht] at hb; cases hb
      | some t =>
        rw [ht] at hb
        refine ⟨y, .ty n, .type t, .type n, b, rfl, .ty n, (rr.arg.dr g1.mh).ty ht, kit_ty (isiB_ok hn (tyN_mem ht) hb), q _ H1 M1 g1 (.bl b)⟩
  | exc e => intro q; exact q
  | stuck => intro q; exact q
end
end MP

namespace MP
open PySem PySem.Spec PyProof.Rows L2

/-- how a statement ends -/
inductive Fl where
  | nx (s : Sta) | ret (r : Slot) (s : Sta) | brk (s : Sta) | cont (s : Sta) | exc (e : Ex) (s : Sta) | stuck
/-- whether objects may be made: then the store and its places are as long -/
def AL (al : Bool) (m : List Addr) (s : Sta) : Prop := al = true → m.length = s.st.length
structure Ext (al : Bool) (G : Hp) (m : List Addr) (M : Hp) (m' : List Addr) (M' : Hp) : Prop where
  ml : MLe m m'
  nl : al = false → m' = m
  mm : Same M M'
  new : ∀ a o, M' a = some o → M a = some o ∨ G a = Option.none
theorem Ext.refl (al : Bool) (G : Hp) (m : List Addr) (M : Hp) : Ext al G m M m M := ⟨MLe.refl _, fun _ => rfl, Same.refl _, fun _ _ h => .inl h⟩
theorem Ext.trans {al : Bool} {G : Hp} {m m1 m2 : List Addr} {M M1 M2 : Hp} (a : Ext al G m M m1 M1) (b : Ext al G m1 M1 m2 M2) : Ext al G m M m2 M2 :=
  ⟨a.ml.trans b.ml, fun h => (b.nl h).trans (a.nl h), a.mm.trans b.mm, fun x o h => (b.new x o h).elim (fun h => a.new x o h) .inr⟩
theorem Ext.grow {al : Bool} {G : Hp} {m : List Addr} {H M H' M' : Hp} (g : Grow H M H' M') (gh : Same G H) : Ext al G m M m M' :=
  ⟨MLe.refl _, fun _ => rfl, g.mm, fun x o h => (g.new x o h).elim .inl fun h => .inr (gh.free h)⟩

section
variable (X : Cx) (T : Tab) (W : WX)
def FlP (al : Bool) (G : Hp) (m : List Addr) (M : Hp) (Dn : Ends) : Fl → Prop
  | .nx s' => ∀ σ' H' m' M', Ext al G m M m' M' → AL al m' s' → Rel X.K T m' M' G H' s' σ' → Dn.nx σ' H'
  | .brk s' => ∀ σ' H' m' M', Ext al G m M m' M' → AL al m' s' → Rel X.K T m' M' G H' s' σ' → Dn.bk σ' H'
  | .cont s' => ∀ σ' H' m' M', Ext al G m M m' M' → AL al m' s' → Rel X.K T m' M' G H' s' σ' → Dn.ct σ' H'
  | .ret r s' => ∀ y H' m' M', Ext al G m M m' M' → AL al m' s' → Rel X.K T m' M' G H' ⟨[r], s'.st⟩ [some y] → Dn.rt y H'
  | .exc e s' => ∀ cls d σ' H' m' M', Ext al G m M m' M' → AL al m' s' → Rel X.K T m' M' G H' s' σ' → ExR X.K T m' M' H' e cls d → W cls d σ' H'
  | .stuck => False
def tS (al : Bool) (g : Sta → Fl) : TS := fun Dn σ H => ∃ s m M G, Rel X.K T m M G H s σ ∧ AL al m s ∧ FlP X T W al G m M Dn (g s)
abbrev SEv (al : Bool) (st : List Stmt) (g : Sta → Fl) : Prop := PSs X st (tS X T W al g)
abbrev SE1 (al : Bool) (st : Stmt) (g : Sta → Fl) : Prop := PS X st (tS X T W al g)
end
theorem PS.wk {X : Cx} {e : Stmt} {t t' : TS} (h : PS X e t) (w : ∀ D σ H, t' D σ H → t D σ H) : PS X e t' := ⟨fun pins s σ H D I q => h.run pins s σ H D I (w _ _ _ q)⟩
theorem PSs.wk {X : Cx} {e : List Stmt} {t t' : TS} (h : PSs X e t) (w : ∀ D σ H, t' D σ H → t D σ H) : PSs X e t' := ⟨fun pins s σ H D I q => h.run pins s σ H D I (w _ _ _ q)⟩

section
variable {X : Cx} {T : Tab} {W : WX} {al : Bool} {G : Hp} {m m' : List Addr} {M M' : Hp} {Dn : Ends}
theorem FlP.ext {fl : Fl} (h : FlP X T W al G m M Dn fl) (e : Ext al G m M m' M') : FlP X T W al G m' M' Dn fl := by
  cases fl with
  | nx s => exact fun σ' H' m2 M2 e2 => h σ' H' m2 M2 (e.trans e2)
  | brk s => exact fun σ' H' m2 M2 e2 => h σ' H' m2 M2 (e.trans e2)
  | cont s => exact fun σ' H' m2 M2 e2 => h σ' H' m2 M2 (e.trans e2)
  | ret r s => exact fun y H' m2 M2 e2 => h y H' m2 M2 (e.trans e2)
  | exc x s => exact fun cls d σ' H' m2 M2 e2 => h cls d σ' H' m2 M2 (e.trans e2)
  | stuck => exact h
variable {st : Stmt} {rest : List Stmt} {e : Expr} {pos p : Pos} {g g1 g2 : Sta → Fl} {f : Sta → PR RV}
def sNil : Sta → Fl := .nx
def sSeq (g1 g2 : Sta → Fl) : Sta → Fl := fun s => match g1 s with
  | .nx s' => g2 s'
  | fl => fl
theorem ss_nil : SEv X T W al [] sNil := PSs.wk pss_nil fun D σ H ⟨s, m, M, G, R, a, q⟩ => q σ H m M (Ext.refl ..) a R
theorem ss_cons (h1 : SE1 X T W al st g1) (h2 : SEv X T W al rest g2) : SEv X T W al (st :: rest) (sSeq g1 g2) := by
  refine PSs.wk (pss_cons h1 h2) ?_
  rintro D σ H ⟨s, m, M, G, R, a, q⟩
  refine ⟨s, m, M, G, R, a, ?_⟩
  unfold sSeq at q
  cases hg : g1 s with
  | nx s' =>
    rw [hg] at q
    exact fun σ' H' m' M' e a' R' => ⟨s', m', M', G, R', a', FlP.ext q e⟩
  | brk s' => rw [hg] at q; exact q
  | cont s' => rw [hg] at q; exact q
  | ret r s' => rw [hg] at q; exact q
  | exc x s' => rw [hg] at q; exact q
  | stuck => rw [hg] at q; exact q
theorem ss_one (h1 : SE1 X T W al st g1) : SEv X T W al [st] g1 := PSs.wk (pss_one h1) fun D σ H h => h
def sCont : Sta → Fl := .cont
theorem s_cont : SE1 X T W al (.Continue pos) sCont := PS.wk ps_continue fun D σ H ⟨s, m, M, G, R, a, q⟩ => q σ H m M (Ext.refl ..) a R

/-- a result, then a statement's end -/
def PR.fl {α : Type} (x : PR α) (s : Sta) (k : α → Fl) : Fl := match x with
  | .ok a => k a
  | .exc e => .exc e s
  | .stuck => .stuck
theorem tD_fl {f : Sta → PR D} {k : Sta → D → Fl} {σ : L2.St} {H : Hp} {Q : VK} {s : Sta} (R : Rel X.K T m M G H s σ) (a : AL al m s) (q : FlP X T W al G m M Dn ((f s).fl s (k s)))
    (h : ∀ d y H' M', f s = .ok d → Grow H M H' M' → DR X.K m M' y d → FlP X T W al G m M' Dn (k s d) → Q y H') : tD X T W f σ H Q := by
  refine ⟨s, m, M, G, R, ?_⟩
  unfold PR.fl at q
  cases hf : f s with
  | ok d =>
    rw [hf] at q
    exact fun y H' M' g r => h d y H' M' hf g r (FlP.ext q (Ext.grow g R.gh))
  | exc x =>
    rw [hf] at q
    exact fun cls d H' M' g x => q cls d σ H' m M' (Ext.grow g R.gh) a (R.grow g) x
  | stuck => rw [hf] at q; exact q
theorem tP_fl {f : Sta → PR RV} {k : Sta → RV → Fl} {σ : L2.St} {H : Hp} {Q : VK} {s : Sta} (R : Rel X.K T m M G H s σ) (a : AL al m s) (q : FlP X T W al G m M Dn ((f s).fl s (k s)))
    (h : ∀ r y H' M', f s = .ok r → Grow H M H' M' → RR X.K m M' H H' y r → FlP X T W al G m M' Dn (k s r) → Q y H') : tP X T W f σ H Q := by
  refine ⟨s, m, M, G, R, ?_⟩
  unfold PR.fl at q
  cases hf : f s with
  | ok d =>
    rw [hf] at q
    exact fun y H' M' g r => h d y H' M' hf g r (FlP.ext q (Ext.grow g R.gh))
  | exc x =>
    rw [hf] at q
    exact fun cls d H' M' g x => q cls d σ H' m M' (Ext.grow g R.gh) a (R.grow g) x
  | stuck => rw [hf] at q; exact q
theorem tT_fl {f : Sta → PR Bool} {k : Sta → Bool → Fl} {σ : L2.St} {H : Hp} {Q : Bool → Hp → Prop} {s : Sta} (R : Rel X.K T m M G H s σ) (a : AL al m s) (q : FlP X T W al G m M Dn ((f s).fl s (k s)))
    (h : ∀ b H' M', f s = .ok b → Grow H M H' M' → FlP X T W al G m M' Dn (k s b) → Q b H') : tT X T W f σ H Q := by
  refine ⟨s, m, M, G, R, ?_⟩
  unfold PR.fl at q
  cases hf : f s with
  | ok d =>
    rw [hf] at q
    exact fun H' M' g => h d H' M' hf g (FlP.ext q (Ext.grow g R.gh))
  | exc x =>
    rw [hf] at q
    exact fun cls d H' M' g x => q cls d σ H' m M' (Ext.grow g R.gh) a (R.grow g) x
  | stuck => rw [hf] at q; exact q

/-- name = value, shared -/
def sSetV (i : Nat) (f : Sta → PR D) : Sta → Fl := fun s => (f s).fl s fun d => .nx { s with env := s.env.set i (.v d) }
theorem s_setV {i : Nat} {x : Str} {f : Sta → PR D} {pos' : Pos} (hN : X.N.Nodup) (hi : X.N[i]? = some x) (hx : Loc X.env.scope x) (he : PDv X T W e f) (hs : swapsWith e (some (.Name x pos')) pos.line X.env = pure false := by rfl) (hf : X.fn x = true ∨ X.env.scope.names.lookup x = some .local := by first | exact .inl rfl | exact .inr rfl | assumption) :
    SE1 X T W al (.Assign [.Name x pos'] e pos) (sSetV i f) := by
  refine PS.wk (ps_set hN hi hx he hs hf) ?_
  rintro D σ H ⟨s, m, M, G, R, a, q⟩
  refine tD_fl (k := fun s d => .nx { s with env := s.env.set i (.v d) }) R a q fun d y H' M' _ g r k => ?_
  exact k _ H' m M' (Ext.refl ..) a ((R.grow g).setV i r)
/-- name = value, its own where it is new -/
def RV.slot (r : RV) : PR Slot := match r.k with
  | .sh => .ok (.v r.d)
  | .fr => .ok (.own r.d)
  | .pk => .stuck
def sSetO (i : Nat) (f : Sta → PR RV) : Sta → Fl := fun s => (f s).fl s fun r => (r.slot).fl s fun sl => .nx { s with env := s.env.set i sl }
theorem Rel.setRV {s : Sta} {σ : L2.St} {H H' : Hp} (R : Rel X.K T m M G H s σ) (g : Grow H M H' M') {y : V} {r : RV} (rr : RR X.K m M' H H' y r) {sl : Slot} (e : r.slot = .ok sl) (i : Nat) :
    Rel X.K T m M' G H' { s with env := s.env.set i sl } (σ.set i (some y)) := by
  obtain ⟨k, d⟩ := r
  cases k with
  | sh => cases e; exact (R.grow g).setV i rr
  | fr =>
    cases e
    obtain ⟨a, o, rfl, h2, h3, h4, h5⟩ := rr
    exact R.setOwn g i h2 h3 h4 h5
  | pk => cases e
theorem slot_ne {r : RV} {e : Ex} (h : r.slot = .exc e) : False := by obtain ⟨k, d⟩ := r; cases k <;> cases h
theorem setO_of {i : Nat} {D : Ends} {σ : L2.St} {H : Hp} (h : tS X T W al (sSetO i f) D σ H) : tAsg (tP X T W f) (gName i) D σ H := by
  obtain ⟨s, m, M, G, R, a, q⟩ := h
  refine tP_fl (k := fun s r => (r.slot).fl s fun sl => .nx { s with env := s.env.set i sl }) R a q fun r y H' M' _ g rr k => ?_
  unfold PR.fl at k
  cases hs : r.slot with
  | ok sl =>
    rw [hs] at k
    exact k _ H' m M' (Ext.refl ..) a (R.setRV g rr hs i)
  | exc e => exact (slot_ne hs).elim
  | stuck => rw [hs] at k; exact k.elim
theorem s_setO {i : Nat} {x : Str} {pos' : Pos} (hN : X.N.Nodup) (hi : X.N[i]? = some x) (hx : Loc X.env.scope x) (he : PEv X T W e f) (hs : swapsWith e (some (.Name x pos')) pos.line X.env = pure false := by rfl) (hf : X.fn x = true ∨ X.env.scope.names.lookup x = some .local := by first | exact .inl rfl | exact .inr rfl | assumption) :
    SE1 X T W al (.Assign [.Name x pos'] e pos) (sSetO i f) := PS.wk (ps_set hN hi hx he hs hf) fun D σ H h => setO_of h
/-- a name's own list is shared from now on (nothing runs) -/
def frz (i : Nat) (s : Sta) : Sta := match s.env[i]? with
  | some (.own d) => { s with env := s.env.set i (.v d) }
  | _ => s
def sFrz (i : Nat) (g : Sta → Fl) : Sta → Fl := fun s => g (frz i s)
theorem Rel.frz {s : Sta} {σ : L2.St} {H : Hp} (R : Rel X.K T m M G H s σ) (i : Nat) : ∃ M', Ext al G m M m M' ∧ Rel X.K T m M' G H (MP.frz i s) σ := by
  unfold MP.frz
  obtain ⟨mh, gh, ⟨f1, f2, h1, h2, nd, dj⟩⟩ := R
  have same : ∃ M', Ext al G m M m M' ∧ Rel X.K T m M' G H s σ := ⟨M, Ext.refl .., mh, gh, f1, f2, h1, h2, nd, dj⟩
  split
  · rename_i d hs
    obtain ⟨g0, g1, g2, y, ef, ey, hy, k⟩ := h1.split hs
    obtain ⟨a, o, ef1, rfl, ha, hd⟩ := hy
    subst ef ef1
    have dja := dj a (by simp)
    have mm : Same M (upd M a o) := Same.upd dja.1
    refine ⟨upd M a o, ⟨MLe.refl _, fun _ => rfl, mm, fun b u e => ?_⟩, fun b u e => ?_, gh, ?_⟩
    · by_cases hb : b = a
      · subst hb; exact .inr dja.2
      · rw [upd_ne hb] at e; exact .inl e
    · by_cases hb : b = a
      · subst hb; rw [upd_same] at e; rw [← e]; exact ha
      · rw [upd_ne hb] at e; exact mh _ _ e
    · have eσ : σ = σ.set i (some (.ref a)) := by
        apply List.ext_getElem?
        intro j
        by_cases hj : i = j
        · subst hj
          rw [List.getElem?_set_self (by rw [← h1.len]; exact (List.getElem?_eq_some_iff.mp hs).1)]
          exact ey
        · rw [List.getElem?_set_ne hj]
      have k2 := k m (upd M a o) H (.v d) (some (.ref a)) [] (MLe.refl _) mm (fun _ _ => rfl) ⟨rfl, _, rfl, (hd.mono (MLe.refl _) mm).dr (Same.refl _) upd_same⟩
      rw [← eσ] at k2
      have sub : ((g0 ++ [] ++ g2) ++ f2).Sublist ((g0 ++ [a] ++ g2) ++ f2) := by simp
      refine ⟨g0 ++ [] ++ g2, f2, k2, h2.mono (MLe.refl _) (MLe.refl _) mm fun _ _ => rfl, nd.sublist sub, fun b hb => ?_⟩
      have hb' : b ∈ (g0 ++ [a] ++ g2) ++ f2 := sub.subset hb
      have hne : b ≠ a := by
        rintro rfl
        have perm : List.Perm ((g0 ++ [b] ++ g2) ++ f2) (b :: ((g0 ++ [] ++ g2) ++ f2)) := by
          simp only [List.append_nil, List.append_assoc, List.singleton_append]
          exact List.perm_middle
        have := perm.nodup_iff.mp nd
        exact (List.nodup_cons.mp this).1 hb
      rw [upd_ne hne]
      exact dj b hb'
  · exact same
theorem s_frz {i : Nat} (h : SE1 X T W al st g) : SE1 X T W al st (sFrz i g) := by
  refine PS.wk h ?_
  rintro D σ H ⟨s, m, M, G, R, a, q⟩
  obtain ⟨M', e, R'⟩ := R.frz (al := al) i
  refine ⟨_, m, M', G, R', fun h => ?_, FlP.ext q e⟩
  rw [a h]
  unfold frz
  split <;> rfl
/-- return -/
def sRet (f : Sta → PR RV) : Sta → Fl := fun s => (f s).fl s fun r => (r.slot).fl s fun sl => .ret sl s
theorem Rel.only {s : Sta} {σ : L2.St} {H : Hp} (R : Rel X.K T m M G H s σ) {d : D} {y : V} (r : DR X.K m M y d) : Rel X.K T m M G H ⟨[.v d], s.st⟩ [some y] := by
  obtain ⟨mh, gh, ⟨f1, f2, h1, h2, nd, dj⟩⟩ := R
  exact ⟨mh, gh, [], f2, ⟨[], [], rfl, ⟨rfl, y, rfl, r⟩, rfl⟩, h2, (List.nodup_append.mp nd).2.1, fun a ha => dj a (by simpa using .inr ha)⟩
theorem Rel.onlyS {s : Sta} {σ : L2.St} {H : Hp} {i : Nat} {sl : Slot} {y : Option V} (R : Rel X.K T m M G H s σ) (hs : s.env[i]? = some sl) (hy : σ[i]? = some y) : Rel X.K T m M G H ⟨[sl], s.st⟩ [y] := by
  obtain ⟨mh, gh, ⟨f1, f2, h1, h2, nd, dj⟩⟩ := R
  obtain ⟨g0, g1, g2, y0, ef, ey, hy', k⟩ := h1.split hs
  rw [hy] at ey
  cases ey
  subst ef
  have sub : (g1 ++ f2).Sublist ((g0 ++ g1 ++ g2) ++ f2) := by
    refine List.Sublist.append ?_ (List.Sublist.refl _)
    exact (List.sublist_append_right g0 g1).trans (List.sublist_append_left _ _)
  exact ⟨mh, gh, g1, f2, ⟨g1, [], by simp, hy', rfl⟩, h2, nd.sublist sub, fun a ha => dj a (sub.subset ha)⟩
theorem s_ret (he : PEv X T W e f) : SE1 X T W al (.Return (some e) pos) (sRet f) := by
  refine PS.wk (ps_ret he) ?_
  rintro D σ H ⟨s, m, M, G, R, a, q⟩
  refine tP_fl (k := fun s r => (r.slot).fl s fun sl => .ret sl s) R a q fun r y H' M' _ g rr k => ?_
  unfold PR.fl at k
  cases hs : r.slot with
  | ok sl =>
    rw [hs] at k
    refine k y H' m M' (Ext.refl ..) a ?_
    have R1 : Rel X.K T m M G H ⟨[.un], s.st⟩ [Option.none] := by
      obtain ⟨mh, gh, ⟨f1, f2, h1, h2, nd, dj⟩⟩ := R
      exact ⟨mh, gh, [], f2, ⟨[], [], rfl, rfl, rfl⟩, h2, (List.nodup_append.mp nd).2.1, fun a ha => dj a (by simpa using .inr ha)⟩
    exact R1.setRV g rr hs 0
  | exc e => exact (slot_ne hs).elim
  | stuck => rw [hs] at k; exact k.elim
/-- return of a name's own list -/
def sRetS (i : Nat) : Sta → Fl := fun s => match s.env[i]? with
  | some (.own d) => .ret (.own d) s
  | some (.v d) => .ret (.v d) s
  | _ => .stuck
theorem s_retS {i : Nat} {x : Str} (h : PE X (.Name x p) (tVar i)) : SE1 X T W al (.Return (some (.Name x p)) pos) (sRetS i) := by
  refine PS.wk (ps_ret h) ?_
  rintro D σ H ⟨s, m, M, G, R, a, q⟩
  unfold sRetS at q
  have R0 := R
  obtain ⟨mh, gh, ⟨f1, f2, h1, h2, nd, dj⟩⟩ := R
  split at q
  · rename_i d hs
    obtain ⟨y, fy, ey, ⟨b, o, _, rfl, hb, hd⟩, _⟩ := h1.at hs
    exact ⟨_, ey, q _ H m M (Ext.refl ..) a (R0.onlyS hs ey)⟩
  · rename_i d hs
    obtain ⟨y, fy, ey, ⟨_, y', rfl, hd⟩, _⟩ := h1.at hs
    exact ⟨_, ey, q _ H m M (Ext.refl ..) a (R0.onlyS hs ey)⟩
  · exact q.elim
/-- if -/
def sIf (t : Sta → PR Bool) (g1 g2 : Sta → Fl) : Sta → Fl := fun s => (t s).fl s fun b => if b then g1 s else g2 s
theorem s_if {c : Expr} {A B : List Stmt} {t : Sta → PR Bool} (hc : PTv X T W c t) (ha : SEv X T W al A g1) (hb : SEv X T W al B g2) : SE1 X T W al (.If c A B pos) (sIf t g1 g2) := by
  refine PS.wk (ps_if hc ha hb) ?_
  rintro D σ H ⟨s, m, M, G, R, a, q⟩
  refine tT_fl (k := fun s b => if b then g1 s else g2 s) R a q fun b H' M' _ g k => ?_
  cases b with
  | true => exact ⟨s, m, M', G, R.grow g, a, k⟩
  | false => exact ⟨s, m, M', G, R.grow g, a, k⟩
/-- several targets -/
def sTup (t : Tg) (f : Sta → PR D) : Sta → Fl := fun s => (f s).fl s fun d => match t.bind d s.env with
  | some env => .nx { s with env := env }
  | none => .stuck
theorem s_tup {tg : Expr} {t : Tg} {f : Sta → PR D} (he : PDv X T W e f) (hg : PG X tg (tgR X.K t)) (hs : swapsWithSole [tg] e pos.line X.env = pure false := by rfl) (hw : swappedStores [tg] e X.env = pure none := by rfl)
    (h1 : (assignEach [tg] X.env).map (·.2) = [assign tg X.env] := by rfl) : SE1 X T W al (.Assign [tg] e pos) (sTup t f) := by
  refine PS.wk (ps_asg he hg hs hw h1) ?_
  rintro D σ H ⟨s, m, M, G, R, a, q⟩
  refine tD_fl (k := fun s d => match t.bind d s.env with | some env => .nx { s with env := env } | none => .stuck) R a q fun d y H' M' _ g r k => ?_
  cases hb : t.bind d s.env with
  | none => rw [hb] at k; exact k.elim
  | some env =>
    rw [hb] at k
    exact tgR_of (T := T) (G := G) hb r (R.grow g) (Off.refl t.ixs σ) (fun _ h => h) fun σ' R' _ => k σ' H' m M' (Ext.refl ..) a R'

def loopL (t : Tg) (g : Sta → Fl) : List D → Sta → Fl
  | [], s => .nx s
  | d :: ds, s => match t.bind d s.env with
    | none => .stuck
    | some env => match g { s with env := env } with
      | .nx s' => loopL t g ds s'
      | .cont s' => loopL t g ds s'
      | .brk s' => .nx s'
      | fl => fl
def sFor (f : Sta → PR (List D)) (t : Tg) (g : Sta → Fl) : Sta → Fl := fun s => (f s).fl s fun ds => loopL t g ds s
theorem s_for {tg iter : Expr} {body : List Stmt} {ff : Sta → PR (List D)} {t : Tg} (hp : PassesOwn (model X.prog X.w) X.A X.env X.xe) (hc : X.calm = true) (hi : PIv X T W tg iter ff) (hg : PG X tg (tgR X.K t)) (hb : SEv X T W al body g)
    (hs : ∀ x, foldedSetIterable iter X.env x = pure x := by intro _; rfl) : SE1 X T W al (.For tg iter body [] pos) (sFor ff t g) := by
  refine PS.wk (ps_for hp hc hi hg hb hs) ?_
  rintro D σ H ⟨s, m, M, G, R, a, q⟩
  refine ⟨s, m, M, G, R, ?_⟩
  unfold sFor PR.fl at q
  cases hf : ff s with
  | ok ds =>
    rw [hf] at q
    intro J H1 M1 g1 it
    refine ⟨fun i μ σ' H' => μ = ds.length - i ∧ i ≤ ds.length ∧ ∃ s' m' M', Ext al G m M1 m' M' ∧ AL al m' s' ∧ Rel X.K T m' M' G H' s' σ' ∧ FlP X T W al G m' M' D (loopL t g (ds.drop i) s'),
      ⟨ds.length, rfl, Nat.zero_le _, s, m, M1, Ext.refl .., a, R.grow g1, FlP.ext q (Ext.grow g1 R.gh)⟩, ?_⟩
    rintro i μ σ' H' ⟨rfl, hi', s', m', M', e', a', R', q'⟩
    have iti := fun d => (it i M' H' e'.mm R'.mh (Same.none _)).1 d
    by_cases hlt : i < ds.length
    · have hd : ds[i]? = some ds[i] := by simp [hlt]
      have hdrop : ds.drop i = ds[i] :: ds.drop (i + 1) := List.drop_eq_getElem_cons hlt
      generalize ds[i] = d at hd hdrop
      obtain ⟨go, yld⟩ := iti d hd
      rw [hdrop, loopL] at q'
      cases hb' : t.bind d s'.env with
      | none => rw [hb'] at q'; exact q'.elim
      | some env =>
        simp only [hb'] at q'
        refine .inr ⟨go, fun σ' H' => ∃ s' m' M', Ext al G m M1 m' M' ∧ AL al m' s' ∧ Rel X.K T m' M' G H' s' σ' ∧ FlP X T W al G m' M' D (loopL t g (ds.drop (i + 1)) s'),
          fun σ2 H2 hN => ⟨ds.length - (i + 1), by omega, rfl, hlt, hN⟩, fun x H2 hy => ?_⟩
        obtain ⟨M2, gy, rx⟩ := yld x H2 hy
        -- the iterator yields data at m: it is data at m' too
        have rx' : DR X.K m' M2 x d := DR.mono e'.ml (Same.refl _) _ _ rx
        refine tgR_of (T := T) (G := G) hb' rx' (R'.grow gy) (Off.refl t.ixs σ') (fun _ h => h) fun σ3 R3 _ => ?_
        refine ⟨_, m', M2, G, R3, a', ?_⟩
        have ey : Ext al G m' M' m' M2 := Ext.grow gy R'.gh
        cases hgo : g { s' with env := env } with
        | nx s4 =>
          simp only [hgo] at q'
          exact fun σ5 H5 m5 M5 e5 a5 R5 => ⟨s4, m5, M5, e'.trans (ey.trans e5), a5, R5, FlP.ext q' (ey.trans e5)⟩
        | cont s4 =>
          simp only [hgo] at q'
          exact fun σ5 H5 m5 M5 e5 a5 R5 => ⟨s4, m5, M5, e'.trans (ey.trans e5), a5, R5, FlP.ext q' (ey.trans e5)⟩
        | brk s4 =>
          simp only [hgo] at q'
          exact fun σ5 H5 m5 M5 e5 a5 R5 => q' σ5 H5 m5 M5 (ey.trans e5) a5 R5
        | ret r s4 =>
          simp only [hgo] at q'
          exact fun y H5 m5 M5 e5 a5 R5 => q' y H5 m5 M5 (ey.trans e5) a5 R5
        | exc x s4 =>
          simp only [hgo] at q'
          exact fun cls dd σ5 H5 m5 M5 e5 a5 R5 => q' cls dd σ5 H5 m5 M5 (ey.trans e5) a5 R5
        | stuck => simp only [hgo] at q'; exact q'
    · have hie : i = ds.length := by omega
      subst hie
      rw [List.drop_length, loopL] at q'
      exact .inl ⟨(it ds.length M' H' e'.mm R'.mh (Same.none _)).2 (Nat.le_refl _), q' σ' H' m' M' (Ext.refl ..) a' R'⟩
  | exc x =>
    rw [hf] at q
    exact fun cls d H' M' g x => q cls d σ H' m M' (Ext.grow g R.gh) a (R.grow g) x
  | stuck => rw [hf] at q; exact q
def whL (c : Sta → PR Bool) (g : Sta → Fl) : Nat → Sta → Fl
  | 0, _ => .stuck
  | n + 1, s => (c s).fl s fun b => if b then (match g s with
      | .nx s' => whL c g n s'
      | .cont s' => whL c g n s'
      | .brk s' => .nx s'
      | fl => fl) else .nx s
def sWhile (n : Nat) (c : Sta → PR Bool) (g : Sta → Fl) : Sta → Fl := whL c g n
theorem s_while {c : Expr} {body : List Stmt} {t : Sta → PR Bool} (n : Nat) (hp : PassesOwn (model X.prog X.w) X.A X.env X.xe) (hc : PTv X T W c t) (hb : SEv X T W al body g) : SE1 X T W al (.While c body [] pos) (sWhile n t g) := by
  refine PS.wk (ps_while hp hc hb) ?_
  rintro D σ H ⟨s, m, M, G, R, a, q⟩
  refine ⟨fun k σ' H' => ∃ s' m' M', Ext al G m M m' M' ∧ AL al m' s' ∧ Rel X.K T m' M' G H' s' σ' ∧ FlP X T W al G m' M' D (whL t g k s'), ⟨n, s, m, M, Ext.refl .., a, R, q⟩, ?_⟩
  rintro k σ' H' ⟨s', m', M', e', a', R', q'⟩
  cases k with
  | zero => exact q'.elim
  | succ k =>
    rw [whL] at q'
    refine tT_fl (k := fun s b => if b then (match g s with | .nx s' => whL t g k s' | .cont s' => whL t g k s' | .brk s' => .nx s' | fl => fl) else .nx s) R' a' q' fun b H2 M2 _ gg kk => ?_
    have ey : Ext al G m' M' m' M2 := Ext.grow gg R'.gh
    cases b with
    | false =>
      rw [if_neg Bool.false_ne_true]
      exact kk σ' H2 m' M2 (Ext.refl ..) a' (R'.grow gg)
    | true =>
      rw [if_pos rfl]
      simp only [if_true] at kk
      refine ⟨fun σ3 H3 => ∃ s' m' M', Ext al G m M m' M' ∧ AL al m' s' ∧ Rel X.K T m' M' G H3 s' σ3 ∧ FlP X T W al G m' M' D (whL t g k s'), fun σ3 H3 hN => ⟨k, Nat.lt_succ_self _, hN⟩, ?_⟩
      refine ⟨s', m', M2, G, R'.grow gg, a', ?_⟩
      cases hgo : g s' with
      | nx s4 =>
        simp only [hgo] at kk
        exact fun σ5 H5 m5 M5 e5 a5 R5 => ⟨s4, m5, M5, e'.trans (ey.trans e5), a5, R5, FlP.ext kk e5⟩
      | cont s4 =>
        simp only [hgo] at kk
        exact fun σ5 H5 m5 M5 e5 a5 R5 => ⟨s4, m5, M5, e'.trans (ey.trans e5), a5, R5, FlP.ext kk e5⟩
      | brk s4 =>
        simp only [hgo] at kk
        exact kk
      | ret r s4 =>
        simp only [hgo] at kk
        exact kk
      | exc x s4 =>
        simp only [hgo] at kk
        exact kk
      | stuck => simp only [hgo] at kk; exact kk

/-- the object of a slot rewritten -/
theorem Rel.mut {s : Sta} {σ : L2.St} {H : Hp} {i : Nat} {d d' : D} {b : Addr} {o' : HO} (R : Rel X.K T m M G H s σ) (hs : s.env[i]? = some (.own d)) (hσ : σ[i]? = some (some (.ref b))) (ho : ObD X.K m M o' d') :
    Rel X.K T m M G (upd H b o') { s with env := s.env.set i (.own d') } σ := by
  obtain ⟨mh, gh, ⟨f1, f2, h1, h2, nd, dj⟩⟩ := R
  obtain ⟨g0, g1, g2, y, ef, ey, ⟨a, o, ef1, rfl, ha, hd⟩, k⟩ := h1.split hs
  rw [hσ] at ey
  cases ey
  subst ef ef1
  have dja := dj b (by simp)
  have eσ : σ = σ.set i (some (.ref b)) := by
    apply List.ext_getElem?
    intro j
    by_cases hj : i = j
    · subst hj
      rw [List.getElem?_set_self (by rw [← h1.len]; exact (List.getElem?_eq_some_iff.mp hs).1)]
      exact hσ
    · rw [List.getElem?_set_ne hj]
  have perm : List.Perm ((g0 ++ [b] ++ g2) ++ f2) (b :: ((g0 ++ g2) ++ f2)) := by
    simp only [List.append_assoc, List.singleton_append]
    exact List.perm_middle
  have nd' := List.nodup_cons.mp (perm.nodup_iff.mp nd)
  have off : ∀ c ∈ (g0 ++ g2) ++ f2, upd H b o' c = H c := fun c hc => upd_ne fun z => nd'.1 (by rw [← z]; exact hc)
  have k2 := k m M (upd H b o') (.own d') (some (.ref b)) [b] (MLe.refl _) (Same.refl _) (fun c hc => off c (List.mem_append_left _ hc)) ⟨b, o', rfl, rfl, upd_same, ho⟩
  rw [← eσ] at k2
  refine ⟨fun c u e => ?_, fun c u e => ?_, g0 ++ [b] ++ g2, f2, k2, h2.mono (MLe.refl _) (MLe.refl _) (Same.refl _) fun c hc => off c (List.mem_append_right _ hc), nd, dj⟩
  · rw [upd_ne (fun z => by rw [z, dja.1] at e; cases e)]
    exact mh _ _ e
  · rw [upd_ne (fun z => by rw [z, dja.2] at e; cases e)]
    exact gh _ _ e
/-- x.append(e) -/
def sApp (i : Nat) (f : Sta → PR D) : Sta → Fl := fun s => match s.env[i]? with
  | some (.own (.list ds)) => (f s).fl s fun d => if ds.length < 16777216 then .nx { s with env := s.env.set i (.own (.list (ds ++ [d]))) } else .stuck
  | _ => .stuck
theorem Rel.own {s : Sta} {σ : L2.St} {H : Hp} {i : Nat} {d : D} (R : Rel X.K T m M G H s σ) (hs : s.env[i]? = some (.own d)) : ∃ b o, σ[i]? = some (some (.ref b)) ∧ H b = some o ∧ ObD X.K m M o d := by
  obtain ⟨mh, gh, ⟨f1, f2, h1, h2, nd, dj⟩⟩ := R
  obtain ⟨yy, fy, ey, ⟨b, o, _, rfl, hb, hd⟩, _⟩ := h1.at hs
  exact ⟨b, o, ey, hb, hd⟩
theorem Rel.ownL {s : Sta} {σ : L2.St} {H : Hp} {i : Nat} {ds : List D} (R : Rel X.K T m M G H s σ) (hs : s.env[i]? = some (.own (.list ds))) : ∃ b xs, σ[i]? = some (some (.ref b)) ∧ H b = some (.lst xs) ∧ DRs X.K m M xs ds := by
  obtain ⟨b, o, h1, h2, h3⟩ := R.own hs
  cases h3 with
  | lst h3 => exact ⟨b, _, h1, h2, h3⟩
theorem app_of {i : Nat} {f : Sta → PR D} {D : Ends} {σ : L2.St} {H : Hp} (h : tS X T W al (sApp i f) D σ H) :
    tDrop (tBM X.K "list" rAppend (tVar i) (tCons (tD X T W f) tNil)) D σ H := by
  obtain ⟨s, m, M, G, R, a, q⟩ := h
  unfold sApp at q
  split at q
  · rename_i ds hs
    obtain ⟨b, xs, hσ, hb, hd⟩ := R.ownL hs
    refine ⟨_, hσ, .inl ⟨rfl, xs, SqL.of hb⟩, ?_⟩
    refine tD_fl (k := fun s d => if ds.length < 16777216 then .nx { s with env := s.env.set i (.own (.list (ds ++ [d]))) } else .stuck) R a q fun d y H' M' _ g r k => ?_
    by_cases hl : ds.length < 16777216
    · rw [if_pos hl] at k
      refine ⟨b, xs, y, rfl, rfl, g.same _ _ hb, by rw [hd.length, sizeLine_eq]; exact hl, ?_⟩
      exact k σ _ m M' (Ext.refl ..) a ((R.grow g).mut hs hσ (.lst ((hd.up g.mm).append (.cons r .nil))))
    · rw [if_neg hl] at k
      exact k.elim
  · exact q.elim
theorem s_app {i : Nat} {x : Str} {e : Expr} {f : Sta → PR D} {px apos cpos : Pos} (hx : PE X (.Name x px) (tVar i)) (he : PDv X T W e f)
    (hbase : attributeBase (.Name x px) "append" X.env (eval (.Name x px) X.env) = eval (.Name x px) X.env := by rfl)
    (hfew : ((backTo cpos (starEach [e] X.env)).all (fun x => !x.1) && (backToKw cpos (keywordEach [] X.env)).all (fun x => x.1.isSome)
      && decide ([e].length + ([] : List Keyword).length + (if ([] : List Keyword).isEmpty then 0 else 1) < 30)) = true := by rfl)
    (hline : (apos.endLine == cpos.line) = true := by rfl) (hs : starEach [e] X.env = (false, eval e X.env) :: starEach [] X.env := by rfl) (hplain : (backTo cpos (starEach [] X.env)).any (·.1) = false := by rfl)
    (hsw : swapsWith (.Call (.Attribute (.Name x px) "append" apos) [e] [] cpos) none pos.line X.env = pure false := by rfl) :
    SE1 X T W al (.Expr (.Call (.Attribute (.Name x px) "append" apos) [e] [] cpos) pos) (sApp i f) :=
  PS.wk (ps_expr (pe_bm PySem.F.plainAttrs_list PySem.F.slot_list_append PySem.F.type_list_append mt_append hx (pa_cons he pa_nil hs) hbase hfew hline hs hplain) hsw) fun D σ H h => app_of h
end
end MP

namespace MP
open PySem PySem.Spec PyProof.Rows L2

inductive Fr where
  | ok (r : Slot) (st : List Ob) | exc (e : Ex) (st : List Ob) | stuck
/-- what a def does: its arguments, the objects ahead; its result, the objects behind -/
abbrev Sem := List D → List Ob → Fr
def spF (K : PySem.W.Frag) (T : Tab) (al : Bool) (n : Nat) (sem : Sem) : Sp := fun vs H Q E => ∃ ds st m M G, vs.length = n ∧ DRs K m M vs ds ∧ Rel K T m M G H ⟨[], st⟩ [] ∧ AL al m ⟨[], st⟩ ∧ match sem ds st with
  | .ok r st' => ∀ y H' m' M', Ext al G m M m' M' → AL al m' ⟨[], st'⟩ → Rel K T m' M' G H' ⟨[r], st'⟩ [some y] → Q y H'
  | .exc e st' => ∀ cls d H' m' M', Ext al G m M m' M' → AL al m' ⟨[], st'⟩ → Rel K T m' M' G H' ⟨[], st'⟩ [] → ExR K T m' M' H' e cls d → E cls d H'
  | .stuck => False
def runB (N : Nat) (g : Sta → Fl) : Sem := fun ds st => match g ⟨ds.map Slot.v ++ List.replicate (N - ds.length) .un, st⟩ with
  | .nx s => .ok (.v .none) s.st
  | .ret r s => .ok r s.st
  | .exc e s => .exc e s.st
  | _ => .stuck

section
variable {K : PySem.W.Frag} {T : Tab} {m : List Addr} {M G H : Hp}
theorem slots_start : ∀ {vs : List V} {ds : List D}, DRs K m M vs ds → ∀ n : Nat, SlotsR K m M H (ds.map Slot.v ++ List.replicate n .un) (vs.map some ++ List.replicate n Option.none) []
  | _, _, .nil, 0 => rfl
  | _, _, .nil, n + 1 => ⟨[], [], rfl, rfl, slots_start .nil n⟩
  | _, _, .cons r t, n => ⟨[], [], rfl, ⟨rfl, _, rfl, r⟩, slots_start t n⟩
theorem Rel.start {st : List Ob} {vs : List V} {ds : List D} (R : Rel K T m M G H ⟨[], st⟩ []) (r : DRs K m M vs ds) (n : Nat) : Rel K T m M G H ⟨ds.map Slot.v ++ List.replicate n .un, st⟩ (vs.map some ++ List.replicate n Option.none) := by
  obtain ⟨mh, gh, ⟨f1, f2, h1, h2, nd, dj⟩⟩ := R
  have e : f1 = [] := h1
  subst e
  exact ⟨mh, gh, [], f2, slots_start r n, h2, nd, dj⟩
theorem Rel.store {s : Sta} {σ : L2.St} (R : Rel K T m M G H s σ) : Rel K T m M G H ⟨[], s.st⟩ [] := by
  obtain ⟨mh, gh, ⟨f1, f2, h1, h2, nd, dj⟩⟩ := R
  exact ⟨mh, gh, [], f2, rfl, h2, (List.nodup_append.mp nd).2.1, fun a ha => dj a (by simpa using .inr ha)⟩
end

section
variable {P : Program} {w : World} {K : PySem.W.Frag} {mg : Str → Option Value} {base : Heap} {T : Tab}
/-- a def as it stands, with defaults or none -/
structure FunM (K : PySem.W.Frag) (x qual : Str) (st : Stmt) (f : Addr) (fd : FuncData) : Prop where
  ex : ∃ (oc : Value) (od : Option Addr) (dV kV doc pm : Value) (an : Option Addr) (cdv ct : Value) (osl : Array (Option Value)),
    fd = PySem.W.fnOf x qual (defArgs st) (defBody st) (defScope st) dV kV doc pm an cdv ct ∧ K.lookup f = some ⟨oc, od, .func fd, osl⟩ ∧ PySem.W.codeIn K cdv qual = true
theorem FunM.of {x qual : Str} {st : Stmt} {f : Addr} {fd : FuncData} (F : Fun K x qual st f fd) : FunM K x qual st f fd := by
  obtain ⟨oc, od, kV, doc, pm, an, cdv, ct, osl, h⟩ := F.ex
  exact ⟨oc, od, .none, kV, doc, pm, an, cdv, ct, osl, h⟩
theorem FunM.okX {x qual : Str} {st : Stmt} {f : Addr} {fd : FuncData} {N ps : List Str} {k : Nat} {sp : Sp} (F : FunM K x qual st f fd) (S : FnScope N ps (defScope st)) (len : ∀ vs H Q E, sp vs H Q E → vs.length = ps.length)
    (hbody : ∀ (cdv : Value) (A : Around) (outer : List Env) (s : Shared) (H : Hp) (vs : List V) (Q : VK) (E : XK), Room k (A.deeper (envOfC qual (defScope st) s.heap.objs.size f cdv)) → sp vs H Q E →
      ∃ t, PSs (cxOf (L2.CX P w) P w K mg base N qual (defScope st) f cdv A outer s H E) (defBody st) t ∧ t { nx := fun _ H' => Q .non H', rt := Q } (start N vs) H) : FnOk P w K mg base (L2.CX P w) (k + 1) f fd ps sp := by
  obtain ⟨oc, od, dV, kV, doc, pm, an, cdv, ct, osl, rfl, lk, hcd⟩ := F.ex
  exact fn_of lk hcd S len fun A outer s H vs Q E hr hsp => hbody cdv A outer s H vs Q E hr hsp
/-- THE RULE of a def: its body evaluated -/
theorem fn_ok {x qual : Str} {st : Stmt} {f : Addr} {fd : FuncData} {N ps : List Str} {k : Nat} {al : Bool} {g : Sta → Fl} (F : FunM K x qual st f fd) (S : FnScope N ps (defScope st))
    (hb : ∀ (cdv : Value) (A : Around) (outer : List Env) (s : Shared) (H : Hp) (E : XK), Room k (A.deeper (envOfC qual (defScope st) s.heap.objs.size f cdv)) →
      SEv (cxOf (L2.CX P w) P w K mg base N qual (defScope st) f cdv A outer s H E) T (fun cls d _ H => E cls d H) al (defBody st) g) :
    FnOk P w K mg base (L2.CX P w) (k + 1) f fd ps (spF K T al ps.length (runB N.length g)) := by
  refine F.okX S (fun vs H Q E h => ?_) fun cdv A outer s H vs Q E hr h => ?_
  · obtain ⟨ds, sto, m, M, G, hl, _⟩ := h
    exact hl
  · obtain ⟨ds, sto, m, M, G, hl, r, R, a, q⟩ := h
    refine ⟨_, hb cdv A outer s H E hr, ?_⟩
    have e : start N vs = vs.map some ++ List.replicate (N.length - ds.length) Option.none := by
      unfold L2.start
      rw [r.length]
    rw [e]
    refine ⟨⟨ds.map Slot.v ++ List.replicate (N.length - ds.length) Slot.un, sto⟩, m, M, G, R.start r (N.length - ds.length), a, ?_⟩
    unfold runB at q
    cases hg : g ⟨ds.map Slot.v ++ List.replicate (N.length - ds.length) .un, sto⟩ with
    | nx s' =>
      rw [hg] at q
      intro σ' H' m' M' e' a' R'
      exact q .non H' m' M' e' a' (R'.only (X := cxOf (L2.CX P w) P w K mg base N qual (defScope st) f cdv A outer s H E) .non)
    | ret r s' =>
      rw [hg] at q
      exact fun y H' m' M' e' a' R' => q y H' m' M' e' a' R'
    | exc x s' =>
      rw [hg] at q
      exact fun cls d σ' H' m' M' e' a' R' xr => q cls d H' m' M' e' a' R'.store xr
    | brk s' => rw [hg] at q; exact q.elim
    | cont s' => rw [hg] at q; exact q.elim
    | stuck => rw [hg] at q; exact q.elim
/-- a def to be called by its name -/
def Callee (P : Program) (w : World) (K : PySem.W.Frag) (mg : Str → Option Value) (base : Heap) (T : Tab) (x : Str) (al : Bool) (k n : Nat) (sem : Sem) : Prop :=
  ∃ f fd ps sp ds dvs, FnOk P w K mg base (L2.CX P w) k f fd ps sp ∧ mg x = some (.ref f) ∧ PySem.W.keepIn K (.ref f) = true ∧ Binds K fd ps ds ∧ Vals dvs ds ∧ ∀ vs H Q E, spF K T al n sem vs H Q E → sp (vs ++ dvs) H Q E
theorem Callee.of {x : Str} {al : Bool} {k n : Nat} {sem : Sem} {f : Addr} {fd : FuncData} {ps : List Str} (F : FnOk P w K mg base (L2.CX P w) k f fd ps (spF K T al n sem)) (hm : mg x = some (.ref f)) (hk : PySem.W.keepIn K (.ref f) = true) (hb : Binds K fd ps []) : Callee P w K mg base T x al k n sem :=
  ⟨f, fd, ps, _, [], [], F, hm, hk, hb, .nil, fun vs H Q E h => by rw [List.append_nil]; exact h⟩
end
section
variable {X : Cx} {T : Tab} {e : Expr} {es : List Expr} {pos p : Pos} {k n : Nat} {sem : Sem} {x : Str} {al : Bool} {E : L2.St → XK} {t : TA}
theorem pe_callC (c : Callee X.prog X.w X.K X.mg X.base T x al k n sem) (hr : Room k X.A) (hg : Gl X x) (hx : ∀ σ, PassesAt (L2.CX X.prog X.w) X σ (E σ)) (ha : PA X (e :: es) t)
    (hdb : (x == ("__debug__" : Str)) = false := by decide) (he : starEach (e :: es) X.env = (false, eval e X.env) :: starEach es X.env := by rfl) (hpl : (backTo pos (starEach es X.env)).any (·.1) = false := by rfl) :
    PE X (.Call (.Name x p) (e :: es) [] pos) (tCallS (spF X.K T al n sem) E t) := by
  obtain ⟨f, fd, ps, sp, ds, dvs, F, hm, hk, hb, hd, hi⟩ := c
  refine ⟨fun pins s σ H Q I h => ?_⟩
  refine wpAny_Call_Name_kw (ld_glob I hg hm ?_ hdb)
  refine PySem.W.callWith_K (h₀ := X.base) I.ok.mod.kin hk (thn (ha.run pos pins s σ H _ I h) fun us s1 ⟨vs, H1, I1, r, q⟩ => ⟨I1.kIn, ?_⟩) he hpl
  exact run_fnSD F hr hb hd (hx σ) I1 r (hi _ _ _ _ q)
end

section
variable {X : Cx} {T : Tab} {W : WX} {e o : Expr} {es : List Expr} {pos p : Pos} {fs : Sta → PR (List D)} {k n : Nat} {sem : Sem} {x : Str}
def Slot.rv : Slot → PR RV
  | .v d => .ok (sh d)
  | .own d => .ok (fr d)
  | .un => .stuck
  | .hid _ => .stuck
  | .tpo _ _ => .stuck
def pUser (n : Nat) (sem : Sem) (fs : Sta → PR (List D)) : Sta → PR RV := fun s => (fs s).bind fun ds => if ds.length = n then (match sem ds [] with
  | .ok r _ => r.rv
  | .exc e _ => .exc e
  | .stuck => .stuck) else .stuck
theorem rel_pure {K : PySem.W.Frag} {m : List Addr} {M H : Hp} (mh : Same M H) : Rel K T m M H H ⟨[], []⟩ [] := ⟨mh, Same.refl _, [], [], rfl, rfl, List.nodup_nil, fun a ha => nomatch ha⟩
theorem ev_user (c : Callee X.prog X.w X.K X.mg X.base T x false k n sem) (hr : Room k X.A) (hg : Gl X x) (tk : Takes X W) (ha : PAs X T W (e :: es) fs)
    (hdb : (x == ("__debug__" : Str)) = false := by decide) (he : starEach (e :: es) X.env = (false, eval e X.env) :: starEach es X.env := by rfl) (hpl : (backTo pos (starEach es X.env)).any (·.1) = false := by rfl) :
    PEv X T W (.Call (.Name x p) (e :: es) [] pos) (pUser n sem fs) := by
  refine PE.wk (pe_callC c hr hg (fun σ => passAt tk σ) ha hdb he hpl) ?_
  rintro σ H Q ⟨s, m, M, G, R, q⟩
  refine ⟨s, m, M, G, R, ?_⟩
  revert q
  unfold pUser PR.bind
  cases fs s with
  | ok ds =>
    intro q ys H1 M1 g1 r1
    dsimp only at q
    by_cases hl : ds.length = n
    · rw [if_pos hl] at q
      refine ⟨ds, [], m, M1, H1, by rw [r1.length]; exact hl, r1, rel_pure g1.mh, (fun h => nomatch h), ?_⟩
      have grow : ∀ {m' : List Addr} {M' H' : Hp} {r : Slot} {st' : List Ob} {σ' : L2.St}, Ext false H1 m M1 m' M' → Rel X.K T m' M' H1 H' ⟨[r], st'⟩ σ' → m' = m ∧ Grow H1 M1 H' M' := fun e' R' => ⟨e'.nl rfl, R'.gh, e'.mm, R'.mh, e'.new⟩
      cases hs : sem ds [] with
      | ok r st' =>
        rw [hs] at q
        intro y H' m' M' e' a' R'
        obtain ⟨em, g2⟩ := grow e' R'
        subst em
        obtain ⟨mh, gh, ⟨f1, f2, h1, h2, nd, dj⟩⟩ := R'
        obtain ⟨f3, f4, ef, h3, h4⟩ := h1
        cases r with
        | un => exact q.elim
        | hid _ => exact q.elim
        | tpo _ _ => exact q.elim
        | v d =>
          obtain ⟨_, y', ey, hd⟩ := h3
          cases ey
          exact q y H' M' (g1.trans g2) hd
        | own d =>
          obtain ⟨b, ob, ef3, ey, hb', hd⟩ := h3
          cases ey
          have dja := dj b (by simp [ef, ef3])
          refine q (.ref b) H' M' (g1.trans g2) ⟨b, ob, rfl, hb', hd, dja.1, ?_⟩
          exact g1.same.free dja.2
      | exc x st' =>
        rw [hs] at q
        intro cls d H' m' M' e' a' R' xr
        have em := e'.nl rfl
        subst em
        have g2 : Grow H1 M1 H' M' := ⟨R'.gh, e'.mm, R'.mh, e'.new⟩
        exact q cls d H' M' (g1.trans g2) xr
      | stuck => rw [hs] at q; exact q
    · rw [if_neg hl] at q
      exact q.elim
  | exc e => intro q; exact q
  | stuck => intro q; exact q
end

inductive Fe where
  | ok (r : Slot) (s : Sta) | exc (e : Ex) (s : Sta) | stuck
section
variable (X : Cx) (T : Tab) (W : WX)
def FeP (al : Bool) (G : Hp) (m : List Addr) (M : Hp) (σ : L2.St) (Q : VK) : Fe → Prop
  | .ok r s' => ∀ y H' m' M', Ext al G m M m' M' → AL al m' s' → Rel X.K T m' M' G H' ⟨r :: s'.env, s'.st⟩ (some y :: σ) → Q y H'
  | .exc e s' => ∀ cls d H' m' M', Ext al G m M m' M' → AL al m' s' → Rel X.K T m' M' G H' s' σ → ExR X.K T m' M' H' e cls d → W cls d σ H'
  | .stuck => False
def tF (al : Bool) (g : Sta → Fe) : TE := fun σ H Q => ∃ s m M G, Rel X.K T m M G H s σ ∧ AL al m s ∧ FeP X T W al G m M σ Q (g s)
abbrev FEv (al : Bool) (e : Expr) (g : Sta → Fe) : Prop := PE X e (tF X T W al g)
end
section
variable {X : Cx} {T : Tab} {W : WX} {al : Bool} {G : Hp} {m m' : List Addr} {M M' H H' : Hp}
theorem Rel.consU {s : Sta} {σ : L2.St} (R : Rel X.K T m M G H s σ) : Rel X.K T m M G H ⟨.un :: s.env, s.st⟩ (Option.none :: σ) := by
  obtain ⟨mh, gh, ⟨f1, f2, h1, h2, nd, dj⟩⟩ := R
  exact ⟨mh, gh, f1, f2, ⟨[], f1, rfl, rfl, h1⟩, h2, nd, dj⟩
theorem Rel.tail {r : Slot} {env : List Slot} {st : List Ob} {y : Option V} {σ : L2.St} (R : Rel X.K T m M G H ⟨r :: env, st⟩ (y :: σ)) : Rel X.K T m M G H ⟨env, st⟩ σ := by
  obtain ⟨mh, gh, ⟨f1, f2, h1, h2, nd, dj⟩⟩ := R
  obtain ⟨g1, g2, e, h3, h4⟩ := h1
  subst e
  have sub : (g2 ++ f2).Sublist ((g1 ++ g2) ++ f2) := List.Sublist.append (List.sublist_append_right _ _) (List.Sublist.refl _)
  exact ⟨mh, gh, g2, f2, h4, h2, nd.sublist sub, fun a ha => dj a (sub.subset ha)⟩
/-- the result goes to a name -/
theorem Rel.move {r : Slot} {env : List Slot} {st : List Ob} {y : Option V} {σ : L2.St} (R : Rel X.K T m M G H ⟨r :: env, st⟩ (y :: σ)) (i : Nat) : Rel X.K T m M G H ⟨env.set i r, st⟩ (σ.set i y) := by
  obtain ⟨mh, gh, ⟨f1, f2, h1, h2, nd, dj⟩⟩ := R
  obtain ⟨g1, g2, e, h3, h4⟩ := h1
  subst e
  have nd' := List.nodup_append.mp (show (g1 ++ (g2 ++ f2)).Nodup by rw [← List.append_assoc]; exact nd)
  refine Rel.setAll (s := ⟨env, st⟩) mh gh h4 h2 nd'.2.1 (fun a ha => dj a (by rw [List.append_assoc]; exact List.mem_append_right _ ha)) i h3 nd'.1 fun a ha => ⟨fun hm => ?_, dj a (by simp [ha])⟩
  exact nd'.2.2 a ha a hm rfl
/-- .. or is returned -/
theorem Rel.ret {r : Slot} {env : List Slot} {st : List Ob} {y : Option V} {σ : L2.St} (R : Rel X.K T m M G H ⟨r :: env, st⟩ (y :: σ)) : Rel X.K T m M G H ⟨[r], st⟩ [y] := by
  obtain ⟨mh, gh, ⟨f1, f2, h1, h2, nd, dj⟩⟩ := R
  obtain ⟨g1, g2, e, h3, h4⟩ := h1
  subst e
  have sub : (g1 ++ f2).Sublist ((g1 ++ g2) ++ f2) := List.Sublist.append (List.sublist_append_left _ _) (List.Sublist.refl _)
  exact ⟨mh, gh, g1, f2, ⟨g1, [], by simp, h3, rfl⟩, h2, nd.sublist sub, fun a ha => dj a (sub.subset ha)⟩

variable {e o : Expr} {es : List Expr} {pos p : Pos} {f : Sta → PR RV} {g : Sta → Fe} {g1 g2 : Sta → Fl}
def Fe.fl (x : Fe) (k : Slot → Sta → Fl) : Fl := match x with
  | .ok r s => k r s
  | .exc e s => .exc e s
  | .stuck => .stuck
theorem tF_fl {k : Slot → Sta → Fl} {Dn : Ends} {σ : L2.St} {Q : VK} {s : Sta} (R : Rel X.K T m M G H s σ) (a : AL al m s) (q : FlP X T W al G m M Dn ((g s).fl k))
    (h : ∀ r s' y H' m' M', Ext al G m M m' M' → AL al m' s' → Rel X.K T m' M' G H' ⟨r :: s'.env, s'.st⟩ (some y :: σ) → FlP X T W al G m' M' Dn (k r s') → Q y H') : tF X T W al g σ H Q := by
  refine ⟨s, m, M, G, R, a, ?_⟩
  unfold Fe.fl at q
  cases hg : g s with
  | ok r s' => rw [hg] at q; exact fun y H' m' M' e' a' R' => h r s' y H' m' M' e' a' R' (FlP.ext q e')
  | exc x s' => rw [hg] at q; exact fun cls d H' m' M' e' a' R' xr => q cls d σ H' m' M' e' a' R' xr
  | stuck => rw [hg] at q; exact q
def sSetF (i : Nat) (g : Sta → Fe) : Sta → Fl := fun s => (g s).fl fun r s' => .nx { s' with env := s'.env.set i r }
theorem s_setF {i : Nat} {x : Str} {pos' : Pos} (hN : X.N.Nodup) (hi : X.N[i]? = some x) (hx : Loc X.env.scope x) (he : FEv X T W al e g) (hs : swapsWith e (some (.Name x pos')) pos.line X.env = pure false := by rfl) (hf : X.fn x = true ∨ X.env.scope.names.lookup x = some .local := by first | exact .inl rfl | exact .inr rfl | assumption) :
    SE1 X T W al (.Assign [.Name x pos'] e pos) (sSetF i g) := by
  refine PS.wk (ps_set hN hi hx he hs hf) ?_
  rintro D σ H ⟨s, m, M, G, R, a, q⟩
  exact tF_fl (k := fun r s' => .nx { s' with env := s'.env.set i r }) R a q fun r s' y H' m' M' e' a' R' k => k _ H' m' M' (Ext.refl ..) a' (R'.move i)
theorem Rel.head {K : PySem.W.Frag} {d : D} {env : List Slot} {st : List Ob} {y : V} {σ : L2.St} (R : Rel K T m M G H ⟨.v d :: env, st⟩ (some y :: σ)) : DR K m M y d := by
  obtain ⟨mh, gh, ⟨f1, f2, h1, h2, nd, dj⟩⟩ := R
  obtain ⟨g1, g2, e, ⟨_, y', ey, hd⟩, h4⟩ := h1
  cases ey
  exact hd
/-- what a callee must leave: all but the objects of the store -/
def guard (H : Hp) (f : List Addr) : Hp := fun b => if b ∈ f then Option.none else H b
theorem guard_off {H : Hp} {f : List Addr} {b : Addr} (h : b ∉ f) : guard H f b = H b := if_neg h
theorem guard_in {H : Hp} {f : List Addr} {b : Addr} (h : b ∈ f) : guard H f b = Option.none := if_pos h
/-- into a callee and back -/
theorem Rel.enter {s : Sta} {σ : L2.St} (R : Rel X.K T m M G H s σ) : ∃ Gc, Rel X.K T m M Gc H ⟨[], s.st⟩ [] ∧
    (∀ {m' : List Addr} {M' H' : Hp} {env' : List Slot} {st' : List Ob} {σ' : L2.St}, Ext al Gc m M m' M' → Rel X.K T m' M' Gc H' ⟨env', st'⟩ σ' → Ext al G m M m' M' ∧ Rel X.K T m' M' G H' ⟨env' ++ s.env, st'⟩ (σ' ++ σ)) := by
  obtain ⟨mh, gh, ⟨f1, f2, h1, h2, nd, dj⟩⟩ := R
  have nd' := List.nodup_append.mp nd
  refine ⟨guard H f2, ⟨mh, fun b o e => ?_, [], f2, rfl, h2, nd'.2.1, fun a ha => ⟨(dj a (by simpa using .inr ha)).1, guard_in (by simpa using ha)⟩⟩, fun {m' M' H' env' st' σ'} e' R' => ?_⟩
  · by_cases hb : b ∈ f2
    · rw [guard_in hb] at e; cases e
    · rw [guard_off hb] at e; exact e
  · obtain ⟨mh', gh', ⟨k1, k2, p1, p2, nd2, dj2⟩⟩ := R'
    have gG : ∀ b, guard H f2 b = Option.none → G b = Option.none := fun b hb => by
      by_cases hm : b ∈ f2
      · exact (dj b (by simp [hm])).2
      · rw [guard_off hm] at hb
        exact gh.free hb
    have gGH : Same G H' := fun b o e => gh' b o (by
      by_cases hm : b ∈ f2
      · rw [(dj b (by simp [hm])).2] at e; cases e
      · rw [guard_off hm]; exact gh _ _ e)
    have same1 : ∀ a ∈ f1, H' a = H a := fun a ha => by
      obtain ⟨o, ho⟩ := h1.here a ha
      have hn : a ∉ f2 := fun z => nd'.2.2 a ha a z rfl
      rw [ho]
      exact gh' a o (by rw [guard_off hn]; exact ho)
    have off1 : ∀ a ∈ f1, a ∉ k1 ++ k2 := fun a ha hm => by
      obtain ⟨o, ho⟩ := h1.here a ha
      have hn : a ∉ f2 := fun z => nd'.2.2 a ha a z rfl
      have := (dj2 a hm).2
      rw [guard_off hn, ho] at this
      cases this
    refine ⟨⟨e'.ml, e'.nl, e'.mm, fun b o hb => (e'.new b o hb).imp_right (gG b)⟩, mh', gGH, k1 ++ f1, k2, ?_, p2, ?_, fun a ha => ?_⟩
    · have sl : ∀ {s1 : List Slot} {x1 : List (Option V)} {q1 : List Addr}, SlotsR X.K m' M' H' s1 x1 q1 → SlotsR X.K m' M' H' (s1 ++ s.env) (x1 ++ σ) (q1 ++ f1) := by
        intro s1
        induction s1 with
        | nil =>
          intro x1 q1 hq
          cases x1 with
          | nil =>
            have : q1 = [] := hq
            subst this
            exact h1.mono e'.ml e'.mm same1
          | cons _ _ => exact hq.elim
        | cons s1 ss ih =>
          intro x1 q1 hq
          cases x1 with
          | nil => exact hq.elim
          | cons x xs =>
            obtain ⟨a1, a2, ea, b1, b2⟩ := hq
            exact ⟨a1, a2 ++ f1, by rw [ea, List.append_assoc], b1, ih b2⟩
      exact sl p1
    · have perm : List.Perm ((k1 ++ f1) ++ k2) (f1 ++ (k1 ++ k2)) := by
        rw [List.append_assoc]
        exact List.perm_append_comm_assoc k1 f1 k2
      rw [perm.nodup_iff, List.nodup_append]
      exact ⟨nd'.1, nd2, fun a ha b hb e => off1 a ha (by rw [e]; exact hb)⟩
    · simp only [List.mem_append] at ha
      have inner : a ∈ k1 ++ k2 → M' a = Option.none ∧ G a = Option.none := fun h => ⟨(dj2 a h).1, gG a (dj2 a h).2⟩
      rcases ha with (ha | ha) | ha
      · exact inner (by simp [ha])
      · refine ⟨?_, (dj a (by simp [ha])).2⟩
        cases hM : M' a with
        | none => rfl
        | some o =>
          rcases e'.new a o hM with z | z
          · rw [(dj a (by simp [ha])).1] at z; cases z
          · obtain ⟨o', ho⟩ := h1.here a ha
            have hn : a ∉ f2 := fun z => nd'.2.2 a ha a z rfl
            rw [guard_off hn, ho] at z
            cases z
      · exact inner (by simp [ha])
def Fr.fe (x : Fr) (s : Sta) : Fe := match x with
  | .ok r st => .ok r { s with st := st }
  | .exc e st => .exc e { s with st := st }
  | .stuck => .stuck
/-- the promise of a callee, from the caller's state -/
theorem spF_of {K : PySem.W.Frag} (hK : X.K = K) {n : Nat} {sem : Sem} {s : Sta} {σ : L2.St} {vs : List V} {ds : List D} {Q : VK} (R : Rel X.K T m M G H s σ) (a : AL al m s) (hl : vs.length = n) (r : DRs X.K m M vs ds) (q : FeP X T W al G m M σ Q ((sem ds s.st).fe s)) :
    spF K T al n sem vs H Q (WE W σ) := by
  subst hK
  obtain ⟨Gc, Rc, back⟩ := R.enter (al := al)
  refine ⟨ds, s.st, m, M, Gc, hl, r, Rc, a, ?_⟩
  unfold Fr.fe at q
  cases hs : sem ds s.st with
  | ok r st' =>
    rw [hs] at q
    intro y H' m' M' e' a' R'
    obtain ⟨e2, R2⟩ := back e' R'
    exact q y H' m' M' e2 a' R2
  | exc x st' =>
    rw [hs] at q
    intro cls d H' m' M' e' a' R' xr
    obtain ⟨e2, R2⟩ := back e' R'
    exact q cls d H' m' M' e2 a' R2 xr
  | stuck => rw [hs] at q; exact q
variable {fs : Sta → PR (List D)} {k n : Nat} {sem : Sem} {x : Str}
theorem tAs_fe {kk : Sta → List D → Fe} {σ : L2.St} {Q : VK} {R2 : List V → Hp → Prop} {s : Sta} (R : Rel X.K T m M G H s σ) (a : AL al m s) (q : FeP X T W al G m M σ Q (match fs s with | .ok ds => kk s ds | .exc e => .exc e s | .stuck => .stuck))
    (h : ∀ ds ys H' M', Grow H M H' M' → DRs X.K m M' ys ds → FeP X T W al G m M' σ Q (kk s ds) → R2 ys H') : tAs X T W fs σ H R2 := by
  refine ⟨s, m, M, G, R, ?_⟩
  cases hf : fs s with
  | ok ds =>
    rw [hf] at q
    intro ys H' M' g r
    refine h ds ys H' M' g r ?_
    have e0 := Ext.grow (al := al) (m := m) g R.gh
    revert q
    dsimp only
    cases kk s ds with
    | ok r s' => intro q y H2 m2 M2 e2; exact q y H2 m2 M2 (e0.trans e2)
    | exc x s' => intro q cls d H2 m2 M2 e2; exact q cls d H2 m2 M2 (e0.trans e2)
    | stuck => intro q; exact q
  | exc x => rw [hf] at q; exact fun cls d H' M' g xr => q cls d H' m M' (Ext.grow g R.gh) a (R.grow g) xr
  | stuck => rw [hf] at q; exact q
/-- f(..), with the objects -/
def fUser (n : Nat) (sem : Sem) (fs : Sta → PR (List D)) : Sta → Fe := fun s => match fs s with
  | .ok ds => if ds.length = n then (sem ds s.st).fe s else .stuck
  | .exc e => .exc e s
  | .stuck => .stuck
theorem fe_user (c : Callee X.prog X.w X.K X.mg X.base T x al k n sem) (hr : Room k X.A) (hg : Gl X x) (tk : Takes X W) (ha : PAs X T W (e :: es) fs)
    (hdb : (x == ("__debug__" : Str)) = false := by decide) (he : starEach (e :: es) X.env = (false, eval e X.env) :: starEach es X.env := by rfl) (hpl : (backTo pos (starEach es X.env)).any (·.1) = false := by rfl) :
    FEv X T W al (.Call (.Name x p) (e :: es) [] pos) (fUser n sem fs) := by
  refine PE.wk (pe_callC c hr hg (fun σ => passAt tk σ) ha hdb he hpl) ?_
  rintro σ H Q ⟨s, m, M, G, R, a, q⟩
  refine tAs_fe (kk := fun s ds => if ds.length = n then (sem ds s.st).fe s else .stuck) R a q fun ds ys H' M' g r k => ?_
  by_cases hl : ds.length = n
  · rw [if_pos hl] at k
    exact spF_of rfl (R.grow g) a (by rw [r.length]; exact hl) r k
  · rw [if_neg hl] at k
    exact k.elim
end
end MP

namespace MP
open PySem PySem.Spec PyProof.Rows L2

/-- names by a table -/
def nmOf (l : List Str) (i : Nat) : Str := match l[i]? with
  | some x => x
  | none => ⟨Array.replicate (i + 1000) 97⟩
theorem nmOf_inj {l : List Str} (h : l.Nodup) (hs : ∀ x ∈ l, x.cps.size < 1000) : ∀ i j, nmOf l i = nmOf l j → i = j := by
  intro i j e
  unfold nmOf at e
  cases hi : l[i]? with
  | none =>
    cases hj : l[j]? with
    | none =>
      simp only [hi, hj] at e
      have := congrArg (fun x : Str => x.cps.size) e
      simp at this
      exact this
    | some y =>
      simp only [hi, hj] at e
      have := hs y (List.mem_of_getElem? hj)
      rw [← e] at this
      simp at this
      omega
  | some x =>
    cases hj : l[j]? with
    | none =>
      simp only [hi, hj] at e
      have := hs x (List.mem_of_getElem? hi)
      rw [e] at this
      simp at this
      omega
    | some y =>
      simp only [hi, hj] at e
      subst e
      exact nodup_ix h hi hj
def putO (f : Nat) (s : Slot) : List (Nat × Slot) → List (Nat × Slot)
  | [] => [(f, s)]
  | (g, x) :: r => if g = f then (g, s) :: r else (g, x) :: putO f s r

section
variable {K : PySem.W.Frag} {T : Tab} {m m' : List Addr} {M M' G H H' : Hp}
theorem FsR.look : ∀ {s : List (Nat × Slot)} {x : List (Str × V)} {fp : List Addr} {f : Nat} {sl : Slot}, FsR K T.nm m M H s x fp → s.lookup f = some sl → ∃ v g, x.lookup (T.nm f) = some v ∧ SlotR K m M H sl (some v) g ∧ ∀ a ∈ g, a ∈ fp
  | [], [], _, _, _, _, e => by cases e
  | (i, s) :: ss, (x, v) :: xs, fp, f, sl, h, e => by
    obtain ⟨f1, f2, ef, ex, h1, h2⟩ := h
    by_cases hf : f = i
    · subst hf
      have e' : s = sl := by simpa [List.lookup] using e
      subst e'
      subst ex
      exact ⟨v, f1, by simp [List.lookup], h1, fun a ha => by rw [ef]; exact List.mem_append_left _ ha⟩
    · have hb : (f == i) = false := beq_eq_false_iff_ne.mpr hf
      have e' : ss.lookup f = some sl := by simpa only [List.lookup, hb] using e
      obtain ⟨v', g, e1, e2, e3⟩ := FsR.look h2 e'
      refine ⟨v', g, ?_, e2, fun a ha => by rw [ef]; exact List.mem_append_right _ (e3 a ha)⟩
      have hb2 : (T.nm f == x) = false := beq_eq_false_iff_ne.mpr fun z => hf (T.inj _ _ (z.trans ex))
      simp only [List.lookup, hb2]
      exact e1
  | [], _ :: _, _, _, _, h, _ => h.elim
  | _ :: _, [], _, _, _, h, _ => h.elim
theorem FsR.length : ∀ {s : List (Nat × Slot)} {x : List (Str × V)} {fp : List Addr}, FsR K T.nm m M H s x fp → x.length = s.length
  | [], [], _, _ => rfl
  | (i, s) :: ss, (x, v) :: xs, fp, h => by
    obtain ⟨f1, f2, ef, ex, h1, h2⟩ := h
    simp [FsR.length h2]
  | [], _ :: _, _, h => h.elim
  | _ :: _, [], _, h => h.elim
/-- an attribute stored -/
theorem FsR.put {f : Nat} {sl : Slot} {v : V} {g : List Addr} (hm : MLe m m') (mm : Same M M') (hs : SlotR K m' M' H' sl (some v) g) : ∀ {s : List (Nat × Slot)} {x : List (Str × V)} {fp : List Addr}, FsR K T.nm m M H s x fp → (∀ a ∈ fp, H' a = H a) →
    ∃ k1 k2, List.Perm fp (k1 ++ k2) ∧ ∃ fp', List.Perm fp' (g ++ k2) ∧ FsR K T.nm m' M' H' (putO f sl s) (putF (T.nm f) v x) fp'
  | [], [], _, h, _ => by
    have : _ = [] := h
    subst this
    exact ⟨[], [], List.Perm.refl _, g, by simp, g, [], by simp, rfl, hs, rfl⟩
  | (i, s) :: ss, (x, v0) :: xs, fp, h, hh => by
    obtain ⟨f1, f2, ef, ex, h1, h2⟩ := h
    subst ef
    by_cases hf : i = f
    · subst hf
      refine ⟨f1, f2, List.Perm.refl _, g ++ f2, List.Perm.refl _, ?_⟩
      rw [putO, if_pos rfl, putF, if_pos ex]
      exact ⟨g, f2, rfl, ex, hs, h2.mono hm mm fun a ha => hh a (List.mem_append_right _ ha)⟩
    · obtain ⟨k1, k2, p1, fp', p2, q⟩ := FsR.put hm mm hs h2 fun a ha => hh a (List.mem_append_right _ ha)
      refine ⟨k1, f1 ++ k2, ?_, f1 ++ fp', ?_, ?_⟩
      · refine (List.Perm.append_left f1 p1).trans ?_
        exact List.perm_append_comm_assoc f1 k1 k2
      · refine (List.Perm.append_left f1 p2).trans ?_
        exact List.perm_append_comm_assoc f1 g k2
      · rw [putO, if_neg hf, putF, if_neg (fun z => hf (T.inj _ _ (by rw [← ex]; exact z)))]
        exact ⟨f1, fp', rfl, ex, h1.mono hm mm fun a ha => hh a (List.mem_append_left _ ha), q⟩
  | [], _ :: _, _, h, _ => h.elim
  | _ :: _, [], _, h, _ => h.elim
/-- one object of the store, cut out -/
theorem StoreR.split : ∀ {s : List Ob} {as : List Addr} {fp : List Addr} {j : Nat} {ob : Ob}, StoreR K T m M H s as fp → s[j]? = some ob →
    ∃ f0 f1 f2 a, fp = f0 ++ f1 ++ f2 ∧ as[j]? = some a ∧ ObR K T m M H ob a f1 ∧
      ∀ (m' : List Addr) (M' H' : Hp) (ob' : Ob) (f1' : List Addr), MLe m m' → Same M M' → (∀ b ∈ f0 ++ f2, H' b = H b) → ObR K T m' M' H' ob' a f1' → StoreR K T m' M' H' (s.set j ob') as (f0 ++ f1' ++ f2)
  | [], _, _, _, _, _, e => by simp at e
  | s :: ss, [], _, _, _, h, _ => h.elim
  | s :: ss, a :: as, fp, 0, ob, h, e => by
    obtain ⟨f1, f2, ef, h1, h2⟩ := h
    have e' : s = ob := by simpa using e
    subst e'
    refine ⟨[], f1, f2, a, by simp [ef], rfl, h1, fun m' M' H' ob' f1' hm hM hh hs => ?_⟩
    exact ⟨f1', f2, by simp, hs, h2.mono hm (MLe.refl _) hM fun a ha => hh a (by simp [ha])⟩
  | s :: ss, a :: as, fp, j + 1, ob, h, e => by
    obtain ⟨f1, f2, ef, h1, h2⟩ := h
    obtain ⟨g0, g1, g2, y, eg, ey, hy, k⟩ := StoreR.split h2 (j := j) (ob := ob) (by simpa using e)
    refine ⟨f1 ++ g0, g1, g2, y, by simp [ef, eg, List.append_assoc], by simpa using ey, hy, fun m' M' H' ob' f1' hm hM hh hs => ?_⟩
    refine ⟨f1, g0 ++ f1' ++ g2, by simp [List.append_assoc], h1.mono hm hM fun a ha => hh a (by simp [ha]), ?_⟩
    exact k m' M' H' ob' f1' hm hM (fun b hb => hh b (by
      rcases List.mem_append.mp hb with hb | hb
      · simp [hb]
      · simp [hb])) hs
/-- an object of the store -/
theorem Rel.obK {s : Sta} {σ : L2.St} {j : Nat} {ob : Ob} (R : Rel K T m M G H s σ) (e : s.st[j]? = some ob) (hn : NB ob.cls) : ∃ a dx fs f, m[j]? = some a ∧ H a = some (obH T ob.cls dx fs) ∧ FsR K T.nm m M H ob.fs fs f := by
  obtain ⟨mh, gh, ⟨f1, f2, h1, h2, nd, dj⟩⟩ := R
  obtain ⟨g0, g1, g2, a, eg, ea, ho, k⟩ := h2.split e
  rcases ho with ⟨_, dx, fs, f, ef, h3, h4⟩ | ⟨hb, _⟩ | ⟨kvs, xs, _, e, _⟩
  · exact ⟨a, dx, fs, f, ea, h3, h4⟩
  · exact absurd hb hn.1
  · exact absurd (by rw [e]; rfl) hn.2
theorem Rel.ob {s : Sta} {σ : L2.St} {j : Nat} {ob : Ob} (R : Rel K T m M G H s σ) (e : s.st[j]? = some ob) (hn : IsI ob.cls) : ∃ a dx fs f, m[j]? = some a ∧ H a = some (.ins (T.ca ob.cls) dx fs) ∧ FsR K T.nm m M H ob.fs fs f := by
  obtain ⟨a, dx, fs, f, h1, h2, h3⟩ := R.obK e hn.1
  rw [obH_ins hn] at h2
  exact ⟨a, dx, fs, f, h1, h2, h3⟩
end

section
variable {X : Cx} {T : Tab} {W : WX} {al : Bool} {G : Hp} {m m' : List Addr} {M M' H H' : Hp} {e o : Expr} {es : List Expr} {pos p : Pos} {fo : Sta → PR RV}
/-- o.f -/
def RV.ob (c : Nat) (st : List Ob) (r : RV) : PR (Nat × Ob) := match r.d with
  | .obj j => match st[j]? with
    | some ob => if ob.cls = c then .ok (j, ob) else .stuck
    | none => .stuck
  | _ => .stuck
theorem Arg.obj {K : PySem.W.Frag} {y : V} {j : Nat} (h : Arg K m M H y (.obj j)) : ∃ a, y = .ref a ∧ m[j]? = some a := by
  rcases h with h | ⟨a, o, rfl, h2, h3⟩
  · cases h with
    | obj h => exact ⟨_, rfl, h⟩
  · cases h3
theorem SlotR.rr {K : PySem.W.Frag} {sl : Slot} {v : V} {g : List Addr} {r : RV} (h : SlotR K m M H sl (some v) g) (e : sl.look = some r) : RR K m M H H v r := by
  cases sl with
  | un => cases e
  | v d =>
    cases e
    obtain ⟨_, y, ey, hd⟩ := h
    cases ey
    exact hd
  | own d =>
    cases e
    obtain ⟨a, o, _, ey, hb, hd⟩ := h
    cases ey
    exact ⟨a, o, rfl, hb, hd⟩
  | hid a => cases e
  | tpo _ _ => cases e
/-- the store with one attribute changed -/
def setF (st : List Ob) (j : Nat) (ob : Ob) (f : Nat) (sl : Slot) : List Ob := st.set j { ob with fs := putO f sl ob.fs }
theorem Rel.putF {s : Sta} {σ : L2.St} {j f : Nat} {ob : Ob} {a dx : Addr} {fs : List (Str × V)} {r : Slot} {y : V} (R : Rel X.K T m M G H ⟨r :: s.env, s.st⟩ (some y :: σ)) (e : s.st[j]? = some ob) (hnb : NB ob.cls) (ea : m[j]? = some a) (eh : H a = some (obH T ob.cls dx fs)) :
    Rel X.K T m M G (upd H a (obH T ob.cls dx (L2.putF (T.nm f) y fs))) { s with st := setF s.st j ob f r } σ := by
  obtain ⟨mh, gh, ⟨f1, f2, h1, h2, nd, dj⟩⟩ := R
  obtain ⟨u1, u2, eu, hr, h1⟩ := h1
  obtain ⟨g0, g1, g2, a', eg, ea', ho, k⟩ := h2.split e
  rcases ho with ⟨_, dx', fs', ff, ef, h3, h4⟩ | ⟨hb, _⟩ | ⟨kvs, xs, _, e, _⟩
  rotate_left
  · exact absurd hb hnb.1
  · exact absurd (by rw [e]; rfl) hnb.2
  rw [ea] at ea'
  cases ea'
  rw [eh] at h3
  injection h3 with h3
  have h3 := obH_inj h3
  subst h3
  subst eu eg ef
  have dja := dj a (by simp)
  -- a stands once in the footprint
  have nd1 : (a :: ((u1 ++ u2) ++ (g0 ++ (ff ++ g2)))).Nodup := by
    refine (List.Perm.nodup_iff ?_).mp nd
    have : ((u1 ++ u2) ++ (g0 ++ a :: ff ++ g2)) = (u1 ++ u2 ++ g0) ++ a :: (ff ++ g2) := by simp
    rw [this]
    refine List.perm_middle.trans ?_
    simp
  have na : ∀ b ∈ (u1 ++ u2) ++ (g0 ++ (ff ++ g2)), b ≠ a := fun b hb z => (List.nodup_cons.mp nd1).1 (by rw [← z]; exact hb)
  have off : ∀ b ∈ (u1 ++ u2) ++ (g0 ++ (ff ++ g2)), upd H a (obH T ob.cls dx (L2.putF (T.nm f) y fs)) b = H b := fun b hb => upd_ne (na b hb)
  have hr' : SlotR X.K m M (upd H a (obH T ob.cls dx (L2.putF (T.nm f) y fs))) r (some y) u1 := hr.mono (MLe.refl _) (Same.refl _) fun b hb => off b (by simp [hb])
  obtain ⟨k1, k2, p1, fp', p2, hput⟩ := FsR.put (f := f) (MLe.refl m) (Same.refl M) hr' h4 fun b hb => off b (by simp [hb])
  have hst := k m M (upd H a (obH T ob.cls dx (L2.putF (T.nm f) y fs))) { ob with fs := putO f r ob.fs } (a :: fp') (MLe.refl _) (Same.refl _) (fun b hb => off b (by
    rcases List.mem_append.mp hb with hb | hb <;> simp [hb])) (.inl ⟨hnb, dx, _, fp', rfl, upd_same, hput⟩)
  have hMa : M a = Option.none := dja.1
  have hGa : G a = Option.none := dja.2
  have pm : List.Perm (u2 ++ (g0 ++ a :: fp' ++ g2)) (a :: (u1 ++ u2 ++ (g0 ++ (k2 ++ g2)))) := by
    have q1 : List.Perm (u2 ++ (g0 ++ a :: fp' ++ g2)) (u2 ++ (g0 ++ a :: (u1 ++ k2) ++ g2)) := List.Perm.append_left _ (List.Perm.append_right _ (List.Perm.append_left _ (List.Perm.cons _ p2)))
    refine q1.trans ?_
    have e1 : (u2 ++ (g0 ++ a :: (u1 ++ k2) ++ g2)) = (u2 ++ g0) ++ a :: (u1 ++ (k2 ++ g2)) := by simp
    rw [e1]
    refine List.perm_middle.trans (List.Perm.cons _ ?_)
    have e2 : (u1 ++ u2 ++ (g0 ++ (k2 ++ g2))) = u1 ++ ((u2 ++ g0) ++ (k2 ++ g2)) := by simp
    rw [e2]
    exact List.perm_append_comm_assoc (u2 ++ g0) u1 (k2 ++ g2)
  have sub : List.Sublist (u1 ++ u2 ++ (g0 ++ (k2 ++ g2))) (u1 ++ u2 ++ (g0 ++ ((k1 ++ k2) ++ g2))) :=
    List.Sublist.append (List.Sublist.refl _) (List.Sublist.append (List.Sublist.refl _) (List.Sublist.append (List.sublist_append_right _ _) (List.Sublist.refl _)))
  have pm2 : List.Perm (u1 ++ u2 ++ (g0 ++ (ff ++ g2))) (u1 ++ u2 ++ (g0 ++ ((k1 ++ k2) ++ g2))) := List.Perm.append_left _ (List.Perm.append_left _ (List.Perm.append_right _ p1))
  have mem : ∀ b ∈ u2 ++ (g0 ++ a :: fp' ++ g2), b = a ∨ b ∈ (u1 ++ u2) ++ (g0 ++ (ff ++ g2)) := fun b hb => by
    rcases List.mem_cons.mp (pm.mem_iff.mp hb) with z | z
    · exact .inl z
    · exact .inr (pm2.mem_iff.mpr (sub.subset z))
  refine ⟨fun b u e => ?_, fun b u e => ?_, u2, g0 ++ a :: fp' ++ g2, ?_, hst, ?_, fun b hb => ?_⟩
  · rw [upd_ne (fun z => by rw [z, hMa] at e; cases e)]
    exact mh _ _ e
  · rw [upd_ne (fun z => by rw [z, hGa] at e; cases e)]
    exact gh _ _ e
  · exact h1.mono (MLe.refl _) (Same.refl _) fun b hb => off b (by simp [hb])
  · rw [pm.nodup_iff, List.nodup_cons]
    have nd2 := pm2.nodup_iff.mp (List.nodup_cons.mp nd1).2
    exact ⟨fun z => (List.nodup_cons.mp nd1).1 (pm2.mem_iff.mpr (sub.subset z)), nd2.sublist sub⟩
  · rcases mem b hb with rfl | z
    · exact dja
    · refine dj b ?_
      simp only [List.mem_append, List.mem_cons] at z ⊢
      rcases z with z | z | z | z
      · exact .inl z
      · exact .inr (.inl (.inl z))
      · exact .inr (.inl (.inr (.inr z)))
      · exact .inr (.inr z)
section
variable {k n : Nat} {f C : Addr} {fd : FuncData} {ps : List Str} {sp : Sp} {E : L2.St → XK} {x mn : Str} {apos : Pos} {ta : TE} {t : TA} {sem : Sem} {c : Nat} {fs : List Nat} {fa : Sta → PR (List D)}
theorem FeP.ext {σ : L2.St} {Q : VK} {fe : Fe} (h : FeP X T W al G m M σ Q fe) (e : Ext al G m M m' M') : FeP X T W al G m' M' σ Q fe := by
  cases fe with
  | ok r s => exact fun y H' m2 M2 e2 => h y H' m2 M2 (e.trans e2)
  | exc x s => exact fun cls d H' m2 M2 e2 => h cls d H' m2 M2 (e.trans e2)
  | stuck => exact h
theorem StoreR.snoc {K : PySem.W.Frag} {ob : Ob} {a : Addr} {f2 : List Addr} : ∀ {st : List Ob} {as : List Addr} {f1 : List Addr}, StoreR K T m M H st as f1 → as.length = st.length → ObR K T m M H ob a f2 → StoreR K T m M H (st ++ [ob]) (as ++ [a]) (f1 ++ f2)
  | [], [], f1, h, _, ho => by
    have : f1 = [] := h
    subst this
    exact ⟨f2, [], by simp, ho, rfl⟩
  | ob' :: st, a' :: as, f1, h, hl, ho => by
    obtain ⟨g1, g2, e, h1, h2⟩ := h
    subst e
    exact ⟨g1, g2 ++ f2, by simp, h1, StoreR.snoc h2 (by simpa using hl) ho⟩
  | [], _ :: _, _, _, hl, _ => by simp at hl
  | _ :: _, [], _, h, _, _ => h.elim
theorem Rel.made {s : Sta} {σ : L2.St} (R : Rel X.K T m M G H s σ) (al : m.length = s.st.length) {a dx : Addr} (ha : H a = Option.none) (hd : H dx = Option.none) (hne : dx ≠ a) (c : Nat) (hnb : IsI c) :
    Rel X.K T (m ++ [a]) M G (upd (upd H dx (.own a)) a (.ins (T.ca c) dx [])) { s with st := s.st ++ [⟨c, []⟩] } σ := by
  have same : Same H (upd (upd H dx (.own a)) a (.ins (T.ca c) dx [])) := fun b o e => by
    rw [upd_ne (ne_of_none e ha), upd_ne (ne_of_none e hd)]
    exact e
  obtain ⟨mh, gh, ⟨f1, f2, h1, h2, nd, dj⟩⟩ := R
  have here : ∀ b ∈ f1 ++ f2, ∃ o, H b = some o := fun b hb => by
    rcases List.mem_append.mp hb with hb | hb
    · exact h1.here b hb
    · exact h2.here b hb
  have hh : ∀ b ∈ f1 ++ f2, (upd (upd H dx (.own a)) a (.ins (T.ca c) dx [])) b = H b := fun b hb => by
    obtain ⟨o, ho⟩ := here b hb
    rw [ho]
    exact same _ _ ho
  have ml : MLe m (m ++ [a]) := MLe.snoc m a
  refine ⟨mh.trans same, gh.trans same, f1, f2 ++ [a], h1.mono ml (Same.refl _) fun b hb => hh b (by simp [hb]), ?_, ?_, fun b hb => ?_⟩
  · refine StoreR.snoc (h2.mono ml (MLe.refl _) (Same.refl _) fun b hb => hh b (by simp [hb])) al (.inl ⟨hnb.1, dx, [], [], rfl, by rw [obH_ins hnb]; exact upd_same, rfl⟩)
  · rw [← List.append_assoc, List.nodup_append]
    refine ⟨nd, by simp, fun b hb d hd e => ?_⟩
    have : d = a := by simpa using hd
    subst this
    obtain ⟨o, ho⟩ := here b hb
    rw [e, ha] at ho
    cases ho
  · rw [← List.append_assoc] at hb
    rcases List.mem_append.mp hb with hb | hb
    · exact dj b hb
    · have : b = a := by simpa using hb
      subst this
      exact ⟨mh.free ha, gh.free ha⟩
end
end
end MP

namespace MP
open PySem PySem.Spec PyProof.Rows L2
mutual
def D.noObj : D → Bool
  | .list xs => noObjs xs
  | .lk xs => noObjs xs
  | .tup xs => noObjs xs
  | .dic kvs => noObjk kvs
  | .obj _ => false
  | .xv _ fs => noObjf fs
  | .btp xs => noObjs xs
  | _ => true
def noObjs : List D → Bool
  | [] => true
  | x :: xs => x.noObj && noObjs xs
def noObjk : List (Key × D) → Bool
  | [] => true
  | (_, x) :: xs => x.noObj && noObjk xs
def noObjf : List (Str × D) → Bool
  | [] => true
  | (_, x) :: xs => x.noObj && noObjf xs
end
section
variable {K : PySem.W.Frag} {m m' : List Addr} {H : Hp}
mutual
theorem DR.noObj : ∀ (d : D) (v : V), DR K m H v d → d.noObj = true → DR K m' H v d
  | .none, _, h, _ => by cases h; exact .non
  | .bool b, _, h, _ => by cases h; exact .bl b
  | .int i, _, h, _ => by cases h; exact .int i
  | .str x, _, h, _ => by cases h; exact .str x
  | .list ds, _, h, c => by
    cases h with
    | list h1 h2 => rw [D.noObj] at c; exact .list h1 (DRs.noObj ds _ h2 c)
  | .lk ds, _, h, c => by
    cases h with
    | lk h1 h2 => rw [D.noObj] at c; exact .lk h1 (DRs.noObj ds _ h2 c)
  | .tup ds, _, h, c => by
    cases h with
    | tup h1 h2 => rw [D.noObj] at c; exact .tup h1 (DRs.noObj ds _ h2 c)
  | .dic kvs, _, h, c => by
    cases h with
    | dic h1 h2 => rw [D.noObj] at c; exact .dic h1 (DRk.noObj kvs _ h2 c)
  | .obj n, _, h, c => by rw [D.noObj] at c; cases c
  | .xv c' fs, _, h, c => by
    rw [D.noObj] at c
    cases h with
    | xn h1 h2 => exact .xn h1 h2
    | xf h1 h2 h3 h4 => exact .xf h1 h2 h3 (DRf.noObj fs _ h4 c)
  | .btp ds, _, h, c => by
    cases h with
    | btp h1 h2 h3 => rw [D.noObj] at c; exact .btp h1 h2 (DRs.noObj ds _ h3 c)
theorem DRs.noObj : ∀ (ds : List D) (vs : List V), DRs K m H vs ds → noObjs ds = true → DRs K m' H vs ds
  | [], _, h, _ => by cases h; exact .nil
  | d :: ds, _, h, c => by
    cases h with
    | cons h1 h2 =>
      rw [noObjs, Bool.and_eq_true] at c
      exact .cons (DR.noObj d _ h1 c.1) (DRs.noObj ds _ h2 c.2)
theorem DRk.noObj : ∀ (ds : List (Key × D)) (vs : List (Key × V)), DRk K m H vs ds → noObjk ds = true → DRk K m' H vs ds
  | [], _, h, _ => by cases h; exact .nil
  | (k, d) :: ds, _, h, c => by
    cases h with
    | cons h1 h2 =>
      rw [noObjk, Bool.and_eq_true] at c
      exact .cons (DR.noObj d _ h1 c.1) (DRk.noObj ds _ h2 c.2)
theorem DRf.noObj : ∀ (ds : List (Str × D)) (vs : List (Str × V)), DRf K m H vs ds → noObjf ds = true → DRf K m' H vs ds
  | [], _, h, _ => by cases h; exact .nil
  | (k, d) :: ds, _, h, c => by
    cases h with
    | cons h1 h2 =>
      rw [noObjf, Bool.and_eq_true] at c
      exact .cons (DR.noObj d _ h1 c.1) (DRf.noObj ds _ h2 c.2)
end
theorem ObD.noObj {o : HO} {d : D} (h : ObD K m H o d) (c : d.noObj = true) : ObD K m' H o d := by
  cases h with
  | lst h => rw [D.noObj] at c; exact .lst (DRs.noObj _ _ h c)
  | dic h => rw [D.noObj] at c; exact .dic (DRk.noObj _ _ h c)
end
mutual
def coldD : D → Bool
  | .none => true
  | .bool _ => true
  | .int _ => true
  | .str _ => true
  | .tup xs => coldDs xs
  | _ => false
def coldDs : List D → Bool
  | [] => true
  | x :: xs => coldD x && coldDs xs
end
def coldDf : List (Str × D) → Bool
  | [] => true
  | (_, x) :: xs => coldD x && coldDf xs
/-- a list or a dict, not frozen -/
def hoOpen : HO → Bool
  | .lst _ => true
  | .dK _ => true
  | _ => false
/-- the objects at some places, shared for a while -/
def opn (S : List Addr) (H M : Hp) : Hp := fun a => if a ∈ S then H a else M a
/-- and no more -/
def shut (S : List Addr) (M M' : Hp) : Hp := fun a => if a ∈ S then M a else M' a
theorem opn_sub {S : List Addr} {H M : Hp} (s : Same M H) : Same (opn S H M) H := fun a o h => by
  unfold opn at h
  by_cases hs : a ∈ S
  · rw [if_pos hs] at h; exact h
  · rw [if_neg hs] at h; exact s _ _ h
theorem Same.opn {M H : Hp} (s : Same M H) (S : List Addr) : Same M (opn S H M) := fun a o h => by
  unfold MP.opn
  by_cases hs : a ∈ S
  · rw [if_pos hs]; exact s _ _ h
  · rw [if_neg hs]; exact h
theorem shut_grow {S : List Addr} {H M H' M' : Hp} (s : Same M H) (mm : Same (opn S H M) M') (gh : Same H H') (mh : Same M' H') (new : ∀ a o, M' a = some o → opn S H M a = some o ∨ H a = Option.none) : Grow H M H' (shut S M M') := by
  refine ⟨gh, fun a o h => ?_, fun a o h => ?_, fun a o h => ?_⟩
  · unfold shut
    by_cases hs : a ∈ S
    · rw [if_pos hs]; exact h
    · rw [if_neg hs]; exact mm _ _ (Same.opn s S _ _ h)
  · unfold shut at h
    by_cases hs : a ∈ S
    · rw [if_pos hs] at h; exact gh _ _ (s _ _ h)
    · rw [if_neg hs] at h; exact mh _ _ h
  · unfold shut at h
    by_cases hs : a ∈ S
    · rw [if_pos hs] at h; exact .inl h
    · rw [if_neg hs] at h
      rcases new _ _ h with q | q
      · unfold opn at q
        rw [if_neg hs] at q
        exact .inl q
      · exact .inr q
theorem shut_open {S : List Addr} {H M M' : Hp} (hS : ∀ a ∈ S, ∃ o, H a = some o ∧ hoOpen o = true) (mm : Same (opn S H M) M') : ∀ a ∈ S, ∃ o, M' a = some o ∧ hoOpen o = true := fun a ha => by
  obtain ⟨o, h1, h2⟩ := hS a ha
  refine ⟨o, mm _ _ ?_, h2⟩
  unfold opn
  rw [if_pos ha]
  exact h1
theorem shut_keep {S : List Addr} {M M' : Hp} {a : Addr} {o : HO} (hS : ∀ a ∈ S, ∃ o, M' a = some o ∧ hoOpen o = true) (h : M' a = some o) (ho : hoOpen o = false) : shut S M M' a = some o := by
  unfold shut
  by_cases hs : a ∈ S
  · obtain ⟨o', h1, h2⟩ := hS a hs
    rw [h] at h1
    cases h1
    rw [ho] at h2
    cases h2
  · rw [if_neg hs]; exact h
section
variable {K : PySem.W.Frag} {m : List Addr} {S : List Addr} {M M' : Hp}
theorem ObD.openD {M : Hp} {o : HO} {d : D} (h : ObD K m M o d) : hoOpen o = true := by cases h <;> rfl
mutual
theorem DR.cold (hS : ∀ a ∈ S, ∃ o, M' a = some o ∧ hoOpen o = true) : ∀ (d : D) (v : V), DR K m M' v d → coldD d = true → DR K m (shut S M M') v d
  | .none, _, h, _ => by cases h; exact .non
  | .bool b, _, h, _ => by cases h; exact .bl b
  | .int i, _, h, _ => by cases h; exact .int i
  | .str x, _, h, _ => by cases h; exact .str x
  | .tup ds, _, h, c => by
    cases h with
    | tup h1 h2 =>
      rw [coldD] at c
      refine .tup ?_ (DRs.cold hS ds _ h2 c)
      rcases h1 with (h1 | ⟨o, h1⟩) | h1
      · exact .inl (.inl (shut_keep hS h1 rfl))
      · exact .inl (.inr ⟨o, shut_keep hS h1 rfl⟩)
      · exact .inr h1
  | .list _, _, _, c => by unfold coldD at c; cases c
  | .lk _, _, _, c => by unfold coldD at c; cases c
  | .dic _, _, _, c => by unfold coldD at c; cases c
  | .obj _, _, _, c => by unfold coldD at c; cases c
  | .xv _ _, _, _, c => by unfold coldD at c; cases c
  | .btp _, _, _, c => by unfold coldD at c; cases c
theorem DRs.cold (hS : ∀ a ∈ S, ∃ o, M' a = some o ∧ hoOpen o = true) : ∀ (ds : List D) (vs : List V), DRs K m M' vs ds → coldDs ds = true → DRs K m (shut S M M') vs ds
  | [], _, h, _ => by cases h; exact .nil
  | d :: ds, _, h, c => by
    cases h with
    | cons h1 h2 =>
      rw [coldDs, Bool.and_eq_true] at c
      exact .cons (DR.cold hS d _ h1 c.1) (DRs.cold hS ds _ h2 c.2)
end
theorem DRf.cold (hS : ∀ a ∈ S, ∃ o, M' a = some o ∧ hoOpen o = true) : ∀ (ds : List (Str × D)) (vs : List (Str × V)), DRf K m M' vs ds → coldDf ds = true → DRf K m (shut S M M') vs ds
  | [], _, h, _ => by cases h; exact .nil
  | (k, d) :: ds, _, h, c => by
    cases h with
    | cons h1 h2 =>
      rw [coldDf, Bool.and_eq_true] at c
      exact .cons (DR.cold hS d _ h1 c.1) (DRf.cold hS ds _ h2 c.2)
end
theorem DRs.of_get {K : PySem.W.Frag} {m : List Addr} {M : Hp} : ∀ {vs : List V} {ds : List D}, vs.length = ds.length → (∀ (j : Nat) (v : V) (e : D), vs[j]? = some v → ds[j]? = some e → DR K m M v e) → DRs K m M vs ds
  | [], [], _, _ => .nil
  | v :: vs, d :: ds, h, k => .cons (k 0 v d rfl rfl) (DRs.of_get (by simpa using h) fun j v' e hv he => k (j + 1) v' e (by simpa using hv) (by simpa using he))
  | [], _ :: _, h, _ => by simp at h
  | _ :: _, [], h, _ => by simp at h
theorem noObjs_get : ∀ {ds : List D} {j : Nat} {e : D}, noObjs ds = true → ds[j]? = some e → e.noObj = true
  | [], _, _, _, h => by simp at h
  | d :: ds, 0, e, n, h => by
    rw [noObjs, Bool.and_eq_true] at n
    simp at h; subst h; exact n.1
  | d :: ds, j + 1, e, n, h => by
    rw [noObjs, Bool.and_eq_true] at n
    exact noObjs_get (j := j) n.2 (by simpa using h)
/-- a tuple with a part of its own, shared from now on -/
theorem SlotR.tpo_all {K : PySem.W.Frag} {m m2 : List Addr} {M H : Hp} {k : Nat} {us : List D} {y : V} {fp : List Addr} (h : SlotR K m M H (.tpo k us) (some y) fp) :
    True ∧ ∃ b ob, fp = [b] ∧ H b = some ob ∧ ∀ {M2 : Hp}, Same M M2 → M2 b = some ob → noObjs us = true → DR K m2 M2 y (.tup us) := by
  obtain ⟨t, b, ob, vs, d, ef3, ey, ht, hl2, hv, hd2, hb', hd, hr⟩ := h
  cases ey
  refine ⟨trivial, b, ob, ef3, hb', fun {M2} mm h2 hn => ?_⟩
  refine .tup (SqT.of (mm _ _ ht)) (DRs.of_get hl2 fun j v e hj he => ?_)
  by_cases hjk : j = k
  · subst hjk
    rw [hv] at hj
    rw [hd2] at he
    cases hj
    cases he
    exact (((hd.mono (MLe.refl _) mm).dr (Same.refl _) h2)).noObj _ _ (noObjs_get hn hd2)
  · exact DR.noObj _ _ (DR.mono (MLe.refl _) mm _ _ (hr j v e hjk hj he)) (noObjs_get hn he)
section
variable {X : Cx} {T : Tab} {W : WX} {e o : Expr} {es : List Expr} {pos p : Pos} {k n : Nat} {sem : Sem} {x : Str}
/-- a def that makes objects of its own, which nobody sees -/
def pSeal (n : Nat) (sem : Sem) (fs : Sta → PR (List D)) : Sta → PR RV := fun s => (fs s).bind fun ds => if ds.length = n ∧ noObjs ds = true then (match sem ds [] with
  | .ok (.v d) _ => if d.noObj = true then .ok (sh d) else .stuck
  | .ok (.own d) _ => if d.noObj = true then .ok (fr d) else .stuck
  | .ok (.tpo _ us) _ => if noObjs us = true then .ok (sh (.tup us)) else .stuck
  | .exc e _ => if noObjf e.fs = true then .exc e else .stuck
  | .ok .un _ => .stuck
  | .ok (.hid _) _ => .stuck
  | .stuck => .stuck) else .stuck
theorem ExR.noObj {K : PySem.W.Frag} {T : Tab} {m m' : List Addr} {M H : Hp} {e : Ex} {cls : Value} {d : Option Addr} (h : ExR K T m M H e cls d) (hn : noObjf e.fs = true) : ExR K T m' M H e cls d := by
  obtain ⟨C, h1, h2, h3⟩ := h
  refine ⟨C, h1, h2, ?_⟩
  rcases h3 with h3 | ⟨dd, fs, e1, e2, e3⟩
  · exact .inl h3
  · exact .inr ⟨dd, fs, e1, e2, DRf.noObj _ _ e3 hn⟩
theorem ev_seal {fs : Sta → PR (List D)} (c : Callee X.prog X.w X.K X.mg X.base T x true k n sem) (hr : Room k X.A) (hg : Gl X x) (tk : Takes X W) (ha : PAs X T W (e :: es) fs)
    (hdb : (x == ("__debug__" : Str)) = false := by decide) (he : starEach (e :: es) X.env = (false, eval e X.env) :: starEach es X.env := by rfl) (hpl : (backTo pos (starEach es X.env)).any (·.1) = false := by rfl) :
    PEv X T W (.Call (.Name x p) (e :: es) [] pos) (pSeal n sem fs) := by
  refine PE.wk (pe_callC c hr hg (fun σ => passAt tk σ) ha hdb he hpl) ?_
  rintro σ H Q ⟨s, m, M, G, R, q⟩
  refine ⟨s, m, M, G, R, ?_⟩
  revert q
  unfold pSeal PR.bind
  cases fs s with
  | ok ds =>
    intro q ys H1 M1 g1 r1
    dsimp only at q
    by_cases hl : ds.length = n ∧ noObjs ds = true
    · rw [if_pos hl] at q
      refine ⟨ds, [], [], M1, H1, by rw [r1.length]; exact hl.1, DRs.noObj _ _ r1 hl.2, rel_pure g1.mh, (fun _ => rfl), ?_⟩
      cases hs : sem ds [] with
      | ok r st' =>
        rw [hs] at q
        intro y H' m' M' e' a' R'
        have g2 : Grow H1 M1 H' M' := ⟨R'.gh, e'.mm, R'.mh, e'.new⟩
        obtain ⟨mh, gh, ⟨f1, f2, h1, h2, nd, dj⟩⟩ := R'
        obtain ⟨f3, f4, ef, h3, h4⟩ := h1
        cases r with
        | un => exact q.elim
        | hid _ => exact q.elim
        | tpo k us =>
          obtain ⟨hsl, ht⟩ := h3.tpo_all (y := y)
          dsimp only at q
          by_cases hn : noObjs us = true
          · rw [if_pos hn] at q
            obtain ⟨b, ob, ef3, hb', hd⟩ := ht
            have dja := dj b (by simp [ef, ef3])
            exact q y H' (upd M' b ob) (g1.trans (g2.freeze dja.2 hb' dja.1)) (hd (Same.upd dja.1) upd_same hn)
          · rw [if_neg hn] at q
            exact q.elim
        | v d =>
          obtain ⟨_, y', ey, hd⟩ := h3
          cases ey
          dsimp only at q
          by_cases hn : d.noObj = true
          · rw [if_pos hn] at q
            exact q y H' M' (g1.trans g2) (DR.noObj _ _ hd hn)
          · rw [if_neg hn] at q
            exact q.elim
        | own d =>
          obtain ⟨b, ob, ef3, ey, hb', hd⟩ := h3
          cases ey
          have dja := dj b (by simp [ef, ef3])
          dsimp only at q
          by_cases hn : d.noObj = true
          · rw [if_pos hn] at q
            exact q (.ref b) H' M' (g1.trans g2) ⟨b, ob, rfl, hb', hd.noObj hn, dja.1, g1.same.free dja.2⟩
          · rw [if_neg hn] at q
            exact q.elim
      | exc x st' =>
        rw [hs] at q
        intro cls dd H' m' M' e' a' R' xr
        dsimp only at q
        by_cases hn : noObjf x.fs = true
        · rw [if_pos hn] at q
          have g2 : Grow H1 M1 H' M' := ⟨R'.gh, e'.mm, R'.mh, e'.new⟩
          exact q cls dd H' M' (g1.trans g2) (xr.noObj hn)
        · rw [if_neg hn] at q
          exact q.elim
      | stuck => rw [hs] at q; exact q
    · rw [if_neg hl] at q
      exact q.elim
  | exc e => intro q; exact q
  | stuck => intro q; exact q
/-- a def that only looks at its arguments; what it hands back holds no list -/
def pLook (n : Nat) (sem : Sem) (fs : Sta → PR (List RV)) : Sta → PR RV := fun s => (fs s).bind fun rs => if rs.length = n then (match sem (rs.map RV.d) [] with
  | .ok (.v d) _ => if coldD d = true then .ok (sh d) else .stuck
  | .ok (.own (.list ds)) _ => if coldDs ds = true then .ok (fr (.list ds)) else .stuck
  | .exc e _ => if coldDf e.fs = true then .exc e else .stuck
  | _ => .stuck) else .stuck
theorem args_cold {K : PySem.W.Frag} {m : List Addr} {M H0 H : Hp} (s : Same M H) : ∀ {ys : List V} {rs : List RV}, Paired (RR K m M H0 H) ys rs →
    ∃ S : List Addr, (∀ a ∈ S, ∃ o, H a = some o ∧ hoOpen o = true) ∧ ∀ S' : List Addr, (∀ a ∈ S, a ∈ S') → DRs K m (opn S' H M) ys (rs.map RV.d)
  | _, _, .nil => ⟨[], (fun _ h => nomatch h), fun _ _ => .nil⟩
  | y :: ys, ⟨k, d⟩ :: rs, .cons r t => by
    obtain ⟨S, h1, h2⟩ := args_cold s t
    have own : ∀ {a : Addr} {o : HO}, y = .ref a → H a = some o → ObD K m M o d → ∃ S : List Addr, (∀ a ∈ S, ∃ o, H a = some o ∧ hoOpen o = true) ∧ ∀ S' : List Addr, (∀ a ∈ S, a ∈ S') → DRs K m (opn S' H M) (y :: ys) ((⟨k, d⟩ :: rs : List RV).map RV.d) := by
      intro a o ey e q
      subst ey
      refine ⟨a :: S, fun b hb => ?_, fun S' hS => ?_⟩
      · rcases List.mem_cons.mp hb with rfl | hb
        · exact ⟨o, e, q.openD⟩
        · exact h1 b hb
      · refine .cons (q.dr (Same.opn s S') ?_) (h2 S' fun b hb => hS b (List.mem_cons_of_mem _ hb))
        unfold opn
        rw [if_pos (hS a (List.mem_cons_self ..))]
        exact e
    cases k with
    | sh => exact ⟨S, h1, fun S' hS => .cons (DR.up r (Same.opn s S')) (h2 S' hS)⟩
    | fr =>
      obtain ⟨a, o, ey, e, q, _⟩ := r
      exact own ey e q
    | pk =>
      obtain ⟨a, o, ey, e, q⟩ := r
      exact own ey e q
theorem ev_look {fs : Sta → PR (List RV)} (c : Callee X.prog X.w X.K X.mg X.base T x false k n sem) (hr : Room k X.A) (hg : Gl X x) (tk : Takes X W) (ha : PAr X T W (e :: es) fs)
    (hdb : (x == ("__debug__" : Str)) = false := by decide) (he : starEach (e :: es) X.env = (false, eval e X.env) :: starEach es X.env := by rfl) (hpl : (backTo pos (starEach es X.env)).any (·.1) = false := by rfl) :
    PEv X T W (.Call (.Name x p) (e :: es) [] pos) (pLook n sem fs) := by
  refine PE.wk (pe_callC c hr hg (fun σ => passAt tk σ) ha hdb he hpl) ?_
  rintro σ H Q ⟨s, m, M, G, R, q⟩
  refine ⟨s, m, M, G, R, ?_⟩
  revert q
  unfold pLook PR.bind
  cases fs s with
  | ok rs =>
    intro q ys H1 M1 g1 r1
    dsimp only at q
    by_cases hl : rs.length = n
    · rw [if_pos hl] at q
      obtain ⟨S, hS, rd0⟩ := args_cold g1.mh r1
      have rd := rd0 S fun _ h => h
      refine ⟨rs.map RV.d, [], m, opn S H1 M1, H1, by rw [rd.length]; simpa using hl, rd, rel_pure (opn_sub g1.mh), (fun h => nomatch h), ?_⟩
      have grow : ∀ {m' : List Addr} {M' H' : Hp}, Ext false H1 m (opn S H1 M1) m' M' → Same H1 H' → Same M' H' → m' = m ∧ Grow H1 M1 H' (shut S M1 M') := fun e' gh mh => ⟨e'.nl rfl, shut_grow g1.mh e'.mm gh mh e'.new⟩
      cases hs : sem (rs.map RV.d) [] with
      | ok r st' =>
        rw [hs] at q
        intro y H' m' M' e' a' R'
        obtain ⟨em, g2⟩ := grow e' R'.gh R'.mh
        subst em
        have hS' := shut_open hS e'.mm
        obtain ⟨mh, gh, ⟨f1, f2, h1, h2, nd, dj⟩⟩ := R'
        obtain ⟨f3, f4, ef, h3, h4⟩ := h1
        cases r with
        | un => exact q.elim
        | hid _ => exact q.elim
        | tpo _ _ => exact q.elim
        | v d =>
          obtain ⟨_, y', ey, hd⟩ := h3
          cases ey
          dsimp only at q
          by_cases hn : coldD d = true
          · rw [if_pos hn] at q
            exact q y H' _ (g1.trans g2) (DR.cold hS' d _ hd hn)
          · rw [if_neg hn] at q
            exact q.elim
        | own d =>
          obtain ⟨b, ob, ef3, ey, hb', hd⟩ := h3
          cases ey
          have dja := dj b (by simp [ef, ef3])
          cases hd with
          | lst hd =>
            rename_i xs ds
            dsimp only at q
            by_cases hn : coldDs ds = true
            · rw [if_pos hn] at q
              refine q (.ref b) H' _ (g1.trans g2) ⟨b, _, rfl, hb', .lst (DRs.cold hS' _ _ hd hn), ?_, g1.same.free dja.2⟩
              unfold shut
              by_cases hbS : b ∈ S
              · obtain ⟨o, e, _⟩ := hS b hbS
                rw [dja.2] at e
                cases e
              · rw [if_neg hbS]
                exact dja.1
            · rw [if_neg hn] at q
              exact q.elim
          | dic hd => exact q.elim
      | exc x st' =>
        rw [hs] at q
        intro cls d H' m' M' e' a' R' xr
        obtain ⟨em, g2⟩ := grow e' R'.gh R'.mh
        subst em
        have hS' := shut_open hS e'.mm
        dsimp only at q
        by_cases hn : coldDf x.fs = true
        · rw [if_pos hn] at q
          obtain ⟨C, h1, h2, h3⟩ := xr
          refine q cls d H' _ (g1.trans g2) ⟨C, h1, h2, ?_⟩
          rcases h3 with h3 | ⟨dd, fs, h4, h5, h6⟩
          · exact .inl h3
          · exact .inr ⟨dd, fs, h4, shut_keep hS' h5 rfl, DRf.cold hS' _ _ h6 hn⟩
        · rw [if_neg hn] at q
          exact q.elim
      | stuck => rw [hs] at q; exact q
    · rw [if_neg hl] at q
      exact q.elim
  | exc e => intro q; exact q
  | stuck => intro q; exact q
section
variable {a b c : Expr} {fa fb fc : Sta → PR RV}
end
theorem hu64 {k : Nat} {A : Around} (hr : Room k A) : A.units + 64 < cLine := hr.units
theorem hu65 {k : Nat} {A : Around} (hr : Room k A) : A.units + 65 < cLine := by have := hr.un; omega
end
end MP

namespace MP
open PySem PySem.Spec PyProof.Rows L2


variable {env : List Slot} {st : List Ob}
def xD : PR RV → PR D
  | .ok ⟨.sh, d⟩ => .ok d
  | .ok ⟨.fr, d⟩ => .ok d
  | .ok ⟨.pk, _⟩ => .stuck
  | .exc e => .exc e
  | .stuck => .stuck
def x1 (g : D → Option RV) : PR RV → PR RV
  | .ok x => .of (g x.d)
  | .exc e => .exc e
  | .stuck => .stuck
def x2 (g : D → D → Option RV) : PR RV → PR RV → PR RV
  | .ok x, .ok y => .of (g x.d y.d)
  | .ok _, .exc e => .exc e
  | .ok _, .stuck => .stuck
  | .exc e, _ => .exc e
  | .stuck, _ => .stuck
def xB : PR RV → PR Bool
  | .ok ⟨_, .bool b⟩ => .ok b
  | .ok _ => .stuck
  | .exc e => .exc e
  | .stuck => .stuck
def xNot : PR Bool → PR Bool
  | .ok b => .ok (!b)
  | .exc e => .exc e
  | .stuck => .stuck
def xAnd (g : Sta → PR Bool) (s : Sta) : PR Bool → PR Bool
  | .ok true => g s
  | .ok false => .ok false
  | .exc e => .exc e
  | .stuck => .stuck
def xOr (g : Sta → PR Bool) (s : Sta) : PR Bool → PR Bool
  | .ok true => .ok true
  | .ok false => g s
  | .exc e => .exc e
  | .stuck => .stuck
def xAndV (g : Sta → PR RV) (s : Sta) : PR Bool → PR RV
  | .ok true => g s
  | .ok false => .ok ⟨.sh, .bool false⟩
  | .exc e => .exc e
  | .stuck => .stuck
def x3b (g' : D → D → Option RV) (y : D) (fc : Sta → PR RV) (s : Sta) : PR Bool → PR RV
  | .ok true => x1 (g' y) (fc s)
  | .ok false => .ok ⟨.sh, .bool false⟩
  | .exc e => .exc e
  | .stuck => .stuck
def x3 (g g' : D → D → Option RV) (fc : Sta → PR RV) (s : Sta) : PR RV → PR RV → PR RV
  | .ok x, .ok y => x3b g' y.d fc s (xB (.of (g x.d y.d)))
  | .ok _, .exc e => .exc e
  | .ok _, .stuck => .stuck
  | .exc e, _ => .exc e
  | .stuck, _ => .stuck
def xCons {α : Type} : PR α → PR (List α) → PR (List α)
  | .ok x, .ok y => .ok (x :: y)
  | .ok _, .exc e => .exc e
  | .ok _, .stuck => .stuck
  | .exc e, _ => .exc e
  | .stuck, _ => .stuck
def xTp : PR (List D) → PR RV
  | .ok ds => if ds.length ≤ 1000 then .ok ⟨.sh, .tup ds⟩ else .stuck
  | .exc e => .exc e
  | .stuck => .stuck
def xLs : PR (List D) → PR RV
  | .ok ds => if ds.length ≤ 1000 then .ok ⟨.fr, .list ds⟩ else .stuck
  | .exc e => .exc e
  | .stuck => .stuck
def xSo : PR RV → PR (Option Int)
  | .ok ⟨_, .int i⟩ => .ok (some i)
  | .ok _ => .stuck
  | .exc e => .exc e
  | .stuck => .stuck
def xSl : PR RV → PR (Option Int) → PR (Option Int) → PR RV
  | .ok x, .ok l, .ok u => .of (gSl x.d l u)
  | .exc e, _, _ => .exc e
  | .stuck, _, _ => .stuck
  | .ok _, .exc e, _ => .exc e
  | .ok _, .stuck, _ => .stuck
  | .ok _, .ok _, .exc e => .exc e
  | .ok _, .ok _, .stuck => .stuck
def xG {α : Type} (g : List D → Option α) : PR (List RV) → PR α
  | .ok rs => .of (g (rs.map RV.d))
  | .exc e => .exc e
  | .stuck => .stuck
def xSq : PR D → PR (List D)
  | .ok d => .of (seqOf d)
  | .exc e => .exc e
  | .stuck => .stuck
def xSqR : PR RV → PR (List D)
  | .ok d => .of (seqOf d.d)
  | .exc e => .exc e
  | .stuck => .stuck
def xC2 : PR (List D) → PR RV
  | .ok r => .ok ⟨.fr, .list r⟩
  | .exc e => .exc e
  | .stuck => .stuck
def xC (t : Tg) (tt : Sta → PR Bool) (te : Sta → PR D) (s : Sta) : PR (List D) → PR RV
  | .ok ds => if ds.length ≤ 16777216 then xC2 (compL t tt te s ds) else .stuck
  | .exc e => .exc e
  | .stuck => .stuck
def xF : Fr → PR RV
  | .ok (.v d) _ => .ok ⟨.sh, d⟩
  | .ok (.own d) _ => .ok ⟨.fr, d⟩
  | .ok .un _ => .stuck
  | .ok (.hid _) _ => .stuck
  | .ok (.tpo _ _) _ => .stuck
  | .exc e _ => .exc e
  | .stuck => .stuck
def xU (n : Nat) (sem : Sem) : PR (List D) → PR RV
  | .ok ds => if ds.length = n then xF (sem ds []) else .stuck
  | .exc e => .exc e
  | .stuck => .stuck
def xSeF : Fr → PR RV
  | .ok (.v d) _ => if d.noObj = true then .ok ⟨.sh, d⟩ else .stuck
  | .ok (.own d) _ => if d.noObj = true then .ok ⟨.fr, d⟩ else .stuck
  | .ok (.tpo _ us) _ => if noObjs us = true then .ok ⟨.sh, .tup us⟩ else .stuck
  | .exc e _ => if noObjf e.fs = true then .exc e else .stuck
  | .ok .un _ => .stuck
  | .ok (.hid _) _ => .stuck
  | .stuck => .stuck
def xSe (n : Nat) (sem : Sem) : PR (List D) → PR RV
  | .ok ds => if ds.length = n ∧ noObjs ds = true then xSeF (sem ds []) else .stuck
  | .exc e => .exc e
  | .stuck => .stuck
def xLoF : Fr → PR RV
  | .ok (.v d) _ => if coldD d = true then .ok ⟨.sh, d⟩ else .stuck
  | .ok (.own (.list ds)) _ => if coldDs ds = true then .ok ⟨.fr, .list ds⟩ else .stuck
  | .exc e _ => if coldDf e.fs = true then .exc e else .stuck
  | _ => .stuck
def xLo (n : Nat) (sem : Sem) : PR (List RV) → PR RV
  | .ok rs => if rs.length = n then xLoF (sem (rs.map RV.d) []) else .stuck
  | .exc e => .exc e
  | .stuck => .stuck
theorem of_some {α : Type} (a : α) : PR.of (some a) = .ok a := Eq.trans rfl rfl
theorem map_some {α β : Type} (a : α) (f : α → β) : (some a).map f = some (f a) := Eq.trans rfl rfl
theorem e_lv (d : D) : Slot.look (.v d) = some ⟨.sh, d⟩ := Eq.trans rfl rfl
theorem e_lo (d : D) : Slot.look (.own d) = some ⟨.pk, d⟩ := Eq.trans rfl rfl
theorem e_pD (f : Sta → PR RV) : pD f ⟨env, st⟩ = xD (f ⟨env, st⟩) := by
  unfold pD PR.bind xD RV.shr
  cases f ⟨env, st⟩ with
  | ok r => obtain ⟨k, d⟩ := r; cases k <;> rfl
  | exc e => rfl
  | stuck => rfl
theorem e_xDs (d : D) : xD (.ok ⟨.sh, d⟩) = .ok d := Eq.trans rfl rfl
theorem e_xDf (d : D) : xD (.ok ⟨.fr, d⟩) = .ok d := Eq.trans rfl rfl
theorem e_pC (d : D) : pC d ⟨env, st⟩ = .ok ⟨.sh, d⟩ := Eq.trans rfl rfl
theorem e_pYes : pYes ⟨env, st⟩ = .ok true := Eq.trans rfl rfl
theorem e_pVar (i : Nat) : pVar i ⟨env, st⟩ = PR.of (env[i]?.bind Slot.look) := Eq.trans rfl rfl
theorem e_p2 (g : D → D → Option RV) (fa fb : Sta → PR RV) : p2 g fa fb ⟨env, st⟩ = x2 g (fa ⟨env, st⟩) (fb ⟨env, st⟩) := by
  unfold p2 PR.bind x2
  cases fa ⟨env, st⟩ <;> cases fb ⟨env, st⟩ <;> rfl
theorem e_x2 (g : D → D → Option RV) (k k' : RK) (x y : D) : x2 g (.ok ⟨k, x⟩) (.ok ⟨k', y⟩) = PR.of (g x y) := Eq.trans rfl rfl
theorem e_p1 (g : D → Option RV) (fa : Sta → PR RV) : p1 g fa ⟨env, st⟩ = x1 g (fa ⟨env, st⟩) := by
  unfold p1 PR.bind x1
  cases fa ⟨env, st⟩ <;> rfl
theorem e_x1 (g : D → Option RV) (k : RK) (x : D) : x1 g (.ok ⟨k, x⟩) = PR.of (g x) := Eq.trans rfl rfl
theorem e_pB (f : Sta → PR RV) : pB f ⟨env, st⟩ = xB (f ⟨env, st⟩) := by
  unfold pB PR.bind xB RV.bool
  cases f ⟨env, st⟩ with
  | ok r => obtain ⟨k, d⟩ := r; cases d <;> rfl
  | exc e => rfl
  | stuck => rfl
theorem e_xB (k : RK) (b : Bool) : xB (.ok ⟨k, .bool b⟩) = .ok b := Eq.trans rfl rfl
theorem e_pNot (f : Sta → PR Bool) : pNot f ⟨env, st⟩ = xNot (f ⟨env, st⟩) := by
  unfold pNot PR.bind xNot
  cases f ⟨env, st⟩ <;> rfl
theorem e_xNot (b : Bool) : xNot (.ok b) = .ok (!b) := Eq.trans rfl rfl
theorem e_pAnd (f g : Sta → PR Bool) : pAnd f g ⟨env, st⟩ = xAnd g ⟨env, st⟩ (f ⟨env, st⟩) := by
  unfold pAnd PR.bind xAnd
  rcases f ⟨env, st⟩ with (_ | _) | e | _ <;> rfl
theorem e_xAndT (g : Sta → PR Bool) (s : Sta) : xAnd g s (.ok true) = g s := Eq.trans rfl rfl
theorem e_xAndF (g : Sta → PR Bool) (s : Sta) : xAnd g s (.ok false) = .ok false := Eq.trans rfl rfl
theorem e_pOr (f g : Sta → PR Bool) : pOr f g ⟨env, st⟩ = xOr g ⟨env, st⟩ (f ⟨env, st⟩) := by
  unfold pOr PR.bind xOr
  rcases f ⟨env, st⟩ with (_ | _) | e | _ <;> rfl
theorem e_xOrT (g : Sta → PR Bool) (s : Sta) : xOr g s (.ok true) = .ok true := Eq.trans rfl rfl
theorem e_xOrF (g : Sta → PR Bool) (s : Sta) : xOr g s (.ok false) = g s := Eq.trans rfl rfl
theorem e_pAndV (f g : Sta → PR RV) : pAndV f g ⟨env, st⟩ = xAndV g ⟨env, st⟩ (xB (f ⟨env, st⟩)) := by
  rw [← e_pB]
  unfold pAndV PR.bind xAndV
  rcases pB f ⟨env, st⟩ with (_ | _) | e | _ <;> rfl
theorem e_xAndVT (g : Sta → PR RV) (s : Sta) : xAndV g s (.ok true) = g s := Eq.trans rfl rfl
theorem e_xAndVF (g : Sta → PR RV) (s : Sta) : xAndV g s (.ok false) = .ok ⟨.sh, .bool false⟩ := Eq.trans rfl rfl
theorem e_p3 (g g' : D → D → Option RV) (fa fb fc : Sta → PR RV) : p3 g g' fa fb fc ⟨env, st⟩ = x3 g g' fc ⟨env, st⟩ (fa ⟨env, st⟩) (fb ⟨env, st⟩) := by
  unfold p3 PR.bind x3
  cases fa ⟨env, st⟩ with
  | ok x =>
    cases fb ⟨env, st⟩ with
    | ok y =>
      simp only []
      cases PR.of (g x.d y.d) with
      | ok r =>
        obtain ⟨k, d⟩ := r
        cases d <;> try rfl
        rename_i b
        cases b with
        | true => show _ = x1 (g' y.d) (fc ⟨env, st⟩); unfold x1; cases fc ⟨env, st⟩ <;> rfl
        | false => rfl
      | exc e => rfl
      | stuck => rfl
    | exc e => rfl
    | stuck => rfl
  | exc e => rfl
  | stuck => rfl
theorem e_x3 (g g' : D → D → Option RV) (fc : Sta → PR RV) (s : Sta) (k k' : RK) (x y : D) : x3 g g' fc s (.ok ⟨k, x⟩) (.ok ⟨k', y⟩) = x3b g' y fc s (xB (.of (g x y))) := Eq.trans rfl rfl
theorem e_x3bT (g' : D → D → Option RV) (y : D) (fc : Sta → PR RV) (s : Sta) : x3b g' y fc s (.ok true) = x1 (g' y) (fc s) := Eq.trans rfl rfl
theorem e_x3bF (g' : D → D → Option RV) (y : D) (fc : Sta → PR RV) (s : Sta) : x3b g' y fc s (.ok false) = .ok ⟨.sh, .bool false⟩ := Eq.trans rfl rfl
theorem e_pNil {α : Type} : (pNil : Sta → PR (List α)) ⟨env, st⟩ = .ok [] := Eq.trans rfl rfl
theorem e_pCons {α : Type} (f : Sta → PR α) (fs : Sta → PR (List α)) : pCons f fs ⟨env, st⟩ = xCons (f ⟨env, st⟩) (fs ⟨env, st⟩) := by
  unfold pCons PR.bind xCons
  cases f ⟨env, st⟩ <;> cases fs ⟨env, st⟩ <;> rfl
theorem e_xCons {α : Type} (x : α) (xs : List α) : xCons (.ok x) (.ok xs) = .ok (x :: xs) := Eq.trans rfl rfl
theorem e_pTup (fs : Sta → PR (List D)) : pTup fs ⟨env, st⟩ = xTp (fs ⟨env, st⟩) := by
  unfold pTup PR.bind xTp
  cases fs ⟨env, st⟩ <;> rfl
theorem e_xTp {ds : List D} (h : ds.length ≤ 1000) : xTp (.ok ds) = .ok ⟨.sh, .tup ds⟩ := if_pos h
theorem e_pLst (fs : Sta → PR (List D)) : pLst fs ⟨env, st⟩ = xLs (fs ⟨env, st⟩) := by
  unfold pLst PR.bind xLs
  cases fs ⟨env, st⟩ <;> rfl
theorem e_xLs {ds : List D} (h : ds.length ≤ 1000) : xLs (.ok ds) = .ok ⟨.fr, .list ds⟩ := if_pos h
theorem e_pNo : pNo ⟨env, st⟩ = .ok none := Eq.trans rfl rfl
theorem e_pSome (f : Sta → PR RV) : pSome f ⟨env, st⟩ = xSo (f ⟨env, st⟩) := by
  unfold pSome PR.bind xSo RV.int
  cases f ⟨env, st⟩ with
  | ok r => obtain ⟨k, d⟩ := r; cases d <;> rfl
  | exc e => rfl
  | stuck => rfl
theorem e_xSo (k : RK) (i : Int) : xSo (.ok ⟨k, .int i⟩) = .ok (some i) := Eq.trans rfl rfl
theorem e_pSl (fa : Sta → PR RV) (lo hi : Sta → PR (Option Int)) : pSl fa lo hi ⟨env, st⟩ = xSl (fa ⟨env, st⟩) (lo ⟨env, st⟩) (hi ⟨env, st⟩) := by
  unfold pSl PR.bind xSl
  cases fa ⟨env, st⟩ <;> cases lo ⟨env, st⟩ <;> cases hi ⟨env, st⟩ <;> rfl
theorem e_xSl (k : RK) (x : D) (l u : Option Int) : xSl (.ok ⟨k, x⟩) (.ok l) (.ok u) = PR.of (gSl x l u) := Eq.trans rfl rfl
theorem e_pCall (g : List D → Option RV) (fs : Sta → PR (List RV)) : pCall g fs ⟨env, st⟩ = xG g (fs ⟨env, st⟩) := by
  unfold pCall PR.bind xG
  cases fs ⟨env, st⟩ <;> rfl
theorem e_xG {α : Type} (g : List D → Option α) (rs : List RV) : xG g (.ok rs) = PR.of (g (rs.map RV.d)) := Eq.trans rfl rfl
theorem e_pSeq (f : Sta → PR D) : pSeq f ⟨env, st⟩ = xSq (f ⟨env, st⟩) := by
  unfold pSeq PR.bind xSq
  cases f ⟨env, st⟩ <;> rfl
theorem e_xSq (d : D) : xSq (.ok d) = PR.of (seqOf d) := Eq.trans rfl rfl
theorem e_pSeqR (f : Sta → PR RV) : pSeqR f ⟨env, st⟩ = xSqR (f ⟨env, st⟩) := by
  unfold pSeqR PR.bind xSqR
  cases f ⟨env, st⟩ <;> rfl
theorem e_xSqR (k : RK) (d : D) : xSqR (.ok ⟨k, d⟩) = PR.of (seqOf d) := Eq.trans rfl rfl
theorem e_pRng (g : List D → Option (List D)) (fs : Sta → PR (List RV)) : pRng g fs ⟨env, st⟩ = xG g (fs ⟨env, st⟩) := by
  unfold pRng PR.bind xG
  cases fs ⟨env, st⟩ <;> rfl
theorem e_pComp (f : Sta → PR (List D)) (t : Tg) (vs : List Nat) (tt : Sta → PR Bool) (te : Sta → PR D) : pComp f t vs tt te ⟨env, st⟩ = xC t tt te ⟨wipeE env vs, st⟩ (f ⟨env, st⟩) := by
  unfold pComp PR.bind xC xC2
  cases f ⟨env, st⟩ with
  | ok ds =>
    simp only []
    split
    · cases compL t tt te ⟨wipeE env vs, st⟩ ds <;> rfl
    · rfl
  | exc e => rfl
  | stuck => rfl
theorem e_xC {t : Tg} {tt : Sta → PR Bool} {te : Sta → PR D} {s : Sta} {ds : List D} (h : ds.length ≤ 16777216) : xC t tt te s (.ok ds) = xC2 (compL t tt te s ds) := if_pos h
theorem e_xC2 (r : List D) : xC2 (.ok r) = .ok ⟨.fr, .list r⟩ := Eq.trans rfl rfl
theorem e_pUser (n : Nat) (sem : Sem) (fs : Sta → PR (List D)) : pUser n sem fs ⟨env, st⟩ = xU n sem (fs ⟨env, st⟩) := by
  unfold pUser PR.bind xU xF
  cases fs ⟨env, st⟩ with
  | ok ds =>
    simp only []
    split
    · cases sem ds [] with
      | ok r st' => cases r <;> rfl
      | exc e st' => rfl
      | stuck => rfl
    · rfl
  | exc e => rfl
  | stuck => rfl
theorem e_xU {n : Nat} {sem : Sem} {ds : List D} (h : ds.length = n) : xU n sem (.ok ds) = xF (sem ds []) := if_pos h
theorem e_xFv (d : D) (st : List Ob) : xF (.ok (.v d) st) = .ok ⟨.sh, d⟩ := Eq.trans rfl rfl
theorem e_xFo (d : D) (st : List Ob) : xF (.ok (.own d) st) = .ok ⟨.fr, d⟩ := Eq.trans rfl rfl
theorem e_xFe (e : Ex) (st : List Ob) : xF (.exc e st) = .exc e := Eq.trans rfl rfl
theorem e_pSeal (n : Nat) (sem : Sem) (fs : Sta → PR (List D)) : pSeal n sem fs ⟨env, st⟩ = xSe n sem (fs ⟨env, st⟩) := by
  unfold pSeal PR.bind xSe xSeF
  cases fs ⟨env, st⟩ <;> rfl
theorem e_xSe {n : Nat} {sem : Sem} {ds : List D} (h : ds.length = n) (h2 : noObjs ds = true) : xSe n sem (.ok ds) = xSeF (sem ds []) := if_pos ⟨h, h2⟩
theorem e_xSeFv {d : D} {st : List Ob} (h : d.noObj = true) : xSeF (.ok (.v d) st) = .ok ⟨.sh, d⟩ := if_pos h
theorem e_xSeFt {k : Nat} {us : List D} {st : List Ob} (h : noObjs us = true) : xSeF (.ok (.tpo k us) st) = .ok ⟨.sh, .tup us⟩ := if_pos h
theorem e_xSeFe {e : Ex} {st : List Ob} (h : noObjf e.fs = true) : xSeF (.exc e st) = .exc e := if_pos h
theorem e_xSeFo {d : D} {st : List Ob} (h : d.noObj = true) : xSeF (.ok (.own d) st) = .ok ⟨.fr, d⟩ := if_pos h
theorem e_pLook (n : Nat) (sem : Sem) (fs : Sta → PR (List RV)) : pLook n sem fs ⟨env, st⟩ = xLo n sem (fs ⟨env, st⟩) := by
  unfold pLook PR.bind xLo xLoF
  cases fs ⟨env, st⟩ <;> rfl
theorem e_xLo {n : Nat} {sem : Sem} {rs : List RV} (h : rs.length = n) : xLo n sem (.ok rs) = xLoF (sem (rs.map RV.d) []) := if_pos h
theorem e_xLoF {d : D} {st : List Ob} (h : coldD d = true) : xLoF (.ok (.v d) st) = .ok ⟨.sh, d⟩ := if_pos h
theorem e_xLoO {ds : List D} {st : List Ob} (h : coldDs ds = true) : xLoF (.ok (.own (.list ds)) st) = .ok ⟨.fr, .list ds⟩ := if_pos h
theorem e_xLoE {e : Ex} {st : List Ob} (h : coldDf e.fs = true) : xLoF (.exc e st) = .exc e := if_pos h
theorem cold_map {α : Type} {f : α → D} (h : ∀ a, coldD (f a) = true) : ∀ l : List α, coldDs (l.map f) = true
  | [] => by rw [List.map_nil, coldDs]
  | a :: l => by rw [List.map_cons, coldDs, h a, cold_map h l]; rfl
theorem e_c0 : ((0 : Nat) : Int) = 0 := Eq.trans rfl rfl
theorem e_c1 : ((1 : Nat) : Int) = 1 := Eq.trans rfl rfl

theorem g_add (i j : Int) : gPlus (.int i) (.int j) = some ⟨.sh, .int (i + j)⟩ := Eq.trans rfl rfl
theorem g_catS {x y : Str} (h : x.length + y.length ≤ 16777216) : gPlus (.str x) (.str y) = some ⟨.sh, .str (x ++ y)⟩ := by
  show (gAdd _ _).or ((gCatS _ _).or _) = _
  unfold gCatS
  simp only [if_pos h]
  rfl
theorem g_catL {x y : List D} (h : x.length + y.length ≤ 16777216) : gPlus (.list x) (.list y) = some ⟨.fr, .list (x ++ y)⟩ := by
  show (gAdd _ _).or ((gCatS _ _).or ((gCatL _ _).or _)) = _
  unfold gCatL
  simp only [if_pos h]
  rfl
theorem g_catT {x y : List D} (h : x.length + y.length ≤ 16777216) : gPlus (.tup x) (.tup y) = some ⟨.sh, .tup (x ++ y)⟩ := by
  show (gAdd _ _).or ((gCatS _ _).or ((gCatL _ _).or (gCatT _ _))) = _
  unfold gCatT
  simp only [if_pos h]
  rfl
theorem g_sub (i j : Int) : gSub (.int i) (.int j) = some ⟨.sh, .int (i - j)⟩ := Eq.trans rfl rfl
theorem g_mul {i j : Int} (h : (-(18446744073709551616) < i ∧ i < 18446744073709551616) ∨ (-(18446744073709551616) < j ∧ j < 18446744073709551616)) : gTimes (.int i) (.int j) = some ⟨.sh, .int (i * j)⟩ := by
  have : (small64b i || small64b j) = true := by
    unfold small64b
    rw [Bool.or_eq_true, decide_eq_true_eq, decide_eq_true_eq]
    omega
  show (if (small64b i || small64b j) = true then _ else _ : Option RV).or _ = _
  rw [if_pos this]
  rfl
theorem g_rep {x : D} {n : Int} (h : n ≤ 16000000 ∧ -16000000 < n) : gTimes (.list [x]) (.int n) = some ⟨.fr, .list (List.replicate n.toNat x)⟩ := by
  have : n < 16777216 ∧ [x].length * n.toNat ≤ 16777216 ∧ -16777216 < n := by simp only [List.length_singleton]; omega
  show (gMul _ _).or (if _ then _ else _) = _
  rw [if_pos this]
  show some _ = _
  rw [List.flatten_replicate_singleton]
theorem g_div {i j : Int} (h : 0 < j ∧ j < 1606938044258990275541962092341162602522202993782792835301376) : gDiv (.int i) (.int j) = some ⟨.sh, .int (i / j)⟩ := by
  show (if decide _ = true then _ else _ : Option RV) = _
  rw [if_pos (decide_eq_true ⟨h.1, Int.lt_of_lt_of_le h.2 (by decide +kernel)⟩)]
theorem g_mod {i j : Int} (h : 0 < j) : gMod (.int i) (.int j) = some ⟨.sh, .int (i % j)⟩ := by
  show (if decide _ = true then _ else _ : Option RV) = _
  rw [if_pos (decide_eq_true h)]
theorem g_pow {i j : Int} (h : 0 ≤ j ∧ j ≤ 1000000 ∧ -(18446744073709551616) < i ∧ i < 18446744073709551616) : gPow (.int i) (.int j) = some ⟨.sh, .int (i ^ j.toNat)⟩ := by
  show (if decide _ = true then _ else _ : Option RV) = _
  rw [if_pos (decide_eq_true ⟨h.1, h.2.1, by omega⟩)]
theorem g_neg (i : Int) : gNeg (.int i) = some ⟨.sh, .int (-i)⟩ := Eq.trans rfl rfl
theorem g_lt (i j : Int) : gLt (.int i) (.int j) = some ⟨.sh, .bool (decide (i < j))⟩ := Eq.trans rfl rfl
theorem g_le (i j : Int) : gLe (.int i) (.int j) = some ⟨.sh, .bool (decide (i ≤ j))⟩ := Eq.trans rfl rfl
theorem g_gt (i j : Int) : gGt (.int i) (.int j) = some ⟨.sh, .bool (decide (j < i))⟩ := Eq.trans rfl rfl
theorem g_ge (i j : Int) : gGe (.int i) (.int j) = some ⟨.sh, .bool (decide (j ≤ i))⟩ := Eq.trans rfl rfl
theorem g_eqI (i j : Int) : gEq (.int i) (.int j) = some ⟨.sh, .bool (decide (i = j))⟩ := Eq.trans rfl rfl
theorem g_eqS (i j : Str) : gEq (.str i) (.str j) = some ⟨.sh, .bool (i == j)⟩ := Eq.trans rfl rfl
theorem g_eqBo (i j : Bool) : gEq (.bool i) (.bool j) = some ⟨.sh, .bool (i == j)⟩ := Eq.trans rfl rfl
theorem g_neI (i j : Int) : gNe (.int i) (.int j) = some ⟨.sh, .bool (!decide (i = j))⟩ := Eq.trans rfl rfl
theorem g_neS (i j : Str) : gNe (.str i) (.str j) = some ⟨.sh, .bool (!(i == j))⟩ := Eq.trans rfl rfl
theorem g_neBo (i j : Bool) : gNe (.bool i) (.bool j) = some ⟨.sh, .bool (!(i == j))⟩ := Eq.trans rfl rfl
theorem g_is (d : D) : gIs d .none = some ⟨.sh, .bool d.isNone⟩ := Eq.trans rfl rfl
theorem g_isNot (d : D) : gIsNot d .none = some ⟨.sh, .bool (!d.isNone)⟩ := Eq.trans rfl rfl
theorem n_none : D.isNone .none = true := Eq.trans rfl rfl
theorem n_int (i : Int) : D.isNone (.int i) = false := Eq.trans rfl rfl
theorem n_str (i : Str) : D.isNone (.str i) = false := Eq.trans rfl rfl
theorem n_tup (i : List D) : D.isNone (.tup i) = false := Eq.trans rfl rfl
theorem n_list (i : List D) : D.isNone (.list i) = false := Eq.trans rfl rfl
theorem n_bool (i : Bool) : D.isNone (.bool i) = false := Eq.trans rfl rfl
theorem g_max (i j : Int) : gMax [.int i, .int j] = some ⟨.sh, .int (if j > i then j else i)⟩ := Eq.trans rfl rfl
theorem g_lenL (x : List D) : gLen [.list x] = some ⟨.sh, .int x.length⟩ := Eq.trans rfl rfl
theorem g_lenK (x : List D) : gLen [.lk x] = some ⟨.sh, .int x.length⟩ := Eq.trans rfl rfl
theorem g_lenT (x : List D) : gLen [.tup x] = some ⟨.sh, .int x.length⟩ := Eq.trans rfl rfl
theorem g_listL (x : List D) : gList [.list x] = some ⟨.fr, .list x⟩ := Eq.trans rfl rfl
theorem g_listK (x : List D) : gList [.lk x] = some ⟨.fr, .list x⟩ := Eq.trans rfl rfl
theorem g_listT (x : List D) : gList [.tup x] = some ⟨.fr, .list x⟩ := Eq.trans rfl rfl
theorem g_tupL (x : List D) : gTuple [.list x] = some ⟨.sh, .tup x⟩ := Eq.trans rfl rfl
theorem g_tupT (x : List D) : gTuple [.tup x] = some ⟨.sh, .tup x⟩ := Eq.trans rfl rfl
theorem q_list (x : List D) : seqOf (.list x) = some x := Eq.trans rfl rfl
theorem q_lk (x : List D) : seqOf (.lk x) = some x := Eq.trans rfl rfl
theorem q_tup (x : List D) : seqOf (.tup x) = some x := Eq.trans rfl rfl
theorem g_rng1 {j : Int} (h : -4611686018427387904 ≤ j ∧ j < 4611686018427387904) : gRng1 [.int j] = some (rng 0 j) := by
  show (if big62 j = true then _ else _ : Option (List D)) = _
  rw [if_pos (by unfold big62; exact decide_eq_true h)]
theorem g_ixL (x : List D) (i : Int) : gIx (.list x) (.int i) = (atI x i).map (RV.mk .sh) := Eq.trans rfl rfl
theorem g_ixK (x : List D) (i : Int) : gIx (.lk x) (.int i) = (atI x i).map (RV.mk .sh) := Eq.trans rfl rfl
theorem g_ixT (x : List D) (i : Int) : gIx (.tup x) (.int i) = (atI x i).map (RV.mk .sh) := Eq.trans rfl rfl
theorem atN {α : Type} (x : List α) (i : Nat) : atI x (i : Int) = x[i]? := by
  unfold atI ixN
  rw [if_pos (by omega)]
  by_cases h : (i : Int) < x.length
  · rw [if_pos h, Option.bind_some, Int.toNat_natCast]
  · rw [if_neg h, Option.bind_none, List.getElem?_eq_none (by omega)]
theorem at0 {α : Type} (x : List α) : atI x 0 = x[0]? := atN x 0
theorem at1 {α : Type} (x : List α) : atI x 1 = x[1]? := atN x 1
theorem at2 {α : Type} (x : List α) : atI x 2 = x[2]? := atN x 2
theorem atLit {α : Type} (x : List α) (n : Nat) : atI x (no_index (OfNat.ofNat (n + 2))) = x[n + 2]? := atN x (n + 2)
theorem g_slL (x : List D) (l h : Option Int) : gSl (.list x) l h = some ⟨.fr, .list (cutD x l h)⟩ := Eq.trans rfl rfl
theorem g_slK (x : List D) (l h : Option Int) : gSl (.lk x) l h = some ⟨.fr, .list (cutD x l h)⟩ := Eq.trans rfl rfl
theorem g_slT (x : List D) (l h : Option Int) : gSl (.tup x) l h = some ⟨.sh, .tup (cutD x l h)⟩ := Eq.trans rfl rfl
theorem cut_eq {α : Type} (x : List α) {l h : Int} (hl : 0 ≤ l) (hh : 0 ≤ h) : cutD x (some l) (some h) = (x.drop l.toNat).take (h.toNat - l.toNat) := by
  unfold cutD HT.sIx
  simp only []
  rw [if_neg (by omega), if_neg (by omega)]
  by_cases h1 : l.toNat ≤ x.length
  · rw [Nat.min_eq_left h1]
    by_cases h2 : h.toNat ≤ x.length
    · rw [Nat.min_eq_left h2]
    · rw [Nat.min_eq_right (by omega), List.take_of_length_le (by simp), List.take_of_length_le (by simp; omega)]
  · have e : min l.toNat x.length = x.length := Nat.min_eq_right (by omega)
    rw [e, List.drop_eq_nil_of_le (Nat.le_refl _), List.drop_eq_nil_of_le (by omega)]
    simp
theorem cut_lo {α : Type} (x : List α) {l : Int} (hl : 0 ≤ l) : cutD x (some l) none = x.drop l.toNat := by
  unfold cutD HT.sIx
  simp only []
  rw [if_neg (by omega)]
  by_cases h1 : l.toNat ≤ x.length
  · rw [Nat.min_eq_left h1, List.take_of_length_le (by simp)]
  · rw [Nat.min_eq_right (by omega), List.drop_eq_nil_of_le (Nat.le_refl _), List.drop_eq_nil_of_le (by omega)]
    simp
theorem cut_hi {α : Type} (x : List α) {h : Int} (hh : 0 ≤ h) : cutD x none (some h) = x.take h.toNat := by
  unfold cutD HT.sIx
  simp only []
  rw [if_neg (by omega), List.drop_zero, Nat.sub_zero]
  by_cases h1 : h.toNat ≤ x.length
  · rw [Nat.min_eq_left h1]
  · rw [Nat.min_eq_right (by omega), List.take_of_length_le (Nat.le_refl _), List.take_of_length_le (by omega)]
theorem rng_0 (n : Nat) : rng 0 (n : Int) = (List.range n).map fun k => D.int (k : Nat) := by
  unfold rng
  rw [Int.sub_zero, Int.toNat_natCast]
  congr 1
  funext k
  rw [Int.zero_add]

theorem rngAt {n : Int} {i : Nat} {d : D} (h : (rng 0 n)[i]? = some d) : d = .int (i : Int) ∧ (i : Int) < n := by
  unfold rng at h
  rw [List.getElem?_map] at h
  have hi : i < (n - 0).toNat := by
    by_cases c : i < (n - 0).toNat
    · exact c
    · rw [List.getElem?_eq_none (by simp; omega)] at h
      cases h
  rw [List.getElem?_range hi] at h
  refine ⟨?_, by omega⟩
  rw [← Option.some.inj h]
  show D.int (0 + (i : Int)) = _
  rw [Int.zero_add]
theorem rngLen (n : Int) : (rng 0 n).length = n.toNat := by unfold rng; simp
theorem rngLenN (n : Nat) : (rng 0 (n : Int)).length = n := by rw [rngLen]; simp

def xSeq (g2 : Sta → Fl) : Fl → Fl
  | .nx s' => g2 s'
  | .ret r s => .ret r s
  | .brk s => .brk s
  | .cont s => .cont s
  | .exc e s => .exc e s
  | .stuck => .stuck
def xSV (i : Nat) (env : List Slot) (st : List Ob) : PR D → Fl
  | .ok d => .nx ⟨env.set i (.v d), st⟩
  | .exc e => .exc e ⟨env, st⟩
  | .stuck => .stuck
def xSO (i : Nat) (env : List Slot) (st : List Ob) : PR RV → Fl
  | .ok ⟨.sh, d⟩ => .nx ⟨env.set i (.v d), st⟩
  | .ok ⟨.fr, d⟩ => .nx ⟨env.set i (.own d), st⟩
  | .ok ⟨.pk, _⟩ => .stuck
  | .exc e => .exc e ⟨env, st⟩
  | .stuck => .stuck
def xRt (s : Sta) : PR RV → Fl
  | .ok ⟨.sh, d⟩ => .ret (.v d) s
  | .ok ⟨.fr, d⟩ => .ret (.own d) s
  | .ok ⟨.pk, _⟩ => .stuck
  | .exc e => .exc e s
  | .stuck => .stuck
def xRS (s : Sta) : Option Slot → Fl
  | some (.own d) => .ret (.own d) s
  | some (.v d) => .ret (.v d) s
  | some .un => .stuck
  | some (.hid _) => .stuck
  | some (.tpo _ _) => .stuck
  | none => .stuck
def xIf (g1 g2 : Sta → Fl) (s : Sta) : PR Bool → Fl
  | .ok true => g1 s
  | .ok false => g2 s
  | .exc e => .exc e s
  | .stuck => .stuck
def xTb (st : List Ob) : Option (List Slot) → Fl
  | some env => .nx ⟨env, st⟩
  | none => .stuck
def xTu (t : Tg) (env : List Slot) (st : List Ob) : PR D → Fl
  | .ok d => xTb st (t.bind d env)
  | .exc e => .exc e ⟨env, st⟩
  | .stuck => .stuck
def xFor (t : Tg) (g : Sta → Fl) (s : Sta) : PR (List D) → Fl
  | .ok ds => loopL t g ds s
  | .exc e => .exc e s
  | .stuck => .stuck
def xAp (i : Nat) (env : List Slot) (st : List Ob) : Option Slot → PR D → Fl
  | some (.own (.list ds)), .ok d => if ds.length < 16777216 then .nx ⟨env.set i (.own (.list (ds ++ [d]))), st⟩ else .stuck
  | some (.own (.list _)), .exc e => .exc e ⟨env, st⟩
  | some (.own (.list _)), .stuck => .stuck
  | _, _ => .stuck
def xFz (i : Nat) (env : List Slot) (st : List Ob) : Option Slot → Sta
  | some (.own d) => ⟨env.set i (.v d), st⟩
  | some (.v _) => ⟨env, st⟩
  | some .un => ⟨env, st⟩
  | some (.hid _) => ⟨env, st⟩
  | some (.tpo _ _) => ⟨env, st⟩
  | none => ⟨env, st⟩
def xSF (i : Nat) : Fe → Fl
  | .ok r s => .nx ⟨s.env.set i r, s.st⟩
  | .exc e s => .exc e s
  | .stuck => .stuck
def xFU (n : Nat) (sem : Sem) (env : List Slot) (st : List Ob) : PR (List D) → Fe
  | .ok ds => if ds.length = n then (sem ds st).fe ⟨env, st⟩ else .stuck
  | .exc e => .exc e ⟨env, st⟩
  | .stuck => .stuck
theorem s_Nil : sNil ⟨env, st⟩ = .nx ⟨env, st⟩ := Eq.trans rfl rfl
theorem s_Cont : sCont ⟨env, st⟩ = .cont ⟨env, st⟩ := Eq.trans rfl rfl
theorem s_Seq (g1 g2 : Sta → Fl) : sSeq g1 g2 ⟨env, st⟩ = xSeq g2 (g1 ⟨env, st⟩) := by
  unfold sSeq xSeq
  cases g1 ⟨env, st⟩ <;> rfl
theorem s_xSn (g2 : Sta → Fl) (s : Sta) : xSeq g2 (.nx s) = g2 s := Eq.trans rfl rfl
theorem s_xSr (g2 : Sta → Fl) (r : Slot) (s : Sta) : xSeq g2 (.ret r s) = .ret r s := Eq.trans rfl rfl
theorem s_xSb (g2 : Sta → Fl) (s : Sta) : xSeq g2 (.brk s) = .brk s := Eq.trans rfl rfl
theorem s_xSc (g2 : Sta → Fl) (s : Sta) : xSeq g2 (.cont s) = .cont s := Eq.trans rfl rfl
theorem s_xSe (g2 : Sta → Fl) (e : Ex) (s : Sta) : xSeq g2 (.exc e s) = .exc e s := Eq.trans rfl rfl
theorem s_SetV (i : Nat) (f : Sta → PR D) : sSetV i f ⟨env, st⟩ = xSV i env st (f ⟨env, st⟩) := by
  unfold sSetV PR.fl xSV
  cases f ⟨env, st⟩ <;> rfl
theorem s_xSV (i : Nat) (d : D) : xSV i env st (.ok d) = .nx ⟨env.set i (.v d), st⟩ := Eq.trans rfl rfl
theorem s_SetO (i : Nat) (f : Sta → PR RV) : sSetO i f ⟨env, st⟩ = xSO i env st (f ⟨env, st⟩) := by
  unfold sSetO PR.fl xSO RV.slot
  cases f ⟨env, st⟩ with
  | ok r => obtain ⟨k, d⟩ := r; cases k <;> rfl
  | exc e => rfl
  | stuck => rfl
theorem s_xSOs (i : Nat) (d : D) : xSO i env st (.ok ⟨.sh, d⟩) = .nx ⟨env.set i (.v d), st⟩ := Eq.trans rfl rfl
theorem s_xSOf (i : Nat) (d : D) : xSO i env st (.ok ⟨.fr, d⟩) = .nx ⟨env.set i (.own d), st⟩ := Eq.trans rfl rfl
theorem s_Ret (f : Sta → PR RV) : sRet f ⟨env, st⟩ = xRt ⟨env, st⟩ (f ⟨env, st⟩) := by
  unfold sRet PR.fl xRt RV.slot
  cases f ⟨env, st⟩ with
  | ok r => obtain ⟨k, d⟩ := r; cases k <;> rfl
  | exc e => rfl
  | stuck => rfl
theorem s_xRts (s : Sta) (d : D) : xRt s (.ok ⟨.sh, d⟩) = .ret (.v d) s := Eq.trans rfl rfl
theorem s_xRtf (s : Sta) (d : D) : xRt s (.ok ⟨.fr, d⟩) = .ret (.own d) s := Eq.trans rfl rfl
theorem s_RetS (i : Nat) : sRetS i ⟨env, st⟩ = xRS ⟨env, st⟩ env[i]? := by
  unfold sRetS xRS
  cases env[i]? with
  | none => rfl
  | some s => cases s <;> rfl
theorem s_xRSo (s : Sta) (d : D) : xRS s (some (.own d)) = .ret (.own d) s := Eq.trans rfl rfl
theorem s_xRSv (s : Sta) (d : D) : xRS s (some (.v d)) = .ret (.v d) s := Eq.trans rfl rfl
theorem s_If (t : Sta → PR Bool) (g1 g2 : Sta → Fl) : sIf t g1 g2 ⟨env, st⟩ = xIf g1 g2 ⟨env, st⟩ (t ⟨env, st⟩) := by
  unfold sIf PR.fl xIf
  rcases t ⟨env, st⟩ with (_ | _) | e | _ <;> rfl
theorem s_xIfT (g1 g2 : Sta → Fl) (s : Sta) : xIf g1 g2 s (.ok true) = g1 s := Eq.trans rfl rfl
theorem s_xIfF (g1 g2 : Sta → Fl) (s : Sta) : xIf g1 g2 s (.ok false) = g2 s := Eq.trans rfl rfl
theorem s_Tup (t : Tg) (f : Sta → PR D) : sTup t f ⟨env, st⟩ = xTu t env st (f ⟨env, st⟩) := by
  unfold sTup PR.fl xTu xTb
  cases f ⟨env, st⟩ <;> rfl
theorem s_xTu (t : Tg) (d : D) : xTu t env st (.ok d) = xTb st (t.bind d env) := Eq.trans rfl rfl
theorem s_xTb : xTb st (some env) = .nx ⟨env, st⟩ := Eq.trans rfl rfl
theorem s_For (f : Sta → PR (List D)) (t : Tg) (g : Sta → Fl) : sFor f t g ⟨env, st⟩ = xFor t g ⟨env, st⟩ (f ⟨env, st⟩) := by
  unfold sFor PR.fl xFor
  cases f ⟨env, st⟩ <;> rfl
theorem s_xFor (t : Tg) (g : Sta → Fl) (s : Sta) (ds : List D) : xFor t g s (.ok ds) = loopL t g ds s := Eq.trans rfl rfl
theorem s_App (i : Nat) (f : Sta → PR D) : sApp i f ⟨env, st⟩ = xAp i env st env[i]? (f ⟨env, st⟩) := by
  unfold sApp PR.fl xAp
  rcases env[i]? with _ | (_ | d | d | d | ⟨k, d⟩) <;> try rfl
  cases d <;> try rfl
  cases f ⟨env, st⟩ <;> rfl
theorem s_xAp {i : Nat} {ds : List D} {d : D} (h : ds.length < 16777216) : xAp i env st (some (.own (.list ds))) (.ok d) = .nx ⟨env.set i (.own (.list (ds ++ [d]))), st⟩ := if_pos h
theorem s_Frz (i : Nat) (g : Sta → Fl) : sFrz i g ⟨env, st⟩ = g (xFz i env st env[i]?) := by
  unfold sFrz frz xFz
  simp only []
  rcases env[i]? with _ | (_ | d | d | d | ⟨k, d⟩) <;> rfl
theorem s_xFzo (i : Nat) (d : D) : xFz i env st (some (.own d)) = ⟨env.set i (.v d), st⟩ := Eq.trans rfl rfl
theorem s_xFzv (i : Nat) (d : D) : xFz i env st (some (.v d)) = ⟨env, st⟩ := Eq.trans rfl rfl
theorem s_SetF (i : Nat) (g : Sta → Fe) : sSetF i g ⟨env, st⟩ = xSF i (g ⟨env, st⟩) := by
  unfold sSetF Fe.fl xSF
  cases g ⟨env, st⟩ <;> rfl
theorem s_xSF (i : Nat) (r : Slot) : xSF i (.ok r ⟨env, st⟩) = .nx ⟨env.set i r, st⟩ := Eq.trans rfl rfl
theorem s_put0 (f : Nat) (s x : Slot) (r : List (Nat × Slot)) : putO f s ((f, x) :: r) = (f, s) :: r := by unfold putO; rw [if_pos rfl]
theorem s_put1 {f g : Nat} {s x : Slot} {r : List (Nat × Slot)} (h : g ≠ f) : putO f s ((g, x) :: r) = (g, x) :: putO f s r := by conv => lhs; unfold putO
                                                                                                                                  rw [if_neg h]
theorem s_putN (f : Nat) (s : Slot) : putO f s [] = [(f, s)] := Eq.trans rfl rfl
theorem f_User (n : Nat) (sem : Sem) (fs : Sta → PR (List D)) : fUser n sem fs ⟨env, st⟩ = xFU n sem env st (fs ⟨env, st⟩) := by
  unfold fUser xFU
  cases fs ⟨env, st⟩ <;> rfl
theorem f_xFU {n : Nat} {sem : Sem} {ds : List D} (h : ds.length = n) : xFU n sem env st (.ok ds) = (sem ds st).fe ⟨env, st⟩ := if_pos h
theorem fe_ok (r : Slot) (st' : List Ob) : (Fr.ok r st').fe ⟨env, st⟩ = .ok r ⟨env, st'⟩ := Eq.trans rfl rfl
def Fl.fr : Fl → Fr
  | .nx s => .ok (.v .none) s.st
  | .ret r s => .ok r s.st
  | .exc e s => .exc e s.st
  | _ => .stuck
theorem r_run {N : Nat} {g : Sta → Fl} {ds : List D} : runB N g ds st = (g ⟨ds.map Slot.v ++ List.replicate (N - ds.length) .un, st⟩).fr := by
  unfold runB Fl.fr
  cases g ⟨ds.map Slot.v ++ List.replicate (N - ds.length) .un, st⟩ <;> rfl
theorem r_un (n : Nat) : List.replicate (n + 1) Slot.un = .un :: List.replicate n .un := Eq.trans rfl rfl
theorem r_un0 : List.replicate 0 Slot.un = [] := Eq.trans rfl rfl
theorem r_nx : (Fl.nx ⟨env, st⟩).fr = .ok (.v .none) st := Eq.trans rfl rfl
theorem r_ret (r : Slot) : (Fl.ret r ⟨env, st⟩).fr = .ok r st := Eq.trans rfl rfl
theorem r_exc (e : Ex) : (Fl.exc e ⟨env, st⟩).fr = .exc e st := Eq.trans rfl rfl
/-- one statement after the other -/
theorem sq {P : Fl → Prop} {g1 g2 : Sta → Fl} {s s' : Sta} (h : g1 s = .nx s') (k : P (g2 s')) : P (sSeq g1 g2 s) := by
  unfold sSeq; rw [h]; exact k
/-- a def by its body -/
theorem run_ex {N : Nat} {g : Sta → Fl} {ds : List D} {Q : Fr → Prop} (env : List Slot) (he : ds.map Slot.v ++ List.replicate (N - ds.length) .un = env) (h : Q (g ⟨env, st⟩).fr) : Q (runB N g ds st) := by
  subst he; exact h
theorem sqR {r : Fr} {g1 g2 : Sta → Fl} {s s' : Sta} (h : g1 s = .nx s') (k : (g2 s').fr = r) : (sSeq g1 g2 s).fr = r := by
  unfold sSeq; rw [h]; exact k
theorem sqX {r : Fl} {g1 g2 : Sta → Fl} {s s' : Sta} (h : g1 s = .nx s') (k : g2 s' = r) : sSeq g1 g2 s = r := by
  unfold sSeq; rw [h]; exact k
/-- what a turn of a loop must bring -/
def Turn (I : Sta → Prop) (P : Fl → Prop) : Fl → Prop
  | .nx s => I s
  | .cont s => I s
  | .brk s => P (.nx s)
  | .ret r s => P (.ret r s)
  | .exc e s => P (.exc e s)
  | .stuck => False
theorem t_nx (I : Sta → Prop) (P : Fl → Prop) (s : Sta) : Turn I P (.nx s) = I s := Eq.trans rfl rfl
theorem t_cont (I : Sta → Prop) (P : Fl → Prop) (s : Sta) : Turn I P (.cont s) = I s := Eq.trans rfl rfl
theorem t_brk (I : Sta → Prop) (P : Fl → Prop) (s : Sta) : Turn I P (.brk s) = P (.nx s) := Eq.trans rfl rfl
theorem t_ret (I : Sta → Prop) (P : Fl → Prop) (r : Slot) (s : Sta) : Turn I P (.ret r s) = P (.ret r s) := Eq.trans rfl rfl
theorem Turn.wk {I : Sta → Prop} {P : Fl → Prop} {x : Fl} (h : Turn I (fun _ => False) x) : Turn I P x := by
  cases x <;> first | exact h | exact h.elim
theorem loop_inv {t : Tg} {g : Sta → Fl} {P : Fl → Prop} : ∀ (ds : List D) (I : Nat → Sta → Prop) (s : Sta), I 0 s →
    (∀ i d s, ds[i]? = some d → I i s → ∃ env, t.bind d s.env = some env ∧ Turn (I (i + 1)) P (g { s with env := env })) →
    (∀ s, I ds.length s → P (.nx s)) → P (loopL t g ds s)
  | [], I, s, h0, _, he => he s h0
  | d :: ds, I, s, h0, hs, he => by
    obtain ⟨env, h1, h2⟩ := hs 0 d s rfl h0
    rw [loopL, h1]
    simp only []
    have next : ∀ s', I 1 s' → P (loopL t g ds s') := fun s' h => loop_inv ds (fun i => I (i + 1)) s' h (fun i d s e hi => hs (i + 1) d s (by simpa using e) hi) fun s h => he s (by simpa using h)
    cases hg : g { s with env := env } with
    | nx s' => rw [hg] at h2; exact next s' h2
    | cont s' => rw [hg] at h2; exact next s' h2
    | brk s' => rw [hg] at h2; exact h2
    | ret r s' => rw [hg] at h2; exact h2
    | exc e s' => rw [hg] at h2; exact h2
    | stuck => rw [hg] at h2; exact h2.elim
theorem sq_for {P : Fl → Prop} {f : Sta → PR (List D)} {t : Tg} {g g2 : Sta → Fl} {s : Sta} (ds : List D) (I : Nat → Sta → Prop) (hf : f s = .ok ds) (h0 : I 0 s)
    (hs : ∀ i d s, ds[i]? = some d → I i s → ∃ env, t.bind d s.env = some env ∧ Turn (I (i + 1)) (fun fl => P (match fl with
      | .nx s => g2 s
      | fl => fl)) (g { s with env := env })) (he : ∀ s, I ds.length s → P (g2 s)) : P (sSeq (sFor f t g) g2 s) := by
  unfold sSeq sFor
  rw [hf]
  exact loop_inv (P := fun fl => P (match fl with
      | .nx s => g2 s
      | fl => fl)) ds I s h0 hs he
theorem forP {P : Fl → Prop} {f : Sta → PR (List D)} {t : Tg} {g g2 : Sta → Fl} {s : Sta} (ds : List D) (I : Nat → Sta → Prop) (hf : f s = .ok ds) (h0 : I 0 s)
    (hs : ∀ i d s, ds[i]? = some d → I i s → ∃ env, t.bind d s.env = some env ∧ Turn (I (i + 1)) (fun _ => False) (g { s with env := env })) (he : ∀ s, I ds.length s → P (g2 s)) : P (sSeq (sFor f t g) g2 s) :=
  sq_for (P := P) ds I hf h0 (fun i d s e h => by
    obtain ⟨env, h1, h2⟩ := hs i d s e h
    exact ⟨env, h1, Turn.wk h2⟩) he
/-- a loop that is the last of its row -/
theorem forE {f : Sta → PR (List D)} {t : Tg} {g : Sta → Fl} {s : Sta} (ds : List D) (I : Nat → Sta → Prop) (hf : f s = .ok ds) (h0 : I 0 s)
    (hs : ∀ i d s, ds[i]? = some d → I i s → ∃ env, t.bind d s.env = some env ∧ Turn (I (i + 1)) (fun _ => False) (g { s with env := env })) : ∃ s', sFor f t g s = .nx s' ∧ I ds.length s' := by
  unfold sFor
  rw [hf]
  exact loop_inv (P := fun fl => ∃ s', fl = .nx s' ∧ I ds.length s') ds I s h0 (fun i d s e h => by
    obtain ⟨env, h1, h2⟩ := hs i d s e h
    exact ⟨env, h1, Turn.wk h2⟩) fun s h => ⟨s, rfl, h⟩
theorem loopE {t : Tg} {g : Sta → Fl} {s : Sta} (ds : List D) (I : Nat → Sta → Prop) (h0 : I 0 s)
    (hs : ∀ i d s, ds[i]? = some d → I i s → ∃ env, t.bind d s.env = some env ∧ Turn (I (i + 1)) (fun _ => False) (g { s with env := env })) : ∃ s', loopL t g ds s = .nx s' ∧ I ds.length s' :=
  loop_inv (P := fun fl => ∃ s', fl = .nx s' ∧ I ds.length s') ds I s h0 (fun i d s e h => by
    obtain ⟨env, h1, h2⟩ := hs i d s e h
    exact ⟨env, h1, Turn.wk h2⟩) fun s h => ⟨s, rfl, h⟩
theorem b_nm (i : Nat) (d : D) : (Tg.nm i).bind d env = some (env.set i (.v d)) := Eq.trans rfl rfl
theorem b_tp2 (i j : Nat) (a b : D) : (Tg.tp [i, j]).bind (.tup [a, b]) env = some ((env.set i (.v a)).set j (.v b)) := Eq.trans rfl rfl
theorem b_tp3 (i j k : Nat) (a b c : D) : (Tg.tp [i, j, k]).bind (.tup [a, b, c]) env = some (((env.set i (.v a)).set j (.v b)).set k (.v c)) := Eq.trans rfl rfl

def D.plain : Nat → D → Bool
  | _, .none => true
  | _, .bool _ => true
  | _, .int _ => true
  | _, .str x => PyData.strOk x
  | 0, .list _ => false
  | n + 1, .list xs => xs.all (D.plain n)
  | 0, .lk _ => false
  | n + 1, .lk xs => xs.all (D.plain n)
  | 0, .tup _ => false
  | n + 1, .tup xs => xs.all (D.plain n)
  | _, _ => false
theorem pys_lay {n : Nat} (ih : ∀ d : D, d.plain n = true → d.py.canLay0 = true ∧ d.py.depth ≤ n) : ∀ xs : List D, xs.all (D.plain n) = true → PyData.canLayAll0 (pys xs) = true ∧ PyData.depthAll (pys xs) ≤ n
  | [], _ => ⟨rfl, Nat.zero_le _⟩
  | x :: xs, h => by
    rw [List.all_cons, Bool.and_eq_true] at h
    have h1 := ih x h.1
    have h2 := pys_lay ih xs h.2
    refine ⟨?_, ?_⟩
    · show (x.py.canLay0 && PyData.canLayAll0 (pys xs)) = true
      rw [h1.1, h2.1]; rfl
    · show max x.py.depth (PyData.depthAll (pys xs)) ≤ n
      exact Nat.max_le.mpr ⟨h1.2, h2.2⟩
theorem plain_lay : ∀ (n : Nat) (d : D), d.plain n = true → d.py.canLay0 = true ∧ d.py.depth ≤ n := by
  intro n
  induction n with
  | zero =>
    intro d h
    cases d <;> first | exact ⟨rfl, Nat.zero_le _⟩ | exact ⟨h, Nat.zero_le _⟩ | exact absurd h Bool.false_ne_true
  | succ n ih =>
    intro d h
    cases d with
    | none => exact ⟨rfl, Nat.zero_le _⟩
    | bool b => exact ⟨rfl, Nat.zero_le _⟩
    | int b => exact ⟨rfl, Nat.zero_le _⟩
    | str b => exact ⟨h, Nat.zero_le _⟩
    | list xs => exact ⟨(pys_lay ih xs h).1, Nat.succ_le_succ (pys_lay ih xs h).2⟩
    | lk xs => exact ⟨(pys_lay ih xs h).1, Nat.succ_le_succ (pys_lay ih xs h).2⟩
    | tup xs => exact ⟨(pys_lay ih xs h).1, Nat.succ_le_succ (pys_lay ih xs h).2⟩
    | dic xs => exact absurd h Bool.false_ne_true
    | obj n => exact absurd h Bool.false_ne_true
    | xv _ _ => exact absurd h Bool.false_ne_true
    | btp _ => exact absurd h Bool.false_ne_true
theorem plain_shaped {d : D} (h : d.plain 9 = true) : SeqAt.shaped d.py = true := by
  unfold SeqAt.shaped
  rw [Bool.and_eq_true]
  exact ⟨(plain_lay 9 d h).1, decide_eq_true (Nat.le_trans (plain_lay 9 d h).2 (by decide))⟩
theorem eqB_gen {a b : D} (ha : a.plain 9 = true) (hb : b.plain 9 = true) : eqB a b = some (PyData.eqv a.py b.py) := by
  have k := plain_shaped ha
  have l := plain_shaped hb
  unfold eqB
  split
  · rfl
  · rfl
  · rfl
  · rw [if_pos ⟨k, l⟩]
theorem g_eqR {a b : D} (ha : a.plain 9 = true) (e : a.py = b.py) : gEq a b = some ⟨.sh, .bool true⟩ := by
  have k := plain_shaped ha
  have q : eqB a b = some true := by
    have r := SeqAt.eqv_refl a.py (plain_lay 9 a ha).1
    unfold eqB
    split
    · simp only [D.py] at e; cases e; simp
    · simp only [D.py] at e; cases e; simp
    · simp only [D.py] at e; cases e; simp
    · rw [if_pos ⟨k, e ▸ k⟩, ← e, r]
  unfold gEq
  rw [q]
  rfl
theorem g_neR {a b : D} (ha : a.plain 9 = true) (e : a.py = b.py) : gNe a b = some ⟨.sh, .bool false⟩ := by
  have h := g_eqR ha e
  unfold gEq at h
  unfold gNe
  cases q : eqB a b with
  | none => rw [q] at h; cases h
  | some r =>
    rw [q] at h
    have : r = true := by
      have := Option.some.inj h
      cases this
      rfl
    rw [this]
    rfl

/-- a loop that may break off -/
def Bk (J : Sta → Prop) : Fl → Prop
  | .nx s => J s
  | _ => False
theorem t_bk (J : Sta → Prop) (s : Sta) : Bk J (.nx s) = J s := Eq.trans rfl rfl
def spLaw (K : PySem.W.Frag) : Sp := fun vs H Q E => ∃ (a : Addr) (ns : List Int), vs = [.ref a] ∧ SqL K H a (ns.map V.int) ∧ ns.length ≤ 63 ∧ ∀ H', Q (.bl true) H'
theorem law_imp {K : PySem.W.Frag} {T : Tab} {al : Bool} {sem : Sem} (h : ∀ ns : List Int, ns.length ≤ 63 → ∃ st, sem [.lk (ns.map D.int)] [] = .ok (.v (.bool true)) st) : ∀ vs H Q E, spLaw K vs H Q E → spF K T al 1 sem vs H Q E := by
  rintro vs H Q E ⟨a, ns, rfl, hS, hl, hQ⟩
  obtain ⟨st, hs⟩ := h ns hl
  refine ⟨[.lk (ns.map D.int)], [], [], H, H, rfl, .cons (.lk hS DRs.ints) .nil, rel_pure (Same.refl H), fun _ => rfl, ?_⟩
  rw [hs]
  intro y H' m' M' _ _ R
  have q := R.head
  cases q
  exact hQ _
end MP

namespace MP
open PySem PySem.Spec PyProof.Rows L2
section
variable {X : Cx} {T : Tab} {W : WX} {a b c e : Expr} {es : List Expr} {pos p : Pos} {fa fb fc : Sta → PR RV}

def intsOf : List D → Option (List Int)
  | [] => some []
  | .int i :: ds => (intsOf ds).map (i :: ·)
  | _ => none
theorem intsOf_map : ∀ ns : List Int, intsOf (ns.map D.int) = some ns
  | [] => rfl
  | n :: ns => by show (intsOf (ns.map D.int)).map (n :: ·) = _; rw [intsOf_map ns]; rfl
def boolsOf : List D → Option (List Bool)
  | [] => some []
  | .bool i :: ds => (boolsOf ds).map (i :: ·)
  | _ => none
theorem boolsOf_eq : ∀ {ds : List D} {ns : List Bool}, boolsOf ds = some ns → ds = ns.map D.bool
  | [], ns, h => by cases h; rfl
  | d :: ds, ns, h => by
    cases d <;> try (cases h; done)
    rename_i i
    unfold boolsOf at h
    cases hi : boolsOf ds with
    | none => rw [hi] at h; cases h
    | some ms =>
      rw [hi] at h
      cases h
      rw [boolsOf_eq hi]
      rfl
theorem boolsOf_map : ∀ ns : List Bool, boolsOf (ns.map D.bool) = some ns
  | [] => rfl
  | n :: ns => by show (boolsOf (ns.map D.bool)).map (n :: ·) = _; rw [boolsOf_map ns]; rfl
theorem DRs.bools_of {K : PySem.W.Frag} {m : List Addr} {H : Hp} : ∀ {vs : List V} {ns : List Bool}, DRs K m H vs (ns.map D.bool) → vs = ns.map V.bl
  | _, [], h => by cases h; rfl
  | _, n :: ns, h => by
    cases h with
    | cons h1 h2 =>
      cases h1
      rw [DRs.bools_of h2]
      rfl
/-- the one rising row of the same ints -/
def insI (x : Int) : List Int → List Int
  | [] => [x]
  | y :: ys => if x ≤ y then x :: y :: ys else y :: insI x ys
def sortI : List Int → List Int
  | [] => []
  | x :: xs => insI x (sortI xs)
def gSorted : List D → Option RV
  | [d] => (lstOf d).bind fun ds => (intsOf ds).map fun ns => fr (.list ((sortI ns).map D.int))
  | _ => none
def gAll : List D → Option RV
  | [d] => (lstOf d).bind fun ds => (boolsOf ds).map fun bs => sh (.bool (bs.all id))
  | _ => none
theorem bools_at {m : List Addr} {M H : Hp} {y : V} {d : D} {ds : List D} {bs : List Bool} (s : Same M H) (a : Arg X.K m M H y d) (hl : lstOf d = some ds) (hb : boolsOf ds = some bs) : ∃ p, y = .ref p ∧ SqL X.K H p (bs.map V.bl) := by
  obtain ⟨p, xs, rfl, h1, r1⟩ := a.lst hl s
  rw [boolsOf_eq hb] at r1
  rw [DRs.bools_of r1] at h1
  exact ⟨p, rfl, h1⟩
theorem ok_all (hc : X.calm = true) : CallOk X (.builtin "all") gAll := by
  refine ⟨_, cr_all hc, fun m M H ys ds res Q s a e k => ?_⟩
  unfold gAll at e
  split at e
  · rename_i d
    cases a with
    | cons a1 an =>
      cases an
      cases hl : lstOf d with
      | none => rw [hl] at e; cases e
      | some ds =>
        rw [hl] at e
        cases hi : boolsOf ds with
        | none => simp only [Option.bind_some, hi] at e; cases e
        | some ns =>
          simp only [Option.bind_some, hi, Option.map_some] at e
          cases e
          obtain ⟨p, rfl, h1⟩ := bools_at s a1 hl hi
          exact ⟨p, ns, rfl, h1, k _ H M (Grow.refl s) (.bl _)⟩
  · cases e
end

section
variable {X : Cx} {T : Tab} {W : WX} {e e2 : Expr} {pos p : Pos}
end
section
variable {X : Cx} {T : Tab} {W : WX} {al : Bool} {st : Stmt}
end
section
variable {env : List Slot} {st : List Ob}
theorem g_sorted (ns : List Int) : gSorted [.list (ns.map D.int)] = some ⟨.fr, .list ((sortI ns).map D.int)⟩ := by
  show (intsOf (ns.map D.int)).map _ = _
  rw [intsOf_map]
  rfl
theorem g_allB (bs : List Bool) : gAll [.list (bs.map D.bool)] = some ⟨.sh, .bool (bs.all id)⟩ := by
  show (boolsOf (bs.map D.bool)).map _ = _
  rw [boolsOf_map]
  rfl
theorem inB_int (i : Int) (ns : List Int) : (ns.map D.int).any (fun z => eqF z (.int i)) = decide (i ∈ ns) := by
  induction ns with
  | nil => simp
  | cons n ns ih =>
    rw [List.map_cons, List.any_cons, ih]
    show (n == i || _) = _
    by_cases h : n = i
    · subst h; simp
    · have h' : ¬ i = n := fun e => h e.symm
      simp [h, h']
theorem flat_ints (ns : List Int) : (ns.map D.int).all flatD = true := by
  rw [List.all_map]
  exact List.all_eq_true.mpr fun _ _ => rfl
theorem g_inI (i : Int) (ns : List Int) : gIn (.int i) (.list (ns.map D.int)) = some ⟨.sh, .bool (decide (i ∈ ns))⟩ := by
  unfold gIn inB
  simp only [seqOf]
  rw [if_pos ⟨rfl, flat_ints ns⟩, inB_int]
  rfl
theorem g_ninI (i : Int) (ns : List Int) : gNin (.int i) (.list (ns.map D.int)) = some ⟨.sh, .bool (!decide (i ∈ ns))⟩ := by
  unfold gNin inB
  simp only [seqOf]
  rw [if_pos ⟨rfl, flat_ints ns⟩, inB_int]
  rfl
theorem g_inT (i : Int) (ns : List Int) : gIn (.int i) (.tup (ns.map D.int)) = some ⟨.sh, .bool (decide (i ∈ ns))⟩ := by
  unfold gIn inB
  simp only [seqOf]
  rw [if_pos ⟨rfl, flat_ints ns⟩, inB_int]
  rfl
theorem g_ninT (i : Int) (ns : List Int) : gNin (.int i) (.tup (ns.map D.int)) = some ⟨.sh, .bool (!decide (i ∈ ns))⟩ := by
  unfold gNin inB
  simp only [seqOf]
  rw [if_pos ⟨rfl, flat_ints ns⟩, inB_int]
  rfl
theorem compM {t : Tg} {te : Sta → PR D} {s : Sta} (f : Nat → D) : ∀ (ms : List Nat), (∀ m ∈ ms, ∃ env, t.bind (.int (m : Int)) s.env = some env ∧ te { s with env := env } = .ok (f m)) →
    compL t pYes te s (ms.map fun m : Nat => D.int (m : Int)) = .ok (ms.map f)
  | [], _ => rfl
  | m :: ms, h => by
    obtain ⟨env, h1, h2⟩ := h m (by simp)
    rw [List.map_cons, compL, h1]
    simp only [pYes, h2]
    rw [compM f ms fun m hm => h m (by simp [hm])]
    rfl
theorem compA {α : Type} {t : Tg} {te : Sta → PR D} {s : Sta} (mk f : α → D) : ∀ (l : List α), (∀ a ∈ l, ∃ env, t.bind (mk a) s.env = some env ∧ te { s with env := env } = .ok (f a)) →
    compL t pYes te s (l.map mk) = .ok (l.map f)
  | [], _ => rfl
  | a :: l, h => by
    obtain ⟨env, h1, h2⟩ := h a (by simp)
    rw [List.map_cons, compL, h1]
    simp only [pYes, h2]
    rw [compA mk f l fun m hm => h m (by simp [hm])]
    rfl
/-- tuples of texts -/
theorem flat_strs (ss : List Str) : (ss.map D.str).all flatD = true := by
  rw [List.all_map]
  exact List.all_eq_true.mpr fun _ _ => rfl
theorem inB_str (x : Str) (ss : List Str) : (ss.map D.str).any (fun z => eqF z (.str x)) = decide (x ∈ ss) := by
  induction ss with
  | nil => simp
  | cons n ns ih =>
    rw [List.map_cons, List.any_cons, ih]
    show (n == x || _) = _
    by_cases h : n = x
    · subst h; simp
    · have h' : ¬ x = n := fun e => h e.symm
      have h2 : (n == x) = false := beq_eq_false_iff_ne.mpr h
      simp [h', h2]
theorem g_ninST (x : Str) (ss : List Str) : gNin (.str x) (.tup (ss.map D.str)) = some ⟨.sh, .bool (!decide (x ∈ ss))⟩ := by
  unfold gNin inB
  simp only [seqOf]
  rw [if_pos ⟨rfl, flat_strs ss⟩, inB_str]
  rfl
theorem e_c2 : ((2 : Nat) : Int) = 2 := Eq.trans rfl rfl
theorem e_c3 : ((3 : Nat) : Int) = 3 := Eq.trans rfl rfl
theorem e_c4 : ((4 : Nat) : Int) = 4 := Eq.trans rfl rfl
theorem e_c5 : ((5 : Nat) : Int) = 5 := Eq.trans rfl rfl
theorem e_pIsi (n : String) (f : Sta → PR RV) : pIsi n f ⟨env, st⟩ = x1 (fun d => (isiB n d).map fun b => sh (.bool b)) (f ⟨env, st⟩) := by
  unfold pIsi
  exact e_p1 _ _
end
end MP

set_option maxHeartbeats 2000000
namespace MP
open PySem PySem.Spec PyProof.Rows L2

section
variable {X : Cx} {pins : List (Addr × Obj)} {σ : L2.St} {H : Hp} {s : Shared} {a : Addr} {u : HO}
end

section
variable {X : Cx} {x n : Str} {c : Value} {i : Nat} {body suite : List Stmt} {b₀ : Stmt} {np pos pos' : Pos} {tb : WX → TS} {ts : Addr → Value → Option Addr → TS} {Wo : WX}
end

section
variable {X : Cx} {T : Tab} {W : WX} {al : Bool} {x n y : Str} {c : Value} {i j : Nat} {body : List Stmt} {np pos pos' p1 p2 p3 : Pos} {g : Sta → Fl}
theorem ExR.dr {K : PySem.W.Frag} {m : List Addr} {M H : Hp} {e : Ex} {C a : Addr} {d : Option Addr} (h : ExR K T m M H e (.ref C) d) (na : M a = none) : DR K m (upd M a (exv a C d)) (.ref a) (.xv e.cls e.fs) := by
  obtain ⟨C', hn, ec, h⟩ := h
  cases ec
  obtain ⟨cl, fs⟩ := e
  rcases h with ⟨h1, rfl⟩ | ⟨dd, vs, rfl, h2, h3⟩
  · dsimp only at h1 hn ⊢
    subst h1
    exact .xn hn upd_same
  · exact .xf hn upd_same (by rw [upd_ne (ne_of_none h2 na)]; exact h2) (DRf.mono (MLe.refl _) (Same.upd na) _ _ h3)
end

def spInit (C : Addr) (fs : List Str) : Sp := fun vs H Q _ => ∃ a ws, vs = .ref a :: ws ∧ ws.length = fs.length ∧ H a = some (exo a C none) ∧
  ∀ dx, H dx = none → dx ≠ a → Q .non (upd (upd H dx (exd dx (fs.zip ws).reverse)) a (exo a C (some dx)))
def ExcT (P : Program) (w : World) (K : PySem.W.Frag) (mg : Str → Option Value) (base : Heap) (x : Str) (fs : List Str) : Prop :=
  fs.length ≤ 1000 ∧ ∃ C fI fd ps, NmC K x C ∧ mg x = some (.ref C) ∧ OexC K C ∧ PySem.W.findIn K (.ref C) "__init__" = some (some (.ref fI)) ∧
    PySem.W.typeIn K (.ref fI) = some (.type "function") ∧ FnOk P w K mg base (L2.CX P w) 1 fI fd ps (spInit C fs) ∧ Binds K fd ps []
section
variable {X : Cx} {T : Tab} {W : WX} {al : Bool} {x : Str} {fs : List Str} {e : Expr} {es : List Expr} {p pos pos2 : Pos} {f : Sta → PR (List D)}
def sRaise (x : Str) (fs : List Str) (f : Sta → PR (List D)) : Sta → Fl := fun s => match f s with
  | .ok ds => if ds.length = fs.length then .exc ⟨x, (fs.zip ds).reverse⟩ s else .stuck
  | .exc e => .exc e s
  | .stuck => .stuck
theorem DRf.append {K : PySem.W.Frag} {m : List Addr} {H : Hp} : ∀ {xs ys : List (Str × V)} {us ws : List (Str × D)}, DRf K m H xs us → DRf K m H ys ws → DRf K m H (xs ++ ys) (us ++ ws)
  | _, _, _, _, .nil, s => s
  | _, _, _, _, .cons r t, s => .cons r (DRf.append t s)
theorem DRf.zipR {K : PySem.W.Frag} {m : List Addr} {H : Hp} : ∀ {fs : List Str} {vs : List V} {ds : List D}, DRs K m H vs ds → DRf K m H (fs.zip vs).reverse (fs.zip ds).reverse
  | [], _, _, _ => by simp; exact .nil
  | _ :: _, _, _, .nil => by simp; exact .nil
  | f :: fs, _, _, .cons r t => by
    rw [List.zip_cons_cons, List.zip_cons_cons, List.reverse_cons, List.reverse_cons]
    exact (DRf.zipR t).append (.cons r .nil)
theorem made_same {H : Hp} {a dx C : Addr} {o : HO} {u : HO} (ha : H a = none) (hd : dx ≠ a) :
    upd (L2.del (upd (upd (upd H a (exo a C none)) dx u) a (exo a C (some dx))) a) dx o = upd H dx o := by
  funext b
  by_cases h1 : b = dx
  · subst h1
    rw [upd_same, upd_same]
  · rw [upd_ne h1, upd_ne h1]
    by_cases h2 : b = a
    · subst h2
      rw [del_same, ha]
    · rw [del_ne h2, upd_ne h2, upd_ne h1, upd_ne h2]
theorem s_raise (E : ExcT X.prog X.w X.K X.mg X.base x fs) (hr : Room 2 X.A) (hg : Gl X x) (tk : Takes X W) (hc : X.calm = true) (ha : PAs X T W (e :: es) f)
    (hdb : (x == ("__debug__" : Str)) = false := by decide) (he : starEach (e :: es) X.env = (false, eval e X.env) :: starEach es X.env := by rfl)
    (hpl : (backTo pos (starEach es X.env)).any (·.1) = false := by rfl) :
    SE1 X T W al (.Raise (some (.Call (.Name x p) (e :: es) [] pos)) none pos2) (sRaise x fs f) := by
  obtain ⟨hl, C, fI, fd, ps, hn, hm, O, iC, tI, F, hb⟩ := E
  refine PS.wk (ps_raise hc tk (pmk_oex O iC tI F hr hb .nil (passes_call (E := fun _ _ _ => False) tk fun _ _ _ _ h => h.elim) hg hm ha hdb he hpl)) ?_
  rintro D σ H ⟨s, m, M, G, R, a, q⟩
  refine ⟨s, m, M, G, R, ?_⟩
  unfold sRaise at q
  cases hf : f s with
  | stuck => rw [hf] at q; exact q
  | exc x' =>
    rw [hf] at q
    exact fun cls d H' M' g xr => q cls d σ H' m M' (Ext.grow g R.gh) a (R.grow g) xr
  | ok ds =>
    rw [hf] at q
    intro ys H' M' g r
    dsimp only at q
    by_cases hlen : ds.length = fs.length
    · rw [if_pos hlen] at q
      have hy : ys.length = fs.length := r.length.trans hlen
      refine ⟨by omega, fun a0 ha0 => ⟨a0, ys, by rw [List.append_nil], hy, upd_same, fun dx hd hne => ⟨rfl, dx, _, upd_same, by rw [upd_ne hne, upd_same], ?_, ?_⟩⟩⟩
      · rw [upd_ne hne] at hd
        exact hd
      · rw [upd_ne hne] at hd
        rw [made_same ha0 hne]
        have g2 : Grow H' M' (upd H' dx (.xd (fs.zip ys).reverse)) (upd M' dx (.xd (fs.zip ys).reverse)) := Grow.share g.mh hd
        refine q _ _ σ _ m _ (Ext.grow (g.trans g2) R.gh) a (R.grow (g.trans g2)) ⟨C, hn, rfl, .inr ⟨dx, _, rfl, upd_same, ?_⟩⟩
        exact DRf.mono (MLe.refl _) g2.mm _ _ (DRf.zipR r)
    · rw [if_neg hlen] at q
      exact q.elim
end
section
variable {X : Cx} {T : Tab} {W : WX} {al : Bool} {x t : Str} {j : Nat} {p p2 pos pos2 : Pos}
end
/-- the class B, whose __init__ is ValueError's -/
structure BasC (K : PySem.W.Frag) (mg : Str → Option Value) (x : Str) (B : Addr) : Prop where
  mg : mg x = some (.ref B)
  rd : PySem.W.readsIn K B (.type "type") = true
  sg : PySem.W.specialIn K (.ref B) "__getattribute__" = some (some (.builtin "type.__getattribute__"))
  fc : PySem.W.findCls K (.ref B) (.type "type") "__init__" = some (.val (.builtin "ValueError.__init__"))
section
variable {X : Cx} {x : Str} {B : Addr} {e : Expr} {es : List Expr} {ta : TA} {p1 p2 pos : Pos}
theorem pe_beinit {pl : PySem.Sem Bool} (O : BasC X.K X.mg x B) (hg : Gl X x) (ha : PA X (e :: es) ta)
    (hc : eval (.Call (.Attribute (.Name x p1) "__init__" p2) (e :: es) [] pos) X.env = (do
      let ov ← eval (.Name x p1) X.env
      standAt p2.atName
      let (f, first) ← holding [ov] (getMethod ov "__init__" pl)
      callWith pos f first (backTo pos (starEach (e :: es) X.env)) (backToKw pos (keywordEach [] X.env))) := by rfl)
    (hdb : (x == ("__debug__" : Str)) = false := by decide)
    (he : starEach (e :: es) X.env = (false, eval e X.env) :: starEach es X.env := by rfl) (hpl : (backTo pos (starEach es X.env)).any (·.1) = false := by rfl) :
    PE X (.Call (.Attribute (.Name x p1) "__init__" p2) (e :: es) [] pos) (tVeI X.K ta) := by
  constructor
  intro pins s σ H Q I h
  apply PySem.W.methodCall_KW (ld_glob I hg O.mg ?_ hdb) hc
  apply PySem.W.method_cls I.kIn O.sg
  apply PySem.W.cls_value I.kIn O.rd O.fc (by decide +kernel)
  show wpAny _ _ (callWith pos (Value.builtin "ValueError.__init__") [] (backTo pos (starEach (e :: es) X.env)) []) _ _ _
  refine PyProof.Rows.callWith_method1 (thn (ha.run pos pins _ σ H _ (I.tok _) h) ?_) he hpl
  rintro us s1 ⟨vs, H1, I1, r1, a, C, ws, rfl, hl, O2, ea, q⟩
  cases r1 with
  | @cons _ u0 _ ur ra rw' =>
    obtain rfl : u0 = Value.ref a := ra
    have hlen : ur.length ≤ sizeLine := by
      rw [← Paired.length rw', sizeLine_eq]
      omega
    exact oinit_ok O2 I1 ea hlen fun s' J => ⟨.non, H1, J, rfl, q⟩
end
section
variable {P : Program} {w : World} {K : PySem.W.Frag} {mg : Str → Option Value} {base : Heap} {C : Addr} {qual x a b : Str} {st : Stmt} {f : Addr} {fd : FuncData} {t : Str}
theorem init1_ok (O : OexC K C) (nC : PySem.W.findIn K (.ref C) a = some none) (F : Fun K "__init__" qual st f fd) (S : FnScope ["self", a] ["self", a] (defScope st))
    (hb : ∀ (cdv : Value) (A : Around) (outer : List Env) (s : Shared) (H : Hp) (E : XK), Room 0 (A.deeper (envOfC qual (defScope st) s.heap.objs.size f cdv)) →
      PSs (cxOf (L2.CX P w) P w K mg base ["self", a] qual (defScope st) f cdv A outer s H E) (defBody st) (tSeq (tDrop (tVeI K (tCons (tVar 0) (tCons (tC (.str t)) tNil)))) (tOst K a (tVar 0) (tVar 1)))) :
    FnOk P w K mg base (L2.CX P w) 1 f fd ["self", a] (spInit C [a]) := by
  refine F.okX S (fun vs H Q E h => ?_) fun cdv A outer s H vs Q E hr h => ⟨_, hb cdv A outer s H E hr, ?_⟩
  · obtain ⟨a0, ws, rfl, hl, _⟩ := h
    simpa using hl
  · obtain ⟨a0, ws, rfl, hl, ha, q⟩ := h
    obtain ⟨v, rfl⟩ : ∃ v, ws = [v] := by
      match ws, hl with
      | [v], _ => exact ⟨v, rfl⟩
    exact ⟨_, rfl, ⟨a0, C, [.str t], rfl, by simp, O, ha, v, rfl, .ref a0, rfl, a0, C, rfl, O, nC, .inl ⟨ha, fun dx h1 h2 => q dx h1 h2⟩⟩⟩
end

/-- what its class must say -/
structure XcC (K : PySem.W.Frag) (C : Addr) : Prop where
  hcl : (PySem.W.clsIn K C).isSome = true
  ga : PySem.W.findIn K (.ref C) "__getattribute__" = some (some (.builtin "BaseException.__getattribute__"))
  gg : PySem.W.findIn K (.ref C) "__getattr__" = some none
  sb : PySem.W.subIn K (.ref C) (.type "BaseException") = some true
  ac : PySem.W.findIn K (.ref C) "__class__" = some (some (.builtin "object.__class__"))
  gn : PySem.W.specialIn K (.builtin "object.__class__") "__get__" = some (some (.builtin "getset_descriptor.__get__"))
  tk : PySem.W.takesIn K (.builtin "object.__class__") = some true
  mr : PySem.W.mroIn K C (.type "object") = some true
  hd : PySem.W.hasDictIn K C = true
section
variable {X : Cx} {pins : List (Addr × Obj)} {σ : L2.St} {H : Hp} {s : Shared} {a C : Addr} {d : Option Addr}
/-- the dict of a tracked exception, if any, is tracked -/
def HasD (H : Hp) (d : Option Addr) : Prop := d = none ∨ ∃ dd fs, d = some dd ∧ H dd = some (.xd fs)
end
/-- isinstance by a table of class names -/
def IsxOk (K : PySem.W.Frag) (tab : List (Str × Bool)) (cv : Value) : Prop := ∀ x b C, tab.lookup x = some b → NmC K x C → PySem.W.kitOne K (.ref C) cv = some b ∧ XcC K C
section
variable {X : Cx} {T : Tab} {W : WX} {a o : Expr} {fa : Sta → PR RV} {p p' pos : Pos} {x f : Str} {tab : List (Str × Bool)} {cs : List Str}
theorem Arg.xv {K : PySem.W.Frag} {m : List Addr} {M H : Hp} {y : V} {c : Str} {fs : List (Str × D)} (h : Arg K m M H y (.xv c fs)) (s : Same M H) :
    ∃ (a C : Addr) (d : Option Addr) (vs : List (Str × V)), y = .ref a ∧ NmC K c C ∧ H a = some (exv a C d) ∧ HasD H d ∧ DRf K m M vs fs ∧ (d = none → fs = []) ∧ ∀ dd, d = some dd → H dd = some (.xd vs) := by
  rcases h with h | ⟨a, o, rfl, h2, h3⟩
  · cases h with
    | xn h1 h2 => exact ⟨_, _, none, [], rfl, h1, s _ _ h2, .inl rfl, .nil, fun _ => rfl, fun _ z => by cases z⟩
    | xf h1 h2 h3 h4 => exact ⟨_, _, some _, _, rfl, h1, s _ _ h2, .inr ⟨_, _, rfl, s _ _ h3⟩, h4, (fun z => by cases z), fun _ z => by cases z; exact s _ _ h3⟩
  · cases h3
theorem DRf.look {K : PySem.W.Frag} {m : List Addr} {H : Hp} {f : Str} {d : D} : ∀ {vs : List (Str × V)} {fs : List (Str × D)}, DRf K m H vs fs → fs.lookup f = some d → ∃ v, vs.lookup f = some v ∧ DR K m H v d
  | _, _, .nil, e => by cases e
  | _, _, .cons (k := k) (v := v) r t, e => by
    by_cases h : f = k
    · subst h
      simp only [List.lookup_cons, BEq.rfl] at e ⊢
      cases e
      exact ⟨v, rfl, r⟩
    · have hb : (f == k) = false := beq_eq_false_iff_ne.mpr h
      simp only [List.lookup, hb] at e ⊢
      exact DRf.look t e
end

section
variable {X : Cx}
end
section
variable {X : Cx} {T : Tab} {W : WX} {o e : Expr} {fo fe : Sta → PR RV} {apos cpos : Pos}
end
section
variable {env : List Slot} {st : List Ob}
def xRa (x : Str) (fs : List Str) (s : Sta) : PR (List D) → Fl
  | .ok ds => if ds.length = fs.length then .exc ⟨x, (fs.zip ds).reverse⟩ s else .stuck
  | .exc e => .exc e s
  | .stuck => .stuck
theorem s_Raise (x : Str) (fs : List Str) (f : Sta → PR (List D)) : sRaise x fs f ⟨env, st⟩ = xRa x fs ⟨env, st⟩ (f ⟨env, st⟩) := by
  unfold sRaise xRa
  cases f ⟨env, st⟩ <;> rfl
theorem s_xRa1 (x a : Str) (s : Sta) (d : D) : xRa x [a] s (.ok [d]) = .exc ⟨x, [(a, d)]⟩ s := Eq.trans rfl rfl
theorem s_xRa2 (x a b : Str) (s : Sta) (d d' : D) : xRa x [a, b] s (.ok [d, d']) = .exc ⟨x, [(b, d'), (a, d)]⟩ s := Eq.trans rfl rfl
end

section
variable {K : PySem.W.Frag} {c cv : Value} {x f : Str} {C : Addr} {b : Bool} {l : List (Str × Bool)} {cs : List Str}
end
section
variable {X : Cx} {T : Tab} {W : WX} {al : Bool} {x n y : Str} {i j : Nat} {body : List Stmt} {np pos pos' p1 p2 p3 p p' : Pos} {g : Sta → Fl} {ct : Str → Option Bool} {tab : List (Str × Bool)} {a : Expr} {fa : Sta → PR RV}
end
section
variable {env : List Slot} {st : List Ob}
theorem e_xDe (e : Ex) : xD (.exc e) = .exc e := Eq.trans rfl rfl
theorem e_x1e (g : D → Option RV) (e : Ex) : x1 g (.exc e) = .exc e := Eq.trans rfl rfl
theorem e_x2e (g : D → D → Option RV) (e : Ex) (r : PR RV) : x2 g (.exc e) r = .exc e := Eq.trans rfl rfl
theorem e_xBe (e : Ex) : xB (.exc e) = .exc e := Eq.trans rfl rfl
theorem s_xSVe (i : Nat) (e : Ex) : xSV i env st (.exc e) = .exc e ⟨env, st⟩ := Eq.trans rfl rfl
theorem s_xSOe (i : Nat) (e : Ex) : xSO i env st (.exc e) = .exc e ⟨env, st⟩ := Eq.trans rfl rfl
theorem s_xRte (e : Ex) (s : Sta) : xRt s (.exc e) = .exc e s := Eq.trans rfl rfl
theorem s_xIfe (g1 g2 : Sta → Fl) (s : Sta) (e : Ex) : xIf g1 g2 s (.exc e) = .exc e s := Eq.trans rfl rfl
theorem s_xTue (t : Tg) (e : Ex) : xTu t env st (.exc e) = .exc e ⟨env, st⟩ := Eq.trans rfl rfl
theorem s_xSFe (i : Nat) (e : Ex) (s : Sta) : xSF i (.exc e s) = .exc e s := Eq.trans rfl rfl
theorem fe_exc (e : Ex) (st' : List Ob) : (Fr.exc e st').fe ⟨env, st⟩ = .exc e ⟨env, st'⟩ := Eq.trans rfl rfl
theorem t_exc (I : Sta → Prop) (P : Fl → Prop) (e : Ex) (s : Sta) : Turn I P (.exc e s) = P (.exc e s) := Eq.trans rfl rfl
end
theorem n_xv (c : Str) (fs : List (Str × D)) : D.isNone (.xv c fs) = false := Eq.trans rfl rfl
end MP

namespace MP
open PySem PySem.Spec PyProof.Rows L2
def repS (x : Str) (n : Nat) : Str := ⟨(List.replicate n x.cps.toList).flatten.toArray⟩
theorem rep_fold (c : Array Nat) : ∀ (k : Nat) (acc : Array Nat), ((List.replicate k c).foldl (· ++ ·) acc).toList = acc.toList ++ (List.replicate k c.toList).flatten
  | 0, acc => by simp
  | k + 1, acc => by
    rw [List.replicate_succ, List.foldl_cons, rep_fold c k, List.replicate_succ, List.flatten_cons]
    simp
theorem repS_eq (x : Str) (n : Nat) : (⟨(List.replicate n x.cps).foldl (· ++ ·) #[]⟩ : Str) = repS x n := by
  refine Str.ext' (Array.toList_inj.mp ?_)
  show ((List.replicate n x.cps).foldl (· ++ ·) #[]).toList = (List.replicate n x.cps.toList).flatten.toArray.toList
  rw [rep_fold]
  simp
theorem repS_0 (x : Str) : repS x 0 = Str.empty := Str.ext' rfl
theorem repS_1 (x : Str) : repS x 1 = x := by
  refine Str.ext' (Array.toList_inj.mp ?_)
  show (List.replicate 1 x.cps.toList).flatten.toArray.toList = _
  simp [List.replicate_succ]
theorem repS_no {x : Str} (h : x.length = 0) (n : Nat) : repS x n = x := by
  have e : x.cps = #[] := Array.eq_empty_of_size_eq_zero h
  refine Str.ext' (Array.toList_inj.mp ?_)
  show (List.replicate n x.cps.toList).flatten.toArray.toList = x.cps.toList
  rw [e]
  simp
section
variable {X : Cx} {T : Tab} {W : WX} {a b c e o tg iter : Expr} {es : List Expr} {pos p p2 q : Pos} {fa fb fc : Sta → PR RV}
theorem op_repS : OpR X (binaryOp .Mult) (fun x y H Q => ∃ (z : Str) (n : Int), x = .str z ∧ y = .int n ∧ n < 16777216 ∧ -16777216 < n ∧ z.length * n.toNat ≤ 16777216 ∧ Q (.str (repS z n.toNat)) H) := by
  intro pins s σ H x y v u Q I rx ry h
  obtain ⟨z, n, rfl, rfl, h1, h2, h3, q⟩ := h
  obtain ⟨t, rfl⟩ := rx
  obtain ⟨t', rfl⟩ := ry
  refine PySem.P.mul_str (by rw [decide_eq_false (by omega), decide_eq_false (by omega)]; rfl) (fun c1 c2 => ?_) (fun c1 c2 => ?_) ?_
  · have hn : 1 ≤ n := by omega
    have hz : z.length ≤ 16777216 := by
      have : z.length * 1 ≤ z.length * n.toNat := Nat.mul_le_mul_left _ (by omega)
      omega
    have k1 : (2 ^ 63 - 1) / n ≥ 16777216 := by
      refine (Int.le_ediv_iff_mul_le (by omega)).mpr ?_
      have : (16777216 : Int) * n ≤ 16777216 * 16777216 := Int.mul_le_mul_of_nonneg_left (by omega) (by omega)
      omega
    omega
  · unfold Builtin.Str.tooLong
    rw [sizeLine_eq]
    exact decide_eq_false (by omega)
  · by_cases c1 : n < 1
    · rw [if_pos c1]
      rw [show n.toNat = 0 by omega, repS_0] at q
      exact ⟨Nat.zero_le _, .str Str.empty, H, I.tok _, ⟨_, rfl⟩, q⟩
    · rw [if_neg c1]
      by_cases c2 : (n == 1 || z.length == 0) = true
      · rw [if_pos c2]
        refine ⟨.str z, H, I, ⟨_, rfl⟩, ?_⟩
        rcases (Bool.or_eq_true _ _).mp c2 with c3 | c3
        · rw [show n.toNat = 1 by have := beq_iff_eq.mp c3; omega, repS_1] at q
          exact q
        · rw [repS_no (beq_iff_eq.mp c3)] at q
          exact q
      · rw [if_neg c2]
        rw [repS_eq]
        refine ⟨?_, .str (repS z n.toNat), H, I.tok _, ⟨_, rfl⟩, q⟩
        have e : (repS z n.toNat).length = n.toNat * z.length := by
          show (List.replicate n.toNat z.cps.toList).flatten.toArray.size = _
          rw [List.size_toArray, PyProof.Rows.lm_len_rep_flat, Array.length_toList]
          rfl
        rw [e, Nat.mul_comm, sizeLine_eq]
        omega
def gRepS : D → D → Option RV
  | .str z, .int n => if n < 16777216 ∧ -16777216 < n ∧ z.length * n.toNat ≤ 16777216 then some (sh (.str (repS z n.toNat))) else none
  | _, _ => none
theorem ok_repS : Op2Ok X (binaryOp .Mult) gRepS := by
  refine ⟨_, op_repS, fun m M H x y d1 d2 res Q s a1 a2 e k => ?_⟩
  cases d1 <;> try (cases e; done)
  cases d2 <;> try (cases e; done)
  rename_i z n
  dsimp only [gRepS] at e
  by_cases hl : n < 16777216 ∧ -16777216 < n ∧ z.length * n.toNat ≤ 16777216
  · rw [if_pos hl] at e
    cases e
    exact ⟨z, n, a1.str, a2.int, hl.1, hl.2.1, hl.2.2, k _ H M (Grow.refl s) (.str _)⟩
  · rw [if_neg hl] at e
    cases e
theorem g_repS {z : Str} {n : Int} (h : n < 16777216 ∧ -16777216 < n ∧ z.length * n.toNat ≤ 16777216) : gRepS (.str z) (.int n) = some ⟨.sh, .str (repS z n.toNat)⟩ := if_pos h
theorem OpR.wk {op : Value → Value → PySem.Sem Value} {r r' : R2} (h : OpR X op r) (w : ∀ x y H Q, r' x y H Q → r x y H Q) : OpR X op r' := fun pins s σ H x y v u Q I rx ry k => h pins s σ H x y v u Q I rx ry (w _ _ _ _ k)
end
section
variable {prog : Program} {w : World} {A : Around} {E : Value → Shared → Prop} {s : Shared}
end
section
variable {X : Cx} {T : Tab} {W : WX} {e : Expr} {es : List Expr} {pos p : Pos}
end
section
variable {prog : Program} {w : World} {A : Around} {E : Value → Shared → Prop} {s : Shared}
theorem applied_rev {sl : Addr} {n : Nat} {u : Tok} {Q : Int × Int × Nat → Shared → Prop} (hs : s.heap.IsSliceOf sl .none .none (.int (-1) u)) (k : Q ((n : Int) - 1, -1, n) s) :
    wpAny (model prog w) A (Builtin.Slice.sliceApplied (.ref sl) (pure (n : Int))) Q E s := by
  obtain ⟨ob, h1, h2, h3⟩ := id hs
  unfold Builtin.Slice.sliceApplied Builtin.Slice.sliceFields
  refine wpAny_bind (wpAny_bind (wpAny_field h1 h3 (x := .none) rfl (wpAny_bind (wpAny_field h1 h3 (x := .none) rfl (wpAny_bind (wpAny_field h1 h3 (x := .int (-1) u) rfl (wpAny_pure (wpAny_bind (slicePart_int ?_)))))))))
  show wpAny _ _ (if ((-1 : Int) == 0) = true then _ else _) _ _ s
  rw [if_neg (by decide)]
  refine wpAny_bind (slicePart_none (wpAny_bind (slicePart_none (wpAny_bind (wpAny_pure ?_)))))
  have e : Builtin.Slice.slicePlaces ((n : Int) - 1) (-1) (-1) = n := by
    unfold Builtin.Slice.slicePlaces
    rw [if_neg (by decide)]
    by_cases hn : n = 0
    · subst hn; rfl
    · first
        | (rw [if_pos (by omega)]; simp; omega)
        | (split <;> simp <;> omega)
  have e2 : Builtin.Slice.sliceAdjust none none (-1) (n : Int) = ((n : Int) - 1, -1) := by
    unfold Builtin.Slice.sliceAdjust
    simp
  show wpAny _ _ (pure ((Builtin.Slice.sliceAdjust none none (-1) (n : Int)).1, (-1 : Int), Builtin.Slice.slicePlaces (Builtin.Slice.sliceAdjust none none (-1) (n : Int)).1 (Builtin.Slice.sliceAdjust none none (-1) (n : Int)).2 (-1))) _ _ s
  rw [e2]
  dsimp only
  rw [e]
  exact wpAny_pure k
theorem fm_congr {α β : Type} {f g : α → Option β} : ∀ {l : List α}, (∀ a ∈ l, f a = g a) → l.filterMap f = l.filterMap g
  | [], _ => rfl
  | a :: l, h => by
    rw [List.filterMap_cons, List.filterMap_cons, h a (List.mem_cons_self ..), fm_congr fun b hb => h b (List.mem_cons_of_mem _ hb)]
theorem pick_rev (xs : Array Value) : ((List.range xs.size).filterMap fun k : Nat => xs[(((xs.size : Int) - 1) + (k : Int) * (-1)).toNat]?) = xs.toList.reverse := by
  have h1 : ((List.range xs.size).filterMap fun k : Nat => xs[(((xs.size : Int) - 1) + (k : Int) * (-1)).toNat]?) = ((List.range xs.size).map fun k => xs.size - 1 - k).filterMap (xs[·]?) := by
    rw [List.filterMap_map]
    refine fm_congr fun k hk => ?_
    have := List.mem_range.mp hk
    show xs[(((xs.size : Int) - 1) + (k : Int) * (-1)).toNat]? = xs[xs.size - 1 - k]?
    rw [show (((xs.size : Int) - 1) + (k : Int) * (-1)).toNat = xs.size - 1 - k by omega]
  rw [h1, PySem.W.krv_range, List.filterMap_reverse, PySem.W.krv_all]
theorem getItem_tup_rev {t sl : Addr} {xs : Array Value} {u : Tok} {Q : Value → Shared → Prop} (ht : IsTup s.heap t xs) (hs : s.heap.IsSliceOf sl .none .none (.int (-1) u)) (hn : xs.size ≤ sizeLine)
    (k : Q (.ref s.heap.objs.size) { s with heap := s.heap.push { cls := .type "tuple", data := .seq xs.toList.reverse.toArray } }) : wpAny (model prog w) A (getItem (.ref t) (.ref sl)) Q E s := by
  have fit : sizeOk (.seq xs.toList.reverse.toArray) := by
    show xs.toList.reverse.toArray.size ≤ sizeLine
    rw [List.size_toArray, List.length_reverse, Array.length_toList]
    exact hn
  obtain ⟨ob, h1, h2, h3⟩ := id hs
  have tsl : s.TypeIs (.ref sl) "slice" := ⟨ob, h1, h2⟩
  unfold getItem
  try with_reducible refine wpAny_holding ?_
  first | refine wpAny_bind (wpAny_pure ?_) | skip
  refine wpAny_bind (wpAny_sequenceKey ht.typeIs (by decide) (wpAny_bind (wpAny_callSpecial?_slot (name := Str.ofString "__getitem__") ht.typeIs PyProof.Rows.slot_tuple_getitem
    (wpAny_call_entry PyProof.Rows.slot_tuple_getitem ht.typeIs PyProof.Rows.entry_tuple_getitem (?_ : wpAny _ _ (Builtin.Tuple.tupleItemsOf (.ref t) >>= _) _ _ s) (args_tuple_getitem _ _)))))
  refine wpAny_bind (tupleItemsOf_ ht (wpAny_bind (wpAny_typeOf tsl ?_)))
  rw [if_pos (by decide)]
  refine wpAny_bind (applied_rev hs ?_)
  have hno : ¬ ((((xs.size : Int) - 1) == 0 && (-1 : Int) == 1 && xs.size == xs.size) = true) := by simp
  show wpAny _ _ (if (((xs.size : Int) - 1) == 0 && (-1 : Int) == 1 && xs.size == xs.size) = true then _ else _) _ _ s
  rw [if_neg hno, pick_rev]
  first
    | exact wpAny_bind (m := Builtin.Tuple.tupleExact _) (wpAny_newObj_type (wpAny_pure ⟨_, rfl, wpAny_pure k⟩) fit)
    | exact wpAny_bind (m := Builtin.Tuple.tupleExact _) (wpAny_newObj_type (wpAny_bind (wpAny_pure (wpAny_pure ⟨_, rfl, wpAny_pure k⟩))) fit)
    | exact wpAny_bind (wpAny_bind (m := Builtin.Tuple.tupleExact _) (wpAny_newObj_type (wpAny_pure (wpAny_pure ⟨_, rfl, wpAny_pure k⟩)) fit))
    | exact wpAny_bind (wpAny_bind (m := Builtin.Tuple.tupleExact _) (wpAny_newObj_type (wpAny_pure ⟨_, rfl, wpAny_pure k⟩) fit))
end
section
variable {X : Cx} {T : Tab} {W : WX} {e : Expr} {pos pa pb pc : Pos} {fa : Sta → PR RV} {k : Nat}
def tRevT (K : PySem.W.Frag) (te : TE) : TE := fun σ H Q => te σ H fun x H1 => ∃ a xs, x = V.ref a ∧ SqT K H1 a xs ∧ ∀ p, H1 p = Option.none → Q (.ref p) (upd H1 p (.tup xs.reverse))
theorem pe_revT {te : TE} (he : PE X e te) : PE X (.Subscript e (.Slice none none (some (.UnaryOp .USub (.Constant (.int 1) k pa) pb)) pc) pos) (tRevT X.K te) := by
  refine ⟨fun pins s σ H Q I h => Subscript_ (thn (he.run pins s σ H _ I h) fun v s1 ⟨x, H1, I1, r1, a, xs, ex, hx, q⟩ => ?_)⟩
  subst ex
  cases r1
  have step : PO X (some (.UnaryOp .USub (.Constant (.int 1) k pa) pb)) (tPart (tUn (rU fun i => .int (-i)) (tC (.int 1)))) := po_some (pe_un un_neg pe_int)
  refine wpAny_Slice (thn (po_none.run pins s1 σ H1 (fun o H2 => o = none ∧ H2 = H1) I1 ⟨rfl, rfl⟩) fun vl s2 ⟨lo, H2, I2, pl, e1, e2⟩ => ?_)
  subst e1 e2
  refine thn (po_none.run pins s2 σ H2 (fun o H3 => o = none ∧ H3 = H2) I2 ⟨rfl, rfl⟩) fun vu s3 ⟨hi, H3, I3, pu, e1, e2⟩ => ?_
  subst e1 e2
  refine thn (step.run pins s3 σ H3 (fun o H4 => o = some (-1) ∧ H4 = H3) I3 ⟨1, rfl, -1, rfl, rfl, rfl⟩) fun vs s4 ⟨o, H4, I4, ps, e1, e2⟩ => ?_
  subst e1 e2
  have I5 : Inv X pins σ H4 { s4 with heap := s4.heap.push { cls := .type "slice", data := .fields #[vl, vu, vs] } } := I4.kept (t' := s4.toks) fun b ob q => Heap.get?_push_of_some _ q
  obtain ⟨its, r, ht, hz⟩ := I5.tuple hx
  have hsz : its.toArray.size ≤ sizeLine := by rw [List.size_toArray, ← r.length]; exact hz
  show wpAny (model X.prog X.w) X.A (subscriptTail e (.Slice none none (some (.UnaryOp .USub (.Constant (.int 1) k pa) pb)) pc) (.ref a) (.ref s4.heap.objs.size)) (EP X pins σ Q) X.xe { s4 with heap := s4.heap.push { cls := .type "slice", data := .fields #[vl, vu, vs] } }
  refine tail_any (ops := [.ref a, .ref s4.heap.objs.size]) ht.typeIs (PyProof.Rows.slot_tuple_getitem.lookup) ?_ (by with_unfolding_all rfl)
  cases pl
  cases pu
  cases ps with
  | int _ tk =>
    refine getItem_tup_rev ht (Heap.IsSliceOf.new _ _ _ _) hsz ?_
    refine ⟨.ref _, _, I5.laid (t' := s4.toks) (o := .tup xs.reverse) (fun b ob q => Heap.get?_push_of_some _ q) (Nat.le_refl _) ?_, rfl, q _ (I5.hok.fresh (Nat.le_refl _))⟩
    exact ⟨by rw [List.length_reverse]; exact hz, _, r.reverse, IsTup.new _ _⟩
def gRevT : D → Option RV
  | .tup ds => some (sh (.tup ds.reverse))
  | _ => none
theorem ev_revT (ha : PEv X T W e fa) : PEv X T W (.Subscript e (.Slice none none (some (.UnaryOp .USub (.Constant (.int 1) k pa) pb)) pc) pos) (p1 gRevT fa) := by
  refine PE.wk (pe_revT ha) ?_
  rintro σ H Q ⟨s, m, M, G, R, q⟩
  refine ⟨s, m, M, G, R, ?_⟩
  revert q
  unfold p1 PR.bind
  cases fa s with
  | ok r1 =>
    intro q y1 H1 M1 g1 rr1
    dsimp only at q
    obtain ⟨k, d⟩ := r1
    cases d <;> try (exact (show False from q).elim)
    rename_i ds
    obtain ⟨b, xs, rfl, h1, r1, _⟩ := rr1.arg.tup g1.mh
    refine ⟨b, xs, rfl, h1, fun p hp => ?_⟩
    have gs := Grow.share (o := .tup xs.reverse) g1.mh hp
    exact q _ _ _ (g1.trans gs) (.tup (SqT.of upd_same) (r1.reverse.up gs.mm))
  | exc e => intro q; exact q
  | stuck => intro q; exact q
theorem g_revT (ds : List D) : gRevT (.tup ds) = some ⟨.sh, .tup ds.reverse⟩ := Eq.trans rfl rfl
end
def sw (l : List Nat) : Str := ⟨l.toArray⟩
theorem sw_inj {a b : List Nat} (h : sw a = sw b) : a = b := by
  have := congrArg (fun x : Str => x.cps.toList) h
  simpa [sw] using this
theorem sw_app (a b : List Nat) : sw a ++ sw b = sw (a ++ b) := Str.ext' (Array.toList_inj.mp (by show (a.toArray ++ b.toArray).toList = (a ++ b).toArray.toList; simp))
theorem sw_len (l : List Nat) : (sw l).length = l.length := by show l.toArray.size = _; simp
theorem sw_rep (l : List Nat) (n : Nat) : repS (sw l) n = sw (List.replicate n l).flatten := rfl
theorem g_lenW {l : List Nat} (h : l.length ≤ 16777216) : gLen [.str (sw l)] = some ⟨.sh, .int l.length⟩ := by
  have e : gLen [.str (sw l)] = if (sw l).length ≤ 16777216 then some (sh (.int (sw l).length)) else none := rfl
  rw [e, sw_len, if_pos h]
theorem g_slW {l : List Nat} {lo hi : Option Int} (h : l.length ≤ 16777216) : gSl (.str (sw l)) lo hi = some ⟨.sh, .str (sw (cutD l lo hi))⟩ := by
  have e : gSl (.str (sw l)) lo hi = if (sw l).length ≤ 16777216 then some (sh (.str (cutS (sw l) lo hi))) else none := rfl
  rw [e, sw_len, if_pos h]
  unfold cutS cutD
  rw [sw_len]
  rfl
theorem g_catW {a b : List Nat} (h : a.length + b.length ≤ 16777216) : gPlus (.str (sw a)) (.str (sw b)) = some ⟨.sh, .str (sw (a ++ b))⟩ := by
  have e : gPlus (.str (sw a)) (.str (sw b)) = if (sw a).length + (sw b).length ≤ 16777216 then some (sh (.str (sw a ++ sw b))) else none := by
    show (none : Option RV).or ((if _ then _ else _ : Option RV).or _) = _
    by_cases hc : (sw a).length + (sw b).length ≤ 16777216
    · rw [if_pos hc]; rfl
    · rw [if_neg hc]; rfl
  rw [e, sw_len, sw_len, if_pos h, sw_app]
theorem g_repW {l : List Nat} {n : Int} (h : n < 16777216 ∧ -16777216 < n ∧ l.length * n.toNat ≤ 16777216) : gRepS (.str (sw l)) (.int n) = some ⟨.sh, .str (sw (List.replicate n.toNat l).flatten)⟩ := by
  rw [g_repS (by rw [sw_len]; exact h), sw_rep]
theorem in_strs (x : Str) (ss : List Str) : gIn (.str x) (.list (ss.map D.str)) = some ⟨.sh, .bool (decide (x ∈ ss))⟩ := by
  unfold gIn inB
  simp only [seqOf]
  rw [if_pos ⟨rfl, flat_strs ss⟩, inB_str]
  rfl
theorem nin_strs (x : Str) (ss : List Str) : gNin (.str x) (.list (ss.map D.str)) = some ⟨.sh, .bool (!decide (x ∈ ss))⟩ := by
  unfold gNin inB
  simp only [seqOf]
  rw [if_pos ⟨rfl, flat_strs ss⟩, inB_str]
  rfl
section
variable {env : List Slot} {st : List Ob}
end
end MP

namespace MP
open PySem PySem.Spec PyProof.Rows L2
section
variable {X : Cx} {T : Tab} {W : WX} {a b c e o x : Expr} {es : List Expr} {pos p p2 apos dpos : Pos} {fa fb fc fo fe : Sta → PR RV}
def strI (i : Int) : Str := toString i
def gStr : List D → Option RV
  | [.int i] => if i.natAbs.log2 < 1920 then some (sh (.str (strI i))) else none
  | _ => none
theorem hu1 {k : Nat} {A : Around} (hr : Room k A) : A.units + 1 < cLine := by have := hr.units; omega
variable {env : List Slot} {st : List Ob}
theorem g_str {i : Int} (h : i.natAbs.log2 < 1920) : gStr [.int i] = some ⟨.sh, .str (strI i)⟩ := if_pos h
end
end MP

namespace MP
open PySem PySem.Spec PyProof.Rows L2
section
variable {X : Cx} {T : Tab} {W : WX} {a b c e e1 o x : Expr} {es : List Expr} {pos p p2 apos dpos : Pos} {fa fb fc fo fe : Sta → PR RV}
end
section
variable {env : List Slot} {st : List Ob}
end
end MP

namespace MP
open PySem PySem.Spec PyProof.Rows L2

section
open HandSPX
variable {M : Model} {A : Around} {E : Value → Shared → Prop} {s : Shared} {Z : Obj → Prop} {base : Heap} {env : Env} {outer l : List Env} {L e : Addr}
end

section
variable {X : Cx} {pins : List (Addr × Obj)} {σ : L2.St} {H3 : Hp} {s3 : Shared} {W W' : WX} {scope : Scope} {ce : Env} {fp : List Addr} {pn : List (Addr × Obj)} {xe : Value → Shared → Prop}
end
section
variable {X : Cx} {W W' : WX}
end

section
variable {X : Cx} {T : Tab} {W : WX}
variable {elt tg iter : Expr} {ifs : List Expr} {scope : Scope} {own : List (Str × Nat)} {pos : Pos} {f : Sta → PR (List D)} {t : Tg} {tt : Sta → PR Bool} {te : Sta → PR D}
end

section
variable {env : List Slot} {st : List Ob}
theorem e_xC2e (e : Ex) : xC2 (.exc e) = .exc e := Eq.trans rfl rfl
theorem e_xCose {α : Type} (x : α) (e : Ex) : xCons (.ok x) (.exc e) = .exc e := Eq.trans rfl rfl
theorem e_xCoe {α : Type} (e : Ex) (r : PR (List α)) : xCons (.exc e) r = .exc e := Eq.trans rfl rfl
theorem e_xTpe (e : Ex) : xTp (.exc e) = .exc e := Eq.trans rfl rfl
theorem e_xLse (e : Ex) : xLs (.exc e) = .exc e := Eq.trans rfl rfl
theorem e_xGe {α : Type} (g : List D → Option α) (e : Ex) : xG g (.exc e) = .exc e := Eq.trans rfl rfl
theorem e_xUe (n : Nat) (sem : Sem) (e : Ex) : xU n sem (.exc e) = .exc e := Eq.trans rfl rfl
theorem s_xApe (i : Nat) (ds : List D) (e : Ex) : xAp i env st (some (.own (.list ds))) (.exc e) = .exc e ⟨env, st⟩ := Eq.trans rfl rfl
end
end MP

namespace MP
open PySem PySem.Spec PyProof.Rows L2

section
variable {X : Cx}
end

section
variable {X : Cx} {T : Tab} {W : WX} {a : Expr} {fa : Sta → PR RV} {p p2 q pos : Pos}
end

section
variable {X : Cx}
theorem each_paired {α β : Type} {R : α → β → Prop} : ∀ {as : List α} {bs : List β}, PySem.W.EachIs R as bs → Paired R as bs
  | _, _, .nil => .nil
  | _, _, .cons h t => .cons h (each_paired t)
end
end MP

namespace MP
open PySem PySem.Spec PyProof.Rows L2

section
variable {X : Cx} {T : Tab} {W : WX} {al : Bool} {m : List Addr} {M G H : Hp} {pos : Pos}
theorem Ext.up {al : Bool} {G G' : Hp} {m : List Addr} {M : Hp} {m' : List Addr} {M' : Hp} (e : Ext al G' m M m' M') (h : ∀ a, G' a = Option.none → G a = Option.none) : Ext al G m M m' M' :=
  ⟨e.ml, e.nl, e.mm, fun a o q => (e.new a o q).imp id (h a)⟩
end
end MP
namespace MP
open PySem PySem.Spec PyProof.Rows L2
end MP

namespace MP
open PySem PySem.Spec PyProof.Rows L2

inductive Pl where
  | nm (i : Nat) | fld (c f i : Nat) | ob (j : Nat) | tp (i k : Nat)
def owS : Option Slot → Option D
  | some (.own d) => some d
  | _ => none
def lkS (f : Nat) : List (Nat × Slot) → Option Slot
  | [] => none
  | (g, s) :: r => if f = g then some s else lkS f r
def owO (c f : Nat) : Option Ob → Option D
  | some ob => if ob.cls = c then owS (lkS f ob.fs) else none
  | none => none
def owF (c f : Nat) (st : List Ob) : Option Slot → Option D
  | some (.v (.obj j)) => owO c f st[j]?
  | _ => none
def tpG (k : Nat) : Option Slot → Option D
  | some (.tpo k' ds) => if k' = k then ds[k]? else none
  | _ => none
def tpS (k : Nat) (ds : List D) : Slot → Slot
  | .own d => .tpo k (ds.set k d)
  | .v d => .v (.tup (ds.set k d))
  | _ => .un
def putT (k : Nat) (sl : Slot) (env : List Slot) (i : Nat) : Option Slot → List Slot
  | some (.tpo _ ds) => env.set i (tpS k ds sl)
  | _ => env
def Pl.get : Pl → Sta → Option D
  | .nm i, s => owS s.env[i]?
  | .fld c f i, s => owF c f s.st s.env[i]?
  | .ob j, s => owO boxC 0 s.st[j]?
  | .tp i k, s => tpG k s.env[i]?
def putB (f : Nat) (sl : Slot) (st : List Ob) (j : Nat) : Option Ob → List Ob
  | some ob => st.set j ⟨ob.cls, putO f sl ob.fs⟩
  | none => st
def putA (f : Nat) (sl : Slot) (st : List Ob) : Option Slot → List Ob
  | some (.v (.obj j)) => putB f sl st j st[j]?
  | _ => st
def Pl.put : Pl → Slot → Sta → Sta
  | .nm i, sl, s => ⟨s.env.set i sl, s.st⟩
  | .fld _ f i, sl, s => ⟨s.env, putA f sl s.st s.env[i]?⟩
  | .ob j, sl, s => ⟨s.env, putB 0 sl s.st j s.st[j]?⟩
  | .tp i k, sl, s => ⟨putT k sl s.env i s.env[i]?, s.st⟩

section
variable {K : PySem.W.Frag} {T : Tab} {m : List Addr} {M G H : Hp}
theorem FsR.cut {nm : Nat → Str} (inj : ∀ i j, nm i = nm j → i = j) {f : Nat} {d : D} : ∀ {s : List (Nat × Slot)} {x : List (Str × V)} {fp : List Addr}, FsR K nm m M H s x fp → lkS f s = some (.own d) →
    ∃ b o rest, x.lookup (nm f) = some (.ref b) ∧ H b = some o ∧ ObD K m M o d ∧ List.Perm fp (b :: rest) ∧
      ∀ (M' H' : Hp) (sl : Slot) (g : List Addr), Same M M' → (∀ a ∈ rest, H' a = H a) → SlotR K m M' H' sl (some (.ref b)) g → ∃ fp', FsR K nm m M' H' (putO f sl s) x fp' ∧ List.Perm fp' (g ++ rest)
  | [], _, _, _, e => by cases e
  | (i, s) :: ss, [], _, h, _ => h.elim
  | (i, s) :: ss, (x, v) :: xs, fp, h, e => by
    obtain ⟨f1, f2, ef, ex, h1, h2⟩ := h
    unfold lkS at e
    by_cases hf : f = i
    · rw [if_pos hf] at e
      cases e
      obtain ⟨b, o, e1, ev, hb, hd⟩ := h1
      cases ev
      subst e1
      refine ⟨b, o, f2, ?_, hb, hd, by rw [ef]; exact List.Perm.refl _, fun M' H' sl g mm hh hs => ?_⟩
      · rw [ex, ← hf]
        simp [List.lookup]
      · refine ⟨g ++ f2, ?_, List.Perm.refl _⟩
        rw [putO, if_pos hf.symm]
        exact ⟨g, f2, rfl, ex, hs, h2.mono (MLe.refl _) mm fun a ha => hh a ha⟩
    · rw [if_neg hf] at e
      obtain ⟨b, o, rest, l1, hb, hd, p1, k⟩ := FsR.cut inj h2 e
      refine ⟨b, o, f1 ++ rest, ?_, hb, hd, ?_, fun M' H' sl g mm hh hs => ?_⟩
      · have hb2 : (nm f == x) = false := beq_eq_false_iff_ne.mpr fun z => hf (inj _ _ (z.trans ex))
        simp only [List.lookup, hb2]
        exact l1
      · rw [ef]
        exact (List.Perm.append_left f1 p1).trans List.perm_middle
      · obtain ⟨fp', q1, q2⟩ := k M' H' sl g mm (fun a ha => hh a (List.mem_append_right _ ha)) hs
        refine ⟨f1 ++ fp', ?_, ?_⟩
        · rw [putO, if_neg (fun z => hf z.symm)]
          exact ⟨f1, fp', rfl, ex, h1.mono (MLe.refl _) mm fun a ha => hh a (List.mem_append_left _ ha), q1⟩
        · refine (List.Perm.append_left f1 q2).trans ?_
          exact List.perm_append_comm_assoc f1 g rest
/-- the address of a place -/
def PlAt (T : Tab) (m : List Addr) (H : Hp) (s : Sta) (σ : L2.St) (b : Addr) : Pl → Prop
  | .nm i => σ[i]? = some (some (.ref b))
  | .fld c f i => ∃ j ob a, s.env[i]? = some (.v (.obj j)) ∧ σ[i]? = some (some (.ref a)) ∧ s.st[j]? = some ob ∧ ob.cls = c ∧ m[j]? = some a ∧ ((c ≠ boxC ∧ a ≠ b ∧ ∃ dx fs, H a = some (obH T c dx fs) ∧ fs.lookup (T.nm f) = some (.ref b)) ∨ (c = boxC ∧ a = b))
  | .ob j => ∃ ob, s.st[j]? = some ob ∧ ob.cls = boxC ∧ m[j]? = some b
  | .tp i k => ∃ t vs us, σ[i]? = some (some (.ref t)) ∧ H t = some (.tup vs) ∧ s.env[i]? = some (.tpo k us) ∧ vs[k]? = some (.ref b)
theorem Rel.cut {s : Sta} {σ : L2.St} {p : Pl} {d : D} (R : Rel K T m M G H s σ) (e : p.get s = some d) :
    ∃ b o f1 f2 rest, PlAt T m H s σ b p ∧ H b = some o ∧ ObD K m M o d ∧ List.Perm (f1 ++ f2) (b :: rest) ∧ (f1 ++ f2).Nodup ∧ (∀ a ∈ f1 ++ f2, M a = Option.none ∧ G a = Option.none) ∧
      ∀ (M' H' : Hp) (sl : Slot) (g : List Addr), Same M M' → (∀ a ∈ rest, H' a = H a) → (∀ k2 us, sl ≠ .tpo k2 us) → SlotR K m M' H' sl (some (.ref b)) g →
        ∃ f1' f2', SlotsR K m M' H' (p.put sl s).env σ f1' ∧ StoreR K T m M' H' (p.put sl s).st m f2' ∧ List.Perm (f1' ++ f2') (g ++ rest) := by
  obtain ⟨mh, gh, ⟨f1, f2, h1, h2, nd, dj⟩⟩ := R
  cases p with
  | nm i =>
    have hs : s.env[i]? = some (.own d) := by
      unfold Pl.get at e
      dsimp only at e
      cases q : s.env[i]? with
      | none => rw [q] at e; cases e
      | some sl => rw [q] at e; cases sl <;> cases e; rfl
    obtain ⟨g0, g1, g2, y, ef, ey, ⟨b, o, ef1, rfl, hb, hd⟩, k⟩ := h1.split hs
    subst ef ef1
    have eσ : σ = σ.set i (some (.ref b)) := by
      apply List.ext_getElem?
      intro j
      by_cases hj : i = j
      · subst hj
        rw [List.getElem?_set_self (by rw [← h1.len]; exact (List.getElem?_eq_some_iff.mp hs).1)]
        exact ey
      · rw [List.getElem?_set_ne hj]
    refine ⟨b, o, _, _, (g0 ++ g2) ++ f2, ey, hb, hd, ?_, nd, dj, fun M' H' sl g mm hh hnt hsl => ?_⟩
    · simp only [List.append_assoc, List.singleton_append]
      exact List.perm_middle
    · have k2 := k m M' H' sl (some (.ref b)) g (MLe.refl _) mm (fun c hc => hh c (List.mem_append_left _ hc)) hsl
      rw [← eσ] at k2
      refine ⟨g0 ++ g ++ g2, f2, k2, h2.mono (MLe.refl _) (MLe.refl _) mm fun c hc => hh c (List.mem_append_right _ hc), ?_⟩
      simp only [List.append_assoc]
      exact List.perm_append_comm_assoc g0 g (g2 ++ f2)
  | fld c f i =>
    have : ∃ j ob, s.env[i]? = some (.v (.obj j)) ∧ s.st[j]? = some ob ∧ ob.cls = c ∧ lkS f ob.fs = some (.own d) := by
      unfold Pl.get owF at e
      dsimp only at e
      split at e
      · rename_i j hq
        cases hj : s.st[j]? with
        | none => rw [hj] at e; cases e
        | some ob =>
          rw [hj] at e
          unfold owO at e
          dsimp only at e
          by_cases hc : ob.cls = c
          · rw [if_pos hc] at e
            refine ⟨j, ob, hq, hj, hc, ?_⟩
            cases q : lkS f ob.fs with
            | none => rw [q] at e; cases e
            | some sl => rw [q] at e; cases sl <;> cases e; rfl
          · rw [if_neg hc] at e; cases e
      · cases e
    obtain ⟨j, ob, hi, hj, hc, hl⟩ := this
    obtain ⟨g0, g1, g2, a, eg, ea, hob, k⟩ := h2.split hj
    have hσ : σ[i]? = some (some (.ref a)) := by
      obtain ⟨y, fy, ey, hy, _⟩ := h1.at hi
      obtain ⟨_, y', rfl, hd'⟩ := hy
      cases hd' with
      | obj hm =>
        rw [ea] at hm
        cases hm
        exact ey
    rcases hob with ⟨hnb, dx, fs, f3, ef, h3, h4⟩ | ⟨hbx, sl0, hfs, h3⟩ | ⟨kvs, xs, _, eo, _⟩
    rotate_left
    rotate_left
    · rw [eo] at hl
      unfold ndOb lkS at hl
      by_cases hf : f = 0
      · rw [if_pos hf] at hl; cases hl
      · rw [if_neg hf] at hl; cases hl
    rotate_left
    · rw [hfs] at hl
      unfold lkS at hl
      by_cases hf : f = 0
      · rw [if_pos hf] at hl
        cases hl
        subst hf
        obtain ⟨b, o, e1, ev, hb, hd⟩ := h3
        cases ev
        subst e1
        subst eg
        refine ⟨a, o, f1, _, f1 ++ (g0 ++ g2), ⟨j, ob, a, hi, hσ, hj, hc, ea, .inr ⟨by rw [← hc]; exact hbx, rfl⟩⟩, hb, hd, ?_, nd, dj, fun M' H' sl g mm hh hnt hsl => ?_⟩
        · have e1 : f1 ++ (g0 ++ [a] ++ g2) = (f1 ++ g0) ++ a :: g2 := by simp
          have e2 : f1 ++ (g0 ++ g2) = (f1 ++ g0) ++ g2 := by simp
          rw [e1, e2]
          exact List.perm_middle
        · have hst := k m M' H' ⟨ob.cls, putO 0 sl ob.fs⟩ g (MLe.refl _) mm (fun x hx => hh x (by rcases List.mem_append.mp hx with hx | hx <;> simp [hx])) (.inr (.inl ⟨hbx, sl, by rw [hfs, putO, if_pos rfl], hsl⟩))
          refine ⟨f1, g0 ++ g ++ g2, h1.mono (MLe.refl _) mm fun x hx => hh x (by simp [hx]), ?_, ?_⟩
          · unfold Pl.put putA
            dsimp only
            rw [hi]
            dsimp only
            rw [hj]
            exact hst
          · have e1 : f1 ++ (g0 ++ g ++ g2) = (f1 ++ g0) ++ (g ++ g2) := by simp
            have e2 : f1 ++ (g0 ++ g2) = (f1 ++ g0) ++ g2 := by simp
            rw [e1, e2]
            exact List.perm_append_comm_assoc _ g _
      · rw [if_neg hf] at hl
        cases hl
    obtain ⟨b, o, rest, l1, hb, hd, p1, k4⟩ := FsR.cut T.inj h4 hl
    subst eg ef
    have hab : a ≠ b := by
      have hbf : b ∈ f3 := p1.mem_iff.mpr (List.mem_cons_self ..)
      have n1 := (List.nodup_append.mp nd).2.1
      have n2 := (List.nodup_append.mp (List.nodup_append.mp n1).1).2.1
      exact fun z => (List.nodup_cons.mp n2).1 (z ▸ hbf)
    refine ⟨b, o, f1, _, f1 ++ (g0 ++ (a :: rest) ++ g2), ⟨j, ob, a, hi, hσ, hj, hc, ea, .inl ⟨by rw [← hc]; exact hnb.1, hab, dx, fs, by rw [← hc]; exact h3, l1⟩⟩, hb, hd, ?_, nd, dj, fun M' H' sl g mm hh hnt hsl => ?_⟩
    · have q1 : List.Perm (f1 ++ (g0 ++ (a :: f3) ++ g2)) (f1 ++ (g0 ++ (a :: (b :: rest)) ++ g2)) := List.Perm.append_left _ (List.Perm.append_right _ (List.Perm.append_left _ (List.Perm.cons _ p1)))
      refine q1.trans ?_
      have e1 : f1 ++ (g0 ++ a :: b :: rest ++ g2) = (f1 ++ g0 ++ [a]) ++ b :: (rest ++ g2) := by simp
      rw [e1]
      refine List.perm_middle.trans (List.Perm.cons _ ?_)
      have e2 : (f1 ++ g0 ++ [a]) ++ (rest ++ g2) = f1 ++ (g0 ++ a :: rest ++ g2) := by simp
      rw [e2]
    · obtain ⟨fp', q1, q2⟩ := k4 M' H' sl g mm (fun x hx => hh x (by simp [hx])) hsl
      have ha : H' a = some (obH T ob.cls dx fs) := by rw [hh a (by simp)]; exact h3
      have hst := k m M' H' ⟨ob.cls, putO f sl ob.fs⟩ (a :: fp') (MLe.refl _) mm (fun x hx => hh x (by rcases List.mem_append.mp hx with hx | hx <;> simp [hx])) (.inl ⟨hnb, dx, fs, fp', rfl, ha, q1⟩)
      refine ⟨f1, g0 ++ (a :: fp') ++ g2, h1.mono (MLe.refl _) mm fun x hx => hh x (by simp [hx]), ?_, ?_⟩
      · unfold Pl.put putA
        dsimp only
        rw [hi]
        dsimp only
        rw [hj]
        exact hst
      · have q3 : List.Perm (f1 ++ (g0 ++ (a :: fp') ++ g2)) (f1 ++ (g0 ++ (a :: (g ++ rest)) ++ g2)) := List.Perm.append_left _ (List.Perm.append_right _ (List.Perm.append_left _ (List.Perm.cons _ q2)))
        refine q3.trans ?_
        have e1 : f1 ++ (g0 ++ a :: (g ++ rest) ++ g2) = (f1 ++ g0 ++ [a]) ++ (g ++ (rest ++ g2)) := by simp
        have e2 : f1 ++ (g0 ++ a :: rest ++ g2) = (f1 ++ g0 ++ [a]) ++ (rest ++ g2) := by simp
        rw [e1, e2]
        exact List.perm_append_comm_assoc _ g _
  | ob j =>
    have : ∃ ob, s.st[j]? = some ob ∧ ob.cls = boxC ∧ lkS 0 ob.fs = some (.own d) := by
      unfold Pl.get at e
      dsimp only at e
      cases hj : s.st[j]? with
      | none => rw [hj] at e; cases e
      | some ob =>
        rw [hj] at e
        unfold owO at e
        dsimp only at e
        by_cases hc : ob.cls = boxC
        · rw [if_pos hc] at e
          refine ⟨ob, rfl, hc, ?_⟩
          cases q : lkS 0 ob.fs with
          | none => rw [q] at e; cases e
          | some sl => rw [q] at e; cases sl <;> cases e; rfl
        · rw [if_neg hc] at e; cases e
    obtain ⟨ob, hj, hc, hl⟩ := this
    obtain ⟨g0, g1, g2, a, eg, ea, hob, k⟩ := h2.split hj
    rcases hob with ⟨hnb, _⟩ | ⟨hbx, sl0, hfs, h3⟩ | ⟨kvs, xs, _, eo, _⟩
    · exact absurd hc hnb.1
    rotate_left
    · rw [eo] at hc; exact absurd hc (show ndC ≠ boxC by decide)
    · rw [hfs] at hl
      unfold lkS at hl
      rw [if_pos rfl] at hl
      cases hl
      obtain ⟨b, o, e1, ev, hb, hd⟩ := h3
      cases ev
      subst e1
      subst eg
      refine ⟨a, o, f1, _, f1 ++ (g0 ++ g2), ⟨ob, hj, hc, ea⟩, hb, hd, ?_, nd, dj, fun M' H' sl g mm hh hnt hsl => ?_⟩
      · have e1 : f1 ++ (g0 ++ [a] ++ g2) = (f1 ++ g0) ++ a :: g2 := by simp
        have e2 : f1 ++ (g0 ++ g2) = (f1 ++ g0) ++ g2 := by simp
        rw [e1, e2]
        exact List.perm_middle
      · have hst := k m M' H' ⟨ob.cls, putO 0 sl ob.fs⟩ g (MLe.refl _) mm (fun x hx => hh x (by rcases List.mem_append.mp hx with hx | hx <;> simp [hx])) (.inr (.inl ⟨hbx, sl, by rw [hfs, putO, if_pos rfl], hsl⟩))
        refine ⟨f1, g0 ++ g ++ g2, h1.mono (MLe.refl _) mm fun x hx => hh x (by simp [hx]), ?_, ?_⟩
        · unfold Pl.put
          dsimp only
          rw [hj]
          exact hst
        · have e1 : f1 ++ (g0 ++ g ++ g2) = (f1 ++ g0) ++ (g ++ g2) := by simp
          have e2 : f1 ++ (g0 ++ g2) = (f1 ++ g0) ++ g2 := by simp
          rw [e1, e2]
          exact List.perm_append_comm_assoc _ g _
  | tp i k =>
    have : ∃ us, s.env[i]? = some (.tpo k us) ∧ us[k]? = some d := by
      unfold Pl.get tpG at e
      dsimp only at e
      split at e
      · rename_i k' us hq
        by_cases hk : k' = k
        · subst hk
          rw [if_pos rfl] at e
          exact ⟨us, hq, e⟩
        · rw [if_neg hk] at e; cases e
      · cases e
    obtain ⟨us, hi, hu⟩ := this
    obtain ⟨g0, g1, g2, y, eg, ey, hsl0, kk⟩ := h1.split hi
    obtain ⟨t, b, o, vs, d', e1, ex, ht, hl, hv, hd2, hb, hd, hr⟩ := hsl0
    rw [hu] at hd2
    cases hd2
    subst e1 ex eg
    have eσ : σ = σ.set i (some (.ref t)) := by
      apply List.ext_getElem?
      intro j
      by_cases hj : i = j
      · subst hj
        rw [List.getElem?_set_self (by rw [← h1.len]; exact (List.getElem?_eq_some_iff.mp hi).1)]
        exact ey
      · rw [List.getElem?_set_ne hj]
    refine ⟨b, o, _, f2, (g0 ++ g2) ++ f2, ⟨t, vs, us, ey, mh _ _ ht, hi, hv⟩, hb, hd, ?_, nd, dj, fun M' H' sl g mm hh hnt hsl => ?_⟩
    · simp only [List.append_assoc, List.singleton_append]
      exact List.perm_middle
    · have hku : k < us.length := (List.getElem?_eq_some_iff.mp hu).1
      have hset : ∀ (d2 : D) (j : Nat) (v : V) (e2 : D), j ≠ k → vs[j]? = some v → (us.set k d2)[j]? = some e2 → DR K m M' v e2 := by
        intro d2 j v e2 hj hjv he
        rw [List.getElem?_set_ne (Ne.symm hj)] at he
        exact DR.mono (MLe.refl _) mm _ _ (hr j v e2 hj hjv he)
      have hS : SlotR K m M' H' (tpS k us sl) (some (.ref t)) g := by
        cases sl with
        | own d2 =>
          obtain ⟨a2, o2, e1, e2, h5, h6⟩ := hsl
          cases e2
          exact ⟨t, b, o2, vs, d2, e1, rfl, mm _ _ ht, by rw [List.length_set]; exact hl, hv, List.getElem?_set_self hku, h5, h6, hset d2⟩
        | v d2 =>
          obtain ⟨e1, y2, e2, h5⟩ := hsl
          cases e2
          refine ⟨e1, .ref t, rfl, .tup (SqT.of (mm _ _ ht)) (DRs.of_get (by rw [List.length_set]; exact hl) fun j v e2 hj he => ?_)⟩
          by_cases hjk : j = k
          · subst hjk
            rw [hv] at hj
            rw [List.getElem?_set_self hku] at he
            cases hj
            cases he
            exact h5
          · exact hset d2 j v e2 hjk hj he
        | un => exact hsl
        | hid _ => exact hsl.1
        | tpo k2 u2 => exact absurd rfl (hnt k2 u2)
      have k2 := kk m M' H' (tpS k us sl) (some (.ref t)) g (MLe.refl _) mm (fun c hc => hh c (List.mem_append_left _ hc)) hS
      rw [← eσ] at k2
      refine ⟨g0 ++ g ++ g2, f2, ?_, h2.mono (MLe.refl _) (MLe.refl _) mm fun c hc => hh c (List.mem_append_right _ hc), ?_⟩
      · unfold Pl.put putT
        dsimp only
        rw [hi]
        exact k2
      · simp only [List.append_assoc]
        exact List.perm_append_comm_assoc g0 g (g2 ++ f2)
/-- the object at a place rewritten -/
theorem Rel.mutP {s : Sta} {σ : L2.St} {p : Pl} {d : D} {b : Addr} (R : Rel K T m M G H s σ) (e : p.get s = some d) (hb : PlAt T m H s σ b p) {o' : HO} {d' : D} (ho : ObD K m M o' d') : Rel K T m M G (upd H b o') (p.put (.own d') s) σ := by
  have R0 := R
  obtain ⟨mh, gh, _⟩ := R0
  obtain ⟨b', o, f1, f2, rest, h1, h2, h3, p1, nd, dj, k⟩ := R.cut e
  have eb : b' = b := by
    cases p with
    | nm i =>
      have h1 : σ[i]? = some (some (.ref b')) := h1
      have hb : σ[i]? = some (some (.ref b)) := hb
      rw [h1] at hb; cases hb; rfl
    | fld c f i =>
      obtain ⟨j, ob, a, a1, a0, a2, a3, a4, a5⟩ := h1
      obtain ⟨j', ob', a', b1, b0, b2, b3, b4, b5⟩ := hb
      rw [a1] at b1; cases b1
      rw [a2] at b2; cases b2
      rw [a4] at b4; cases b4
      rcases a5 with ⟨n1, _, dx, fs, a5, a6⟩ | ⟨n1, a5⟩ <;> rcases b5 with ⟨n2, _, dx', fs', b5, b6⟩ | ⟨n2, b5⟩
      · rw [a5] at b5
        injection b5 with b5
        have b5 := obH_inj b5
        subst b5
        rw [a6] at b6; cases b6
        rfl
      · exact absurd n2 n1
      · exact absurd n1 n2
      · exact a5.symm.trans b5
    | ob j =>
      obtain ⟨ob, a1, a2, a3⟩ := h1
      obtain ⟨ob', b1, b2, b3⟩ := hb
      rw [a3] at b3; cases b3
      rfl
    | tp i k =>
      obtain ⟨t, vs, us, a1, a2, a3, a4⟩ := h1
      obtain ⟨t', vs', us', b1, b2, b3, b4⟩ := hb
      rw [a1] at b1; cases b1
      rw [a2] at b2; cases b2
      rw [a4] at b4; cases b4
      rfl
  subst eb
  have nd' := List.nodup_cons.mp (p1.nodup_iff.mp nd)
  have djb := dj b' (p1.mem_iff.mpr (List.mem_cons_self ..))
  obtain ⟨f1', f2', q1, q2, q3⟩ := k M (upd H b' o') (.own d') [b'] (Same.refl _) (fun a ha => upd_ne fun z => nd'.1 (by rw [← z]; exact ha)) (fun _ _ h => nomatch h) ⟨b', o', rfl, rfl, upd_same, ho⟩
  have q4 : List.Perm (f1' ++ f2') (f1 ++ f2) := q3.trans p1.symm
  refine ⟨fun c u e => ?_, fun c u e => ?_, f1', f2', q1, q2, q4.nodup_iff.mpr nd, fun a ha => dj a (q4.mem_iff.mp ha)⟩
  · rw [upd_ne (fun z => by rw [z, djb.1] at e; cases e)]
    exact mh _ _ e
  · rw [upd_ne (fun z => by rw [z, djb.2] at e; cases e)]
    exact gh _ _ e
/-- the object at a place is shared from now on -/
theorem Rel.frzP {al : Bool} {s : Sta} {σ : L2.St} {p : Pl} {d : D} (R : Rel K T m M G H s σ) (e : p.get s = some d) : ∃ M' b, Ext al G m M m M' ∧ PlAt T m H s σ b p ∧ DR K m M' (.ref b) d ∧ Rel K T m M' G H (p.put (.v d) s) σ := by
  have R0 := R
  obtain ⟨mh, gh, _⟩ := R0
  obtain ⟨b, o, f1, f2, rest, h1, h2, h3, p1, nd, dj, k⟩ := R.cut e
  have nd' := List.nodup_cons.mp (p1.nodup_iff.mp nd)
  have djb := dj b (p1.mem_iff.mpr (List.mem_cons_self ..))
  have mm : Same M (upd M b o) := Same.upd djb.1
  have hd : DR K m (upd M b o) (.ref b) d := (h3.mono (MLe.refl _) mm).dr (Same.refl _) upd_same
  obtain ⟨f1', f2', q1, q2, q3⟩ := k (upd M b o) H (.v d) [] mm (fun a ha => rfl) (fun _ _ h => nomatch h) ⟨rfl, _, rfl, hd⟩
  have q3 : List.Perm (f1' ++ f2') rest := q3
  refine ⟨upd M b o, b, ⟨MLe.refl _, fun _ => rfl, mm, fun c u e => ?_⟩, h1, hd, fun c u e => ?_, gh, f1', f2', q1, q2, q3.nodup_iff.mpr nd'.2, fun a ha => ?_⟩
  · by_cases hc : c = b
    · subst hc; exact .inr djb.2
    · rw [upd_ne hc] at e; exact .inl e
  · by_cases hc : c = b
    · subst hc; rw [upd_same] at e; rw [← e]; exact h2
    · rw [upd_ne hc] at e; exact mh _ _ e
  · have har := q3.mem_iff.mp ha
    have hne : a ≠ b := fun z => nd'.1 (by rw [← z]; exact har)
    have := dj a (p1.mem_iff.mpr (List.mem_cons_of_mem _ har))
    exact ⟨by rw [upd_ne hne]; exact this.1, this.2⟩
end
/-- an expression that means a place -/
def PlOk (X : Cx) (T : Tab) (e : Expr) (p : Pl) : Prop := ∃ te, PE X e te ∧ ∀ (m : List Addr) (H : Hp) (s : Sta) (σ : L2.St) (b : Addr) (Q : VK), PlAt T m H s σ b p → Q (.ref b) H → te σ H Q
section
variable {X : Cx} {T : Tab}
theorem pl_nm {i : Nat} {x : Str} {px : Pos} (h : PE X (.Name x px) (tVar i)) : PlOk X T (.Name x px) (.nm i) := ⟨_, h, fun m H s σ b Q hb q => ⟨_, hb, q⟩⟩
end
end MP

namespace MP
open PySem PySem.Spec PyProof.Rows L2

def keyD : D → Option Key
  | .int i => some (.inl i)
  | .str x => some (.inr x)
  | _ => none
def valD (kvs : List (Key × D)) (k : Key) : Option D := (kvs.find? fun kv => decide (kv.1 = k)).map (·.2)
def putD (kvs : List (Key × D)) (k : Key) (v : D) : List (Key × D) :=
  if (kvs.any fun kv => decide (kv.1 = k)) = true then kvs.map (fun kv => if kv.1 = k then (kv.1, v) else kv) else kvs ++ [(k, v)]
def dropD (kvs : List (Key × D)) (k : Key) : List (Key × D) := kvs.filter fun kv => decide (kv.1 ≠ k)
section
variable {K : PySem.W.Frag} {m : List Addr} {M H : Hp}
theorem DR.key {y : V} {d : D} {k : Key} (h : DR K m M y d) (e : keyD d = some k) : y = kV k := by
  cases h <;> cases e <;> rfl
theorem RR.key {y : V} {r : RV} {k : Key} (h : Arg K m M H y r.d) (e : keyD r.d = some k) : y = kV k := by
  obtain ⟨kk, d⟩ := r
  cases d <;> cases e
  · rw [h.int]; rfl
  · rw [h.str]; rfl
theorem DRk.val : ∀ {xs : List (Key × V)} {ds : List (Key × D)}, DRk K m M xs ds → ∀ k, (valD ds k = none ∧ valV xs k = none) ∨ ∃ d v, valD ds k = some d ∧ valV xs k = some v ∧ DR K m M v d
  | _, _, .nil, k => .inl ⟨rfl, rfl⟩
  | _, _, .cons (k := k0) (v := v0) (d := d0) r t, k => by
    by_cases h : k0 = k
    · subst h
      refine .inr ⟨_, _, ?_, valV_pos rfl, r⟩
      simp [valD, List.find?_cons]
    · have e1 : ∀ ds : List (Key × D), valD ((k0, d0) :: ds) k = valD ds k := fun ds => by simp [valD, List.find?_cons, h]
      rw [e1, valV_neg (p := (k0, v0)) h]
      exact DRk.val t k
theorem DRk.any : ∀ {xs : List (Key × V)} {ds : List (Key × D)}, DRk K m M xs ds → ∀ k, (xs.any fun kv => decide (kv.1 = k)) = (ds.any fun kv => decide (kv.1 = k))
  | _, _, .nil, k => rfl
  | _, _, .cons r t, k => by rw [List.any_cons, List.any_cons, DRk.any t k]
theorem DRk.map {k : Key} {v : V} {d : D} (r : DR K m M v d) : ∀ {xs : List (Key × V)} {ds : List (Key × D)}, DRk K m M xs ds → DRk K m M (xs.map fun kv => if kv.1 = k then (kv.1, v) else kv) (ds.map fun kv => if kv.1 = k then (kv.1, d) else kv)
  | _, _, .nil => .nil
  | _, _, .cons (k := k0) r0 t => by
    rw [List.map_cons, List.map_cons]
    by_cases h : k0 = k
    · rw [if_pos h, if_pos h]; exact .cons r (DRk.map r t)
    · rw [if_neg h, if_neg h]; exact .cons r0 (DRk.map r t)
theorem DRk.app : ∀ {xs ys : List (Key × V)} {us ws : List (Key × D)}, DRk K m M xs us → DRk K m M ys ws → DRk K m M (xs ++ ys) (us ++ ws)
  | _, _, _, _, .nil, s => s
  | _, _, _, _, .cons r t, s => .cons r (DRk.app t s)
theorem DRk.put {k : Key} {v : V} {d : D} (r : DR K m M v d) {xs : List (Key × V)} {ds : List (Key × D)} (h : DRk K m M xs ds) : DRk K m M (putK xs k v) (putD ds k d) := by
  unfold putK putD
  rw [h.any k]
  by_cases c : (ds.any fun kv => decide (kv.1 = k)) = true
  · rw [if_pos c, if_pos c]; exact h.map r
  · rw [if_neg c, if_neg c]; exact h.app (.cons r .nil)
theorem DRk.drop {k : Key} : ∀ {xs : List (Key × V)} {ds : List (Key × D)}, DRk K m M xs ds → DRk K m M (dropK xs k) (dropD ds k)
  | _, _, .nil => .nil
  | _, _, .cons (k := k0) r t => by
    unfold dropK dropD
    rw [List.filter_cons, List.filter_cons]
    by_cases h : k0 ≠ k
    · rw [if_pos (by simpa using h), if_pos (by simpa using h)]; exact .cons r (DRk.drop t)
    · rw [if_neg (by simpa using h), if_neg (by simpa using h)]; exact DRk.drop t
theorem DRk.len : ∀ {xs : List (Key × V)} {ds : List (Key × D)}, DRk K m M xs ds → xs.length = ds.length
  | _, _, .nil => rfl
  | _, _, .cons _ t => by simp [DRk.len t]
theorem DRk.keys : ∀ {xs : List (Key × V)} {ds : List (Key × D)}, DRk K m M xs ds → xs.map (·.1) = ds.map (·.1)
  | _, _, .nil => rfl
  | _, _, .cons _ t => by rw [List.map_cons, List.map_cons, DRk.keys t]
end

section
variable {X : Cx} {T : Tab} {W : WX} {a b o i : Expr} {pos : Pos} {fa fb : Sta → PR RV}
def rDIn (neg : Bool) : R2 := fun y x H Q => ∃ a o, x = .ref a ∧ DGet H a y o ∧ Q (.bl (o.isSome != neg)) H
theorem op_dNotIn (hu : X.A.units + 1 < cLine) : OpR X (compareOp .NotIn) (rDIn true) := by
  intro pins s σ H x y v u Q I rx ry h
  obtain ⟨a, o, rfl, g, q⟩ := h
  cases ry
  refine d_notIn hu I g rx fun s3 I3 => ⟨.bl (!o.isSome), H, I3, rfl, ?_⟩
  rw [Bool.bne_true] at q
  exact q
def gDInB (neg : Bool) (kvs : List (Key × D)) : Option Key → Option RV
  | some k => some (sh (.bool ((valD kvs k).isSome != neg)))
  | none => none
def gDInN (neg : Bool) (d1 : D) : D → Option RV
  | .dic kvs => gDInB neg kvs (keyD d1)
  | _ => none
def gDNin : D → D → Option RV := gDInN true
theorem r_dIn (K : PySem.W.Frag) (neg : Bool) : R2Ok K (rDIn neg) (gDInN neg) := by
  intro m M H x y d1 d2 res Q s a1 a2 e k
  unfold gDInN at e
  split at e
  · rename_i kvs
    unfold gDInB at e
    cases hk : keyD d1 with
    | none => rw [hk] at e; cases e
    | some key =>
      rw [hk] at e
      cases e
      obtain ⟨p, xs, rfl, h1, r1⟩ := a2.dic s
      refine ⟨p, valV xs key, rfl, ?_, ?_⟩
      · rw [RR.key (r := ⟨.sh, d1⟩) a1 hk]
        exact DGet.k h1
      · have e2 : (valV xs key).isSome = (valD kvs key).isSome := by
          rcases r1.val key with ⟨z1, z2⟩ | ⟨d, v, z1, z2, _⟩ <;> rw [z1, z2] <;> rfl
        rw [e2]
        exact k _ H M (Grow.refl s) (.bl _)
  · cases e
theorem ok_dNin (hu : X.A.units + 1 < cLine) : Op2Ok X (compareOp .NotIn) gDNin := ⟨_, op_dNotIn hu, r_dIn _ _⟩
def rDGet : R2 := fun x y H Q => ∃ a v, x = .ref a ∧ DGet H a y (some v) ∧ Q v H
def gDGetB (kvs : List (Key × D)) : Option Key → Option RV
  | some k => (valD kvs k).map sh
  | none => none
def gDGet : D → D → Option RV
  | .dic kvs, k => gDGetB kvs (keyD k)
  | _, _ => none
theorem r_dGet (K : PySem.W.Frag) : R2Ok K rDGet gDGet := by
  intro m M H x y d1 d2 res Q s a1 a2 e k
  unfold gDGet at e
  split at e
  · rename_i kvs
    unfold gDGetB at e
    cases hk : keyD d2 with
    | none => rw [hk] at e; cases e
    | some key =>
      rw [hk] at e
      obtain ⟨p, xs, rfl, h1, r1⟩ := a1.dic s
      rcases r1.val key with ⟨z1, z2⟩ | ⟨d, v, z1, z2, r⟩
      · dsimp only at e; rw [z1] at e; cases e
      · dsimp only at e
        rw [z1] at e
        cases e
        refine ⟨p, v, rfl, ?_, k _ H M (Grow.refl s) r⟩
        rw [← z2, RR.key (r := ⟨.sh, d2⟩) a2 hk]
        exact DGet.k h1
  · cases e
theorem ev_dget (hu : X.A.units + 1 < cLine) (ho : PEv X T W o fa) (hi : PEv X T W i fb) (hs : NoSl i) : PEv X T W (.Subscript o i pos) (p2 gDGet fa fb) :=
  PE.wk (pe_dget hu ho hi hs) fun σ H Q h => tOp_of (r := rDGet) (r_dGet X.K) h
end
end MP

namespace MP
open PySem PySem.Spec PyProof.Rows L2

section
variable {X : Cx} {T : Tab} {W : WX} {a b o i e value : Expr} {pos pos' apos cpos : Pos} {fa fb : Sta → PR RV}
end

section
variable {X : Cx} {T : Tab} {W : WX} {al : Bool} {m : List Addr} {M G H : Hp} {o i e value : Expr} {pos pos' apos cpos : Pos} {p : Pl}
theorem Rel.plAt {K : PySem.W.Frag} {s : Sta} {σ : L2.St} (R : Rel K T m M G H s σ) {d : D} (e : p.get s = some d) : ∃ b o, PlAt T m H s σ b p ∧ H b = some o ∧ ObD K m M o d := by
  obtain ⟨b, o, f1, f2, rest, h1, h2, h3, _⟩ := R.cut e
  exact ⟨b, o, h1, h2, h3⟩
theorem PlAt.up {H' : Hp} {s : Sta} {σ : L2.St} {b : Addr} (h : PlAt T m H s σ b p) (hs : Same H H') : PlAt T m H' s σ b p := by
  cases p with
  | nm i => exact h
  | fld c f i =>
    obtain ⟨j, ob, a, a1, a0, a2, a3, a4, a5⟩ := h
    rcases a5 with ⟨n, hn, dx, fs, a5, a6⟩ | a5
    · exact ⟨j, ob, a, a1, a0, a2, a3, a4, .inl ⟨n, hn, dx, fs, hs _ _ a5, a6⟩⟩
    · exact ⟨j, ob, a, a1, a0, a2, a3, a4, .inr a5⟩
  | ob j => exact h
  | tp i k =>
    obtain ⟨t, vs, us, h1, h2, h3, h4⟩ := h
    exact ⟨t, vs, us, h1, hs _ _ h2, h3, h4⟩
theorem put_len {sl : Slot} {s : Sta} : (p.put sl s).st.length = s.st.length := by
  cases p with
  | nm i => rfl
  | fld c f i =>
    show (putA f _ s.st s.env[i]?).length = _
    unfold putA
    split
    · unfold putB
      split
      · rw [List.length_set]
      · rfl
    · rfl
  | ob j =>
    show (putB 0 sl s.st j s.st[j]?).length = _
    unfold putB
    split
    · rw [List.length_set]
    · rfl
  | tp i k => rfl
/-- x.append(e) at a place -/
def xAP1 (p : Pl) (s : Sta) (ds : List D) : PR D → Fl
  | .ok d => if ds.length < 16777216 then .nx (p.put (.own (.list (ds ++ [d]))) s) else .stuck
  | .exc e => .exc e s
  | .stuck => .stuck
def xAP0 (p : Pl) (s : Sta) (rv : PR D) : Option D → Fl
  | some (.list ds) => xAP1 p s ds rv
  | _ => .stuck
theorem Rel.consV {s : Sta} {σ : L2.St} {y : V} {d : D} (R : Rel X.K T m M G H s σ) (r : DR X.K m M y d) : Rel X.K T m M G H ⟨.v d :: s.env, s.st⟩ (some y :: σ) := R.consU.setV 0 (d := d) r
end
end MP

namespace MP
open PySem PySem.Spec PyProof.Rows L2

/-- a value that is shared, and the state behind -/
inductive Fd where
  | ok (d : D) (s : Sta) | exc (e : Ex) (s : Sta) | stuck
inductive Ft where
  | ok (b : Bool) (s : Sta) | exc (e : Ex) (s : Sta) | stuck
section
variable (X : Cx) (T : Tab) (W : WX)
def FdP (al : Bool) (G : Hp) (m : List Addr) (M : Hp) (σ : L2.St) (Q : VK) : Fd → Prop
  | .ok d s' => ∀ y H' m' M', Ext al G m M m' M' → AL al m' s' → Rel X.K T m' M' G H' s' σ → DR X.K m' M' y d → Q y H'
  | .exc e s' => ∀ cls d H' m' M', Ext al G m M m' M' → AL al m' s' → Rel X.K T m' M' G H' s' σ → ExR X.K T m' M' H' e cls d → W cls d σ H'
  | .stuck => False
def FtP (al : Bool) (G : Hp) (m : List Addr) (M : Hp) (σ : L2.St) (Q : Bool → Hp → Prop) : Ft → Prop
  | .ok b s' => ∀ H' m' M', Ext al G m M m' M' → AL al m' s' → Rel X.K T m' M' G H' s' σ → Q b H'
  | .exc e s' => ∀ cls d H' m' M', Ext al G m M m' M' → AL al m' s' → Rel X.K T m' M' G H' s' σ → ExR X.K T m' M' H' e cls d → W cls d σ H'
  | .stuck => False
def tFD (al : Bool) (g : Sta → Fd) : TE := fun σ H Q => ∃ s m M G, Rel X.K T m M G H s σ ∧ AL al m s ∧ FdP X T W al G m M σ Q (g s)
def tFT (al : Bool) (g : Sta → Ft) : TT := fun σ H Q => ∃ s m M G, Rel X.K T m M G H s σ ∧ AL al m s ∧ FtP X T W al G m M σ Q (g s)
abbrev FDv (al : Bool) (e : Expr) (g : Sta → Fd) : Prop := PE X e (tFD X T W al g)
abbrev FTv (al : Bool) (e : Expr) (g : Sta → Ft) : Prop := PT X e (tFT X T W al g)
end
section
variable {X : Cx} {T : Tab} {W : WX} {al : Bool} {m m' : List Addr} {M M' G H H' : Hp} {a b c e o : Expr} {es : List Expr} {pos p : Pos} {n k : Nat} {sem : Sem} {x : Str}
def xdF : Fe → Fd
  | .ok (.v d) s => .ok d s
  | .ok (.own d) s => .ok d s
  | .ok _ _ => .stuck
  | .exc e s => .exc e s
  | .stuck => .stuck
def dF (g : Sta → Fe) : Sta → Fd := fun s => xdF (g s)
theorem fd_fe {g : Sta → Fe} (h : FEv X T W al e g) : FDv X T W al e (dF g) := by
  refine PE.wk h ?_
  rintro σ H Q ⟨s, m, M, G, R, a, q⟩
  refine ⟨s, m, M, G, R, a, ?_⟩
  unfold dF at q
  revert q
  cases g s with
  | ok r s' =>
    cases r with
    | un => intro q; exact q.elim
    | hid _ => intro q; exact q.elim
    | tpo _ _ => intro q; exact q.elim
    | v d => intro q y H' m' M' e' a' R'; exact q y H' m' M' e' a' R'.tail R'.head
    | own d =>
      intro q y H' m' M' e' a' R'
      obtain ⟨M2, b, e2, h1, h2, R2⟩ := R'.frzP (al := al) (p := .nm 0) (d := d) rfl
      have h1 : (some y :: σ)[0]? = some (some (V.ref b)) := h1
      have ey : y = V.ref b := by simpa using h1
      subst ey
      exact q _ H' m' M2 (e'.trans e2) a' R2.tail h2
  | exc x s' => intro q; exact q
  | stuck => intro q; exact q
def xd2c (s : Sta) : Option RV → Fd
  | some ⟨.sh, d⟩ => .ok d s
  | some ⟨.fr, d⟩ => .ok d s
  | _ => .stuck
def xd2b (g : D → D → Option RV) (x : D) : Fd → Fd
  | .ok y s => xd2c s (g x y)
  | .exc e s => .exc e s
  | .stuck => .stuck
def xd2 (g : D → D → Option RV) (fb : Sta → Fd) : Fd → Fd
  | .ok x s => xd2b g x (fb s)
  | .exc e s => .exc e s
  | .stuck => .stuck
def d2 (g : D → D → Option RV) (fa fb : Sta → Fd) : Sta → Fd := fun s => xd2 g fb (fa s)
def xtB : Fd → Ft
  | .ok (.bool b) s => .ok b s
  | .ok _ _ => .stuck
  | .exc e s => .exc e s
  | .stuck => .stuck
def tB' (f : Sta → Fd) : Sta → Ft := fun s => xtB (f s)
theorem tB_fd {f : Sta → Fd} {σ : L2.St} {H : Hp} {Q : Bool → Hp → Prop} (h : tFT X T W al (tB' f) σ H Q) : tFD X T W al f σ H (fun x H' => ∃ k, x = .bl k ∧ Q k H') := by
  obtain ⟨s, m, M, G, R, a, q⟩ := h
  refine ⟨s, m, M, G, R, a, ?_⟩
  unfold tB' at q
  revert q
  cases f s with
  | ok d s1 =>
    intro q y H' m' M' e' a' R' r
    cases d <;> try (exact q.elim)
    rename_i b
    cases r
    exact ⟨b, rfl, q H' m' M' e' a' R'⟩
  | exc x s1 => intro q; exact q
  | stuck => intro q; exact q
theorem ft_val {f : Sta → Fd} (h : FDv X T W al e f) (he : ∀ whole, isTrue e X.env whole = (do let v ← whole; standAt e.pos; holding [v] (truthy v)) := by intro _; rfl) : FTv X T W al e (tB' f) :=
  PT.wk (pt_val h he) fun σ H Q h => tB_fd h
def xtP (s : Sta) : PR Bool → Ft
  | .ok b => .ok b s
  | .exc e => .exc e s
  | .stuck => .stuck
def tP' (f : Sta → PR Bool) : Sta → Ft := fun s => xtP s (f s)
def xtN : Ft → Ft
  | .ok b s => .ok (!b) s
  | .exc e s => .exc e s
  | .stuck => .stuck
def tN' (f : Sta → Ft) : Sta → Ft := fun s => xtN (f s)
theorem ft_not {f : Sta → Ft} (h : FTv X T W al a f) : FTv X T W al (.UnaryOp .Not a pos) (tN' f) := by
  refine PT.wk (pt_not h) ?_
  rintro σ H Q ⟨s, m, M, G, R, a, q⟩
  refine ⟨s, m, M, G, R, a, ?_⟩
  unfold tN' at q
  revert q
  cases f s with
  | ok b s1 => intro q; exact q
  | exc x s1 => intro q; exact q
  | stuck => intro q; exact q
def xtA (g : Sta → Ft) : Ft → Ft
  | .ok true s => g s
  | .ok false s => .ok false s
  | .exc e s => .exc e s
  | .stuck => .stuck
def tA' (f g : Sta → Ft) : Sta → Ft := fun s => xtA g (f s)
def xtO (g : Sta → Ft) : Ft → Ft
  | .ok true s => .ok true s
  | .ok false s => g s
  | .exc e s => .exc e s
  | .stuck => .stuck
def tO' (f g : Sta → Ft) : Sta → Ft := fun s => xtO g (f s)
theorem FtP.pre {σ : L2.St} {Q : Bool → Hp → Prop} {m1 : List Addr} {M1 : Hp} {f : Ft} (e : Ext al G m M m1 M1) (h : FtP X T W al G m M σ Q f) : FtP X T W al G m1 M1 σ Q f := by
  cases f with
  | ok b s => exact fun H' m' M' e' => h H' m' M' (e.trans e')
  | exc x s => exact fun cls d H' m' M' e' => h cls d H' m' M' (e.trans e')
  | stuck => exact h
variable {g1 g2 : Sta → Fl}
def xsIf (g1 g2 : Sta → Fl) : Ft → Fl
  | .ok true s => g1 s
  | .ok false s => g2 s
  | .exc e s => .exc e s
  | .stuck => .stuck
def sIfT (t : Sta → Ft) (g1 g2 : Sta → Fl) : Sta → Fl := fun s => xsIf g1 g2 (t s)
theorem s_ifT {A B : List Stmt} {t : Sta → Ft} (hc : FTv X T W al c t) (ha : SEv X T W al A g1) (hb : SEv X T W al B g2) : SE1 X T W al (.If c A B pos) (sIfT t g1 g2) := by
  refine PS.wk (ps_if hc ha hb) ?_
  rintro D σ H ⟨s, m, M, G, R, a, q⟩
  refine ⟨s, m, M, G, R, a, ?_⟩
  unfold sIfT at q
  revert q
  cases t s with
  | ok b s1 =>
    cases b with
    | true => intro q H1 m1 M1 e1 a1 R1; exact ⟨s1, m1, M1, G, R1, a1, FlP.ext q e1⟩
    | false => intro q H1 m1 M1 e1 a1 R1; exact ⟨s1, m1, M1, G, R1, a1, FlP.ext q e1⟩
  | exc x s1 => intro q cls d H' m' M' e' a' R' xr; exact q cls d σ H' m' M' e' a' R' xr
  | stuck => intro q; exact q
def xdS (k : D → Sta → Fl) : Fd → Fl
  | .ok d s => k d s
  | .exc e s => .exc e s
  | .stuck => .stuck
theorem tFD_fl {f : Sta → Fd} {k : D → Sta → Fl} {Dn : Ends} {σ : L2.St} {Q : VK} {s : Sta} (R : Rel X.K T m M G H s σ) (a : AL al m s) (q : FlP X T W al G m M Dn (xdS k (f s)))
    (h : ∀ d s' y H' m' M', Ext al G m M m' M' → AL al m' s' → Rel X.K T m' M' G H' s' σ → DR X.K m' M' y d → FlP X T W al G m' M' Dn (k d s') → Q y H') : tFD X T W al f σ H Q := by
  refine ⟨s, m, M, G, R, a, ?_⟩
  revert q
  cases f s with
  | ok d s1 => intro q y H' m' M' e' a' R' r; exact h d s1 y H' m' M' e' a' R' r (FlP.ext q e')
  | exc x s1 => intro q cls d H' m' M' e' a' R' xr; exact q cls d σ H' m' M' e' a' R' xr
  | stuck => intro q; exact q
def xSD (i : Nat) (d : D) (s : Sta) : Fl := .nx ⟨s.env.set i (.v d), s.st⟩
def sSetD (i : Nat) (f : Sta → Fd) : Sta → Fl := fun s => xdS (xSD i) (f s)
theorem s_setD {i : Nat} {x : Str} {pos' : Pos} {f : Sta → Fd} (hN : X.N.Nodup) (hi : X.N[i]? = some x) (hx : Loc X.env.scope x) (he : FDv X T W al e f) (hs : swapsWith e (some (.Name x pos')) pos.line X.env = pure false := by rfl) (hf : X.fn x = true ∨ X.env.scope.names.lookup x = some .local := by first | exact .inl rfl | exact .inr rfl | assumption) :
    SE1 X T W al (.Assign [.Name x pos'] e pos) (sSetD i f) := by
  refine PS.wk (ps_set hN hi hx he hs hf) ?_
  rintro D σ H ⟨s, m, M, G, R, a, q⟩
  exact tFD_fl R a q fun d s' y H' m' M' e' a' R' r k => k _ H' m' M' (Ext.refl ..) a' (R'.setV i r)
end
end MP

namespace MP
open PySem PySem.Spec PyProof.Rows L2
section
variable {env : List Slot} {st : List Ob}
theorem e_getN (i : Nat) : (Pl.nm i).get ⟨env, st⟩ = owS env[i]? := Eq.trans rfl rfl
theorem e_getF (c f i : Nat) : (Pl.fld c f i).get ⟨env, st⟩ = owF c f st env[i]? := Eq.trans rfl rfl
theorem e_owSo (d : D) : owS (some (.own d)) = some d := Eq.trans rfl rfl
theorem e_owF (c f j : Nat) : owF c f st (some (.v (.obj j))) = owO c f st[j]? := Eq.trans rfl rfl
theorem e_owO {c f : Nat} {ob : Ob} (h : ob.cls = c) : owO c f (some ob) = owS (lkS f ob.fs) := if_pos h
theorem e_lkS0 (f : Nat) (s : Slot) (r : List (Nat × Slot)) : lkS f ((f, s) :: r) = some s := if_pos rfl
theorem e_lkS1 {f g : Nat} {s : Slot} {r : List (Nat × Slot)} (h : f ≠ g) : lkS f ((g, s) :: r) = lkS f r := if_neg h
theorem e_putN (i : Nat) (sl : Slot) : (Pl.nm i).put sl ⟨env, st⟩ = ⟨env.set i sl, st⟩ := Eq.trans rfl rfl
theorem e_putF (c f i : Nat) (sl : Slot) : (Pl.fld c f i).put sl ⟨env, st⟩ = ⟨env, putA f sl st env[i]?⟩ := Eq.trans rfl rfl
theorem e_putA (f j : Nat) (sl : Slot) : putA f sl st (some (.v (.obj j))) = putB f sl st j st[j]? := Eq.trans rfl rfl
theorem e_putB (f j : Nat) (sl : Slot) (ob : Ob) : putB f sl st j (some ob) = st.set j ⟨ob.cls, putO f sl ob.fs⟩ := Eq.trans rfl rfl
theorem q_keyI (i : Int) : keyD (.int i) = some (.inl i) := Eq.trans rfl rfl
theorem q_keyS (x : Str) : keyD (.str x) = some (.inr x) := Eq.trans rfl rfl
theorem g_dNin (x : D) (kvs : List (Key × D)) : gDNin x (.dic kvs) = gDInB true kvs (keyD x) := Eq.trans rfl rfl
theorem g_dInBf (kvs : List (Key × D)) (k : Key) : gDInB false kvs (some k) = some ⟨.sh, .bool (valD kvs k).isSome⟩ := by
  show some (sh (.bool ((valD kvs k).isSome != false))) = _
  rw [Bool.bne_false]
theorem g_dInBt (kvs : List (Key × D)) (k : Key) : gDInB true kvs (some k) = some ⟨.sh, .bool (!(valD kvs k).isSome)⟩ := by
  show some (sh (.bool ((valD kvs k).isSome != true))) = _
  rw [Bool.bne_true]
theorem g_dGet (x : D) (kvs : List (Key × D)) : gDGet (.dic kvs) x = gDGetB kvs (keyD x) := Eq.trans rfl rfl
theorem g_dGetB (kvs : List (Key × D)) (k : Key) : gDGetB kvs (some k) = (valD kvs k).map (RV.mk .sh) := Eq.trans rfl rfl
theorem s_xAP0 (p : Pl) (s : Sta) (rv : PR D) (ds : List D) : xAP0 p s rv (some (.list ds)) = xAP1 p s ds rv := Eq.trans rfl rfl
theorem s_xAP1 {p : Pl} {s : Sta} {ds : List D} {d : D} (h : ds.length < 16777216) : xAP1 p s ds (.ok d) = .nx (p.put (.own (.list (ds ++ [d]))) s) := if_pos h
theorem e_dF (g : Sta → Fe) : dF g ⟨env, st⟩ = xdF (g ⟨env, st⟩) := Eq.trans rfl rfl
theorem e_xdFv (d : D) (s : Sta) : xdF (.ok (.v d) s) = .ok d s := Eq.trans rfl rfl
theorem e_xdFo (d : D) (s : Sta) : xdF (.ok (.own d) s) = .ok d s := Eq.trans rfl rfl
theorem e_xdFe (e : Ex) (s : Sta) : xdF (.exc e s) = .exc e s := Eq.trans rfl rfl
theorem e_d2 (g : D → D → Option RV) (fa fb : Sta → Fd) : d2 g fa fb ⟨env, st⟩ = xd2 g fb (fa ⟨env, st⟩) := Eq.trans rfl rfl
theorem e_xd2 (g : D → D → Option RV) (fb : Sta → Fd) (d : D) (s : Sta) : xd2 g fb (.ok d s) = xd2b g d (fb s) := Eq.trans rfl rfl
theorem e_xd2b (g : D → D → Option RV) (d e : D) (s : Sta) : xd2b g d (.ok e s) = xd2c s (g d e) := Eq.trans rfl rfl
theorem e_xd2cs (s : Sta) (d : D) : xd2c s (some ⟨.sh, d⟩) = .ok d s := Eq.trans rfl rfl
theorem e_xd2cf (s : Sta) (d : D) : xd2c s (some ⟨.fr, d⟩) = .ok d s := Eq.trans rfl rfl
theorem t_B (f : Sta → Fd) : tB' f ⟨env, st⟩ = xtB (f ⟨env, st⟩) := Eq.trans rfl rfl
theorem t_xB (b : Bool) (s : Sta) : xtB (.ok (.bool b) s) = .ok b s := Eq.trans rfl rfl
theorem t_xBe (e : Ex) (s : Sta) : xtB (.exc e s) = .exc e s := Eq.trans rfl rfl
theorem t_P (f : Sta → PR Bool) : tP' f ⟨env, st⟩ = xtP ⟨env, st⟩ (f ⟨env, st⟩) := Eq.trans rfl rfl
theorem t_xP (b : Bool) (s : Sta) : xtP s (.ok b) = .ok b s := Eq.trans rfl rfl
theorem t_N (f : Sta → Ft) : tN' f ⟨env, st⟩ = xtN (f ⟨env, st⟩) := Eq.trans rfl rfl
theorem t_xN (b : Bool) (s : Sta) : xtN (.ok b s) = .ok (!b) s := Eq.trans rfl rfl
theorem t_A (f g : Sta → Ft) : tA' f g ⟨env, st⟩ = xtA g (f ⟨env, st⟩) := Eq.trans rfl rfl
theorem t_xAT (g : Sta → Ft) (s : Sta) : xtA g (.ok true s) = g s := Eq.trans rfl rfl
theorem t_xAF (g : Sta → Ft) (s : Sta) : xtA g (.ok false s) = .ok false s := Eq.trans rfl rfl
theorem t_O (f g : Sta → Ft) : tO' f g ⟨env, st⟩ = xtO g (f ⟨env, st⟩) := Eq.trans rfl rfl
theorem t_xOT (g : Sta → Ft) (s : Sta) : xtO g (.ok true s) = .ok true s := Eq.trans rfl rfl
theorem t_xOF (g : Sta → Ft) (s : Sta) : xtO g (.ok false s) = g s := Eq.trans rfl rfl
theorem s_IfT (t : Sta → Ft) (g1 g2 : Sta → Fl) : sIfT t g1 g2 ⟨env, st⟩ = xsIf g1 g2 (t ⟨env, st⟩) := Eq.trans rfl rfl
theorem s_xsIfT (g1 g2 : Sta → Fl) (s : Sta) : xsIf g1 g2 (.ok true s) = g1 s := Eq.trans rfl rfl
theorem s_xsIfF (g1 g2 : Sta → Fl) (s : Sta) : xsIf g1 g2 (.ok false s) = g2 s := Eq.trans rfl rfl
theorem s_xsIfE (g1 g2 : Sta → Fl) (e : Ex) (s : Sta) : xsIf g1 g2 (.exc e s) = .exc e s := Eq.trans rfl rfl
theorem s_xdS (k : D → Sta → Fl) (d : D) (s : Sta) : xdS k (.ok d s) = k d s := Eq.trans rfl rfl
theorem s_xdSe (k : D → Sta → Fl) (e : Ex) (s : Sta) : xdS k (.exc e s) = .exc e s := Eq.trans rfl rfl
theorem s_SetD (i : Nat) (f : Sta → Fd) : sSetD i f ⟨env, st⟩ = xdS (xSD i) (f ⟨env, st⟩) := Eq.trans rfl rfl
theorem s_xSD (i : Nat) (d : D) : xSD i d ⟨env, st⟩ = .nx ⟨env.set i (.v d), st⟩ := Eq.trans rfl rfl
end
end MP

namespace MP
open PySem PySem.Spec PyProof.Rows L2
section
variable {X : Cx} {T : Tab} {W : WX} {al : Bool} {m : List Addr} {M G H : Hp} {o i value : Expr} {pos pos' : Pos} {p : Pl}
def xLP3 (p : Pl) (s : Sta) (ds : List D) (v : D) : Option Nat → Fl
  | some j => .nx (p.put (.own (.list (ds.set j v))) s)
  | none => .stuck
def xLP2 (p : Pl) (s : Sta) (ds : List D) (v : D) : D → Fl
  | .int k => xLP3 p s ds v (L2.ixN ds.length k)
  | _ => .stuck
def xLP1 (p : Pl) (s : Sta) (v : D) (ds : List D) : PR RV → Fl
  | .ok r => xLP2 p s ds v r.d
  | .exc e => .exc e s
  | .stuck => .stuck
def xLP0 (p : Pl) (s : Sta) (v : D) (rk : PR RV) : Option D → Fl
  | some (.list ds) => xLP1 p s v ds rk
  | _ => .stuck
end
section
variable {env : List Slot} {st : List Ob}
theorem s_xLP0 (p : Pl) (s : Sta) (rk : PR RV) (v : D) (ds : List D) : xLP0 p s v rk (some (.list ds)) = xLP1 p s v ds rk := Eq.trans rfl rfl
theorem s_xLP1 (p : Pl) (s : Sta) (v : D) (ds : List D) (k : RK) (j : Int) : xLP1 p s v ds (.ok ⟨k, .int j⟩) = xLP3 p s ds v (L2.ixN ds.length j) := Eq.trans rfl rfl
theorem s_xLP3 (p : Pl) (s : Sta) (v : D) (ds : List D) (j : Nat) : xLP3 p s ds v (some j) = .nx (p.put (.own (.list (ds.set j v))) s) := Eq.trans rfl rfl
end
end MP

namespace MP
open PySem PySem.Spec PyProof.Rows L2
section
variable {X : Cx}
end
end MP

namespace MP
open PySem PySem.Spec PyProof.Rows L2

section
variable {X : Cx} {T : Tab} {W : WX} {al : Bool} {G : Hp} {m m' : List Addr} {M M' H H' : Hp} {e o : Expr} {p pos : Pos} {f : Sta → PR RV}
def xBx (s : Sta) : PR RV → Fe
  | .ok ⟨.fr, d⟩ => .ok (.v (.obj s.st.length)) ⟨s.env, s.st ++ [⟨boxC, [(0, .own d)]⟩]⟩
  | .ok _ => .stuck
  | .exc e => .exc e s
  | .stuck => .stuck
def fBox (f : Sta → PR RV) : Sta → Fe := fun s => xBx s (f s)
theorem Rel.boxed {H0 M0 : Hp} {s : Sta} {σ : L2.St} (R : Rel X.K T m M0 G H0 s σ) (al : m.length = s.st.length) (g : Grow H0 M0 H M) {b : Addr} {o : HO} {d : D} (h0 : H0 b = Option.none) (hb : H b = some o) (hd : ObD X.K m M o d) (hM : M b = Option.none) :
    Rel X.K T (m ++ [b]) M G H ⟨s.env, s.st ++ [⟨boxC, [(0, .own d)]⟩]⟩ σ := by
  obtain ⟨mh, gh, ⟨f1, f2, h1, h2, nd, dj⟩⟩ := R
  have here : ∀ c ∈ f1 ++ f2, ∃ o, H0 c = some o := fun c hc => by
    rcases List.mem_append.mp hc with hc | hc
    · exact h1.here c hc
    · exact h2.here c hc
  have hh : ∀ c ∈ f1 ++ f2, H c = H0 c := fun c hc => by
    obtain ⟨o, ho⟩ := here c hc
    rw [ho]
    exact g.same _ _ ho
  have ml : MLe m (m ++ [b]) := MLe.snoc m b
  refine ⟨g.mh, gh.trans g.same, f1, f2 ++ [b], h1.mono ml g.mm fun c hc => hh c (by simp [hc]), ?_, ?_, fun c hc => ?_⟩
  · exact StoreR.snoc (h2.mono ml (MLe.refl _) g.mm fun c hc => hh c (by simp [hc])) al (.inr (.inl ⟨rfl, .own d, rfl, b, o, rfl, rfl, hb, hd.mono ml (Same.refl _)⟩))
  · rw [← List.append_assoc, List.nodup_append]
    refine ⟨nd, by simp, fun c hc d' hd' e => ?_⟩
    have : d' = b := by simpa using hd'
    subst this
    obtain ⟨o', ho'⟩ := here c hc
    rw [e, h0] at ho'
    cases ho'
  · rw [← List.append_assoc] at hc
    rcases List.mem_append.mp hc with hc | hc
    · obtain ⟨o', ho'⟩ := here c hc
      exact ⟨g.keepNone ho' (dj c hc).1, (dj c hc).2⟩
    · have : c = b := by simpa using hc
      subst this
      exact ⟨hM, gh.free h0⟩
theorem fe_box (h : PEv X T W e f) : FEv X T W true e (fBox f) := by
  refine PE.wk h ?_
  rintro σ H Q ⟨s, m, M, G, R, a, q⟩
  refine ⟨s, m, M, G, R, ?_⟩
  revert q
  unfold fBox
  cases hf : f s with
  | ok r =>
    obtain ⟨k, d⟩ := r
    cases k with
    | sh => intro q; exact q.elim
    | pk => intro q; exact q.elim
    | fr =>
      intro q y H1 M1 g rr
      obtain ⟨b, o, rfl, hb, hd, hM, h0⟩ := rr
      have R2 := R.boxed (a rfl) g h0 hb hd hM
      have mx : (m ++ [b])[s.st.length]? = some b := by rw [← a rfl]; simp
      refine q (.ref b) H1 (m ++ [b]) M1 ((Ext.grow g R.gh).trans ⟨MLe.snoc m b, (fun h => nomatch h), Same.refl _, fun _ _ h => .inl h⟩) (fun _ => by simp [a rfl]) ?_
      exact R2.consV (.obj mx)
  | exc x => intro q cls dd H1 M1 g xr; exact q cls dd H1 m M1 (Ext.grow g R.gh) a (R.grow g) xr
  | stuck => intro q; exact q.elim
/-- what stands in the box that a name holds -/
def xBox : Option D → PR RV
  | some d => .ok ⟨.pk, d⟩
  | none => .stuck
end

section
variable {X : Cx} {T : Tab} {W : WX} {o : Expr} {t : TE} {apos cpos pos pos' q : Pos} {fa : Sta → PR RV}
end

section
variable {X : Cx} {T : Tab} {W : WX}
theorem tLc_core {t : Tg} {vs : List Nat} {tt : Sta → PR Bool} {te : Sta → PR D} (hv : ∀ i ∈ t.ixs, i ∈ vs) {σ : L2.St} {H : Hp} {Q : VK} {s : Sta} {m : List Addr} {M G : Hp} (R : Rel X.K T m M G H s σ) {ds r : List D} (hl : ds.length ≤ 16777216)
    (hc : compL t tt te { s with env := wipeE s.env vs } ds = .ok r) (q : ∀ y H' M', Grow H M H' M' → RR X.K m M' H H' y (fr (.list r)) → Q y H') {J : It} (it : ItOk X.K m J ds M H) :
    ∀ D, H D = Option.none → ∃ Wf : Nat → Nat → Hp → Prop, (∃ μ, Wf 0 μ (upd H D (.lst []))) ∧ ∀ i μ H1, Wf i μ H1 →
      (J.stop i H1 ∧ Q (.ref D) H1) ∨ (J.go i H1 ∧ ∃ Nx : Hp → Prop, (∀ H', Nx H' → ∃ m', m' < μ ∧ Wf (i + 1) m' H') ∧ ∀ x H', J.yld i H1 x H' → tgR X.K t x (L2.wipe σ vs) H' fun σ2 H2 => L2.wipe σ2 vs = L2.wipe σ vs ∧ tT X T W0 tt σ2 H2 fun b H3 =>
        if b = true then tD X T W0 te σ2 H3 fun y H4 => ∃ acc, H4 D = some (.lst acc) ∧ acc.length < sizeLine ∧ Nx (upd H4 D (.lst (acc ++ [y]))) else Nx H3) := by
  intro D hD
  generalize hs0 : ({ s with env := wipeE s.env vs } : Sta) = s0 at hc
  have mh := R.mh
  have hM1D : M D = Option.none := mh.free hD
  refine ⟨fun i μ Hc => μ = ds.length - i ∧ i ≤ ds.length ∧ ∃ Mi acc dacc rest, Grow H M Hc Mi ∧ Mi D = Option.none ∧ Hc D = some (.lst acc) ∧ DRs X.K m Mi acc dacc ∧ acc.length ≤ i ∧ compL t tt te s0 (ds.drop i) = .ok rest ∧ dacc ++ rest = r,
    ⟨ds.length, rfl, Nat.zero_le _, M, [], [], r, Grow.fresh mh hD, hM1D, upd_same, .nil, Nat.le_refl _, hc, rfl⟩, ?_⟩
  rintro i μ Hc ⟨rfl, hi, Mi, acc, dacc, rest, gc, hMD, hHD, rD, hal, hcr, he⟩
  have iti := it i Mi Hc gc.mm gc.mh gc.same
  by_cases hlt : i < ds.length
  · have hd : ds[i]? = some ds[i] := by simp [hlt]
    have hdrop : ds.drop i = ds[i] :: ds.drop (i + 1) := List.drop_eq_getElem_cons hlt
    generalize ds[i] = d at hd hdrop
    obtain ⟨go, yld⟩ := iti.1 d hd
    refine .inr ⟨go, fun H' => ∃ Mi acc dacc rest, Grow H M H' Mi ∧ Mi D = Option.none ∧ H' D = some (.lst acc) ∧ DRs X.K m Mi acc dacc ∧ acc.length ≤ i + 1 ∧ compL t tt te s0 (ds.drop (i + 1)) = .ok rest ∧ dacc ++ rest = r,
      fun H' hN => ⟨ds.length - (i + 1), by omega, rfl, hlt, hN⟩, fun x H' hy => ?_⟩
    obtain ⟨M', gy, rx⟩ := yld x H' hy
    rw [hdrop, compL] at hcr
    cases hb : t.bind d s0.env with
    | none => rw [hb] at hcr; cases hcr
    | some env =>
      simp only [hb] at hcr
      have R0 : Rel X.K T m M' G H' s0 (L2.wipe σ vs) := by
        rw [← hs0]
        exact (R.wipe vs).grow (gc.trans gy)
      refine tgR_of (T := T) (G := G) hb rx R0 (Off.refl vs _) hv fun σ2 R2 o2 => ?_
      refine ⟨by rw [wipe_off o2]; exact wipe_off (Off.wipe vs σ), ?_⟩
      refine ⟨_, m, M', G, R2, ?_⟩
      cases ht : tt { s0 with env := env } with
      | ok b =>
        simp only [ht] at hcr
        intro H3 M3 g3
        cases b with
        | false =>
          rw [if_neg Bool.false_ne_true]
          have gg := gc.trans (gy.trans g3)
          have h1 := (gy.trans g3).same _ _ hHD
          exact ⟨M3, acc, dacc, rest, gg, (gy.trans g3).keepNone hHD hMD, h1, rD.up (gy.trans g3).mm, Nat.le_succ_of_le hal, hcr, he⟩
        | true =>
          rw [if_pos rfl]
          refine ⟨_, m, M3, G, R2.grow g3, ?_⟩
          cases hte : te { s0 with env := env } with
          | ok y =>
            simp only [hte, PR.bind] at hcr
            intro yv H4 M4 g4 ry
            have g34 := gy.trans (g3.trans g4)
            have h4 := g34.same _ _ hHD
            have hM4 := g34.keepNone hHD hMD
            cases hr : compL t tt te s0 (ds.drop (i + 1)) with
            | ok rest' =>
              simp only [hr] at hcr
              cases hcr
              refine ⟨acc, h4, by rw [sizeLine_eq]; omega, M4, acc ++ [yv], dacc ++ [y], rest', ?_, hM4, upd_same, (rD.up g34.mm).append (.cons ry .nil), by simp; omega, rfl, by rw [← he]; simp⟩
              have gg := gc.trans g34
              refine ⟨fun b o e => ?_, gg.mm, fun b o e => ?_, gg.new⟩
              · have hb : b ≠ D := fun z => by rw [z, hD] at e; cases e
                rw [upd_ne hb]
                exact gg.same _ _ e
              · have hb : b ≠ D := fun z => by rw [z, hM4] at e; cases e
                rw [upd_ne hb]
                exact gg.mh _ _ e
            | exc e => simp only [hr] at hcr; cases hcr
            | stuck => simp only [hr] at hcr; cases hcr
          | exc e => simp only [hte] at hcr; cases hcr
          | stuck => simp only [hte] at hcr; cases hcr
      | exc e => simp only [ht] at hcr; cases hcr
      | stuck => simp only [ht] at hcr; cases hcr
  · have hie : i = ds.length := by omega
    subst hie
    refine .inl ⟨iti.2 (Nat.le_refl _), ?_⟩
    rw [List.drop_length, compL] at hcr
    cases hcr
    rw [List.append_nil] at he
    subst he
    exact q _ Hc Mi gc ⟨D, _, rfl, hHD, .lst rD, hMD, hD⟩
theorem DRk.at {K : PySem.W.Frag} {m : List Addr} {H : Hp} : ∀ {vs : List (Key × V)} {ds : List (Key × D)} {i : Nat} {d : D}, DRk K m H vs ds → (ds.map (·.2))[i]? = some d → ∃ k v, vs[i]? = some (k, v) ∧ DR K m H v d
  | _, _, _, _, .nil, e => by simp at e
  | _, _, 0, _, .cons r _, e => by simp at e; subst e; exact ⟨_, _, rfl, r⟩
  | _, _, i + 1, d, .cons _ t, e => by
    obtain ⟨k, v, h1, h2⟩ := DRk.at t (i := i) (by simpa using e)
    exact ⟨k, v, by simpa using h1, h2⟩
variable {elt tg o : Expr} {ifs : List Expr} {scope : Scope} {own : List (Str × Nat)} {pos apos cpos : Pos} {p : Pl} {t : Tg} {tt : Sta → PR Bool} {te : Sta → PR D}
end

section
variable {X : Cx} {T : Tab} {W : WX} {al : Bool} {a b : Expr} {pos : Pos}
end

section
variable {env : List Slot} {st : List Ob}
theorem f_Box (f : Sta → PR RV) : fBox f ⟨env, st⟩ = xBx ⟨env, st⟩ (f ⟨env, st⟩) := Eq.trans rfl rfl
theorem f_xBx (d : D) : xBx ⟨env, st⟩ (.ok ⟨.fr, d⟩) = .ok (.v (.obj st.length)) ⟨env, st ++ [⟨boxC, [(0, .own d)]⟩]⟩ := Eq.trans rfl rfl
theorem e_xBox (d : D) : xBox (some d) = .ok ⟨.pk, d⟩ := Eq.trans rfl rfl
end
end MP

namespace MP
open PySem PySem.Spec PyProof.Rows L2
section
variable {X : Cx} {T : Tab} {W : WX} {al : Bool} {m m' : List Addr} {M M' G H H' : Hp} {a b e o : Expr} {es : List Expr} {pos p' : Pos} {p : Pl} {n k : Nat} {sem : Sem} {x : Str}
def slObj : Slot → Bool
  | .v d => d.noObj
  | .own d => d.noObj
  | .tpo _ us => noObjs us
  | _ => false
theorem SlotR.noObj {r : Slot} {y : Option V} {f : List Addr} {m2 : List Addr} (h : SlotR X.K m M H r y f) (hn : slObj r = true) : SlotR X.K m2 M H r y f := by
  cases r with
  | un => cases hn
  | hid _ => cases hn
  | v d =>
    obtain ⟨e, z, ez, r⟩ := h
    exact ⟨e, z, ez, DR.noObj _ _ r hn⟩
  | own d =>
    obtain ⟨b, o, e, ez, hb, r⟩ := h
    exact ⟨b, o, e, ez, hb, r.noObj hn⟩
  | tpo k us =>
    obtain ⟨t, b, ob, vs, d, ef3, ey, ht, hl2, hv, hd2, hb', hd, hr⟩ := h
    exact ⟨t, b, ob, vs, d, ef3, ey, ht, hl2, hv, hd2, hb', hd.noObj (noObjs_get hn hd2), fun j v e hjk hj he => DR.noObj _ _ (hr j v e hjk hj he) (noObjs_get hn he)⟩
end

section
variable {env : List Slot} {st : List Ob}
end
end MP

namespace MP
open PySem PySem.Spec PyProof.Rows L2
section
variable {X : Cx} {T : Tab} {W : WX} {al : Bool} {m : List Addr} {M G H : Hp} {o e : Expr} {pos apos cpos : Pos} {p : Pl}
/-- x.extend(e) at a place; e a list -/
def xEP1 (p : Pl) (s : Sta) (ds : List D) : PR RV → Fl
  | .ok ⟨_, .list es⟩ => if ds.length + es.length ≤ 16777216 then .nx (p.put (.own (.list (ds ++ es))) s) else .stuck
  | .ok _ => .stuck
  | .exc e => .exc e s
  | .stuck => .stuck
def xEP0 (p : Pl) (s : Sta) (rv : PR RV) : Option D → Fl
  | some (.list ds) => xEP1 p s ds rv
  | _ => .stuck
def sExtP (p : Pl) (f : Sta → PR RV) : Sta → Fl := fun s => xEP0 p s (f s) (p.get s)
theorem RR.lst {K : PySem.W.Frag} {m : List Addr} {M H0 H : Hp} {y : V} {k : RK} {es : List D} (h : RR K m M H0 H y ⟨k, .list es⟩) (mh : Same M H) : ∃ b zs, y = .ref b ∧ H b = some (.lst zs) ∧ DRs K m M zs es := by
  rcases h.arg with h | ⟨a, o, rfl, h1, h2⟩
  · cases h with
    | list h1 h2 => exact ⟨_, _, rfl, mh _ _ h1, h2⟩
  · cases h2 with
    | lst h2 => exact ⟨a, _, rfl, h1, h2⟩
theorem s_extP {f : Sta → PR RV} (ho : PlOk X T o p) (he : PEv X T W e f)
    (hbase : attributeBase o "extend" X.env (eval o X.env) = eval o X.env := by rfl)
    (hfew : ((backTo cpos (starEach [e] X.env)).all (fun x => !x.1) && (backToKw cpos (keywordEach [] X.env)).all (fun x => x.1.isSome)
      && decide ([e].length + ([] : List Keyword).length + (if ([] : List Keyword).isEmpty then 0 else 1) < 30)) = true := by rfl)
    (hline : (apos.endLine == cpos.line) = true := by rfl) (hs : starEach [e] X.env = (false, eval e X.env) :: starEach [] X.env := by rfl) (hplain : (backTo cpos (starEach [] X.env)).any (·.1) = false := by rfl)
    (hsw : swapsWith (.Call (.Attribute o "extend" apos) [e] [] cpos) none pos.line X.env = pure false := by rfl) :
    SE1 X T W al (.Expr (.Call (.Attribute o "extend" apos) [e] [] cpos) pos) (sExtP p f) := by
  obtain ⟨te, ho, hte⟩ := ho
  refine PS.wk (ps_expr (pe_bm PySem.F.plainAttrs_list PySem.F.slot_list_extend PySem.F.type_list_extend mt_extend ho (pa_cons he pa_nil hs) hbase hfew hline hs hplain) hsw) ?_
  rintro D σ H ⟨s, m, M, G, R, a, q⟩
  unfold sExtP at q
  cases hg : p.get s with
  | none => rw [hg] at q; exact q.elim
  | some d =>
    obtain ⟨b, ob, hb, hH, hd⟩ := R.plAt hg
    rw [hg] at q
    cases hd with
    | dic hd => exact q.elim
    | lst hd =>
      rename_i xs ds
      have q : FlP X T W al G m M D (xEP1 p s ds (f s)) := q
      refine hte m H s σ b _ hb ⟨.inl ⟨rfl, xs, SqL.of hH⟩, s, m, M, G, R, ?_⟩
      revert q
      cases hf : f s with
      | ok r =>
        obtain ⟨k, d⟩ := r
        cases d <;> try (intro q; exact q.elim)
        rename_i es
        intro q y H1 M1 g r
        unfold xEP1 at q
        dsimp only at q
        obtain ⟨b2, zs, rfl, h2, r2⟩ := r.lst g.mh
        by_cases hl : ds.length + es.length ≤ 16777216
        · rw [if_pos hl] at q
          refine ⟨b, b2, xs, zs, rfl, rfl, g.same _ _ hH, h2, by rw [hd.length, r2.length, sizeLine_eq]; exact hl, ?_⟩
          have R2 := (R.grow g).mutP hg (hb.up g.same) (o' := .lst (xs ++ zs)) (d' := .list (ds ++ es)) (.lst ((hd.up g.mm).append r2))
          exact q σ _ m M1 (Ext.grow g R.gh) (fun h => (a h).trans put_len.symm) R2
        · rw [if_neg hl] at q
          exact q.elim
      | exc x => intro q cls dd H2 M2 g2 xr; exact q cls dd σ H2 m M2 (Ext.grow g2 R.gh) a (R.grow g2) xr
      | stuck => intro q; exact q.elim
end
section
variable {env : List Slot} {st : List Ob}
theorem s_ExtP (p : Pl) (f : Sta → PR RV) : sExtP p f ⟨env, st⟩ = xEP0 p ⟨env, st⟩ (f ⟨env, st⟩) (p.get ⟨env, st⟩) := Eq.trans rfl rfl
theorem s_xEP0 (p : Pl) (s : Sta) (rv : PR RV) (ds : List D) : xEP0 p s rv (some (.list ds)) = xEP1 p s ds rv := Eq.trans rfl rfl
theorem s_xEP1 {p : Pl} {s : Sta} {ds es : List D} {k : RK} (h : ds.length + es.length ≤ 16777216) : xEP1 p s ds (.ok ⟨k, .list es⟩) = .nx (p.put (.own (.list (ds ++ es))) s) := if_pos h
end
end MP

namespace MP
open PySem PySem.Spec PyProof.Rows L2
section
variable {X : Cx} {T : Tab} {W : WX} {al : Bool} {m : List Addr} {M G H : Hp} {o i e value : Expr} {pos pos' apos cpos : Pos}
theorem Arg.objA {K : PySem.W.Frag} {y : V} {j : Nat} (h : Arg K m M H y (.obj j)) : ∃ a, y = .ref a ∧ m[j]? = some a := by
  rcases h with h | ⟨a, o, rfl, h2, h3⟩
  · cases h with
    | obj h => exact ⟨_, rfl, h⟩
  · cases h3
/-- what stands in the box that an expression means -/
def xDer2 (s : Sta) : D → PR RV
  | .obj j => xBox (Pl.get (.ob j) s)
  | _ => .stuck
def xDer (s : Sta) : PR RV → PR RV
  | .ok r => xDer2 s r.d
  | .exc e => .exc e
  | .stuck => .stuck
def pDer (fo : Sta → PR RV) : Sta → PR RV := fun s => xDer s (fo s)
theorem ev_der {fo : Sta → PR RV} (ho : PEv X T W o fo) : PEv X T W o (pDer fo) := by
  refine PE.wk ho ?_
  rintro σ H Q ⟨s, m, M, G, R, q⟩
  refine ⟨s, m, M, G, R, ?_⟩
  unfold pDer at q
  revert q
  cases hfo : fo s with
  | exc x => intro q; exact q
  | stuck => intro q; exact q
  | ok r =>
    obtain ⟨kk, dk⟩ := r
    intro q oy H2 M2 g2 rr
    have R2 := R.grow g2
    dsimp only [xDer] at q
    obtain ⟨j, ej⟩ : ∃ j, dk = .obj j := by cases dk <;> first | exact q.elim | exact ⟨_, rfl⟩
    subst ej
    dsimp only [xDer2] at q
    cases hg : Pl.get (.ob j) s with
    | none => rw [hg] at q; exact q.elim
    | some d =>
      rw [hg] at q
      obtain ⟨b, ob, hb, hH, hd⟩ := R2.plAt hg
      obtain ⟨a2, rfl, ha2⟩ := rr.arg.objA
      have eb : a2 = b := by
        obtain ⟨_, _, _, b3⟩ := hb
        rw [ha2] at b3
        cases b3
        rfl
      subst eb
      exact q _ H2 M2 g2 ⟨a2, ob, rfl, hH, hd⟩
end
section
variable {env : List Slot} {st : List Ob}
theorem n_getOb (j : Nat) : Pl.get (.ob j) ⟨env, st⟩ = owO boxC 0 st[j]? := Eq.trans rfl rfl
theorem n_putOb (j : Nat) (sl : Slot) : Pl.put (.ob j) sl ⟨env, st⟩ = ⟨env, putB 0 sl st j st[j]?⟩ := Eq.trans rfl rfl
theorem e_pDer (fo : Sta → PR RV) : pDer fo ⟨env, st⟩ = xDer ⟨env, st⟩ (fo ⟨env, st⟩) := Eq.trans rfl rfl
theorem e_xDer (k : RK) (j : Nat) : xDer ⟨env, st⟩ (.ok ⟨k, .obj j⟩) = xBox (owO boxC 0 st[j]?) := Eq.trans rfl rfl
end
end MP

namespace MP
open PySem PySem.Spec PyProof.Rows L2

theorem FsR.keys {K : PySem.W.Frag} {nm : Nat → Str} {m : List Addr} {M H : Hp} : ∀ {s : List (Nat × Slot)} {x : List (Str × V)} {fp : List Addr}, FsR K nm m M H s x fp → x.map Prod.fst = s.map fun p => nm p.1
  | [], [], _, _ => rfl
  | (i, s) :: ss, (x, v) :: xs, fp, h => by
    obtain ⟨f1, f2, e, e2, h1, h2⟩ := h
    rw [List.map_cons, List.map_cons, FsR.keys h2]
    show x :: _ = nm i :: _
    rw [e2]
  | [], _ :: _, _, h => h.elim
  | _ :: _, [], _, h => h.elim
section
variable {X : Cx} {T : Tab} {W : WX} {al : Bool} {m : List Addr} {M G H : Hp} {o i e value : Expr} {pos pos' apos cpos : Pos} {fo : Sta → PR RV} {x : Str} {f : Nat}
end

section
variable {X : Cx} {T : Tab} {W : WX} {al : Bool} {m : List Addr} {M G H : Hp} {o i e : Expr} {pos : Pos} {t : Sta → PR Bool}
end
end MP

namespace MP
open PySem PySem.Spec PyProof.Rows L2
section
variable {X : Cx} {T : Tab} {W : WX} {m : List Addr} {M G H : Hp} {e : Expr} {t : Sta → PR Bool}
end
section
variable {env : List Slot} {st : List Ob}
theorem n_getTp (i k : Nat) : Pl.get (.tp i k) ⟨env, st⟩ = tpG k env[i]? := Eq.trans rfl rfl
theorem n_putTp (i k : Nat) (sl : Slot) : Pl.put (.tp i k) sl ⟨env, st⟩ = ⟨putT k sl env i env[i]?, st⟩ := Eq.trans rfl rfl
theorem n_tpG (k : Nat) (ds : List D) : tpG k (some (.tpo k ds)) = ds[k]? := if_pos rfl
theorem n_putT (k k' i : Nat) (sl : Slot) (ds : List D) : putT k sl env i (some (.tpo k' ds)) = env.set i (tpS k ds sl) := Eq.trans rfl rfl
theorem n_tpSo (k : Nat) (ds : List D) (d : D) : tpS k ds (.own d) = .tpo k (ds.set k d) := Eq.trans rfl rfl
theorem n_tpSv (k : Nat) (ds : List D) (d : D) : tpS k ds (.v d) = .v (.tup (ds.set k d)) := Eq.trans rfl rfl
end
end MP

namespace MP
open PySem PySem.Spec PyProof.Rows L2

mutual
inductive NkV (K : PySem.W.Frag) (H : Hp) : V → NestedKey → Prop
  | non : NkV K H .non .none
  | bl (b : Bool) : NkV K H (.bl b) (.num (if b = true then 1 else 0))
  | int (i : Int) : NkV K H (.int i) (.num i)
  | str (x : Str) : NkV K H (.str x) (.text x)
  | tup {a : Addr} {xs : List V} {ks : List NestedKey} : SqT K H a xs → NkVs K H xs ks → NkV K H (.ref a) (.tup ks)
inductive NkVs (K : PySem.W.Frag) (H : Hp) : List V → List NestedKey → Prop
  | nil : NkVs K H [] []
  | cons {v : V} {k : NestedKey} {vs : List V} {ks : List NestedKey} : NkV K H v k → NkVs K H vs ks → NkVs K H (v :: vs) (k :: ks)
end
section
variable {K : PySem.W.Frag} {m : List Addr} {M H H' : Hp}
mutual
theorem DR.nk : ∀ (d : D) (v : V) (k : NestedKey), DR K m H v d → nkD d = some k → NkV K H v k
  | .none, _, _, h, e => by
    rw [nkD] at e
    cases h; cases e; exact .non
  | .bool b, _, _, h, e => by
    rw [nkD] at e
    cases h; cases e; exact .bl b
  | .int i, _, _, h, e => by
    rw [nkD] at e
    cases h; cases e; exact .int i
  | .str x, _, _, h, e => by
    rw [nkD] at e
    cases h; cases e; exact .str x
  | .tup ds, _, _, h, e => by
    rw [nkD] at e
    cases hd : nkDs ds with
    | none => rw [hd] at e; cases e
    | some ks =>
      rw [hd] at e
      cases e
      cases h with
      | tup h1 h2 => exact .tup h1 (DRs.nk ds _ ks h2 hd)
  | .list _, _, _, _, e => by rw [nkD] at e; cases e
  | .lk _, _, _, _, e => by rw [nkD] at e; cases e
  | .dic _, _, _, _, e => by rw [nkD] at e; cases e
  | .obj _, _, _, _, e => by rw [nkD] at e; cases e
  | .xv _ _, _, _, _, e => by rw [nkD] at e; cases e
  | .btp _, _, _, _, e => by rw [nkD] at e; cases e
theorem DRs.nk : ∀ (ds : List D) (vs : List V) (ks : List NestedKey), DRs K m H vs ds → nkDs ds = some ks → NkVs K H vs ks
  | [], _, _, h, e => by
    rw [nkDs] at e
    cases h; cases e; exact .nil
  | d :: ds, _, _, h, e => by
    rw [nkDs] at e
    cases h1 : nkD d with
    | none => rw [h1] at e; cases e
    | some k =>
      cases h2 : nkDs ds with
      | none => rw [h1, h2] at e; cases e
      | some ks =>
        rw [h1, h2] at e
        cases e
        cases h with
        | cons a1 a2 => exact .cons (DR.nk d _ k a1 h1) (DRs.nk ds _ ks a2 h2)
end
theorem DR.key_n {d : D} {v : V} {k : NestedKey} (h : DR K m H v d) (e : keyN d = some k) : NkV K H v k ∧ k.depth ≤ 8 ∧ ∃ b, v = .ref b := by
  unfold keyN at e
  cases d <;> try (cases e; done)
  rename_i ds
  dsimp only at e
  cases hk : nkD (.tup ds) with
  | none => rw [hk] at e; cases e
  | some k' =>
    rw [hk] at e
    have e : (if k'.depth ≤ 8 then some k' else none) = some k := e
    by_cases hd : k'.depth ≤ 8
    · rw [if_pos hd] at e
      cases e
      refine ⟨DR.nk _ _ _ h hk, hd, ?_⟩
      cases h with
      | tup h1 h2 => exact ⟨_, rfl⟩
    · rw [if_neg hd] at e; cases e
end
section
variable {X : Cx} {pins : List (Addr × Obj)} {σ : L2.St} {H : Hp} {s : Shared} {a : Addr}
mutual
theorem NkV.is (I : Inv X pins σ H s) : ∀ (k : NestedKey) (v : V) (u : Value), NkV X.K H v k → RelV v u → NestedIs s.heap k u
  | .none, _, u, h, r => by
    cases h
    obtain rfl : u = Value.none := r
    exact .none
  | .num i, _, u, h, r => by
    cases h with
    | bl b =>
      obtain rfl : u = Value.bool b := r
      exact .bool rfl
    | int =>
      obtain ⟨t, rfl⟩ := r
      exact .int _ _
  | .text x, _, u, h, r => by
    cases h
    obtain ⟨t, rfl⟩ := r
    exact .text _ _
  | .tup ks, _, u, h, r => by
    cases h with
    | tup h1 h2 =>
      rename_i b xs
      obtain rfl : u = Value.ref b := r
      obtain ⟨its, rv, ⟨o, e, hc, n, hd⟩, _⟩ := I.tuple h1
      exact .tup e hc hd (NkVs.is I ks xs its h2 rv)
theorem NkVs.is (I : Inv X pins σ H s) : ∀ (ks : List NestedKey) (vs : List V) (us : List Value), NkVs X.K H vs ks → Vals vs us → NestedAll s.heap ks us
  | [], _, _, h, r => by
    cases h
    cases r
    exact .nil
  | k :: ks, _, _, h, r => by
    cases h with
    | cons h1 h2 =>
      cases r with
      | cons r1 r2 => exact .cons (NkV.is I k _ _ h1 r1) (NkVs.is I ks _ _ h2 r2)
end
/-- the dict at a, its keys known -/
structure NdH (X : Cx) (H : Hp) (a : Addr) (xs : List (NestedKey × Addr × V)) : Prop where
  ob : ∃ u, H a = some u ∧ NdU X.w a xs u
  ks : ∀ x ∈ xs, NkV X.K H (.ref x.2.1) x.1 ∧ x.1.depth ≤ 8
theorem Paired.back {α β : Type} {F : α → β → Prop} : ∀ {l₁ : List α} {l₂ : List β}, Paired F l₁ l₂ → ∀ b ∈ l₂, ∃ a ∈ l₁, F a b
  | _, _, .nil, _, h => by cases h
  | _, _, .cons r t, b, h => by
    rcases List.mem_cons.mp h with rfl | h
    · exact ⟨_, List.mem_cons_self .., r⟩
    · obtain ⟨a, h1, h2⟩ := Paired.back t b h
      exact ⟨a, List.mem_cons_of_mem _ h1, h2⟩
theorem NdH.prop {xs : List (NestedKey × Addr × V)} (h : NdH X H a xs) (I : Inv X pins σ H s) : xs.length ≤ sizeLine ∧ (a == sysModules) = false ∧ ∃ us, Paired KvR xs us ∧ (us.map (·.1)).Nodup ∧ ∃ o es ep, s.heap.get? a = some o ∧ o.ExactDict ∧ o.data = .dict es ep ∧ es.toList = us.map (ndE X.w) := by
  obtain ⟨u, hu, q⟩ := h.ob
  rcases q with rfl | ⟨od, rfl⟩
  · exact (I.hok a _ hu).1
  · exact (I.hok a _ hu).1.2
theorem NdH.mut {X : Cx} {H : Hp} {a : Addr} {xs : List (NestedKey × Addr × V)} (h : NdH X H a xs) : Mut (H a) := by
  obtain ⟨u, hu, q⟩ := h.ob
  rw [hu]
  rcases q with rfl | ⟨od, rfl⟩ <;> exact True.intro
theorem NdH.rd {xs : List (NestedKey × Addr × V)} (h : NdH X H a xs) (I : Inv X pins σ H s) : xs.length ≤ sizeLine ∧ (a == sysModules) = false ∧ ∃ us, Paired KvR xs us ∧ s.heap.DictOfH (nestedKind X.prog X.w) a us := by
  obtain ⟨z, hs, us, r, hn, o, es, ep, e1, e2, e3, e4⟩ := h.prop I
  refine ⟨z, hs, us, r, o, es, ep, e1, e2, e3, e4, fun y hy => ?_, hn⟩
  obtain ⟨x, hx, k1, k2, _⟩ := Paired.back r y hy
  obtain ⟨h1, h2⟩ := h.ks x hx
  rw [← k1, ← k2]
  exact ⟨NkV.is I _ _ _ h1 rfl, h2⟩
def atV (xs : List (NestedKey × Addr × V)) (k : NestedKey) : Option (Addr × V) := (xs.find? fun x => decide (x.1 = k)).map (·.2)
def stoV (xs : List (NestedKey × Addr × V)) (k : NestedKey) (a : Addr) (v : V) : List (NestedKey × Addr × V) :=
  if (atV xs k).isSome then xs.map (fun x => if x.1 = k then (x.1, x.2.1, v) else x) else xs ++ [(k, a, v)]
theorem kvr_at : ∀ {xs : List (NestedKey × Addr × V)} {us : List (NestedKey × Addr × Value)}, Paired KvR xs us → ∀ k, (atV xs k = none ∧ atKey us k = none) ∨ ∃ b v u, atV xs k = some (b, v) ∧ atKey us k = some (b, u) ∧ RelV v u
  | _, _, .nil, k => .inl ⟨rfl, rfl⟩
  | _, _, .cons (a := p) (b := q) r t, k => by
    obtain ⟨p1, p2, p3⟩ := p
    obtain ⟨q1, q2, q3⟩ := q
    obtain ⟨r1, r2, r3⟩ := r
    dsimp only at r1 r2 r3
    subst r1 r2
    by_cases h : p1 = k
    · refine .inr ⟨p2, p3, q3, ?_, ?_, r3⟩ <;> simp [atV, atKey, List.find?_cons, h]
    · have e1 : ∀ l : List (NestedKey × Addr × V), atV ((p1, p2, p3) :: l) k = atV l k := fun l => by simp [atV, List.find?_cons, h]
      have e2 : ∀ l : List (NestedKey × Addr × Value), atKey ((p1, p2, q3) :: l) k = atKey l k := fun l => by simp [atKey, List.find?_cons, h]
      rw [e1, e2]
      exact kvr_at t k
theorem kvr_some {xs : List (NestedKey × Addr × V)} {us : List (NestedKey × Addr × Value)} (r : Paired KvR xs us) (k : NestedKey) : (atKey us k).isSome = (atV xs k).isSome := by
  rcases kvr_at r k with ⟨h1, h2⟩ | ⟨b, v, u, h1, h2, _⟩ <;> rw [h1, h2] <;> rfl
theorem Paired.snoc' {α β : Type} {F : α → β → Prop} {a : α} {b : β} (h : F a b) : ∀ {l₁ : List α} {l₂ : List β}, Paired F l₁ l₂ → Paired F (l₁ ++ [a]) (l₂ ++ [b])
  | _, _, .nil => .cons h .nil
  | _, _, .cons r t => .cons r (Paired.snoc' h t)
theorem kvr_map {v : V} {u : Value} (rv : RelV v u) (k : NestedKey) : ∀ {xs : List (NestedKey × Addr × V)} {us : List (NestedKey × Addr × Value)}, Paired KvR xs us → Paired KvR (xs.map fun x => if x.1 = k then (x.1, x.2.1, v) else x) (us.map (putAt k u))
  | _, _, .nil => .nil
  | _, _, .cons (a := p) (b := q) r t => by
    rw [List.map_cons, List.map_cons]
    refine .cons ?_ (kvr_map rv k t)
    obtain ⟨r1, r2, r3⟩ := r
    unfold putAt
    by_cases h : p.1 = k
    · rw [if_pos h, if_pos (by rw [← r1]; exact h)]
      exact ⟨r1, r2, rv⟩
    · rw [if_neg h, if_neg (by rw [← r1]; exact h)]
      exact ⟨r1, r2, r3⟩
theorem kvr_sto {v : V} {u : Value} (rv : RelV v u) {xs : List (NestedKey × Addr × V)} {us : List (NestedKey × Addr × Value)} (r : Paired KvR xs us) (k : NestedKey) (b : Addr) : Paired KvR (stoV xs k b v) (storedH us k b u) := by
  unfold stoV storedH
  rw [kvr_some r k]
  by_cases h : (atV xs k).isSome = true
  · rw [if_pos h, if_pos h]; exact kvr_map rv k r
  · rw [if_neg h, if_neg h]; exact Paired.snoc' ⟨rfl, rfl, rv⟩ r
theorem stoV_len (xs : List (NestedKey × Addr × V)) (k : NestedKey) (b : Addr) (v : V) : (stoV xs k b v).length ≤ xs.length + 1 := by
  unfold stoV
  split
  · rw [List.length_map]; omega
  · rw [List.length_append]; exact Nat.le_refl _
theorem nd_ok {P : Program} {w : World} {H : Hp} {h : Heap} {a : Addr} {xs : List (NestedKey × Addr × V)} {us : List (NestedKey × Addr × Value)} (z : xs.length ≤ sizeLine) (hs : (a == sysModules) = false) (r : Paired KvR xs us) (hm : h.DictOfH (nestedKind P w) a us) :
    ObjOk P w H h a (ndO w a xs) := by
  obtain ⟨o, es, ep, e1, e2, e3, e4, _, hn⟩ := hm
  refine ⟨⟨z, hs, us, r, hn, o, es, ep, e1, e2, e3, e4⟩, ⟨o, e1⟩, fun h1 h2 q k => ?_⟩
  obtain ⟨z, hs, us, r, hn, o, es, ep, e1, e2⟩ := q
  exact ⟨z, hs, us, r, hn, o, es, ep, k _ e1, e2⟩
theorem nd_room (hu : X.A.units + 9 < cLine) : (nestedKind X.prog X.w).room X.A.in1 := by
  show X.A.units + 1 + 8 < cLine
  omega
def rNdIn (X : Cx) (neg : Bool) : R2 := fun y x H Q => ∃ a xs b k, x = .ref a ∧ NdH X H a xs ∧ y = .ref b ∧ NkV X.K H y k ∧ k.depth ≤ 8 ∧ Q (.bl ((atV xs k).isSome != neg)) H
theorem op_ndNin (hu : X.A.units + 9 < cLine) : OpR X (compareOp .NotIn) (rNdIn X true) := by
  intro pins s σ H x y v u Q I rx ry h
  obtain ⟨a, xs, b, k, rfl, hN, rfl, hk, hd, q⟩ := h
  obtain rfl : u = Value.ref a := ry
  obtain rfl : v = Value.ref b := rx
  obtain ⟨z, hs, us, r, hm⟩ := hN.rd I
  refine wpAny_notIn_heap (nd_room hu) ⟨NkV.is I _ _ _ hk rfl, hd⟩ hs hm ?_
  rw [kvr_some r k]
  rw [Bool.bne_true] at q
  exact ⟨.bl (!(atV xs k).isSome), H, I.tok _, rfl, q⟩
def tNdGet (X : Cx) (td ty : TE) : TE := fun σ H Q => td σ H fun x H1 => ty σ H1 fun y H2 => ∃ a xs b k c v, x = .ref a ∧ NdH X H2 a xs ∧ y = .ref b ∧ NkV X.K H2 y k ∧ k.depth ≤ 8 ∧ atV xs k = some (c, v) ∧ Q v H2
def sNdPutK (X : Cx) (td ty tv : TE) : TS := fun D σ H => tv σ H fun v H1 => td σ H1 fun x H2 => ty σ H2 fun y H3 => ∃ a xs b k, x = .ref a ∧ NdH X H3 a xs ∧ y = .ref b ∧ NkV X.K H3 y k ∧ k.depth ≤ 8 ∧ xs.length < sizeLine ∧ D.nx σ (upd H3 a (ndO X.w a (stoV xs k b v)))
end
section
variable {X : Cx} {o i e value : Expr} {pos pos' tpos : Pos} {td ty tv : TE}
theorem pe_ndget (hu : X.A.units + 9 < cLine) (ho : PE X o td) (hi : PE X i ty) (hs : NoSl i) : PE X (.Subscript o i pos) (tNdGet X td ty) := by
  refine ⟨fun pins s σ H Q I h => ?_⟩
  refine subD_of PySem.F.slot_dict_getitem.lookup hs (thn (ho.run pins s σ H _ I h) fun u s1 ⟨x, H1, I1, rx, q1⟩ => thn (hi.run pins s1 σ H1 _ I1 q1) fun iv s2 ⟨y, H2, I2, ry, a, xs, b, k, c, v, ex, hN, ey, hk, hd, hv, q2⟩ => ?_)
  subst ex ey
  obtain rfl : u = Value.ref a := rx
  obtain rfl : iv = Value.ref b := ry
  obtain ⟨z, hs, us, r, hm⟩ := hN.rd I2
  refine ⟨hm.typeIs, ?_⟩
  rcases kvr_at r k with ⟨z1, _⟩ | ⟨b', v', u', z1, z2, rv⟩
  · rw [z1] at hv; cases hv
  · rw [z1] at hv
    cases hv
    exact wpAny_getItem_heap (nd_room hu) ⟨NkV.is I2 _ _ _ hk rfl, hd⟩ hm z2 ⟨v, H2, I2.tok _, rv, q2⟩
theorem ps_ndput (hu : X.A.units + 9 < cLine) (ho : PE X o td) (hi : PE X i ty) (hv : PE X value tv) (hs : swapsWith value (some (.Subscript o i pos')) pos.line X.env = pure false) :
    PS X (.Assign [.Subscript o i pos'] value pos) (sNdPutK X td ty tv) := by
  refine ⟨fun pins s σ H D I h => ?_⟩
  refine wpAny_Assign_Subscript (thn (hv.run pins s σ H _ I h) fun r s1 ⟨v, H1, I1, rv, q1⟩ => thn (ho.run pins s1 σ H1 _ I1 q1) fun u s2 ⟨x, H2, I2, rx, q2⟩ => thn (hi.run pins s2 σ H2 _ I2 q2) fun iv s3 ⟨y, H3, I3, ry, a, xs, b, k, ex, hN, ey, hk, hd, hl, q3⟩ => ?_) hs
  subst ex ey
  obtain rfl : u = Value.ref a := rx
  obtain rfl : iv = Value.ref b := ry
  obtain ⟨z, hsm, us, rr, hm⟩ := hN.rd I3
  have hz : us.length ≤ sizeLine := by rw [← Paired.length rr]; exact z
  refine wpAny_setItem_heap (hsz := hz) (nd_room hu) ⟨NkV.is I3 _ _ _ hk rfl, hd⟩ hm fun h' dd' hsb => ?_
  have hl2 : (stoV xs k b v).length ≤ sizeLine := by have := stoV_len xs k b v; omega
  have he : ∃ q, h'.get? a = some q := let ⟨q, _, _, hq, _⟩ := dd'; ⟨q, hq⟩
  exact ⟨σ, _, d_write I3 hN.mut hsb he (nd_ok hl2 hsm (kvr_sto rv rr k b) dd'), q3⟩
/-- {}, to be a dict of tuples -/
def tNdNew (X : Cx) : TE := fun _ H Q => ∀ p, H p = none → Q (.ref p) (upd H p (ndO X.w p []))
theorem pe_ndnew : PE X (.Dict [] [] pos) (tNdNew X) := ⟨fun pins s σ H Q I h =>
  wpAny_Dict_empty ⟨.ref s.heap.objs.size, _, I.laid (a := s.heap.objs.size) (o := ndO X.w s.heap.objs.size []) (t' := s.toks) (fun _ _ q => Heap.get?_push_of_some _ q) (Nat.le_refl _)
    (nd_ok (us := []) (Nat.zero_le _) (beq_eq_false_iff_ne.mpr (Ne.symm (Nat.ne_of_lt I.big))) .nil (Heap.DictOfH.new s.heap)), rfl, h _ (I.hok.fresh (Nat.le_refl _))⟩⟩
end
end MP

namespace MP
open PySem PySem.Spec PyProof.Rows L2

def unP : List D → Option (List (D × D))
  | [] => some []
  | .tup [k, v] :: r => (unP r).map fun l => (k, v) :: l
  | _ => none
theorem unP_map : ∀ kvs : List (D × D), unP (kvs.map prD) = some kvs
  | [] => rfl
  | (k, v) :: r => by
    show unP (.tup [k, v] :: r.map prD) = _
    rw [unP, unP_map r]
    rfl
theorem unP_inv : ∀ {ps : List D} {kvs : List (D × D)}, unP ps = some kvs → ps = kvs.map prD
  | [], kvs, h => by rw [unP] at h; cases h; rfl
  | p :: r, kvs, h => by
    unfold unP at h
    split at h
    · rename_i h0; cases h0
    · rename_i k v r' h0
      cases h0
      cases hr : unP r with
      | none => rw [hr] at h; cases h
      | some l =>
        rw [hr] at h
        cases h
        rw [unP_inv hr]
        rfl
    · cases h
/-- what a dict of tuples holds -/
def kvsO : List (Nat × Slot) → Option (List (D × D))
  | [(0, .v (.lk ps))] => unP ps
  | _ => none
def kvsOf : Option Ob → Option (List (D × D))
  | some ob => if ob.cls = ndC then kvsO ob.fs else none
  | none => none
theorem kvs_nd (kvs : List (D × D)) : kvsOf (some (ndOb kvs)) = some kvs := by
  show (if ndC = ndC then unP (kvs.map prD) else none) = _
  rw [if_pos rfl, unP_map]
theorem kvs_inv {o : Option Ob} {kvs : List (D × D)} (h : kvsOf o = some kvs) : o = some (ndOb kvs) := by
  unfold kvsOf at h
  cases o with
  | none => cases h
  | some ob =>
    dsimp only at h
    by_cases hc : ob.cls = ndC
    · rw [if_pos hc] at h
      unfold kvsO at h
      split at h
      · rename_i ps hf
        rw [unP_inv h] at hf
        obtain ⟨c, fs⟩ := ob
        subst hc hf
        rfl
      · cases h
    · rw [if_neg hc] at h; cases h
def ndVal (kvs : List (D × D)) (k : NestedKey) : Option D := (kvs.find? fun p => decide (keyN p.1 = some k)).map (·.2)
def ndPut (kvs : List (D × D)) (dk v : D) (k : NestedKey) : List (D × D) :=
  if (ndVal kvs k).isSome then kvs.map (fun p => if keyN p.1 = some k then (p.1, v) else p) else kvs ++ [(dk, v)]
section
variable {K : PySem.W.Frag} {m : List Addr} {M H : Hp}
theorem NdR.at : ∀ {xs : List (NestedKey × Addr × V)} {kvs : List (D × D)}, NdR K m M xs kvs → ∀ k, (atV xs k = none ∧ ndVal kvs k = none) ∨ ∃ b v d, atV xs k = some (b, v) ∧ ndVal kvs k = some d ∧ DR K m M v d
  | _, _, .nil, k => .inl ⟨rfl, rfl⟩
  | _, _, .cons (k := k0) (a := a0) (v := v0) (dk := dk) (dv := dv) (xs := xs) (kvs := kvs) h1 h2 h3 t, k => by
    by_cases h : k0 = k
    · subst h
      exact .inr ⟨a0, v0, dv, by simp [atV, List.find?_cons], by simp [ndVal, List.find?_cons, h1], h3⟩
    · have hne : ¬keyN dk = some k := fun e => h (Option.some.inj (h1.symm.trans e))
      have e1 : atV ((k0, a0, v0) :: xs) k = atV xs k := by simp [atV, List.find?_cons, h]
      have e2 : ndVal ((dk, dv) :: kvs) k = ndVal kvs k := by simp [ndVal, List.find?_cons, hne]
      rw [e1, e2]
      exact NdR.at t k
theorem NdR.some {xs : List (NestedKey × Addr × V)} {kvs : List (D × D)} (r : NdR K m M xs kvs) (k : NestedKey) : (atV xs k).isSome = (ndVal kvs k).isSome := by
  rcases r.at k with ⟨h1, h2⟩ | ⟨b, v, d, h1, h2, _⟩ <;> rw [h1, h2] <;> rfl
theorem NdR.snoc {k : NestedKey} {a : Addr} {v : V} {dk dv : D} (h1 : keyN dk = .some k) (h2 : DR K m M (.ref a) dk) (h3 : DR K m M v dv) : ∀ {xs : List (NestedKey × Addr × V)} {kvs : List (D × D)}, NdR K m M xs kvs → NdR K m M (xs ++ [(k, a, v)]) (kvs ++ [(dk, dv)])
  | _, _, .nil => .cons h1 h2 h3 .nil
  | _, _, .cons a1 a2 a3 t => .cons a1 a2 a3 (NdR.snoc h1 h2 h3 t)
theorem NdR.map {k : NestedKey} {v : V} {dv : D} (h3 : DR K m M v dv) : ∀ {xs : List (NestedKey × Addr × V)} {kvs : List (D × D)}, NdR K m M xs kvs → NdR K m M (xs.map fun x => if x.1 = k then (x.1, x.2.1, v) else x) (kvs.map fun p => if keyN p.1 = .some k then (p.1, dv) else p)
  | _, _, .nil => .nil
  | _, _, .cons (k := k0) (dk := dk) a1 a2 a3 t => by
    rw [List.map_cons, List.map_cons]
    by_cases h : k0 = k
    · rw [if_pos h, if_pos (by rw [a1, h])]
      exact .cons a1 a2 h3 (NdR.map h3 t)
    · rw [if_neg h, if_neg (fun e => h (Option.some.inj (a1.symm.trans e)))]
      exact .cons a1 a2 a3 (NdR.map h3 t)
theorem NdR.put {xs : List (NestedKey × Addr × V)} {kvs : List (D × D)} (r : NdR K m M xs kvs) {k : NestedKey} {a : Addr} {v : V} {dk dv : D} (h1 : keyN dk = .some k) (h2 : DR K m M (.ref a) dk) (h3 : DR K m M v dv) : NdR K m M (stoV xs k a v) (ndPut kvs dk dv k) := by
  unfold stoV ndPut
  rw [r.some k]
  by_cases h : (ndVal kvs k).isSome = true
  · rw [if_pos h, if_pos h]; exact r.map h3
  · rw [if_neg h, if_neg h]; exact r.snoc h1 h2 h3
theorem NdR.len : ∀ {xs : List (NestedKey × Addr × V)} {kvs : List (D × D)}, NdR K m M xs kvs → xs.length = kvs.length
  | _, _, .nil => rfl
  | _, _, .cons _ _ _ t => by simp [NdR.len t]
theorem NdR.ks (mh : Same M H) : ∀ {xs : List (NestedKey × Addr × V)} {kvs : List (D × D)}, NdR K m M xs kvs → ∀ x ∈ xs, NkV K H (.ref x.2.1) x.1 ∧ x.1.depth ≤ 8
  | _, _, .nil, _, h => by cases h
  | _, _, .cons a1 a2 a3 t, x, h => by
    rcases List.mem_cons.mp h with rfl | h
    · obtain ⟨h1, h2, _⟩ := (a2.up mh).key_n a1
      exact ⟨h1, h2⟩
    · exact NdR.ks mh t x h
end
section
variable {X : Cx} {T : Tab} {m m' : List Addr} {M G H : Hp} {s : Sta} {σ : L2.St} {j : Nat} {kvs : List (D × D)}
theorem Rel.nd (R : Rel X.K T m M G H s σ) (hw : T.w = X.w) (e : s.st[j]? = some (ndOb kvs)) : ∃ a xs, m[j]? = some a ∧ NdH X H a xs ∧ NdR X.K m M xs kvs := by
  obtain ⟨mh, gh, ⟨f1, f2, h1, h2, nd, dj⟩⟩ := R
  obtain ⟨g0, g1, g2, a, eg, ea, ho, k⟩ := h2.split e
  rcases ho with ⟨n, _⟩ | ⟨hb, _⟩ | ⟨kvs', xs, u, eo, ef, h3, hu, h4⟩
  · exact absurd rfl n.2
  · exact absurd hb (show ndC ≠ boxC by decide)
  · have e1 : kvsOf (some (ndOb kvs)) = kvsOf (some (ndOb kvs')) := by rw [eo]
    rw [kvs_nd, kvs_nd] at e1
    cases e1
    rw [hw] at hu
    exact ⟨a, xs, ea, ⟨⟨u, h3, hu⟩, h4.ks mh⟩, h4⟩
theorem Rel.ndSetU (R : Rel X.K T m M G H s σ) (hw : T.w = X.w) (e : s.st[j]? = some (ndOb kvs)) {a : Addr} (ea : m[j]? = some a) {xs : List (NestedKey × Addr × V)} {kvs' : List (D × D)} (r : NdR X.K m M xs kvs') {u : HO} (hu : NdU X.w a xs u) :
    Rel X.K T m M G (upd H a u) { s with st := s.st.set j (ndOb kvs') } σ := by
  obtain ⟨mh, gh, ⟨f1, f2, h1, h2, nd, dj⟩⟩ := R
  obtain ⟨g0, g1, g2, a', eg, ea', ho, k⟩ := h2.split e
  rw [ea] at ea'
  cases ea'
  rcases ho with ⟨n, _⟩ | ⟨hb, _⟩ | ⟨kvs0, xs0, u0, eo, ef, h3, hu0, h4⟩
  · exact absurd rfl n.2
  · exact absurd hb (show ndC ≠ boxC by decide)
  subst eg ef
  have nd1 : (a :: (f1 ++ (g0 ++ g2))).Nodup := by
    refine (List.Perm.nodup_iff ?_).mp nd
    have : f1 ++ (g0 ++ [a] ++ g2) = (f1 ++ g0) ++ a :: g2 := by simp
    rw [this]
    refine List.perm_middle.trans ?_
    simp
  have na : ∀ b ∈ f1 ++ (g0 ++ g2), b ≠ a := fun b hb z => (List.nodup_cons.mp nd1).1 (by rw [← z]; exact hb)
  have off : ∀ b ∈ f1 ++ (g0 ++ g2), upd H a u b = H b := fun b hb => upd_ne (na b hb)
  have dja := dj a (by simp)
  refine ⟨?_, ?_, f1, g0 ++ [a] ++ g2, h1.mono (MLe.refl _) (Same.refl _) fun b hb => off b (by simp [hb]), ?_, nd, dj⟩
  · intro b o hb
    rw [upd_ne (ne_of_none hb dja.1)]
    exact mh _ _ hb
  · intro b o hb
    rw [upd_ne (ne_of_none hb dja.2)]
    exact gh _ _ hb
  · exact k m M _ (ndOb kvs') [a] (MLe.refl _) (Same.refl _) (fun b hb => off b (by
      rcases List.mem_append.mp hb with hb | hb <;> simp [hb])) (.inr (.inr ⟨kvs', xs, u, rfl, rfl, upd_same, by rw [hw]; exact hu, r⟩))
theorem Rel.ndSet (R : Rel X.K T m M G H s σ) (hw : T.w = X.w) (e : s.st[j]? = some (ndOb kvs)) {a : Addr} (ea : m[j]? = some a) {xs : List (NestedKey × Addr × V)} {kvs' : List (D × D)} (r : NdR X.K m M xs kvs') :
    Rel X.K T m M G (upd H a (ndO X.w a xs)) { s with st := s.st.set j (ndOb kvs') } σ := R.ndSetU hw e ea r (.inl rfl)
/-- a new dict of tuples among the objects -/
theorem Rel.ndNew {H0 M0 : Hp} (R : Rel X.K T m M0 G H0 s σ) (hw : T.w = X.w) (al : m.length = s.st.length) (g : Grow H0 M0 H M) {b : Addr} (h0 : H0 b = Option.none) {xs : List (NestedKey × Addr × V)} (hb : H b = some (ndO X.w b xs)) (hd : NdR X.K m M xs kvs) (hM : M b = Option.none) :
    Rel X.K T (m ++ [b]) M G H ⟨s.env, s.st ++ [ndOb kvs]⟩ σ := by
  obtain ⟨mh, gh, ⟨f1, f2, h1, h2, nd, dj⟩⟩ := R
  have here : ∀ c ∈ f1 ++ f2, ∃ o, H0 c = some o := fun c hc => by
    rcases List.mem_append.mp hc with hc | hc
    · exact h1.here c hc
    · exact h2.here c hc
  have hh : ∀ c ∈ f1 ++ f2, H c = H0 c := fun c hc => by
    obtain ⟨o, ho⟩ := here c hc
    rw [ho]
    exact g.same _ _ ho
  have ml : MLe m (m ++ [b]) := MLe.snoc m b
  refine ⟨g.mh, gh.trans g.same, f1, f2 ++ [b], h1.mono ml g.mm fun c hc => hh c (by simp [hc]), ?_, ?_, fun c hc => ?_⟩
  · exact StoreR.snoc (h2.mono ml (MLe.refl _) g.mm fun c hc => hh c (by simp [hc])) al (.inr (.inr ⟨kvs, xs, _, rfl, rfl, hb, by rw [hw]; exact .inl rfl, hd.mono ml (Same.refl _)⟩))
  · rw [← List.append_assoc, List.nodup_append]
    refine ⟨nd, by simp, fun c hc d' hd' e => ?_⟩
    have : d' = b := by simpa using hd'
    subst this
    obtain ⟨o', ho'⟩ := here c hc
    rw [e, h0] at ho'
    cases ho'
  · rw [← List.append_assoc] at hc
    rcases List.mem_append.mp hc with hc | hc
    · obtain ⟨o', ho'⟩ := here c hc
      exact ⟨g.keepNone ho' (dj c hc).1, (dj c hc).2⟩
    · have : c = b := by simpa using hc
      subst this
      exact ⟨hM, gh.free h0⟩
end
/-- the dict that a value means -/
def RV.nd (st : List Ob) (r : RV) : PR (Nat × List (D × D)) := match r.d with
  | .obj j => match kvsOf st[j]? with
    | some kvs => .ok (j, kvs)
    | none => .stuck
  | _ => .stuck
theorem RV.nd_ok {st : List Ob} {r : RV} {j : Nat} {kvs : List (D × D)} (h : r.nd st = .ok (j, kvs)) : r.d = .obj j ∧ st[j]? = some (ndOb kvs) := by
  unfold RV.nd at h
  split at h
  · rename_i j' hd
    split at h
    · rename_i kvs' hk
      cases h
      exact ⟨hd, kvs_inv hk⟩
    · cases h
  · cases h
theorem RV.nd_ne {st : List Ob} {r : RV} {e : Ex} (h : r.nd st = .exc e) : False := by
  unfold RV.nd at h
  split at h
  · split at h <;> cases h
  · cases h

section
variable {X : Cx} {T : Tab} {W : WX} {al : Bool} {m : List Addr} {M G H : Hp} {o i e value : Expr} {pos pos' : Pos} {fo fk : Sta → PR RV}
def xNdIn (neg : Bool) (k : Option NestedKey) (kvs : List (D × D)) : PR RV := PR.of (k.map fun k => sh (.bool ((ndVal kvs k).isSome != neg)))
def pNdIn (neg : Bool) (fk fo : Sta → PR RV) : Sta → PR RV := fun s => (fk s).bind fun rk => (fo s).bind fun ro => (ro.nd s.st).bind fun jk => xNdIn neg (keyN rk.d) jk.2
theorem t_ndin (hw : T.w = X.w) {neg : Bool} {σ : L2.St} {Q : VK} (h : tP X T W (pNdIn neg fk fo) σ H Q) : tOp (rNdIn X neg) (tP X T W fk) (tP X T W fo) σ H Q := by
  obtain ⟨s, m, M, G, R, q⟩ := h
  refine ⟨s, m, M, G, R, ?_⟩
  revert q
  unfold pNdIn PR.bind
  cases fk s with
  | ok r1 =>
    intro q y1 H1 M1 g1 rr1
    refine ⟨s, m, M1, G, R.grow g1, ?_⟩
    revert q
    dsimp only
    cases fo s with
    | ok r2 =>
      intro q y2 H2 M2 g2 rr2
      dsimp only at q
      cases hr : r2.nd s.st with
      | ok jk =>
        obtain ⟨j, kvs⟩ := jk
        simp only [hr] at q
        obtain ⟨h1, h2⟩ := RV.nd_ok hr
        have R2 := (R.grow g1).grow g2
        obtain ⟨a, xs, ea, hN, hd⟩ := R2.nd hw h2
        have aa := rr2.arg
        rw [h1] at aa
        obtain ⟨a', rfl, e4⟩ := aa.obj
        rw [ea] at e4
        cases e4
        unfold xNdIn at q
        cases hk : keyN r1.d with
        | none => rw [hk] at q; exact q.elim
        | some k =>
          rw [hk] at q
          obtain ⟨k1, k2, b, rfl⟩ := (((rr1.grow g2).arg).dr g2.mh).key_n hk
          refine ⟨a, xs, b, k, rfl, hN, rfl, k1, k2, ?_⟩
          rw [hd.some k]
          exact q _ H2 M2 (g1.trans g2) (.bl _)
      | exc x => exact (RV.nd_ne hr).elim
      | stuck => simp only [hr] at q
    | exc x => intro q cls d H' M' g2 xr; exact q cls d H' M' (g1.trans g2) xr
    | stuck => intro q; exact q
  | exc x => intro q; exact q
  | stuck => intro q; exact q
theorem ev_ndnin (hu : X.A.units + 9 < cLine) (hw : T.w = X.w) (hi : PEv X T W i fk) (ho : PEv X T W o fo) (hm : behindInMarks .NotIn o = false) : PEv X T W (.Compare i [.NotIn] [o] pos) (pNdIn true fk fo) :=
  PE.wk (pe_cmpR (op_ndNin hu) hi ho hm) fun σ H Q h => t_ndin hw h
def xNdGet (k : Option NestedKey) (kvs : List (D × D)) : PR RV := PR.of ((k.bind (ndVal kvs)).map sh)
def pNdGet (fo fk : Sta → PR RV) : Sta → PR RV := fun s => (fo s).bind fun ro => (fk s).bind fun rk => (ro.nd s.st).bind fun jk => xNdGet (keyN rk.d) jk.2
theorem ev_ndget (hu : X.A.units + 9 < cLine) (hw : T.w = X.w) (ho : PEv X T W o fo) (hi : PEv X T W i fk) (hs : NoSl i) : PEv X T W (.Subscript o i pos) (pNdGet fo fk) := by
  refine PE.wk (pe_ndget hu ho hi hs) ?_
  rintro σ H Q ⟨s, m, M, G, R, q⟩
  refine ⟨s, m, M, G, R, ?_⟩
  revert q
  unfold pNdGet PR.bind
  cases fo s with
  | ok r1 =>
    intro q y1 H1 M1 g1 rr1
    refine ⟨s, m, M1, G, R.grow g1, ?_⟩
    revert q
    dsimp only
    cases fk s with
    | ok r2 =>
      intro q y2 H2 M2 g2 rr2
      dsimp only at q
      cases hr : r1.nd s.st with
      | ok jk =>
        obtain ⟨j, kvs⟩ := jk
        simp only [hr] at q
        obtain ⟨h1, h2⟩ := RV.nd_ok hr
        have R2 := (R.grow g1).grow g2
        obtain ⟨a, xs, ea, hN, hd⟩ := R2.nd hw h2
        have aa := (rr1.grow g2).arg
        rw [h1] at aa
        obtain ⟨a', rfl, e4⟩ := aa.obj
        rw [ea] at e4
        cases e4
        unfold xNdGet at q
        cases hk : keyN r2.d with
        | none => rw [hk] at q; exact q.elim
        | some k =>
          rw [hk] at q
          have q : match PR.of ((ndVal kvs k).map sh) with
            | .ok r => ∀ y H' M', Grow H M H' M' → RR X.K m M' H H' y r → Q y H'
            | .exc e => ∀ cls d H' M', Grow H M H' M' → ExR X.K T m M' H' e cls d → W cls d σ H'
            | .stuck => False := q
          obtain ⟨k1, k2, b, rfl⟩ := ((rr2.arg).dr g2.mh).key_n hk
          rcases hd.at k with ⟨z1, z2⟩ | ⟨c, v, d, z1, z2, rd⟩
          · rw [z2] at q; exact q.elim
          · rw [z2] at q
            exact ⟨a, xs, b, k, c, v, rfl, hN, rfl, k1, k2, z1, q _ H2 M2 (g1.trans g2) rd⟩
      | exc x => exact (RV.nd_ne hr).elim
      | stuck => simp only [hr] at q
    | exc x => intro q cls d H' M' g2 xr; exact q cls d H' M' (g1.trans g2) xr
    | stuck => intro q; exact q
  | exc x => intro q; exact q
  | stuck => intro q; exact q
def xNdPut (s : Sta) (v dk : D) (jk : Nat × List (D × D)) : Option NestedKey → Fl
  | some k => if jk.2.length < 16777216 then .nx { s with st := s.st.set jk.1 (ndOb (ndPut jk.2 dk v k)) } else .stuck
  | none => .stuck
def sNdPut (fo : Sta → PR RV) (fk fv : Sta → PR D) : Sta → Fl := fun s => (fv s).fl s fun v => (fo s).fl s fun ro => (fk s).fl s fun dk => (ro.nd s.st).fl s fun jk => xNdPut s v dk jk (keyN dk)
theorem s_ndput {fk fv : Sta → PR D} (hu : X.A.units + 9 < cLine) (hw : T.w = X.w) (ho : PEv X T W o fo) (hi : PDv X T W i fk) (hv : PDv X T W value fv) (hs : swapsWith value (some (.Subscript o i pos')) pos.line X.env = pure false := by rfl) :
    SE1 X T W al (.Assign [.Subscript o i pos'] value pos) (sNdPut fo fk fv) := by
  refine PS.wk (ps_ndput hu ho hi hv hs) ?_
  rintro D σ H ⟨s, m, M, G, R, a, q⟩
  refine tD_fl (k := fun s v => (fo s).fl s fun ro => (fk s).fl s fun dk => (ro.nd s.st).fl s fun jk => xNdPut s v dk jk (keyN dk)) R a q fun v y H1 M1 _ g1 rv k => ?_
  have R1 := R.grow g1
  refine ⟨s, m, M1, G, R1, ?_⟩
  unfold PR.fl at k
  revert k
  cases fo s with
  | ok ro =>
    intro k yo H2 M2 g2 rro
    have R2 := R1.grow g2
    dsimp only at k
    have k := FlP.ext k (Ext.grow g2 R1.gh)
    refine ⟨s, m, M2, G, R2, ?_⟩
    revert k
    cases fk s with
    | ok dk =>
      intro k yk H3 M3 g3 rk
      dsimp only at k
      have R3 := R2.grow g3
      cases hr : ro.nd s.st with
      | ok jk =>
        obtain ⟨j, kvs⟩ := jk
        simp only [hr] at k
        obtain ⟨h1, h2⟩ := RV.nd_ok hr
        obtain ⟨b, xs, eb, hN, hd⟩ := R3.nd hw h2
        have aa := (rro.grow g3).arg
        rw [h1] at aa
        obtain ⟨b', rfl, e4⟩ := aa.obj
        rw [eb] at e4
        cases e4
        cases hk : keyN dk with
        | none => rw [hk] at k; exact k.elim
        | some key =>
          rw [hk] at k
          unfold xNdPut at k
          dsimp only at k
          by_cases hl : kvs.length < 16777216
          · rw [if_pos hl] at k
            obtain ⟨k1, k2, c, rfl⟩ := (rk.up g3.mh).key_n hk
            have RP := R3.ndSet hw h2 eb (hd.put hk rk (rv.up (g2.mm.trans g3.mm)))
            refine ⟨b, xs, c, key, rfl, hN, rfl, k1, k2, by rw [hd.len, sizeLine_eq]; exact hl, ?_⟩
            refine k σ _ m M3 (Ext.grow g3 R2.gh) (fun h => ?_) RP
            show m.length = (s.st.set j _).length
            rw [List.length_set]
            exact a h
          · rw [if_neg hl] at k; exact k.elim
      | exc x => exact (RV.nd_ne hr).elim
      | stuck => simp only [hr] at k; exact k.elim
    | exc x => intro k cls dd H3 M3 g3 xr; exact k cls dd σ H3 m M3 (Ext.grow g3 R2.gh) a (R2.grow g3) xr
    | stuck => intro k; exact k.elim
  | exc x => intro k cls dd H2 M2 g2 xr; exact k cls dd σ H2 m M2 (Ext.grow g2 R1.gh) a (R1.grow g2) xr
  | stuck => intro k; exact k.elim
def fNdNew : Sta → Fe := fun s => .ok (.v (.obj s.st.length)) ⟨s.env, s.st ++ [ndOb []]⟩
theorem fe_ndnew (hw : T.w = X.w) : FEv X T W true (.Dict [] [] pos) fNdNew := by
  refine PE.wk pe_ndnew ?_
  rintro σ H Q ⟨s, m, M, G, R, a, q⟩ p hp
  have g := Grow.fresh (p := p) (o := ndO X.w p []) R.mh hp
  have R2 := R.ndNew hw (a rfl) g hp upd_same .nil (R.mh.free hp)
  have mx : (m ++ [p])[s.st.length]? = some p := by rw [← a rfl]; simp
  refine q (.ref p) _ (m ++ [p]) M ((Ext.grow g R.gh).trans ⟨MLe.snoc m p, (fun h => nomatch h), Same.refl _, fun _ _ h => .inl h⟩) (fun _ => by simp [a rfl]) ?_
  exact R2.consV (.obj mx)
end
end MP

namespace MP
open PySem PySem.Spec PyProof.Rows L2

section
variable {X : Cx} {k v : Expr} {pos : Pos} {tk tv : TE}
end
section
variable {X : Cx} {T : Tab} {W : WX} {m : List Addr} {M G H : Hp} {k v : Expr} {pos : Pos} {fk fv : Sta → PR D}
end
theorem hu9 {k : Nat} {A : Around} (hr : Room k A) : A.units + 9 < cLine := by have := hr.units; omega
section
variable {X : Cx} {T : Tab} {W : WX} {o i : Expr} {pos : Pos} {fo fk : Sta → PR RV}
theorem et_ndnin (hu : X.A.units + 9 < cLine) (hw : T.w = X.w) (hi : PEv X T W i fk) (ho : PEv X T W o fo) (hm : behindInMarks .NotIn o = false) : PTv X T W (.Compare i [.NotIn] [o] pos) (pB (pNdIn true fk fo)) :=
  PT.wk (pt_cmpR (op_ndNin hu) hi ho hm) fun σ H Q h => t_ndin hw (tB_of h)
end
section
variable {env : List Slot} {st : List Ob} {s : Sta}
theorem e_ndIn (neg : Bool) (fk fo : Sta → PR RV) : pNdIn neg fk fo s = (fk s).bind fun rk => (fo s).bind fun ro => (ro.nd s.st).bind fun jk => xNdIn neg (keyN rk.d) jk.2 := Eq.trans rfl rfl
theorem e_ndGet (fo fk : Sta → PR RV) : pNdGet fo fk s = (fo s).bind fun ro => (fk s).bind fun rk => (ro.nd s.st).bind fun jk => xNdGet (keyN rk.d) jk.2 := Eq.trans rfl rfl
def xNdS (o : Option (List (D × D))) (j : Nat) : PR (Nat × List (D × D)) := match o with
  | some kvs => .ok (j, kvs)
  | none => .stuck
theorem e_nd (k : RK) (j : Nat) : RV.nd st ⟨k, .obj j⟩ = xNdS (kvsOf st[j]?) j := by
  show (match kvsOf st[j]? with | some kvs => _ | none => _) = _
  unfold xNdS
  cases kvsOf st[j]? <;> rfl
theorem bind_okL {α β : Type} (a : α) (f : α → PR β) : (PR.ok a).bind f = f a := Eq.trans rfl rfl
theorem pfl_okL {α : Type} (a : α) (s : Sta) (f : α → Fl) : (PR.ok a).fl s f = f a := Eq.trans rfl rfl
theorem e_kvs (kvs : List (D × D)) : kvsOf (some (ndOb kvs)) = some kvs := kvs_nd kvs
theorem e_ndS (kvs : List (D × D)) (j : Nat) : xNdS (some kvs) j = .ok (j, kvs) := Eq.trans rfl rfl
theorem e_xndIn (neg : Bool) (k : NestedKey) (kvs : List (D × D)) : xNdIn neg (some k) kvs = .ok (sh (.bool ((ndVal kvs k).isSome != neg))) := Eq.trans rfl rfl
theorem e_xndGet {k : NestedKey} {kvs : List (D × D)} {d : D} (h : ndVal kvs k = some d) : xNdGet (some k) kvs = .ok (sh d) := by
  show PR.of ((ndVal kvs k).map sh) = _
  rw [h]; rfl
theorem s_ndPut (fo : Sta → PR RV) (fk fv : Sta → PR D) : sNdPut fo fk fv s = (fv s).fl s fun v => (fo s).fl s fun ro => (fk s).fl s fun dk => (ro.nd s.st).fl s fun jk => xNdPut s v dk jk (keyN dk) := Eq.trans rfl rfl
theorem s_xndPut {v dk : D} {j : Nat} {kvs : List (D × D)} {k : NestedKey} (h : kvs.length < 16777216) : xNdPut ⟨env, st⟩ v dk (j, kvs) (some k) = .nx ⟨env, st.set j (ndOb (ndPut kvs dk v k))⟩ := if_pos h
theorem f_ndNew : fNdNew ⟨env, st⟩ = .ok (.v (.obj st.length)) ⟨env, st ++ [ndOb []]⟩ := Eq.trans rfl rfl
end
end MP

namespace MP
open PySem PySem.Spec PyProof.Rows L2

section
variable {X : Cx} {T : Tab} {W : WX} {al : Bool} {m : List Addr} {M G H : Hp} {e : Expr} {pos pos' : Pos} {i : Nat} {x : Str} {f : Sta → PR D}
theorem DRs.dropLast {K : PySem.W.Frag} {xs : List V} {us : List D} (h : DRs K m H xs us) : DRs K m H xs.dropLast us.dropLast := by
  rw [List.dropLast_eq_take, List.dropLast_eq_take, h.length]
  exact h.take _
end
section
variable {X : Cx} {T : Tab} {W : WX} {a : Expr} {es : List Expr} {fa : Sta → PR RV} {p pos pos2 : Pos}
def anyTab : List (List (Str × Bool)) → Str → Option Bool
  | [], _ => some false
  | t :: ts, c => match t.lookup c with
    | some true => some true
    | some false => anyTab ts c
    | none => none
/-- the classes that a tuple in the text names -/
inductive IsxL (X : Cx) : List Expr → List V → List Value → List (List (Str × Bool)) → Prop
  | nil : IsxL X [] [] [] []
  | cons {x : Str} {p : Pos} {C : Addr} {tab : List (Str × Bool)} {es : List Expr} {cs : List V} {us : List Value} {tabs : List (List (Str × Bool))} : Gl X x → X.mg x = some (.ref C) → IsxOk X.K tab (.ref C) → (x == ("__debug__" : Str)) = false → IsxL X es cs us tabs → IsxL X (.Name x p :: es) (.ref C :: cs) (.ref C :: us) (tab :: tabs)
theorem IsxL.pa {cs : List V} {us : List Value} {tabs : List (List (Str × Bool))} (h : IsxL X es cs us tabs) : ∃ t, PA X es t ∧ ∀ σ H Q, Q cs H → t σ H Q := by
  induction h with
  | nil => exact ⟨_, pa_nil, fun σ H Q q => q⟩
  | cons hg hm ok hd _ ih =>
    obtain ⟨t, h1, h2⟩ := ih
    exact ⟨_, pa_cons (pe_glob (v := .ref _) hg hm rfl hd) h1 (by rfl), fun σ H Q q => h2 σ H _ q⟩
theorem IsxL.cls {cs : List V} {us : List Value} {tabs : List (List (Str × Bool))} (h : IsxL X es cs us tabs) : Paired ClsV cs us := by
  induction h with
  | nil => exact .nil
  | cons _ _ _ _ _ ih => exact .cons (.own _) ih
theorem IsxL.any {cs : List V} {us : List Value} {tabs : List (List (Str × Bool))} (h : IsxL X es cs us tabs) {c : Str} {C : Addr} (hn : NmC X.K c C) : ∀ {b : Bool}, anyTab tabs c = some b → PySem.W.kitAny X.K (.ref C) us = some b := by
  induction h with
  | nil => intro b e; cases e; rfl
  | @cons x p C' tab es cs us tabs hg hm ok hd _ ih =>
    intro b e
    unfold anyTab at e
    cases ht : tab.lookup c with
    | none => rw [ht] at e; cases e
    | some b0 =>
      rw [ht] at e
      obtain ⟨h3, _⟩ := ok _ _ _ ht hn
      cases b0 with
      | true => cases e; exact kitAny_cons h3 (fun z => nomatch z) fun _ => rfl
      | false => exact kitAny_cons h3 (fun _ => ih e) fun z => nomatch z
theorem IsxL.len {cs : List V} {us : List Value} {tabs : List (List (Str × Bool))} (h : IsxL X es cs us tabs) : cs.length = es.length := by
  induction h with
  | nil => rfl
  | cons _ _ _ _ _ ih => simp [ih]
end
section
variable {env : List Slot} {st : List Ob}
end
end MP

namespace MP
open PySem PySem.Spec PyProof.Rows L2

section
variable {X : Cx} {T : Tab} {W : WX} {m : List Addr} {M G H : Hp} {k v o : Expr} {p pos : Pos} {fk fv : Sta → PR D} {fo : Sta → PR RV}
end
end MP

namespace MP
open PySem PySem.Spec PyProof.Rows L2

section
variable {X : Cx} {o e f : Expr} {apos cpos : Pos} {td ty tx : TE}
end
end MP

namespace MP
open PySem PySem.Spec PyProof.Rows L2

section
variable {X : Cx} {T : Tab} {W : WX} {al : Bool} {m : List Addr} {M G H : Hp} {o i e f : Expr} {p pos apos cpos : Pos} {fo : Sta → PR RV} {fk fv : Sta → PR D}
end
end MP

namespace MP
open PySem PySem.Spec PyProof.Rows L2

section
variable {X : Cx} {T : Tab} {W : WX} {al : Bool} {x y : Str} {c : Value} {j : Nat} {body : List Stmt} {np pos pos' p1 p2 p3 : Pos} {kd : Nat} {g : Sta → Fl} {ct : Str → Option Bool}
end
end MP

namespace MP
open PySem PySem.Spec PyProof.Rows L2

section
variable {K : PySem.W.Frag} {T : Tab} {m : List Addr} {M G H : Hp} {s : Sta} {σ : L2.St} {D : Addr} {o o' : HO}
end
end MP

namespace MP
open PySem PySem.Spec PyProof.Rows L2

section
variable {K : PySem.W.Frag} {T : Tab} {m : List Addr} {M G H : Hp} {σ : L2.St} {st : List Ob}
end
section
variable {K : PySem.W.Frag} {T : Tab} {m : List Addr} {M G H : Hp} {σ : L2.St} {s : Sta} {D : Addr} {o : HO}
end
section
variable {X : Cx} {T : Tab} {W : WX} {al : Bool}
variable {elt tg iter : Expr} {scope : Scope} {own : List (Str × Nat)} {pos : Pos} {f : Sta → PR (List D)} {t : Tg} {te : Sta → Fe}
end
section
variable {env : List Slot} {st : List Ob}
end
end MP

namespace MP
open PySem PySem.Spec PyProof.Rows L2
section
variable {X : Cx} {T : Tab} {W : WX} {al : Bool} {m : List Addr} {M G H : Hp} {o e : Expr} {pos apos cpos : Pos} {p : Pl}
end
section
variable {env : List Slot} {st : List Ob}
end
end MP

namespace MP
open PySem PySem.Spec PyProof.Rows L2
section
variable {X : Cx} {T : Tab} {W : WX} {al : Bool} {x y : Str} {c : Value} {j : Nat} {i : Int} {body : List Stmt} {np pos pos' p1 p2 p3 : Pos} {kd : Nat} {g : Sta → Fl} {ct : Str → Option Bool}
end
end MP

namespace MP
open PySem PySem.Spec PyProof.Rows L2
section
variable {X : Cx} {T : Tab} {W : WX} {o e : Expr} {fo fe : Sta → PR RV} {apos cpos : Pos}
end
end MP

namespace MP
open PySem PySem.Spec PyProof.Rows L2
def x2F (s : Sta) : Option RV → Fe
  | some r => match r.slot with
    | .ok sl => .ok sl s
    | _ => .stuck
  | none => .stuck
def x2Fb (g : D → D → Option RV) (x : D) : Fd → Fe
  | .ok y s => x2F s (g x y)
  | .exc e s => .exc e s
  | .stuck => .stuck
def x2Fa (g : D → D → Option RV) (fb : Sta → Fd) : Fd → Fe
  | .ok x s => x2Fb g x (fb s)
  | .exc e s => .exc e s
  | .stuck => .stuck
def f2 (g : D → D → Option RV) (fa fb : Sta → Fd) : Sta → Fe := fun s => x2Fa g fb (fa s)
section
variable {X : Cx} {T : Tab} {W : WX} {al : Bool} {a b : Expr} {pos : Pos}
end
end MP

namespace MP
open PySem PySem.Spec PyProof.Rows L2
section
variable {X : Cx} {T : Tab} {W : WX} {o : Expr} {p pos : Pos} {fo : Sta → PR RV}
theorem NdR.keys {K : PySem.W.Frag} {m : List Addr} {M : Hp} : ∀ {xs : List (NestedKey × Addr × V)} {kvs : List (D × D)}, NdR K m M xs kvs → DRs K m M (xs.map fun x => V.ref x.2.1) (kvs.map (·.1))
  | _, _, .nil => .nil
  | _, _, .cons _ h2 _ t => .cons h2 t.keys
end
end MP

namespace MP
open PySem PySem.Spec PyProof.Rows L2
section
variable {X : Cx} {T : Tab} {W : WX} {al : Bool} {e : Expr} {pos : Pos}
def xd1 (g : List D → Option RV) : Fd → Fd
  | .ok x s => xd2c s (g [x])
  | .exc e s => .exc e s
  | .stuck => .stuck
def d1 (g : List D → Option RV) (fa : Sta → Fd) : Sta → Fd := fun s => xd1 g (fa s)
theorem e_d1 (g : List D → Option RV) (fa : Sta → Fd) (s : Sta) : d1 g fa s = xd1 g (fa s) := Eq.trans rfl rfl
theorem e_xd1 (g : List D → Option RV) (x : D) (s : Sta) : xd1 g (.ok x s) = xd2c s (g [x]) := Eq.trans rfl rfl
end
section
variable {env : List Slot} {st : List Ob}
end
end MP

namespace MP
open PySem PySem.Spec PyProof.Rows L2
section
variable {X : Cx} {T : Tab} {W : WX} {al : Bool} {m : List Addr} {M G H : Hp} {o e c : Expr} {pos p pa : Pos} {cs : List Str} {f : Str}
end
section
variable {X : Cx} {T : Tab} {W : WX} {al : Bool} {x n y f : Str} {c : Value} {i j : Nat} {body : List Stmt} {np pos pos' p1 p2 p3 pa : Pos} {g : Sta → Fl} {cs : List Str}
end
section
variable {env : List Slot} {st : List Ob}
end
end MP

namespace MP
open PySem PySem.Spec PyProof.Rows L2
def pairK : D → Option (Key × D)
  | .tup [k, v] => (keyD k).map fun key => (key, v)
  | _ => none
def pairsK : List D → Option (List (Key × D))
  | [] => some []
  | d :: ds => match pairK d, pairsK ds with
    | some p, some ps => some (p :: ps)
    | _, _ => none
def mergeD (kvs more : List (Key × D)) : List (Key × D) := more.foldl (fun acc kv => putD acc kv.1 kv.2) kvs
section
variable {K : PySem.W.Frag} {m : List Addr} {M H : Hp}
theorem DRk.merge : ∀ {more : List (Key × V)} {ms : List (Key × D)} {kvs : List (Key × V)} {ks : List (Key × D)}, DRk K m M more ms → DRk K m M kvs ks → DRk K m M (mergeK kvs more) (mergeD ks ms)
  | _, _, _, _, .nil, h => h
  | _, _, _, _, .cons (k := k) (v := v) (vs := vs) (d := d) (ds := ds) r t, h => by
    have z := DRk.merge t (DRk.put (k := k) r h)
    exact z
theorem pairs_DR (s : Same M H) : ∀ (ds : List D) (kvs : List (Key × D)) (xs : List V), pairsK ds = some kvs → DRs K m M xs ds →
    ∃ (ps : List Addr) (vs : List (Key × V)), xs = ps.map V.ref ∧ Paired (fun p kv => SqT K H p [kV kv.1, kv.2]) ps vs ∧ DRk K m M vs kvs
  | [], kvs, xs, e, h => by
    cases e; cases h
    exact ⟨[], [], rfl, .nil, .nil⟩
  | d :: ds, kvs, xs, e, h => by
    rw [pairsK] at e
    cases h with
    | cons h1 h2 =>
      cases hp : pairK d with
      | none => rw [hp] at e; cases e
      | some p =>
        cases hps : pairsK ds with
        | none => rw [hp, hps] at e; cases e
        | some ps =>
          rw [hp, hps] at e
          cases e
          obtain ⟨as, vs, rfl, q1, q2⟩ := pairs_DR s ds ps _ hps h2
          unfold pairK at hp
          split at hp
          · rename_i k v
            cases hk : keyD k with
            | none => rw [hk] at hp; cases hp
            | some key =>
              rw [hk] at hp
              cases hp
              cases h1 with
              | tup t1 t2 =>
                rename_i a ys
                cases t2 with
                | cons u1 u2 =>
                  cases u2 with
                  | cons w1 w2 =>
                    cases w2
                    rename_i y1 y2
                    have ek : y1 = kV key := DR.key u1 hk
                    subst ek
                    exact ⟨a :: as, (key, y2) :: vs, rfl, .cons (Same.seqT s t1) q1, .cons w1 q2⟩
          · cases hp
end
section
variable {X : Cx} {T : Tab} {W : WX} {o e f : Expr} {apos cpos : Pos} {fo fk fx : Sta → PR RV}
end
section
variable {env : List Slot} {st : List Ob}
end
end MP

namespace MP
open PySem PySem.Spec PyProof.Rows L2
section
variable {P : Program} {w : World} {K : PySem.W.Frag} {mg : Str → Option Value} {base : Heap} {T : Tab}
end
section
variable {X : Cx} {T : Tab} {W : WX} {e o : Expr} {es : List Expr} {kws : List Keyword} {pos p : Pos} {fs fz : Sta → PR (List D)} {k n : Nat} {sem : Sem} {x : Str} {al : Bool} {E : L2.St → XK} {t tk : TA} {ks : List Str}
theorem PK.wk {t t' : TA} (h : PK X kws t) (w : ∀ σ H Q, t' σ H Q → t σ H Q) : PK X kws t' := ⟨fun pos pins s σ H Q I q => h.run pos pins s σ H Q I (w _ _ _ q)⟩
end
end MP

namespace MP
open PySem PySem.Spec PyProof.Rows L2
section
variable {X : Cx} {T : Tab} {W : WX} {al : Bool} {m : List Addr} {M G H : Hp} {e : Expr} {pos : Pos} {c f i : Nat} {fs : List Nat} {x n : Str} {g : Sta → PR D} {pn pos' : Pos}
end
section
variable {X : Cx} {T : Tab} {W : WX} {al : Bool} {m : List Addr} {M G H : Hp} {a b : Expr} {rest : List Expr} {pos : Pos} {fa fb : Sta → Fd}
end
section
variable {X : Cx}
end
section
variable {env : List Slot} {st : List Ob}
end
end MP

namespace MP
open PySem PySem.Spec PyProof.Rows L2
section
variable {X : Cx} {T : Tab} {W : WX} {m : List Addr} {M G H : Hp} {x : Expr} {pos dpos : Pos}
end
section
variable {X : Cx} {T : Tab} {W : WX} {al : Bool} {m : List Addr} {M G H : Hp} {a b o e : Expr} {es : List Expr} {pos apos cpos : Pos}
def xBA2 (s : Sta) (rv : PR D) : D → Fl
  | .obj j => xAP0 (.ob j) s rv (Pl.get (.ob j) s)
  | _ => .stuck
def xBA1 (s : Sta) (rv : PR D) : PR RV → Fl
  | .ok r => xBA2 s rv r.d
  | .exc e => .exc e s
  | .stuck => .stuck
def sBApp (fo : Sta → PR RV) (f : Sta → PR D) : Sta → Fl := fun s => xBA1 s (f s) (fo s)
theorem s_bapp {fo : Sta → PR RV} {f : Sta → PR D} (ho : PEv X T W o fo) (he : PDv X T W e f)
    (hbase : attributeBase o "append" X.env (eval o X.env) = eval o X.env := by rfl)
    (hfew : ((backTo cpos (starEach [e] X.env)).all (fun x => !x.1) && (backToKw cpos (keywordEach [] X.env)).all (fun x => x.1.isSome)
      && decide ([e].length + ([] : List Keyword).length + (if ([] : List Keyword).isEmpty then 0 else 1) < 30)) = true := by rfl)
    (hline : (apos.endLine == cpos.line) = true := by rfl) (hs : starEach [e] X.env = (false, eval e X.env) :: starEach [] X.env := by rfl) (hplain : (backTo cpos (starEach [] X.env)).any (·.1) = false := by rfl)
    (hsw : swapsWith (.Call (.Attribute o "append" apos) [e] [] cpos) none pos.line X.env = pure false := by rfl) :
    SE1 X T W al (.Expr (.Call (.Attribute o "append" apos) [e] [] cpos) pos) (sBApp fo f) := by
  refine PS.wk (ps_expr (pe_bm PySem.F.plainAttrs_list PySem.F.slot_list_append PySem.F.type_list_append mt_append ho (pa_cons he pa_nil hs) hbase hfew hline hs hplain) hsw) ?_
  rintro D σ H ⟨s, m, M, G, R, a, q⟩
  unfold sBApp at q
  refine ⟨s, m, M, G, R, ?_⟩
  revert q
  cases hfo : fo s with
  | exc x => intro q cls dd H2 M2 g2 xr; exact q cls dd σ H2 m M2 (Ext.grow g2 R.gh) a (R.grow g2) xr
  | stuck => intro q; exact q.elim
  | ok r =>
    obtain ⟨kk, dk⟩ := r
    intro q oy H2 M2 g2 rr
    have R2 := R.grow g2
    have q : FlP X T W al G m M D (xBA2 s (f s) dk) := q
    obtain ⟨j, ej⟩ : ∃ j, dk = .obj j := by cases dk <;> first | exact q.elim | exact ⟨_, rfl⟩
    subst ej
    have q : FlP X T W al G m M D (xAP0 (.ob j) s (f s) (Pl.get (.ob j) s)) := q
    cases hg : Pl.get (.ob j) s with
    | none => rw [hg] at q; exact q.elim
    | some d =>
      obtain ⟨b, ob, hb, hH, hd⟩ := R2.plAt hg
      obtain ⟨a2, rfl, ha2⟩ := rr.arg.objA
      have eb : a2 = b := by
        obtain ⟨_, _, _, b3⟩ := hb
        rw [ha2] at b3
        cases b3
        rfl
      subst eb
      rw [hg] at q
      cases hd with
      | dic hd => exact q.elim
      | lst hd =>
        rename_i xs ds
        have q : FlP X T W al G m M D (xAP1 (.ob j) s ds (f s)) := q
        have q := FlP.ext q (Ext.grow g2 R.gh)
        refine ⟨.inl ⟨rfl, xs, SqL.of hH⟩, s, m, M2, G, R2, ?_⟩
        revert q
        cases hf : f s with
        | ok d =>
          intro q y H1 M1 g r
          unfold xAP1 at q
          dsimp only at q
          by_cases hl : ds.length < 16777216
          · rw [if_pos hl] at q
            refine ⟨a2, xs, y, rfl, rfl, g.same _ _ hH, by rw [hd.length, sizeLine_eq]; exact hl, ?_⟩
            have R3 := (R2.grow g).mutP hg (hb.up g.same) (o' := .lst (xs ++ [y])) (d' := .list (ds ++ [d])) (.lst ((hd.up g.mm).append (.cons r .nil)))
            exact q σ _ m M1 (Ext.grow g R2.gh) (fun h => (a h).trans put_len.symm) R3
          · rw [if_neg hl] at q
            exact q.elim
        | exc x => intro q cls dd H3 M3 g3 xr; exact q cls dd σ H3 m M3 (Ext.grow g3 R2.gh) a (R2.grow g3) xr
        | stuck => intro q; exact q.elim
end
section
variable {env : List Slot} {st : List Ob}
theorem s_BApp (fo : Sta → PR RV) (f : Sta → PR D) : sBApp fo f ⟨env, st⟩ = xBA1 ⟨env, st⟩ (f ⟨env, st⟩) (fo ⟨env, st⟩) := Eq.trans rfl rfl
theorem s_xBA1 (s : Sta) (rv : PR D) (k : RK) (j : Nat) : xBA1 s rv (.ok ⟨k, .obj j⟩) = xAP0 (.ob j) s rv (Pl.get (.ob j) s) := Eq.trans rfl rfl
end
end MP

namespace MP
open PySem PySem.Spec PyProof.Rows L2
section
variable {X : Cx} {T : Tab} {W : WX} {al : Bool}
end
end MP

namespace MP
open PySem PySem.Spec PyProof.Rows L2
section
variable {X : Cx} {T : Tab} {W : WX} {e : Expr} {pos pa pb pc : Pos} {fa : Sta → PR RV} {k : Nat} {al : Bool} {st : Stmt} {g : Sta → Fl} {G : Hp} {m : List Addr} {M H : Hp}
end
section
variable {env : List Slot} {st : List Ob}
end
end MP

set_option maxHeartbeats 2000000
namespace MP
open PySem PySem.Spec PyProof.Rows L2
section
variable {X : Cx} {x n : Str} {c : Value} {i : Nat} {body suite : List Stmt} {b₀ : Stmt} {np pos pos' : Pos} {tb : WX → TS} {ts : Addr → Value → Option Addr → TS} {Wo : WX}
end


section
variable {X : Cx} {T : Tab} {W : WX} {al : Bool} {x n : Str} {c : Value} {i : Nat} {body suite : List Stmt} {b₀ : Stmt} {np pos pos' : Pos} {g h : Sta → Fl} {ct : Str → Option Bool}
end
section
variable {k : Nat} {A : Around} {v : Option Value}
end
section
variable {env : List Slot} {st : List Ob}
end
end MP

namespace MP
open PySem PySem.Spec PyProof.Rows L2

section
variable {X : Cx} {o e f : Expr} {apos cpos : Pos} {td ty tx : TE}
end
section
variable {X : Cx} {T : Tab} {W : WX} {al : Bool} {m : List Addr} {M G H : Hp} {a b o i e f : Expr} {es : List Expr} {p pos apos cpos : Pos} {fo : Sta → PR RV} {fk fv : Sta → PR D}
end
section
variable {prog : Program} {w : World} {K : Type} [DecidableEq K] {knd : HeapKind prog w K} {A : Around} {E : Value → Shared → Prop} {s : Shared}
end
theorem Paired.ix {α β : Type} {F : α → β → Prop} : ∀ {l₁ : List α} {l₂ : List β}, Paired F l₁ l₂ → ∀ (i : Nat) (y : β), l₂[i]? = some y → ∃ x, l₁[i]? = some x ∧ F x y
  | _, _, .nil, i, y, h => by simp at h
  | _, _, .cons (a := a) r t, 0, y, h => by simp at h; subst h; exact ⟨a, rfl, r⟩
  | _, _, .cons r t, i + 1, y, h => by
    simp at h
    obtain ⟨x, h1, h2⟩ := Paired.ix t i y h
    exact ⟨x, by simpa using h1, h2⟩
section
variable {X : Cx} {T : Tab} {W : WX} {al : Bool} {m : List Addr} {M G H : Hp} {a b o i e f : Expr} {es : List Expr} {p pos apos cpos : Pos} {k n : Nat} {sem : Sem} {x : Str}
mutual
theorem cold_noObj : ∀ d : D, coldD d = true → d.noObj = true
  | .none, _ => rfl
  | .bool _, _ => rfl
  | .int _, _ => rfl
  | .str _, _ => rfl
  | .tup xs, h => by
    rw [coldD] at h
    show noObjs xs = true
    exact colds_noObj xs h
  | .list _, h => by unfold coldD at h; cases h
  | .lk _, h => by unfold coldD at h; cases h
  | .dic _, h => by unfold coldD at h; cases h
  | .obj _, h => by unfold coldD at h; cases h
  | .xv _ _, h => by unfold coldD at h; cases h
  | .btp _, h => by unfold coldD at h; cases h
theorem colds_noObj : ∀ ds : List D, coldDs ds = true → noObjs ds = true
  | [], _ => rfl
  | d :: ds, h => by
    rw [coldDs, Bool.and_eq_true] at h
    rw [noObjs, cold_noObj d h.1, colds_noObj ds h.2]
    rfl
end
end
section
variable {env : List Slot} {st : List Ob} {s : Sta}
end
end MP

namespace MP
open PySem PySem.Spec PyProof.Rows L2
/-- a kind of keys with the values that are such -/
structure MK (P : Program) (w : World) (κ : Type) [DecidableEq κ] where
  knd : PySem.KeyKind P w κ
  mkv : κ → Tok → Value
  ky : Value → κ
  is : ∀ k t, knd.is k (mkv k t) = true
  sc : ∀ k t, (mkv k t).scannable = true
  kd : ∀ k t, ky (mkv k t) = k
section
variable {P : Program} {w : World} {κ : Type} [DecidableEq κ]
def keyG (N : MK P w κ) (e : Int × Value) : κ := N.ky e.2
def GoodG (N : MK P w κ) (e : Int × Value) : Prop := ∃ k tk, e.2 = N.mkv k tk ∧ e.1 = N.knd.hash k
def SetG (N : MK P w κ) (h : Heap) (a : Addr) (S : κ → Bool) (n : Nat) : Prop :=
  ∃ o es ep t, h.get? a = some o ∧ o.ExactSet ∧ o.data = .set es ep t ∧ (∀ e ∈ es.toList, GoodG N e) ∧ (es.toList.map (keyG N)).Nodup ∧ (∀ k, S k = true ↔ k ∈ es.toList.map (keyG N)) ∧
    es.size < scanBound ∧ t.fits es.size = true ∧ es.size = n ∧ Ris t.place.toList ∧ (w.params.followText "set-order" = true ∨ t.led = true)
variable {N : MK P w κ} {h h' : Heap} {a : Addr} {S : κ → Bool} {n : Nat}
theorem SetG.at (R : SetG N h a S n) (k : ∀ o, h.get? a = some o → h'.get? a = some o) : SetG N h' a S n := by
  obtain ⟨o, es, ep, t, ho, r⟩ := R
  exact ⟨o, es, ep, t, k o ho, r⟩
theorem SetG.congr {S' : κ → Bool} (R : SetG N h a S n) (e : ∀ k, S' k = S k) : SetG N h a S' n := by
  have q : S' = S := funext e
  rw [q]; exact R
end
section
variable {P : Program} {w : World} {A : Around} {E : Value → Shared → Prop} {s : Shared} {κ : Type} [DecidableEq κ] {N : MK P w κ} {a : Addr} {S : κ → Bool} {n : Nat}
end
section
variable {P : Program} {w : World} {A : Around} {E : Value → Shared → Prop} {s : Shared} {κ : Type} [DecidableEq κ] {N : MK P w κ}
end
section
variable {P : Program} {w : World} {A : Around} {E : Value → Shared → Prop} {s : Shared} {a : Addr}
end
end MP

namespace MP
open PySem PySem.Spec PyProof.Rows L2
section
variable {X : Cx} {T : Tab} {W : WX} {a : Expr} {fa : Sta → PR RV} {p p2 q pos : Pos}
end
section
variable {X : Cx}
end
section
variable {X : Cx} {T : Tab} {W : WX} {al : Bool} {m : List Addr} {M G H : Hp} {o e : Expr} {pos apos cpos : Pos} {p : Pl}
end
section
variable {env : List Slot} {st : List Ob}
end
end MP

namespace MP
open PySem PySem.Spec PyProof.Rows L2
section
variable {X : Cx} {T : Tab} {W : WX} {al : Bool} {st : Stmt} {g : Sta → Fl} {m : List Addr} {M G H : Hp} {a b : Expr} {pos : Pos} {fa fb : Sta → PR RV}
end
section
variable {env : List Slot} {st : List Ob}
end
end MP

namespace MP
open PySem PySem.Spec PyProof.Rows L2
section
variable {X : Cx} {T : Tab} {W : WX} {al : Bool} {c k n : Nat} {x : Str} {sem : Sem} {p pos : Pos}
end
section
variable {X : Cx} {T : Tab} {W : WX} {al : Bool} {o e : Expr} {ta : TE} {f : Str} {pos : Pos}
end
section
variable {X : Cx} {T : Tab} {W : WX} {al : Bool}
end
section
variable {X : Cx} {T : Tab} {W : WX} {a b c tg : Expr} {p pos : Pos}
end
section
variable {X : Cx} {T : Tab} {W : WX} {al : Bool} {e : Expr} {pos tp : Pos} {es : List Expr}
end
end MP

namespace MP
open PySem PySem.Spec PyProof.Rows L2
section
variable {X : Cx} {T : Tab} {W : WX} {al : Bool} {o e : Expr} {pos tp apos cpos : Pos} {es : List Expr} {m : List Addr} {M G H : Hp}
end
section
variable {env : List Slot} {st : List Ob}
theorem s_seqL (ds : List D) : seqOf (.list ds) = some ds := Eq.trans rfl rfl
theorem s_seqT (ds : List D) : seqOf (.tup ds) = some ds := Eq.trans rfl rfl
end
end MP

namespace MP
open PySem PySem.Spec PyProof.Rows L2
/-- its entries -/
inductive EsR (w : World) : List DictEntry → List (Str × Int) → Prop
  | nil : EsR w [] []
  | cons {k : Str} {v : Int} {t u : Tok} {es : List DictEntry} {kvs : List (Str × Int)} : EsR w es kvs → EsR w (⟨PyData.keyHash w.params k, .str k t, .int v u⟩ :: es) ((k, v) :: kvs)
/-- at d: such a dict -/
structure KDc (K : PySem.W.Frag) (w : World) (d : Addr) (kvs : List (Str × Int)) : Prop where
  kd : ∃ es n, KDict K w d es n
  look : ∀ z, ∃ r, PySem.W.nsIn K d z = some r ∧ match kvs.lookup z with
    | some i => ∃ t, r = some (.int i t)
    | none => r = none
theorem EsR.lit {w : World} {es : List DictEntry} {kvs : List (Str × Int)} (h : EsR w es kvs) : PySem.W.KeysLit w.params es := by
  induction h with
  | nil => exact True.intro
  | cons _ ih => exact ⟨⟨_, _, rfl, rfl⟩, ih⟩
theorem EsR.any {w : World} {es : List DictEntry} {kvs : List (Str × Int)} (h : EsR w es kvs) : es.any (·.refKey) = false := by
  induction h with
  | nil => rfl
  | cons _ ih => rw [List.any_cons, ih]; rfl
theorem EsR.find {w : World} {es : List DictEntry} {kvs : List (Str × Int)} (h : EsR w es kvs) (z : Str) :
    (∃ i e t, kvs.lookup z = some i ∧ es.find? (fun e : DictEntry => e.key.isStr z) = some e ∧ e.val = Value.int i t) ∨ (kvs.lookup z = none ∧ es.find? (fun e : DictEntry => e.key.isStr z) = none) := by
  induction h with
  | nil => exact .inr ⟨rfl, rfl⟩
  | cons h ih =>
    rename_i k v t u es kvs
    by_cases hz : z = k
    · subst hz
      have e : (Value.str z t).isStr z = true := by show (z == z) = true; exact beq_self_eq_true z
      refine .inl ⟨v, _, u, by rw [List.lookup_cons, BEq.rfl], List.find?_cons_of_pos (l := es) e, rfl⟩
    · have e : ¬ (Value.str k t).isStr z = true := by
        show ¬ (k == z) = true
        rw [beq_iff_eq]
        exact fun e => hz e.symm
      have e2 : (z == k) = false := beq_eq_false_iff_ne.mpr hz
      have l : List.lookup z ((k, v) :: kvs) = List.lookup z kvs := by rw [List.lookup_cons, e2]
      have f : List.find? (fun e : DictEntry => e.key.isStr z) (⟨PyData.keyHash w.params k, .str k t, .int v u⟩ :: es) = List.find? (fun e : DictEntry => e.key.isStr z) es := List.find?_cons_of_neg e
      rw [l, f]
      exact ih
theorem KDc.of {K : PySem.W.Frag} {w : World} {d : Addr} {es : Array DictEntry} {n : Nat} {kvs : List (Str × Int)} (at_ : K.lookup d = some ⟨.type "dict", none, .dict es n, #[]⟩) (h : EsR w es.toList kvs) (low : (d == sysModules) = false) : KDc K w d kvs := by
  refine ⟨⟨es, n, at_, h.lit, low⟩, fun z => ?_⟩
  unfold PySem.W.nsIn
  rw [at_]
  dsimp only
  rcases h.find z with ⟨i, e, t, h1, h2, h3⟩ | ⟨h1, h2⟩
  · rw [h2, h1]
    exact ⟨_, rfl, t, by rw [h3]⟩
  · rw [h2, h1, h.any]
    exact ⟨none, rfl, rfl⟩
section
variable {X : Cx} {T : Tab} {W : WX} {a : Expr} {x : Str} {p pos : Pos} {d : Addr} {kvs : List (Str × Int)} {fa : Sta → PR RV}
end
end MP

namespace MP
open PySem PySem.Spec PyProof.Rows L2
section
variable {X : Cx} {T : Tab} {W : WX} {al : Bool} {m m' : List Addr} {M M' G H : Hp} {pos : Pos}
theorem FdP.ext {σ : L2.St} {Q : VK} {r : Fd} (h : FdP X T W al G m M σ Q r) (e : Ext al G m M m' M') : FdP X T W al G m' M' σ Q r := by
  cases r with
  | ok d s => exact fun y H' m2 M2 e2 => h y H' m2 M2 (e.trans e2)
  | exc x s => exact fun cls d H' m2 M2 e2 => h cls d H' m2 M2 (e.trans e2)
  | stuck => exact h
end
section
variable {env : List Slot} {st : List Ob}
end
inductive EsS (w : World) : List DictEntry → List (Str × Str) → Prop
  | nil : EsS w [] []
  | cons {k v : Str} {t u : Tok} {es : List DictEntry} {kvs : List (Str × Str)} : EsS w es kvs → EsS w (⟨PyData.keyHash w.params k, .str k t, .str v u⟩ :: es) ((k, v) :: kvs)
/-- at d: such a dict -/
structure KDs (K : PySem.W.Frag) (w : World) (d : Addr) (kvs : List (Str × Str)) : Prop where
  kd : ∃ es n, KDict K w d es n
  look : ∀ z, ∃ r, PySem.W.nsIn K d z = some r ∧ match kvs.lookup z with
    | some i => ∃ t, r = some (.str i t)
    | none => r = none
theorem EsS.lit {w : World} {es : List DictEntry} {kvs : List (Str × Str)} (h : EsS w es kvs) : PySem.W.KeysLit w.params es := by
  induction h with
  | nil => exact True.intro
  | cons _ ih => exact ⟨⟨_, _, rfl, rfl⟩, ih⟩
theorem EsS.any {w : World} {es : List DictEntry} {kvs : List (Str × Str)} (h : EsS w es kvs) : es.any (·.refKey) = false := by
  induction h with
  | nil => rfl
  | cons _ ih => rw [List.any_cons, ih]; rfl
theorem EsS.find {w : World} {es : List DictEntry} {kvs : List (Str × Str)} (h : EsS w es kvs) (z : Str) :
    (∃ i e t, kvs.lookup z = some i ∧ es.find? (fun e : DictEntry => e.key.isStr z) = some e ∧ e.val = Value.str i t) ∨ (kvs.lookup z = none ∧ es.find? (fun e : DictEntry => e.key.isStr z) = none) := by
  induction h with
  | nil => exact .inr ⟨rfl, rfl⟩
  | cons h ih =>
    rename_i k v t u es kvs
    by_cases hz : z = k
    · subst hz
      have e : (Value.str z t).isStr z = true := by show (z == z) = true; exact beq_self_eq_true z
      refine .inl ⟨v, _, u, by rw [List.lookup_cons, BEq.rfl], List.find?_cons_of_pos (l := es) e, rfl⟩
    · have e : ¬ (Value.str k t).isStr z = true := by
        show ¬ (k == z) = true
        rw [beq_iff_eq]
        exact fun e => hz e.symm
      have e2 : (z == k) = false := beq_eq_false_iff_ne.mpr hz
      have l : List.lookup z ((k, v) :: kvs) = List.lookup z kvs := by rw [List.lookup_cons, e2]
      have f : List.find? (fun e : DictEntry => e.key.isStr z) (⟨PyData.keyHash w.params k, .str k t, .str v u⟩ :: es) = List.find? (fun e : DictEntry => e.key.isStr z) es := List.find?_cons_of_neg e
      rw [l, f]
      exact ih
theorem KDs.of {K : PySem.W.Frag} {w : World} {d : Addr} {es : Array DictEntry} {n : Nat} {kvs : List (Str × Str)} (at_ : K.lookup d = some ⟨.type "dict", none, .dict es n, #[]⟩) (h : EsS w es.toList kvs) (low : (d == sysModules) = false) : KDs K w d kvs := by
  refine ⟨⟨es, n, at_, h.lit, low⟩, fun z => ?_⟩
  unfold PySem.W.nsIn
  rw [at_]
  dsimp only
  rcases h.find z with ⟨i, e, t, h1, h2, h3⟩ | ⟨h1, h2⟩
  · rw [h2, h1]
    exact ⟨_, rfl, t, by rw [h3]⟩
  · rw [h2, h1, h.any]
    exact ⟨none, rfl, rfl⟩
section
variable {X : Cx} {T : Tab} {W : WX} {a : Expr} {x : Str} {p pos : Pos} {d : Addr} {kvs : List (Str × Str)} {fa : Sta → PR RV}
end
end MP

-- a stub

namespace MP
open PySem PySem.Spec PyProof.Rows L2

section
variable {K : PySem.W.Frag} {w : World} {h : Heap} {fa : List He.Fa} {fn : List He.DefD} {ts : List He.Tab} {ex : PySem.W.Frag → Bool}
theorem fun_of0 {x q : Str} {st : Stmt} {f : Addr} {fd : FuncData} (F : FunD K x q (defArgs st) (defBody st) (defScope st) [] [] f fd) : Fun K x q st f fd := by
  obtain ⟨oc, od, dV, kV, doc, pm, an, cdv, ct, osl, h1, h2, h3, h4, _⟩ := F.ex
  rcases h4 with ⟨_, rfl⟩ | ⟨hne, _⟩
  · exact ⟨⟨oc, od, kV, doc, pm, an, cdv, ct, osl, h1, h2, h3⟩, F.kp⟩
  · exact absurd rfl hne
theorem hd_fun (c : He.SaysX fa fn ts [] ex w h K) (i : Nat) {p : Str × Option Str} {x q : Str} {st : Stmt} (e : fn[i]? = some ⟨p, x, q, defArgs st, defBody st, defScope st, [], []⟩) : ∃ fd, Fun K x q st (He.fAd K p) fd := by
  obtain ⟨fd, F⟩ := c.t.d.def_ i e
  exact ⟨fd, fun_of0 F⟩
theorem hd_funD (c : He.SaysX fa fn ts [] ex w h K) (i : Nat) {p : Str × Option Str} {x q : Str} {st : Stmt} {dl : List He.Dv} (e : fn[i]? = some ⟨p, x, q, defArgs st, defBody st, defScope st, dl, []⟩) : ∃ fd, FunD K x q (defArgs st) (defBody st) (defScope st) (dl.map (He.Dv.v K)) [] (He.fAd K p) fd :=
  c.t.d.def_ i e
theorem hd_glo (c : He.SaysX fa fn ts [] ex w h K) (i : Nat) {x : Str} (e : fa[i]? = some (.glo x)) : PySem.W.nsIn K mainGlobals x = some (some (.ref (He.ga K x))) := He.eqO_ok (c.t.d.fact i e)
theorem hd_free (c : He.SaysX fa fn ts [] ex w h K) (i : Nat) {x : Str} (e : fa[i]? = some (.free x)) : PySem.W.nsIn K mainGlobals x = some none := He.eqO_ok (c.t.d.fact i e)
theorem hd_noat (c : He.SaysX fa fn ts [] ex w h K) (i : Nat) {x f : Str} (e : fa[i]? = some (.noat x f)) : PySem.W.findIn K (.ref (He.ga K x)) f = some none := He.eqO_ok (c.t.d.fact i e)
theorem hd_meth (c : He.SaysX fa fn ts [] ex w h K) (i : Nat) {x m : Str} (e : fa[i]? = some (.meth x m)) : PySem.W.findIn K (.ref (He.ga K x)) m = some (some (.ref (He.ma K (He.ga K x) m))) ∧ PySem.W.isFn K (.ref (He.ma K (He.ga K x) m)) = true ∧ PySem.W.keepIn K (.ref (He.ma K (He.ga K x) m)) = true := by
  obtain ⟨h1, h2⟩ := He.ba (c.t.d.fact i e)
  obtain ⟨h3, h4⟩ := He.ba h2
  exact ⟨He.eqO_ok h1, h3, h4⟩
/-- one of a list of looks -/
theorem hd_all {l : List Bool} (hl : l.all id = true) (i : Nat) {b : Bool} (e : l[i]? = some b) : b = true := by
  have := List.all_eq_true.mp hl b (List.mem_of_getElem? e)
  exact this
theorem oexB_ok {C : Addr} (h1 : oexB K C = true) (sa : PySem.W.findIn K (.ref C) "__setattr__" = some (some (.builtin "object.__setattr__"))) (e1 : PySem.W.subIn K (.ref C) (.type "BaseException") = some true) (e2 : PySem.W.typeIn K (.ref C) = some (.type "type")) (kc : PySem.W.keepIn K (.ref C) = true) : OexC K C := by
  refine ⟨?_, sa, e1, e2, kc⟩
  unfold oexB at h1
  split at h1
  · rename_i c dd cd sl q
    split at h1
    · rename_i C' bm k0 k1 k2 k3 n k5 q1 q2
      obtain ⟨a1, a2⟩ := He.ba h1
      obtain ⟨a3, a4⟩ := He.ba a2
      obtain ⟨a5, a6⟩ := He.ba a4
      obtain ⟨a7, a8⟩ := He.ba a6
      obtain ⟨a9, a10⟩ := He.ba a8
      have b1 := of_decide_eq_true a1
      have b2 := of_decide_eq_true a3
      have b3 := of_decide_eq_true a5
      obtain ⟨nm, bs, mro, ns, qn, hdc, sn, sub, ab, col, del⟩ := cd
      obtain ⟨sl⟩ := sl
      dsimp only at q1 q2 a7 a9
      subst b1 b2 b3 q1 q2
      have b4 : del = false := by
        cases del with
        | false => rfl
        | true => cases a7
      subst b4
      subst a9
      exact ⟨nm, qn, ns, bs, bm, sn, sub, ab, col, dd, k0, k1, k2, k3, k5, q, a10⟩
    · cases h1
  · cases h1
theorem fclsB_ok {C : Addr} {m : Str} {n : String} (e : fclsB K C m n = true) : PySem.W.findCls K (.ref C) (.type "type") m = some (.val (.builtin n)) := by
  unfold fclsB at e
  split at e
  · rename_i x q
    rw [q, of_decide_eq_true e]
  · cases e
end
theorem head_end {l : PySem.W.OpenLaw} {k : Nat} {x : Str} {q : Program} {loose : List Str} {XP : (Str → Option Value) → Heap → Prop} {YP : World → Heap → Prop} {d : DefRec} (hn : l.most = some 63) (hdf : d.params.defaults = [])
    (hr : Room k callerA)
    (F : ∀ (w : World) (mg : Str → Option Value) (fa : Addr) (h : Heap), YP w h → h.Ns mainGlobals mg → mg d.name = some (.ref fa) →
      ∃ (K : PySem.W.Frag), K.In h ∧ ∃ fd : FuncData, (∀ (s : Shared) (u : Value), BindsTo s fd ⟨[u], []⟩ [(x, u)]) ∧ ∀ base : Heap, K.In base → base.Ns mainGlobals mg → FnOk l.prog w K mg base (L2.CX l.prog w) k fa fd [x] (spLaw K)) :
    PySem.W.WalkO q loose XP YP l.row.toRowW d [] (fun f vs => PySem.call f vs) := by
  refine Att.attach_call hn hdf fun w s₀ s₁ mg mb fa o pm cd doc a vs ns G Y ho hd hcd hmg hobj hints hlen hg => ?_
  obtain ⟨K, KX, fd, hb, hF⟩ := F w mg fa _ Y G.T.g hmg
  exact law_call KX G.T.g G.T.b G.T.builtins G.T.nolimit hg hobj hints (Nat.le_trans hlen (by decide)) hr hF hb (fun H hO hS => ⟨a, ns, rfl, hS, hlen, fun _ => rfl⟩) fun H e s' ⟨_, _, _, _, _, _, _, _, _, _, _, _, z⟩ => z
end MP

namespace MP
open PySem PySem.Spec PyProof.Rows L2
section
variable {X : Cx} {T : Tab} {W : WX} {a b : Expr} {rest : List Expr} {pos : Pos} {fa fb : Sta → PR RV}
end
section
variable {env : List Slot} {st : List Ob}
end
end MP

namespace MP
open PySem PySem.Spec PyProof.Rows L2
def tupHd : D → Bool
  | .tup (_ :: _) => true
  | _ => false
def sortD (ds : List D) : List D := ds.mergeSort (PySem.W.dataLe false D.py)
def SrtOk (ds : List D) : Prop := (∀ d ∈ ds, d.py.canLay0 = true ∧ d.py.depth ≤ 60 ∧ tupHd d = true) ∧ ∀ d ∈ ds, ∀ e ∈ ds, PySem.W.alike d.py e.py = true
open Classical in
noncomputable def gSortD : List D → Option RV
  | [d] => (lstOf d).bind fun ds => if SrtOk ds then some (fr (.list (sortD ds))) else none
  | _ => none
theorem hd_py {d : D} (h : tupHd d = true) : ∃ x r, d.py = .tuple (x :: r) := by
  cases d with
  | tup ds =>
    cases ds with
    | nil => cases h
    | cons a l => exact ⟨_, _, by rw [D.py, pys]⟩
  | _ => cases h
section
variable {X : Cx}
def rSortD (K : PySem.W.Frag) : List V → Hp → VK → Prop := fun vs H Q => ∃ (a : Addr) (xs : List V) (ds : List D) (P : V → D → Prop), vs = [V.ref a] ∧ SqL K H a xs ∧ Paired (fun x d => Dp K H x d.py ∧ P x d) xs ds ∧ SrtOk ds ∧
  ∀ (ys : List V) (p : Addr), Paired P ys (sortD ds) → H p = none → Q (.ref p) (upd H p (.lst ys))
theorem each_twoD {pins : List (Addr × Obj)} {σ : L2.St} {H : Hp} {s : Shared} (I : Inv X pins σ H s) {P : V → D → Prop} : ∀ {xs : List V} {its : List Value} {ds : List D}, Vals xs its → Paired (fun x d => Dp X.K H x d.py ∧ P x d) xs ds →
    PySem.W.EachIs (fun v d => ∃ x, RelV x v ∧ P x d) its ds ∧ PySem.W.EachIs (fun v d => ∃ as, Reads s.heap v d.py as) its ds
  | _, _, _, .nil, .nil => ⟨.nil, .nil⟩
  | _, _, _, .cons r t, .cons h t2 => by
    obtain ⟨h1, h2⟩ := each_twoD I t t2
    exact ⟨.cons ⟨_, r, h.2⟩ h1, .cons (Dp.reads I _ _ _ h.1 r) h2⟩
theorem split_pairedD {P : V → D → Prop} : ∀ {out : List Value} {ds : List D}, Paired (fun v d => ∃ x, RelV x v ∧ P x d) out ds → ∃ ys, Vals ys out ∧ Paired P ys ds
  | _, _, .nil => ⟨[], .nil, .nil⟩
  | _, _, .cons h t => by
    obtain ⟨x, h1, h2⟩ := h
    obtain ⟨ys, h3, h4⟩ := split_pairedD t
    exact ⟨x :: ys, .cons h1 h3, .cons h2 h4⟩
theorem cr_sortD (hu : X.A.units + 65 < cLine) : CallR X (.builtin "sorted") (rSortD X.K) := by
  intro pins s σ H vs us Q I r h
  obtain ⟨a, xs, ds, P, rfl, hs, hp, ⟨o1, o2⟩, q⟩ := h
  obtain ⟨its, rv, hl, hz⟩ := I.list hs
  rw [Vals.ref1 r]
  obtain ⟨e1, e2⟩ := each_twoD I rv hp
  have hlen : ds.length ≤ sizeLine := by
    rw [← e1.length, ← rv.length]
    exact hz
  refine PySem.W.sorted_data (vs := its) (enc := D.py) hl.isList e1 e2 (fun x hx y hy => ?_) (.inl fun x hx => ?_) hlen (fun d hd => by have := (o1 d hd).2.1; omega) fun out ho he => ?_
  · obtain ⟨d, hd, rfl⟩ := List.mem_map.mp hx
    obtain ⟨e, he, rfl⟩ := List.mem_map.mp hy
    exact o2 d hd e he
  · obtain ⟨d, hd, rfl⟩ := List.mem_map.mp hx
    exact hd_py (o1 d hd).2.2
  obtain ⟨ys, h1, h2⟩ := split_pairedD (each_paired he)
  obtain ⟨ep, he'⟩ := PyProof.Rows.sortedAll_at s.heap its out.toArray
  have hyl : ys.length ≤ sizeLine := by rw [h1.length, ho]; exact hlen
  exact ⟨.ref _, upd H (s.heap.objs.size + 1) (.lst ys), I.laid (t' := s.toks) (fun _ _ => PyProof.Rows.sortedAll_old) (Nat.le_succ _) ⟨hyl, out, ep, h1, he'⟩, rfl, q ys _ h2 (I.hok.fresh (Nat.le_succ _))⟩
theorem drs_D {K : PySem.W.Frag} {m : List Addr} {M H : Hp} (s : Same M H) : ∀ {xs : List V} {ds : List D}, (∀ d ∈ ds, d.py.canLay0 = true) → DRs K m M xs ds → Paired (fun x d => Dp K H x d.py ∧ DR K m M x d) xs ds
  | _, [], _, h => by
    cases h
    exact .nil
  | _, d :: ds, hc, h => by
    cases h with
    | cons h1 h2 => exact .cons ⟨DR.dp _ _ (h1.mono (MLe.refl _) s) (hc d (List.mem_cons_self ..)), h1⟩ (drs_D s (fun x hx => hc x (List.mem_cons_of_mem _ hx)) h2)
theorem paired_drsD {K : PySem.W.Frag} {m : List Addr} {M : Hp} : ∀ {ys : List V} {ds : List D}, Paired (fun x d => DR K m M x d) ys ds → DRs K m M ys ds
  | _, _, .nil => .nil
  | _, _, .cons h t => .cons h (paired_drsD t)
theorem ok_sortD (hu : X.A.units + 65 < cLine) : CallOk X (.builtin "sorted") gSortD := by
  refine ⟨_, cr_sortD hu, fun m M H ys ds res Q s a e k => ?_⟩
  unfold gSortD at e
  split at e
  · rename_i d
    cases a with
    | cons a1 an =>
      cases an
      cases hl : lstOf d with
      | none => rw [hl] at e; cases e
      | some ds =>
        rw [hl, Option.bind_some] at e
        by_cases hi : SrtOk ds
        · rw [if_pos hi] at e
          cases e
          obtain ⟨p, xs, rfl, h1, r1⟩ := a1.lst hl s
          refine ⟨p, xs, ds, fun x d => DR X.K m M x d, rfl, h1, drs_D s (fun d hd => (hi.1 d hd).1) r1, hi, fun ys q hp hq => ?_⟩
          exact k _ _ M (Grow.fresh s hq) ⟨q, _, rfl, upd_same, .lst (paired_drsD hp), s.free hq, hq⟩
        · rw [if_neg hi] at e
          cases e
  · cases e
theorem g_sortD {ds : List D} (h : SrtOk ds) : gSortD [.list ds] = some ⟨.fr, .list (sortD ds)⟩ := by
  unfold gSortD
  simp only [lstOf, Option.bind_some]
  rw [if_pos h]
end
end MP

namespace MP
open PySem PySem.Spec PyProof.Rows L2
/-- pairs as keys and values -/
def prOf : D → Option (NestedKey × D × D)
  | .tup [k, v] => (keyN k).map fun n => (n, k, v)
  | _ => none
def prsOf : List D → Option (List (NestedKey × D × D))
  | [] => some []
  | d :: ds => (prOf d).bind fun p => (prsOf ds).map fun ps => p :: ps
def ndMerge (kvs : List (D × D)) (ps : List (NestedKey × D × D)) : List (D × D) := ps.foldl (fun acc p => ndPut acc p.2.1 p.2.2 p.1) kvs
def stoAll (xs ps : List (NestedKey × Addr × V)) : List (NestedKey × Addr × V) := ps.foldl (fun acc p => stoV acc p.1 p.2.1 p.2.2) xs
section
variable {X : Cx} {T : Tab} {W : WX} {o : Expr} {p pos : Pos} {fo : Sta → PR RV}
theorem stoAll_len : ∀ (ps xs : List (NestedKey × Addr × V)), (stoAll xs ps).length ≤ xs.length + ps.length
  | [], xs => Nat.le_refl _
  | p :: ps, xs => by
    have h := stoAll_len ps (stoV xs p.1 p.2.1 p.2.2)
    have h2 := stoV_len xs p.1 p.2.1 p.2.2
    show (stoAll (stoV xs p.1 p.2.1 p.2.2) ps).length ≤ _
    rw [List.length_cons]
    omega
theorem kvr_all : ∀ {ps : List (NestedKey × Addr × V)} {us : List (NestedKey × Addr × Value)} {xs : List (NestedKey × Addr × V)} {ys : List (NestedKey × Addr × Value)}, Paired KvR ps us → Paired KvR xs ys → Paired KvR (stoAll xs ps) (storedAllH ys us)
  | _, _, _, _, .nil, r => r
  | _, _, xs, ys, .cons (a := p) (b := u) h t, r => by
    obtain ⟨k, a, v⟩ := p
    obtain ⟨k', a', w⟩ := u
    obtain ⟨e1, e2, e3⟩ := h
    have e1 : k = k' := e1
    have e2 : a = a' := e2
    subst e1 e2
    exact kvr_all (xs := stoV xs k a v) (ys := storedH ys k a w) t (kvr_sto e3 r k a)
theorem NdR.merge {K : PySem.W.Frag} {m : List Addr} {M : Hp} : ∀ {ps : List (NestedKey × D × D)} {as : List (NestedKey × Addr × V)} {xs : List (NestedKey × Addr × V)} {kvs : List (D × D)},
    Paired (fun a q => a.1 = q.1 ∧ keyN q.2.1 = Option.some q.1 ∧ DR K m M (.ref a.2.1) q.2.1 ∧ DR K m M a.2.2 q.2.2) as ps → NdR K m M xs kvs → NdR K m M (stoAll xs as) (ndMerge kvs ps)
  | _, _, _, _, .nil, r => r
  | _, _, xs, kvs, .cons (a := a) (b := q) h t, r => by
    obtain ⟨k, b, v⟩ := a
    obtain ⟨n, dk, dv⟩ := q
    obtain ⟨e1, e2, e3, e4⟩ := h
    have e1 : k = n := e1
    subst e1
    exact NdR.merge (xs := stoV xs k b v) (kvs := ndPut kvs dk dv k) t (r.put e2 e3 e4)
def PrK (X : Cx) (H : Hp) (p : Addr) (kv : NestedKey × Addr × V) : Prop := SqT X.K H p [V.ref kv.2.1, kv.2.2] ∧ NkV X.K H (.ref kv.2.1) kv.1 ∧ kv.1.depth ≤ 8
theorem prs_of {pins : List (Addr × Obj)} {σ : L2.St} {H : Hp} {s : Shared} (I : Inv X pins σ H s) : ∀ {as : List Addr} {ps : List (NestedKey × Addr × V)}, Paired (PrK X H) as ps →
    ∃ us : List (NestedKey × Addr × Value), Paired KvR ps us ∧ us.length = as.length ∧ (∀ u ∈ us, NestedIs s.heap u.1 (.ref u.2.1) ∧ u.1.depth ≤ 8) ∧ ∀ (j : Nat) (u : NestedKey × Addr × Value), us[j]? = some u → ∃ b, as[j]? = some b ∧ s.heap.IsTuple b #[.ref u.2.1, u.2.2]
  | _, _, .nil => ⟨[], .nil, rfl, (fun u h => by cases h), fun j u h => by simp at h⟩
  | _, _, .cons (a := p) (b := kv) h t => by
    obtain ⟨us, r, hl, hk, hp⟩ := prs_of I t
    obtain ⟨h1, h2, h3⟩ := h
    obtain ⟨its, rv, ht, _⟩ := I.tuple h1
    obtain ⟨u, y, ei, ru, ry⟩ := vals2 rv
    subst ei
    have eu : u = Value.ref kv.2.1 := ru
    subst eu
    refine ⟨(kv.1, kv.2.1, y) :: us, .cons ⟨rfl, rfl, ry⟩ r, by rw [List.length_cons, List.length_cons, hl], fun w hw => ?_, fun j w e => ?_⟩
    · rcases List.mem_cons.mp hw with rfl | hw
      · exact ⟨NkV.is I _ _ _ h2 rfl, h3⟩
      · exact hk w hw
    · cases j with
      | zero =>
        have e' : (kv.1, kv.2.1, y) = w := Option.some.inj e
        subst e'
        exact ⟨p, rfl, ht⟩
      | succ j =>
        obtain ⟨b, e1, e2⟩ := hp j w (by simpa using e)
        exact ⟨b, by simpa using e1, e2⟩
def rDictN (X : Cx) : List V → Hp → VK → Prop := fun vs H Q => ∃ (a : Addr) (as : List Addr) (ps : List (NestedKey × Addr × V)), vs = [V.ref a] ∧ SqL X.K H a (as.map V.ref) ∧ Paired (PrK X H) as ps ∧
  ∀ q, H q = none → Q (.ref q) (upd H q (ndO X.w q (stoAll [] ps)))
theorem call_dict_nd (hc : X.calm = true) (hu : X.A.units + 10 < cLine) : CallR X (.type "dict") (rDictN X) := by
  intro pins s σ H vs us Q I r h
  obtain ⟨a, as, ps, rfl, hq, hp, q⟩ := h
  obtain ⟨u, rfl, ru⟩ := r.one
  obtain rfl : u = Value.ref a := ru
  obtain ⟨its, rv, pl, hz⟩ := I.list hq
  have ei := refs_at rv
  subst ei
  rw [List.length_map] at hz
  obtain ⟨ws, rel, hl, hk, hpr⟩ := prs_of I hp
  obtain ⟨o, n, ho, hcl, hd, hdat⟩ := pl
  have hlp : ps.length = as.length := (Paired.length hp).symm
  refine call_dict_pairsH (knd := nestedKind X.prog X.w) (ps := ws) (PairArg.list a (as.map Value.ref).toArray (fun j => as.getD j 0) (ws.map fun w => (Value.ref w.2.1, w.2.2))) (I.ok.hd hc) (by show X.A.units + 1 + 1 + 8 < cLine; omega) ⟨⟨o, n, ho, hcl, hd, hdat⟩, ?_⟩ ⟨by rw [List.length_map], ?_⟩ ?_ (by rw [List.length_map, hl]; exact hz) fun h' tk hd' k => ?_
  · refine ⟨by simp [hl], fun j k v e => ?_⟩
    rw [List.getElem?_map] at e
    cases hj : ws[j]? with
    | none => rw [hj] at e; cases e
    | some w =>
      rw [hj] at e
      cases e
      obtain ⟨b, e1, e2⟩ := hpr j w hj
      have hb : as.getD j 0 = b := by rw [List.getD_eq_getElem?_getD, e1]; rfl
      exact ⟨by simp [e1, hb], .inl (by show s.heap.IsTuple (as.getD j 0) _; rw [hb]; exact e2)⟩
  · intro i key v e
    have e : (ws.map fun w => (Value.ref w.2.1, w.2.2))[i]? = some (key, v) := e
    rw [List.getElem?_map] at e
    cases hj : ws[i]? with
    | none => rw [hj] at e; cases e
    | some w =>
      rw [hj] at e
      cases e
      exact ⟨w.1, w.2.1, rfl, rfl⟩
  · intro h' hkk w hw
    obtain ⟨k1, k2⟩ := hk w hw
    exact ⟨NestedIs.at (fun b ob vs n hb _ => hkk b ob (Nat.ne_of_lt (Heap.lt_size hb)) (by simp) hb) _ _ k1, k2⟩
  · have hm : (s.heap.objs.size == sysModules) = false := beq_eq_false_iff_ne.mpr (Nat.ne_of_gt I.big)
    have hlen : (stoAll [] ps).length ≤ sizeLine := by
      have := stoAll_len ps []
      rw [List.length_nil, Nat.zero_add, hlp] at this
      exact Nat.le_trans this hz
    exact ⟨.ref s.heap.objs.size, upd H s.heap.objs.size (ndO X.w s.heap.objs.size (stoAll [] ps)), I.laid (t' := tk) (fun b ob e => k b ob (by simp) e) (Nat.le_refl _) (nd_ok hlen hm (kvr_all rel .nil) hd'), rfl, q _ (I.hok.fresh (Nat.le_refl _))⟩
theorem pr_DR {K : PySem.W.Frag} {m : List Addr} {M H : Hp} (s : Same M H) {X : Cx} (hK : X.K = K) : ∀ (ds : List D) (ps : List (NestedKey × D × D)) (xs : List V), prsOf ds = some ps → DRs K m M xs ds →
    ∃ (as : List Addr) (vs : List (NestedKey × Addr × V)), xs = as.map V.ref ∧ Paired (PrK X H) as vs ∧ Paired (fun a q => a.1 = q.1 ∧ keyN q.2.1 = Option.some q.1 ∧ DR K m M (.ref a.2.1) q.2.1 ∧ DR K m M a.2.2 q.2.2) vs ps
  | [], ps, xs, h, r => by
    cases h
    cases r
    exact ⟨[], [], rfl, .nil, .nil⟩
  | d :: ds, ps, xs, h, r => by
    subst hK
    cases r with
    | cons u t =>
      rw [prsOf] at h
      cases hp : prOf d with
      | none => rw [hp] at h; cases h
      | some p =>
        rw [hp, Option.bind_some] at h
        cases hq : prsOf ds with
        | none => rw [hq] at h; cases h
        | some qs =>
          rw [hq, Option.map_some] at h
          cases h
          obtain ⟨as, vs, rfl, q1, q2⟩ := pr_DR s rfl ds qs _ hq t
          unfold prOf at hp
          split at hp
          · rename_i dk dv
            cases hk : keyN dk with
            | none => rw [hk] at hp; cases hp
            | some key =>
              rw [hk, Option.map_some] at hp
              cases hp
              cases u with
              | tup t1 t2 =>
              rename_i a ys
              cases t2 with
              | cons w1 w2 =>
                cases w2 with
                | cons w2 w3 =>
                  cases w3
                  obtain ⟨n1, n2, b, rfl⟩ := (w1.mono (MLe.refl _) s).key_n hk
                  exact ⟨a :: as, (key, b, _) :: vs, rfl, .cons ⟨Same.seqT s t1, n1, n2⟩ q1, .cons ⟨rfl, hk, w1, w2⟩ q2⟩
          · cases hp
def xNdDict (s : Sta) : Option (List (NestedKey × D × D)) → Fe
  | some ps => .ok (.v (.obj s.st.length)) ⟨s.env, s.st ++ [ndOb (ndMerge [] ps)]⟩
  | none => .stuck
def xNdDictR (s : Sta) : PR RV → Fe
  | .ok r => xNdDict s ((lstOf r.d).bind prsOf)
  | .exc e => .exc e s
  | .stuck => .stuck
def fNdDict (fo : Sta → PR RV) : Sta → Fe := fun s => xNdDictR s (fo s)
theorem hu10 {k : Nat} {A : Around} (hr : Room k A) : A.units + 10 < cLine := by have := hr.units; omega
theorem fe_nddict (hc : X.calm = true) (hu : X.A.units + 10 < cLine) (hw : T.w = X.w) (ho : PEv X T W o fo) (hg : Gl X "dict") (hm : X.mg "dict" = Option.none)
    (he : starEach [o] X.env = (false, eval o X.env) :: starEach [] X.env := by rfl) (hpl : (backTo pos (starEach [] X.env)).any (·.1) = false := by rfl) :
    FEv X T W true (.Call (.Name "dict" p) [o] [] pos) (fNdDict fo) := by
  refine PE.wk (pe_callTy (call_dict_nd hc hu) hg hm (by decide +kernel) (pa_cons ho pa_nil he) (by decide) (by decide) he hpl) ?_
  rintro σ H Q ⟨s, m, M, G, R, a, q⟩
  refine ⟨s, m, M, G, R, ?_⟩
  revert q
  unfold fNdDict
  cases fo s with
  | ok r1 =>
    intro q y1 H1 M1 g1 rr1
    dsimp only [xNdDictR] at q
    have R1 := R.grow g1
    cases hl : lstOf r1.d with
    | none => rw [hl] at q; exact q.elim
    | some ds =>
      rw [hl, Option.bind_some] at q
      cases hp : prsOf ds with
      | none => rw [hp] at q; exact q.elim
      | some ps =>
        rw [hp] at q
        dsimp only [xNdDict] at q
        obtain ⟨b, xs, rfl, h1, r1'⟩ := rr1.arg.lst hl g1.mh
        obtain ⟨as, vs, rfl, q1, q2⟩ := pr_DR g1.mh rfl ds ps xs hp r1'
        refine ⟨b, as, vs, rfl, h1, q1, fun t ht => ?_⟩
        have gf := Grow.fresh (p := t) (o := ndO X.w t (stoAll [] vs)) g1.mh ht
        have RN := R1.ndNew hw (a rfl) gf ht upd_same (NdR.merge q2 .nil) (g1.mh.free ht)
        have mx : (m ++ [t])[s.st.length]? = some t := by rw [← a rfl]; simp
        exact q (.ref t) _ (m ++ [t]) M1 ((Ext.grow (g1.trans gf) R.gh).trans ⟨MLe.snoc m t, (fun h => nomatch h), Same.refl _, fun _ _ h => .inl h⟩) (fun _ => by simp [a rfl]) (RN.consV (.obj mx))
  | exc x => intro q cls dd H1 M1 g1 xr; exact q cls dd H1 m M1 (Ext.grow g1 R.gh) a (R.grow g1) xr
  | stuck => intro q; exact q.elim
theorem f_ndDict (fo : Sta → PR RV) (s : Sta) : fNdDict fo s = xNdDictR s (fo s) := Eq.trans rfl rfl
theorem f_ndDictR (s : Sta) (r : RV) : xNdDictR s (.ok r) = xNdDict s ((lstOf r.d).bind prsOf) := Eq.trans rfl rfl
theorem f_xNdDict {env : List Slot} {st : List Ob} {ps : List (NestedKey × D × D)} : xNdDict ⟨env, st⟩ (some ps) = .ok (.v (.obj st.length)) ⟨env, st ++ [ndOb (ndMerge [] ps)]⟩ := Eq.trans rfl rfl
end
end MP

namespace MP
open PySem PySem.Spec PyProof.Rows L2
section
variable {X : Cx} {pins : List (Addr × Obj)} {σ : L2.St} {H : Hp} {s : Shared} {a : Addr} {xs : List (NestedKey × Addr × V)} {u : HO}
theorem ndx_ok {P : Program} {w : World} {H : Hp} {h : Heap} {a : Addr} {xs : List (NestedKey × Addr × V)} {od : Obj} (e : h.get? a = some od) (q : xs.length ≤ sizeLine ∧ (a == sysModules) = false ∧ ∃ us, Paired KvR xs us ∧ (us.map (·.1)).Nodup ∧ ∃ o es ep, h.get? a = some o ∧ o.ExactDict ∧ o.data = .dict es ep ∧ es.toList = us.map (ndE w)) :
    ObjOk P w H h a (ndX w a xs od) := by
  refine ⟨⟨e, q⟩, ⟨od, e⟩, fun h1 h2 q k => ?_⟩
  obtain ⟨e, z, hs, us, r, hn, o, es, ep, e1, e2⟩ := q
  exact ⟨k _ e, z, hs, us, r, hn, o, es, ep, k _ e1, e2⟩
theorem ndo_ok {P : Program} {w : World} {H : Hp} {h : Heap} {a : Addr} {xs : List (NestedKey × Addr × V)} (q : xs.length ≤ sizeLine ∧ (a == sysModules) = false ∧ ∃ us, Paired KvR xs us ∧ (us.map (·.1)).Nodup ∧ ∃ o es ep, h.get? a = some o ∧ o.ExactDict ∧ o.data = .dict es ep ∧ es.toList = us.map (ndE w)) :
    ObjOk P w H h a (ndO w a xs) := by
  have e : ∃ o, h.get? a = some o := let ⟨_, _, _, _, _, o, _, _, e1, _⟩ := q; ⟨o, e1⟩
  refine ⟨q, e, fun h1 h2 q k => ?_⟩
  obtain ⟨z, hs, us, r, hn, o, es, ep, e1, e2⟩ := q
  exact ⟨z, hs, us, r, hn, o, es, ep, k _ e1, e2⟩
theorem _root_.L2.Inv.ndLock (I : Inv X pins σ H s) (h : H a = some u) (hU : NdU X.w a xs u) : ∃ od, Inv X pins σ (upd H a (ndX X.w a xs od)) s ∧ (u = ndO X.w a xs ∨ u = ndX X.w a xs od) := by
  rcases hU with rfl | ⟨od, rfl⟩
  · have q := (I.hok a _ h).1
    obtain ⟨z, hs, us, r, hn, o, es, ep, e1, e2⟩ := id q
    exact ⟨o, I.write (x := a) (e := a) (t' := s.toks) (h' := s.heap) (by rw [h]; exact True.intro) (.inl rfl) (fun b v _ q => q) ⟨o, e1⟩ (ndx_ok e1 q), .inl rfl⟩
  · have q := (I.hok a _ h).1
    exact ⟨od, I.write (x := a) (e := a) (t' := s.toks) (h' := s.heap) (by rw [h]; exact True.intro) (.inl rfl) (fun b v _ q => q) ⟨od, q.1⟩ (ndx_ok q.1 q.2), .inr rfl⟩
theorem _root_.L2.Inv.ndUnlock {od : Obj} (I : Inv X pins σ H s) (h : H a = some (ndX X.w a xs od)) (hu : u = ndO X.w a xs ∨ u = ndX X.w a xs od) : Inv X pins σ (upd H a u) s := by
  have q := (I.hok a _ h).1
  refine I.write (x := a) (e := a) (t' := s.toks) (h' := s.heap) (by rw [h]; exact True.intro) (.inl rfl) (fun b v _ q => q) ⟨od, q.1⟩ ?_
  rcases hu with rfl | rfl
  · exact ndo_ok q.2
  · exact ndx_ok q.1 q.2
/-- what is known of a dict by its object -/
theorem _root_.L2.Inv.ndx {od : Obj} (I : Inv X pins σ H s) (h : H a = some (ndX X.w a xs od)) :
    (a == sysModules) = false ∧ s.heap.get? a = some od ∧ od.ExactDict ∧ ∃ (es : Array DictEntry) (ep : Nat), od.data = .dict es ep ∧ es.size = xs.length ∧ ∀ (i : Nat) (k : NestedKey) (b : Addr) (v : V), xs[i]? = some (k, b, v) → ∃ en : DictEntry, es[i]? = some en ∧ en.key = .ref b := by
  obtain ⟨e, z, hs, us, r, hn, o, es, ep, e1, e2, e3, e4⟩ := (I.hok a _ h).1
  rw [e] at e1
  cases e1
  have l1 : es.size = us.length := by have := congrArg List.length e4; simpa using this
  refine ⟨hs, e, e2, es, ep, e3, by rw [l1, ← Paired.length r], fun i k b v hx => ?_⟩
  obtain ⟨y, hy, q1, q2, q3⟩ := paired_get r hx
  have hen : es.toList[i]? = some (ndE X.w y) := by rw [e4, List.getElem?_map, hy]; rfl
  refine ⟨ndE X.w y, by rw [← Array.getElem?_toList]; exact hen, ?_⟩
  show Value.ref y.2.1 = .ref b
  rw [← q2]
end
/-- the keys of a dict of tuples known by its object, in their order -/
def Itn (w : World) (a : Addr) (xs : List (NestedKey × Addr × V)) (od : Obj) : It :=
  ⟨fun i H => H a = some (ndX w a xs od) ∧ i < xs.length, fun i H x H' => H' = H ∧ ∃ k b v, xs[i]? = some (k, b, v) ∧ x = .ref b, fun i H => H a = some (ndX w a xs od) ∧ xs.length ≤ i⟩
section
variable {P : Program} {w : World} {K : PySem.W.Frag} {tg : Expr} {a : Addr} {xs : List (NestedKey × Addr × V)} {od : Obj} {es : Array DictEntry} {ep : Nat}
theorem turn_keysN (it : Addr) (hod : od.data = .dict es ep)  : L2.Turn P w K tg (Itn w a xs od) [it] it (fun i h => h.IsKeyIter it a i xs.length ep) where
  mem := by simp
  obj := fun i h st b hb => by
    have e : b = it := by simpa using hb
    subst e
    obtain ⟨oi, e, c, dd⟩ := st
    exact ⟨oi, e, fun v z => by rw [dd] at z; cases z⟩
  keep := fun i h h' st k => st.at fun oi e => k it (by simp) oi e
  item := by
    intro X hP hw hK hc i pins s σ H E I hf st hg
    subst hP hw hK
    obtain ⟨hd, hi⟩ := hg
    obtain ⟨f0, f1, f2, f3, f4, f5⟩ := hf it (by simp)
    obtain ⟨hs, hgd, hx, es', ep', hdt, hsz, ent⟩ := I.ndx hd
    obtain ⟨rfl, rfl⟩ := dict_ep hod hdt
    obtain ⟨⟨k, b, v⟩, hkv⟩ : ∃ p, xs[i]? = some p := ⟨xs[i], List.getElem?_eq_getElem hi⟩
    obtain ⟨en, hen, hkey⟩ := ent i k b v hkv
    refine next_key_item st hgd hdt hsz hen fun h' st' sb => ?_
    have I1 : Inv X pins σ H { s with heap := h' } := I.turned (t' := s.toks) (fun b ob hb e => (sb.2 b hb).trans e) f0 f1 f3 f4 f5
    obtain ⟨oi, e, c, dd⟩ := id st'
    exact ⟨en.key, rfl, go_of (s := { s with heap := h' }) e c dd (by decide) ⟨.ref b, H, I1, hkey, ⟨rfl, k, b, v, hkv, rfl⟩, st', fun b hb => (hf b hb).1⟩⟩
  done := by
    intro X hP hw hK hc i pins s σ H E I hf st hg
    subst hP hw hK
    obtain ⟨hd, hi⟩ := hg
    obtain ⟨f0, f1, f2, f3, f4, f5⟩ := hf it (by simp)
    obtain ⟨hs, hgd, hx, es', ep', hdt, hsz, ent⟩ := I.ndx hd
    obtain ⟨rfl, rfl⟩ := dict_ep hod hdt
    exact next_key_end (I.ok.hd hc) st hgd hdt hsz hi fun h' eb => ⟨rfl, I.turned (t' := s.toks) (fun b ob hb e => eb b ob hb e) f0 f1 f3 f4 f5⟩
  self := fun A i s Q E st h => by
    refine wpAny_pyIter_slot st.typeIs F.slot_dict_keyiterator_iter (wpAny_call_entry F.slot_dict_keyiterator_iter st.typeIs F.entry_dict_keyiterator_iter ?_ (F.args_dict_keyiterator_iter_1 _))
    show wpAny _ _ (ret (.ref it)) _ _ s
    exact wpAny_pure ⟨_, rfl, "dict_keyiterator", _, st.typeIs, F.slot_dict_keyiterator_next.lookup, h⟩
end
def iKeysN (X : Cx) (td : TE) : TI := fun σ H R => td σ H fun x H1 => ∃ a xs od, x = .ref a ∧ H1 a = some (ndX X.w a xs od) ∧ R (Itn X.w a xs od) H1
section
variable {X : Cx} {tg e : Expr} {td : TE}
theorem pi_keysN (he : PE X e td) : PI X tg e (iKeysN X td) := by
  refine ⟨fun pins s σ H R I h => ?_⟩
  refine thn (he.run pins s σ H _ I h) fun u s1 ⟨x, H1, I1, rx, a, xs, od, ex, hd, q⟩ => ?_
  subst ex
  obtain rfl : u = Value.ref a := rx
  obtain ⟨hs, hgd, hx, es, ep, hdt, hsz, ent⟩ := I1.ndx hd
  refine iter_keys hs hgd hx hdt (pi_one (tk := s1.toks) I1 _ (turn_keysN _ hdt) ⟨_, Heap.get?_push_size _ rfl, rfl, ?_⟩ q)
  rw [hsz] <;> rfl
def tNdLock (X : Cx) (t : TE) : TE := fun σ H Q => ∃ a xs u, H a = some u ∧ NdU X.w a xs u ∧ ∀ od, (u = ndO X.w a xs ∨ u = ndX X.w a xs od) → t σ (upd H a (ndX X.w a xs od)) fun v H' => H' a = some (ndX X.w a xs od) ∧ Q v (upd H' a u)
theorem pe_ndlock {t : TE} (h : PE X e t) : PE X e (tNdLock X t) := by
  refine ⟨fun pins s σ H Q I hw => ?_⟩
  obtain ⟨a, xs, u, hu, hU, hw⟩ := hw
  obtain ⟨od, I1, hq⟩ := I.ndLock hu hU
  refine thn (h.run pins s σ _ _ I1 (hw od hq)) fun v s1 ⟨x, H1, I2, r, e2, q⟩ => ?_
  exact ⟨x, _, I2.ndUnlock e2 hq, r, q⟩
end
section
variable {X : Cx} {T : Tab} {W : WX}
theorem NdR.at_key {K : PySem.W.Frag} {m : List Addr} {M : Hp} : ∀ {xs : List (NestedKey × Addr × V)} {kvs : List (D × D)} {i : Nat} {d : D}, NdR K m M xs kvs → (kvs.map (·.1))[i]? = Option.some d → ∃ k b v, xs[i]? = Option.some (k, b, v) ∧ DR K m M (.ref b) d
  | _, _, _, _, .nil, e => by simp at e
  | _, _, 0, _, .cons _ h2 _ _, e => by simp at e; subst e; exact ⟨_, _, _, rfl, h2⟩
  | _, _, i + 1, d, .cons _ _ _ t, e => by
    obtain ⟨k, b, v, h1, h2⟩ := NdR.at_key t (i := i) (by simpa using e)
    exact ⟨k, b, v, by simpa using h1, h2⟩
theorem compL_noexc {t : Tg} {tt : Sta → PR Bool} {te : Sta → PR D} {x : Ex} : ∀ (s0 : Sta) (ds : List D), compL t tt te s0 ds ≠ .exc x := by
  intro s0 ds
  induction ds with
  | nil => intro z; cases z
  | cons d ds ih =>
    intro z
    rw [compL] at z
    split at z
    · cases z
    · split at z
      · split at z
        · cases hq : compL t tt te s0 ds with
          | ok _ => rw [hq] at z; cases z
          | exc _ => rw [hq] at z; cases z; exact ih hq
          | stuck => rw [hq] at z; cases z
        · cases z
      · exact ih z
      · cases z
def xCN1 (t : Tg) (vs : List Nat) (tt : Sta → PR Bool) (te : Sta → PR D) (s : Sta) (kvs : List (D × D)) : PR RV :=
  if kvs.length ≤ 16777216 then (compL t tt te ⟨wipeE s.env vs, s.st⟩ (kvs.map (·.1))).bind fun r => .ok (fr (.list r)) else .stuck
def xCN0 (t : Tg) (vs : List Nat) (tt : Sta → PR Bool) (te : Sta → PR D) (s : Sta) : Option (List (D × D)) → PR RV
  | some kvs => xCN1 t vs tt te s kvs
  | none => .stuck
def objAt : Option Slot → Option Nat
  | some (.v (.obj j)) => some j
  | _ => none
def pCompN (i : Nat) (t : Tg) (vs : List Nat) (tt : Sta → PR Bool) (te : Sta → PR D) : Sta → PR RV := fun s => xCN0 t vs tt te s ((objAt s.env[i]?).bind fun j => kvsOf s.st[j]?)
variable {elt tg : Expr} {ifs : List Expr} {scope : Scope} {own : List (Str × Nat)} {pos px : Pos} {x : Str} {i : Nat} {t : Tg} {tt : Sta → PR Bool} {te : Sta → PR D}
theorem ev_lcN (hx : PE X (.Name x px) (tVar i)) (hw : T.w = X.w) (hc : X.calm = true) (hN : X.N.Nodup) (ok : BlkOk X.N X.env.scope scope own) (hv : ∀ i ∈ t.ixs, i ∈ own.map (·.2))
    (hg : ∀ (s : Shared) (H : Hp) (C : Addr) (cl : List (Str × Addr)) (fp : List Addr), PG (X.blk s H scope (compEnvC scope cl C X.env) fp) tg (tgR X.K t))
    (ht : ∀ (s : Shared) (H : Hp) (C : Addr) (cl : List (Str × Addr)) (fp : List Addr), PTsv (X.blk s H scope (compEnvC scope cl C X.env) fp) T W0 ifs tt)
    (he : ∀ (s : Shared) (H : Hp) (C : Addr) (cl : List (Str × Addr)) (fp : List Addr), PDv (X.blk s H scope (compEnvC scope cl C X.env) fp) T W0 elt te) (hs : ∀ v, foldedSetIterable (Expr.Name x px) X.env v = pure v := by intro _; rfl) :
    PEv X T W (.ListComp elt [⟨tg, .Name x px, ifs, 0⟩] scope pos) (pCompN i t (own.map (·.2)) tt te) := by
  refine PE.wk (pe_ndlock (pe_lc (g := tgR X.K t) (tt := tT X T W0 tt) (te := tD X T W0 te) hc hN (pi_keysN hx) ok hg ht he hs)) ?_
  rintro σ H Q ⟨s, m, M, G, R, q⟩
  unfold pCompN at q
  cases ho : objAt s.env[i]? with
  | none => rw [ho] at q; exact q.elim
  | some j =>
    rw [ho] at q
    have q : match xCN0 t (own.map (·.2)) tt te s (kvsOf s.st[j]?) with
      | .ok r => ∀ y H' M', Grow H M H' M' → RR X.K m M' H H' y r → Q y H'
      | .exc e => ∀ cls d H' M', Grow H M H' M' → ExR X.K T m M' H' e cls d → W cls d σ H'
      | .stuck => False := q
    cases hk : kvsOf s.st[j]? with
    | none => rw [hk] at q; exact q.elim
    | some kvs =>
      rw [hk] at q
      have hst := kvs_inv hk
      obtain ⟨a, xs, ea, ⟨⟨u, hu, hU⟩, _⟩, hd⟩ := R.nd hw hst
      have hslot : s.env[i]? = some (.v (.obj j)) := by
        cases h0 : s.env[i]? with
        | none => rw [h0] at ho; cases ho
        | some sl =>
          rw [h0] at ho
          cases sl with
          | v d => cases d <;> first | (cases ho; rfl) | cases ho
          | _ => cases ho
      refine ⟨a, xs, u, hu, hU, fun od hq => ?_⟩
      have hM : M a = Option.none ∧ G a = Option.none := by
        obtain ⟨mh, gh, ⟨f1, f2, h1, h2, nd, dj⟩⟩ := R
        obtain ⟨g0, g1, g2, a', eg, ea', hob, k⟩ := h2.split hst
        rw [ea] at ea'
        cases ea'
        have hin : a ∈ f2 := by
          rcases hob with ⟨n, _⟩ | ⟨hb, _⟩ | ⟨kvs', xs', u', eo, ef, h3, hu', h4⟩
          · exact absurd rfl n.2
          · exact absurd hb (show ndC ≠ boxC by decide)
          · rw [eg, ef]; simp
        exact dj a (List.mem_append_right _ hin)
      have R0 : Rel X.K T m M G (upd H a (ndX X.w a xs od)) s σ := by
        have := R.ndSetU hw hst ea hd (u := ndX X.w a xs od) (.inr ⟨od, rfl⟩)
        have es : s.st.set j (ndOb kvs) = s.st := by
          apply List.ext_getElem?
          intro n
          rw [List.getElem?_set]
          by_cases c : j = n
          · subst c
            rw [if_pos rfl]
            split
            · exact hst.symm
            · rename_i hlt; rw [List.getElem?_eq_none (by omega)] at hst; cases hst
          · rw [if_neg c]
        rw [es] at this
        exact this
      obtain ⟨y, ey, rr⟩ := R0.look (i := i) (r := sh (.obj j)) (by rw [hslot]; rfl)
      have hy : y = .ref a := by
        obtain ⟨a', rfl, e4⟩ := rr.arg.obj
        rw [ea] at e4
        cases e4
        rfl
      subst hy
      refine ⟨.ref a, ey, a, xs, od, rfl, upd_same, ?_⟩
      unfold xCN0 xCN1 at q
      dsimp only at q
      by_cases hl : kvs.length ≤ 16777216
      · rw [if_pos hl] at q
        cases hcm : compL t tt te ⟨wipeE s.env (own.map (·.2)), s.st⟩ (kvs.map (·.1)) with
        | ok r =>
          rw [hcm] at q
          have q : ∀ (y : V) (H' M' : Hp), Grow H M H' M' → RR X.K m M' H H' y (fr (.list r)) → Q y H' := q
          have k1 : ∀ y H' M', Grow (upd H a (ndX X.w a xs od)) M H' M' → RR X.K m M' (upd H a (ndX X.w a xs od)) H' y (fr (.list r)) → H' a = some (ndX X.w a xs od) ∧ Q y (upd H' a u) := by
            intro y H' M' g rr
            have hfb : H' a = some (ndX X.w a xs od) := g.same _ _ upd_same
            have hMb : M' a = Option.none := g.keepNone upd_same hM.1
            refine ⟨hfb, ?_⟩
            have g' : Grow H M (upd H' a u) M' := by
              refine ⟨fun c v e => ?_, g.mm, fun c v e => ?_, fun c v e => ?_⟩
              · by_cases hcb : c = a
                · subst hcb; rw [upd_same]; rw [hu] at e; exact e
                · rw [upd_ne hcb]
                  exact g.same _ _ (by rw [upd_ne hcb]; exact e)
              · rw [upd_ne fun z => by rw [z, hMb] at e; cases e]
                exact g.mh _ _ e
              · rcases g.new c v e with z | z
                · exact .inl z
                · refine .inr ?_
                  have hcb : c ≠ a := fun w => by rw [w, upd_same] at z; cases z
                  rw [upd_ne hcb] at z
                  exact z
            obtain ⟨D', o2, rfl, h1, h2, h3, h4⟩ := rr
            have hDb : D' ≠ a := fun w => by rw [w, upd_same] at h4; cases h4
            rw [upd_ne hDb] at h4
            exact q (.ref D') _ M' g' ⟨D', o2, rfl, by rw [upd_ne hDb]; exact h1, h2, h3, h4⟩
          have k2 : ItOk X.K m (Itn X.w a xs od) (kvs.map (·.1)) M (upd H a (ndX X.w a xs od)) := by
            intro i M' H' s1 s2 s3
            have hfb : H' a = some (ndX X.w a xs od) := s3 _ _ upd_same
            have hln : xs.length = kvs.length := hd.len
            refine ⟨fun d e => ?_, fun hle => ⟨hfb, by rw [List.length_map] at hle; omega⟩⟩
            obtain ⟨k, b, v, hk, hr⟩ := NdR.at_key hd e
            refine ⟨⟨hfb, (List.getElem?_eq_some_iff.mp hk).1⟩, fun x H'' hy => ?_⟩
            obtain ⟨rfl, k2, b2, v2, hk2, rfl⟩ := hy
            rw [hk] at hk2
            cases hk2
            exact ⟨M', Grow.refl s2, hr.up s1⟩
          exact tLc_core (Q := fun v H' => H' a = some (ndX X.w a xs od) ∧ Q v (upd H' a u)) (J := Itn X.w a xs od) hv R0 (by rw [List.length_map]; exact hl) hcm k1 k2
        | exc x => exact absurd hcm (compL_noexc _ _)
        | stuck => rw [hcm] at q; exact q.elim
      · rw [if_neg hl] at q
        exact q.elim
end
section
variable {env : List Slot} {st : List Ob}
theorem e_pCompN (i : Nat) (t : Tg) (vs : List Nat) (tt : Sta → PR Bool) (te : Sta → PR D) : pCompN i t vs tt te ⟨env, st⟩ = xCN0 t vs tt te ⟨env, st⟩ ((objAt env[i]?).bind fun j => kvsOf st[j]?) := Eq.trans rfl rfl
theorem e_objAt (j : Nat) : objAt (some (.v (.obj j))) = some j := Eq.trans rfl rfl
theorem e_xCN0 (t : Tg) (vs : List Nat) (tt : Sta → PR Bool) (te : Sta → PR D) (s : Sta) (kvs : List (D × D)) : xCN0 t vs tt te s (some kvs) = xCN1 t vs tt te s kvs := Eq.trans rfl rfl
theorem e_xCN1 {t : Tg} {vs : List Nat} {tt : Sta → PR Bool} {te : Sta → PR D} {kvs : List (D × D)} {r : List D} (hl : kvs.length ≤ 16777216) (hc : compL t tt te ⟨wipeE env vs, st⟩ (kvs.map (·.1)) = .ok r) : xCN1 t vs tt te ⟨env, st⟩ kvs = .ok ⟨.fr, .list r⟩ := by
  unfold xCN1
  rw [if_pos hl]
  show (compL t tt te ⟨wipeE env vs, st⟩ (kvs.map (·.1))).bind _ = _
  rw [hc]
  rfl
end
end MP

namespace MP
open PySem PySem.Spec PyProof.Rows L2
section
variable {X : Cx} {T : Tab} {W : WX} {e : Expr} {f : Sta → PR RV}
def gTb : D → Option RV
  | .btp ds => some (sh (.tup ds))
  | _ => none
theorem Arg.btp {K : PySem.W.Frag} {m : List Addr} {M H : Hp} {y : V} {ds : List D} (h : Arg K m M H y (.btp ds)) : ∃ (a : Addr) (o : Obj) (xs : List V), y = .ref a ∧ M a = some (.frz o (.tup xs)) ∧ o.dict = none ∧ DRs K m M xs ds := by
  rcases h with h | ⟨a, o, rfl, h2, h3⟩
  · cases h with
    | btp h1 h2 h3 => exact ⟨_, _, _, rfl, h1, h2, h3⟩
  · cases h3
theorem ev_tb (h : PEv X T W e f) : PEv X T W e (p1 gTb f) := by
  refine PE.wk h ?_
  rintro σ H Q ⟨s, m, M, G, R, q⟩
  refine ⟨s, m, M, G, R, ?_⟩
  revert q
  unfold p1 PR.bind
  cases f s with
  | ok r1 =>
    intro q y1 H1 M1 g1 rr1
    dsimp only at q
    obtain ⟨k, d⟩ := r1
    cases d with
    | btp ds =>
      obtain ⟨a, o, xs, rfl, h1, h2, h3⟩ := rr1.arg.btp
      exact q (.ref a) H1 M1 g1 (DR.tup (.inl (.inr ⟨o, h1⟩)) h3)
    | _ => exact q.elim
  | exc x => intro q; exact q
  | stuck => intro q; exact q
def rTupB (X : Cx) : List V → Hp → VK → Prop := fun vs H Q => ∃ p ys, vs = [V.ref p] ∧ SqL X.K H p ys ∧ ∀ (q : Addr) (o : Obj), H q = none → o.dict = none → Q (.ref q) (upd H q (.frz o (.tup ys)))
theorem call_tupB : CallR X (.type "tuple") (rTupB X) := by
  intro pins s σ H vs us Q I r h
  obtain ⟨p, ys, rfl, hq, q⟩ := h
  obtain ⟨u, rfl, ru⟩ := r.one
  obtain rfl : u = Value.ref p := ru
  obtain ⟨its, r', pl, hz⟩ := I.list hq
  have hlen := r'.length
  refine call_tuple_list pl.isList (fun h' kp => ?_) (by simp only [List.size_toArray] <;> omega)
  have I1 : Inv X pins σ H { s with heap := h' } := I.kept (t' := s.toks) kp
  have I2 : Inv X pins σ (upd H h'.objs.size (.frz { cls := .type "tuple", data := .seq its.toArray } (.tup ys))) { s with heap := h'.push { cls := .type "tuple", data := .seq its.toArray } } :=
    I1.laid (t' := s.toks) (fun b o e => Heap.get?_push_of_some _ e) (Nat.le_refl _) (show ObjOk X.prog X.w _ _ _ (.frz _ (.tup ys)) from ⟨Heap.get?_push_size _ rfl, hz, its, r', IsTup.new _ _⟩)
  exact ⟨.ref h'.objs.size, _, I2, rfl, q _ _ (I1.hok.fresh (Nat.le_refl _)) rfl⟩
def gTupB : List D → Option RV
  | [d] => (lstOf d).map fun ds => sh (.btp ds)
  | _ => none
theorem ok_tupB : CallOk X (.type "tuple") gTupB := by
  refine ⟨_, call_tupB, fun m M H ys ds res Q s a e k => ?_⟩
  unfold gTupB at e
  split at e
  · rename_i d
    cases a with
    | cons a1 an =>
      cases an
      cases hl : lstOf d with
      | none => rw [hl] at e; cases e
      | some ds =>
        rw [hl, Option.map_some] at e
        cases e
        obtain ⟨p, xs, rfl, h1, r1⟩ := a1.lst hl s
        refine ⟨p, xs, rfl, h1, fun q o hq ho => ?_⟩
        exact k (.ref q) _ (upd M q (.frz o (.tup xs))) (Grow.share s hq) (DR.btp upd_same ho (DRs.mono (MLe.refl _) (Same.upd (s.free hq)) _ _ r1))
  · cases e
theorem pairs_ofV {pins : List (Addr × Obj)} {σ : L2.St} {H : Hp} {s : Shared} (I : Inv X pins σ H s) : ∀ {ps : List Addr} {kvs : List (Key × V)}, Paired (fun p kv => SqT X.K H p [kV kv.1, kv.2]) ps kvs →
    ∃ ws : List (Key × Value × Value), KV kvs (ws.map fun w => (w.1, w.2.2)) ∧ ws.length = ps.length ∧ ∀ (j : Nat) (w : Key × Value × Value), ws[j]? = some w → ∃ b : Addr, ps[j]? = some b ∧ s.heap.IsTuple b #[w.2.1, w.2.2] ∧ keyIs w.1 w.2.1 = true
  | _, _, .nil => ⟨[], .nil, rfl, fun j q e => by simp at e⟩
  | _, _, .cons (a := p) (b := kv) h t => by
    obtain ⟨ws, r, hl, hp⟩ := pairs_ofV I t
    obtain ⟨its, rv, ht, _⟩ := I.tuple h
    obtain ⟨u, y, ei, ru, ry⟩ := vals2 rv
    subst ei
    refine ⟨(kv.1, u, y) :: ws, .cons ⟨rfl, ry⟩ r, by rw [List.length_cons, List.length_cons, hl], fun j q e => ?_⟩
    cases j with
    | zero =>
      have e' : (kv.1, u, y) = q := Option.some.inj e
      subst e'
      exact ⟨p, rfl, ht, kV_is (P := X.prog) (w := X.w) ru⟩
    | succ j =>
      obtain ⟨b, e1, e2, e3⟩ := hp j q (by simpa using e)
      exact ⟨b, by simpa using e1, e2, e3⟩
def rDictB (X : Cx) : List V → Hp → VK → Prop := fun vs H Q => ∃ (a : Addr) (o : Obj) (ps : List Addr) (kvs : List (Key × V)), vs = [V.ref a] ∧ H a = some (.frz o (.tup (ps.map V.ref))) ∧ o.dict = none ∧
  Paired (fun p kv => SqT X.K H p [kV kv.1, kv.2]) ps kvs ∧ ∀ p, H p = none → Q (.ref p) (upd H p (.dK (mergeK [] kvs)))
theorem call_dictB (hc : X.calm = true) : CallR X (.type "dict") (rDictB X) := by
  intro pins s σ H vs us Q I r h
  obtain ⟨a, o, ps, kvs, rfl, ha, hd, hp, q⟩ := h
  obtain ⟨u, rfl, ru⟩ := r.one
  obtain rfl : u = Value.ref a := ru
  obtain ⟨ho, hz, its, rv, o', ho', hcl, n, hdat⟩ := show ObjOk X.prog X.w H s.heap a (.frz o (.tup (ps.map V.ref))) from I.hok a _ ha
  rw [ho] at ho'
  cases ho'
  have ei := refs_at rv
  subst ei
  rw [List.length_map] at hz
  obtain ⟨ws, rel, hl, hpr⟩ := pairs_ofV I hp
  refine call_dict_pairs (knd := mixKind X.prog X.w) (kvs := ws.map fun w => (w.1, w.2.2)) (PySem.PairArg.tuple a (ps.map Value.ref).toArray (fun j => ps.getD j 0) (ws.map fun w => (w.2.1, w.2.2))) (I.ok.hd hc) ⟨⟨o, n, ho, hcl, hd, hdat⟩, ?_⟩ ⟨by rw [List.length_map, List.length_map], ?_⟩ (by rw [List.length_map, hl]; exact hz) fun h' tk hd' k => ?_
  · refine ⟨by simp [hl], fun j k v e => ?_⟩
    rw [List.getElem?_map] at e
    cases hj : ws[j]? with
    | none => rw [hj] at e; cases e
    | some w =>
      rw [hj] at e
      cases e
      obtain ⟨b, e1, e2, _⟩ := hpr j w hj
      have hb : ps.getD j 0 = b := by rw [List.getD_eq_getElem?_getD, e1]; rfl
      exact ⟨by simp [e1, hb], .inl (by show s.heap.IsTuple (ps.getD j 0) _; rw [hb]; exact e2)⟩
  · intro i key v e
    have e : (ws.map fun w => (w.2.1, w.2.2))[i]? = some (key, v) := e
    rw [List.getElem?_map] at e
    cases hj : ws[i]? with
    | none => rw [hj] at e; cases e
    | some w =>
      rw [hj] at e
      cases e
      obtain ⟨b, e1, e2, e3⟩ := hpr i w hj
      exact ⟨w.1, by rw [List.getElem?_map, hj]; rfl, e3⟩
  · have hm : (s.heap.objs.size == sysModules) = false := beq_eq_false_iff_ne.mpr (Nat.ne_of_gt I.big)
    have hlen : (mergeK [] kvs).length ≤ sizeLine := by
      refine Nat.le_trans (length_mergeK kvs []) ?_
      rw [List.length_nil, Nat.zero_add, rel.length, List.length_map, hl]
      exact hz
    exact ⟨.ref s.heap.objs.size, upd H s.heap.objs.size (.dK (mergeK [] kvs)), I.laid (t' := tk) (fun b ob e => k b ob (by simp) e) (Nat.le_refl _) (show ObjOk X.prog X.w _ _ _ (.dK (mergeK [] kvs)) from ⟨hlen, hm, merged [] (ws.map fun w => (w.1, w.2.2)), KV.merge rel .nil, hd'⟩), rfl, q _ (I.hok.fresh (Nat.le_refl _))⟩
def gDictB : List D → Option RV
  | [.btp ds] => (pairsK ds).map fun kvs => fr (.dic (mergeD [] kvs))
  | _ => none
theorem ok_dictB (hc : X.calm = true) : CallOk X (.type "dict") gDictB := by
  refine ⟨_, call_dictB hc, fun m M H ys ds res Q s a e k => ?_⟩
  unfold gDictB at e
  split at e
  · rename_i ds
    cases a with
    | cons a1 an =>
      cases an
      cases hi : pairsK ds with
      | none => rw [hi] at e; cases e
      | some kvs =>
        rw [hi] at e
        cases e
        obtain ⟨p, o, xs, rfl, h1, hd, r1⟩ := a1.btp
        obtain ⟨ps, vs, rfl, h2, h3⟩ := pairs_DR s ds kvs xs hi r1
        refine ⟨p, o, ps, vs, rfl, s _ _ h1, hd, h2, fun t ht => ?_⟩
        exact k _ _ M (Grow.fresh s ht) ⟨t, _, rfl, upd_same, .dic (h3.merge .nil), s.free ht, ht⟩
  · cases e
theorem g_tb (ds : List D) : gTb (.btp ds) = some ⟨.sh, .tup ds⟩ := Eq.trans rfl rfl
theorem g_tupB (ds : List D) : gTupB [.list ds] = some ⟨.sh, .btp ds⟩ := Eq.trans rfl rfl
theorem g_dictB {ds : List D} {kvs : List (Key × D)} (h : pairsK ds = some kvs) : gDictB [.btp ds] = some ⟨.fr, .dic (mergeD [] kvs)⟩ := by
  show (pairsK ds).map _ = _
  rw [h]; rfl
end
end MP

namespace MP
open PySem PySem.Spec PyProof.Rows L2
section
variable {X : Cx} {T : Tab} {W : WX} {al : Bool} {m : List Addr} {M G H : Hp} {e : Expr} {pos : Pos} {f : Sta → PR RV}
def xRB2 (j : Nat) (s : Sta) : Option D → Fl
  | some d => .ret (.own d) (Pl.put (.ob j) .un s)
  | none => .stuck
def xRB1 (s : Sta) : D → Fl
  | .obj j => xRB2 j s (Pl.get (.ob j) s)
  | .none => .ret (.v .none) s
  | _ => .stuck
def xRB (s : Sta) : PR RV → Fl
  | .ok r => xRB1 s r.d
  | .exc e => .exc e s
  | .stuck => .stuck
def sRetB (f : Sta → PR RV) : Sta → Fl := fun s => xRB s (f s)
theorem s_retB (he : PEv X T W e f) : SE1 X T W al (.Return (some e) pos) (sRetB f) := by
  refine PS.wk (ps_ret he) ?_
  rintro D σ H ⟨s, m, M, G, R, a, q⟩
  refine ⟨s, m, M, G, R, ?_⟩
  revert q
  unfold sRetB
  cases f s with
  | ok r =>
    intro q y H1 M1 g1 rr1
    have R1 := R.grow g1
    obtain ⟨k, d⟩ := r
    have q : FlP X T W al G m M D (xRB1 s d) := q
    cases d with
    | obj j =>
      have q : FlP X T W al G m M D (xRB2 j s (Pl.get (.ob j) s)) := q
      cases hg : Pl.get (.ob j) s with
      | none => rw [hg] at q; exact q.elim
      | some d =>
        rw [hg] at q
        have q : FlP X T W al G m M D (.ret (.own d) (Pl.put (.ob j) .un s)) := q
        obtain ⟨b, o, f1, f2, rest, ⟨ob, a1, a2, a3⟩, h2, h3, p1, nd, dj, kk⟩ := R1.cut hg
        obtain ⟨b', rfl, e4⟩ := rr1.arg.obj
        rw [a3] at e4
        cases e4
        have nd' := List.nodup_cons.mp (p1.nodup_iff.mp nd)
        obtain ⟨f1', f2', q1, q2, q3⟩ := kk M1 H1 .un [] (Same.refl _) (fun _ _ => rfl) (fun _ _ h => nomatch h) rfl
        have q3 : List.Perm (f1' ++ f2') rest := q3
        have hsub : ∀ c ∈ f2', c ∈ rest := fun c hc => q3.mem_iff.mp (List.mem_append_right _ hc)
        refine q (.ref b) H1 m M1 (Ext.grow g1 R.gh) (fun h => (a h).trans put_len.symm) ⟨R1.mh, R1.gh, [b], f2', ⟨[b], [], rfl, ⟨b, o, rfl, rfl, h2, h3⟩, rfl⟩, q2, ?_, fun c hc => ?_⟩
        · rw [List.singleton_append, List.nodup_cons]
          exact ⟨fun z => nd'.1 (hsub b z), (List.nodup_append.mp (q3.nodup_iff.mpr nd'.2)).2.1⟩
        · rw [List.singleton_append] at hc
          rcases List.mem_cons.mp hc with rfl | hc
          · exact dj c (p1.mem_iff.mpr (List.mem_cons_self ..))
          · exact dj c (p1.mem_iff.mpr (List.mem_cons_of_mem _ (hsub c hc)))
    | none =>
      have q : FlP X T W al G m M D (.ret (.v .none) s) := q
      have hy : DR X.K m M1 y .none := by
        rcases rr1.arg with h | ⟨a, o, rfl, h2, h3⟩
        · exact h
        · cases h3
      obtain ⟨mh, gh, ⟨f1, f2, h1, h2, nd, dj⟩⟩ := R1
      exact q y H1 m M1 (Ext.grow g1 R.gh) a ⟨mh, gh, [], f2, ⟨[], [], rfl, ⟨rfl, y, rfl, hy⟩, rfl⟩, h2, (List.nodup_append.mp nd).2.1, fun c hc => dj c (List.mem_append_right _ hc)⟩
    | _ => exact q.elim
  | exc x => intro q cls dd H1 M1 g1 xr; exact q cls dd σ H1 m M1 (Ext.grow g1 R.gh) a (R.grow g1) xr
  | stuck => intro q; exact q.elim
end
section
variable {env : List Slot} {st : List Ob}
theorem s_RetB (f : Sta → PR RV) : sRetB f ⟨env, st⟩ = xRB ⟨env, st⟩ (f ⟨env, st⟩) := Eq.trans rfl rfl
theorem s_xRB (k : RK) (j : Nat) : xRB ⟨env, st⟩ (.ok ⟨k, .obj j⟩) = xRB2 j ⟨env, st⟩ (owO boxC 0 st[j]?) := Eq.trans rfl rfl
theorem s_xRBn (k : RK) : xRB ⟨env, st⟩ (.ok ⟨k, .none⟩) = .ret (.v .none) ⟨env, st⟩ := Eq.trans rfl rfl
theorem s_xRB2 (j : Nat) (d : D) : xRB2 j ⟨env, st⟩ (some d) = .ret (.own d) ⟨env, putB 0 .un st j st[j]?⟩ := Eq.trans rfl rfl
end
end MP

namespace MP
open PySem PySem.Spec PyProof.Rows L2
section
variable {X : Cx} {T : Tab} {W : WX} {al : Bool} {m : List Addr} {M G H : Hp} {o i value : Expr} {pos pos' : Pos} {p : Pl}
theorem Rel.tailV {K : PySem.W.Frag} {env : List Slot} {st : List Ob} {d : D} {y : V} {σ : L2.St} (R : Rel K T m M G H ⟨.v d :: env, st⟩ (some y :: σ)) : Rel K T m M G H ⟨env, st⟩ σ ∧ DR K m M y d := by
  obtain ⟨mh, gh, ⟨f1, f2, ⟨g1, g2, rfl, ⟨rfl, y', e, hd⟩, h1⟩, h2, nd, dj⟩⟩ := R
  cases e
  exact ⟨⟨mh, gh, g2, f2, h1, h2, nd, dj⟩, hd⟩
def xLPF (p : Pl) (fk : Sta → PR RV) : Fe → Fl
  | .ok (.v v) s => xLP0 p s v (fk s) (p.get s)
  | .ok _ _ => .stuck
  | .exc e s => .exc e s
  | .stuck => .stuck
def kLPF (p : Pl) (fk : Sta → PR RV) (r : Slot) (s : Sta) : Fl := match r with
  | .v v => xLP0 p s v (fk s) (p.get s)
  | _ => .stuck
def sLPutF (p : Pl) (fk : Sta → PR RV) (g : Sta → Fe) : Sta → Fl := fun s => xLPF p fk (g s)
theorem s_lputF {fk : Sta → PR RV} {g : Sta → Fe} (ho : PlOk X T o p) (hi : PEv X T W i fk) (hv : FEv X T W al value g) (hs : swapsWith value (some (.Subscript o i pos')) pos.line X.env = pure false := by rfl)
    (ha : ∀ v, assign (.Subscript o i pos') X.env v = (do
      let ov ← holding [v] (eval o X.env)
      let iv ← holding [v, ov] (eval i X.env)
      standAt pos'
      holding [v, ov, iv] (setItem ov iv v)
      release [v, ov, iv] []) := by intro _; rfl) :
    SE1 X T W al (.Assign [.Subscript o i pos'] value pos) (sLPutF p fk g) := by
  obtain ⟨te, ho, hte⟩ := ho
  refine PS.wk (ps_asg hv (pg_sub ho hi set_list ha) hs) ?_
  rintro D σ H ⟨s, m, M, G, R, a, q⟩
  have q : FlP X T W al G m M D ((g s).fl (kLPF p fk)) := by
    unfold sLPutF xLPF at q
    unfold Fe.fl kLPF
    cases hg : g s with
    | ok r s' => rw [hg] at q; cases r <;> exact q
    | exc e s' => rw [hg] at q; exact q
    | stuck => rw [hg] at q; exact q
  refine tF_fl R a q fun r s y H1 m1 M1 e1 a1 R1 k => ?_
  unfold kLPF at k
  cases r with
  | v v =>
    dsimp only at k
    obtain ⟨R1, rv⟩ := R1.tailV
    cases hg : p.get s with
    | none => rw [hg] at k; exact k.elim
    | some d =>
      obtain ⟨b, ob, hb, hH, hd⟩ := R1.plAt hg
      rw [hg] at k
      cases hd with
      | dic hd => exact k.elim
      | lst hd =>
        rename_i xs ds
        refine hte m1 H1 s σ b _ hb ⟨s, m1, M1, G, R1, ?_⟩
        have k : FlP X T W al G m1 M1 D (xLP1 p s v ds (fk s)) := k
        revert k
        cases hk : fk s with
        | ok r =>
          intro k ky H2 M2 g2 rk
          have k : FlP X T W al G m1 M1 D (xLP2 p s ds v r.d) := k
          obtain ⟨kk, dk⟩ := r
          obtain ⟨j, ej⟩ : ∃ j, dk = .int j := by cases dk <;> first | exact k.elim | exact ⟨_, rfl⟩
          subst ej
          have k : FlP X T W al G m1 M1 D (xLP3 p s ds v (L2.ixN ds.length j)) := k
          cases hj : L2.ixN ds.length j with
          | none => rw [hj] at k; exact k.elim
          | some n =>
            rw [hj] at k
            have ey : ky = V.int j := rk.arg.int
            subst ey
            have hb2 : H2 b = some (.lst xs) := g2.same _ _ hH
            refine ⟨b, xs, j, n, rfl, rfl, hb2, by rw [hd.length]; exact hj, ?_⟩
            have R2 := (R1.grow g2).mutP hg (hb.up g2.same) (o' := .lst (xs.set n y)) (d' := .list (ds.set n v)) (.lst (DRs.set (rv.up g2.mm) n (hd.up g2.mm)))
            exact k σ _ m1 M2 (Ext.grow g2 R1.gh) (fun h => (a1 h).trans put_len.symm) R2
        | exc x => intro k cls dd H2 M2 g2 xr; exact k cls dd σ H2 m1 M2 (Ext.grow g2 R1.gh) a1 (R1.grow g2) xr
        | stuck => intro k; exact k.elim
  | _ => exact k.elim
end
section
variable {env : List Slot} {st : List Ob}
theorem s_LPutF (p : Pl) (fk : Sta → PR RV) (g : Sta → Fe) : sLPutF p fk g ⟨env, st⟩ = xLPF p fk (g ⟨env, st⟩) := Eq.trans rfl rfl
theorem s_xLPF (p : Pl) (fk : Sta → PR RV) (v : D) : xLPF p fk (.ok (.v v) ⟨env, st⟩) = xLP0 p ⟨env, st⟩ v (fk ⟨env, st⟩) (p.get ⟨env, st⟩) := Eq.trans rfl rfl
end
section
variable {X : Cx} {T : Tab} {W : WX} {a b c tg : Expr} {p pos : Pos}
end
end MP

namespace MP
open PySem PySem.Spec PyProof.Rows L2
def cutO : Option HO → Option HO
  | some o => if hoOpen o = true then none else some o
  | none => none
def cutM (M : Hp) : Hp := fun a => cutO (M a)
theorem cut_keep {M : Hp} {a : Addr} {o : HO} (h : M a = some o) (ho : hoOpen o = false) : cutM M a = some o := by
  unfold cutM
  rw [h, cutO, if_neg (by rw [ho]; exact Bool.false_ne_true)]
theorem cut_sub {M : Hp} {a : Addr} {o : HO} (h : cutM M a = some o) : M a = some o ∧ hoOpen o = false := by
  unfold cutM at h
  cases e : M a with
  | none => rw [e, cutO] at h; cases h
  | some o' =>
    rw [e, cutO] at h
    by_cases c : hoOpen o' = true
    · rw [if_pos c] at h; cases h
    · rw [if_neg c] at h
      cases h
      exact ⟨rfl, by simpa using c⟩
section
variable {K : PySem.W.Frag} {m : List Addr} {M : Hp}
mutual
theorem DR.shd : ∀ (d : D) (v : V), DR K m M v d → coldD d = true → DR K m (cutM M) v d
  | .none, _, h, _ => by cases h; exact .non
  | .bool b, _, h, _ => by cases h; exact .bl b
  | .int i, _, h, _ => by cases h; exact .int i
  | .str x, _, h, _ => by cases h; exact .str x
  | .tup ds, _, h, c => by
    cases h with
    | tup h1 h2 =>
      rw [coldD] at c
      refine .tup ?_ (DRs.shd ds _ h2 c)
      rcases h1 with (h1 | ⟨o, h1⟩) | h1
      · exact .inl (.inl (cut_keep h1 rfl))
      · exact .inl (.inr ⟨o, cut_keep h1 rfl⟩)
      · exact .inr h1
  | .list _, _, _, c => by unfold coldD at c; cases c
  | .lk _, _, _, c => by unfold coldD at c; cases c
  | .dic _, _, _, c => by unfold coldD at c; cases c
  | .obj _, _, _, c => by unfold coldD at c; cases c
  | .xv _ _, _, _, c => by unfold coldD at c; cases c
  | .btp _, _, _, c => by unfold coldD at c; cases c
theorem DRs.shd : ∀ (ds : List D) (vs : List V), DRs K m M vs ds → coldDs ds = true → DRs K m (cutM M) vs ds
  | [], _, h, _ => by cases h; exact .nil
  | d :: ds, _, h, c => by
    cases h with
    | cons h1 h2 =>
      rw [coldDs, Bool.and_eq_true] at c
      exact .cons (DR.shd d _ h1 c.1) (DRs.shd ds _ h2 c.2)
end
end
def strD : D → Bool
  | .str _ => true
  | _ => false
def strsEq : List D → List D → Bool
  | [], [] => true
  | .str a :: l, .str b :: r => decide (a = b) && strsEq l r
  | _, _ => false
theorem DRs.txts {K : PySem.W.Frag} {m m' : List Addr} {M M' : Hp} : ∀ {xs : List V} {ds : List D}, DRs K m M xs ds → ds.all strD = true → DRs K m' M' xs ds
  | _, [], .nil, _ => .nil
  | _, d :: ds, .cons h1 h2, c => by
    rw [List.all_cons, Bool.and_eq_true] at c
    refine .cons ?_ (DRs.txts h2 c.2)
    cases d with
    | str x => cases h1; exact .str x
    | _ => cases c.1
theorem DRs.txts_eq {K : PySem.W.Frag} {m : List Addr} {M : Hp} : ∀ {xs : List V} {ds es : List D}, DRs K m M xs ds → DRs K m M xs es → ds.all strD = true → es.all strD = true → strsEq ds es = true
  | _, [], [], _, _, _, _ => rfl
  | _, [], e :: es, h1, h2, _, _ => by cases h1; cases h2
  | _, d :: ds, [], h1, h2, _, _ => by cases h1; cases h2
  | _, d :: ds, e :: es, h1, h2, c1, c2 => by
    rw [List.all_cons, Bool.and_eq_true] at c1 c2
    cases h1 with
    | cons a1 a2 =>
      cases h2 with
      | cons b1 b2 =>
        have ih := DRs.txts_eq a2 b2 c1.2 c2.2
        cases d with
        | str x =>
          cases e with
          | str y =>
            cases a1
            cases b1
            rw [strsEq, ih, decide_eq_true rfl]; rfl
          | _ => cases c2.1
        | _ => cases c1.1
section
variable {X : Cx} {T : Tab} {W : WX} {al : Bool} {G : Hp} {m m' : List Addr} {M M' H H' : Hp} {e o : Expr} {es : List Expr} {p pos : Pos} {k n : Nat} {sem : Sem} {x : Str}
theorem Rel.boxed2 {H0 M0 : Hp} {s : Sta} {σ : L2.St} (R : Rel X.K T m M0 G H0 s σ) (al : m.length = s.st.length) (g : Grow H0 M0 H M) {a b : Addr} {oa ob : HO} {da db : D} (hab : a ≠ b) (ha0 : H0 a = Option.none) (hb0 : H0 b = Option.none)
    (ha : H a = some oa) (hb : H b = some ob) (hda : ObD X.K m M oa da) (hdb : ObD X.K m M ob db) (hMa : M a = Option.none) (hMb : M b = Option.none) :
    Rel X.K T (m ++ [a] ++ [b]) M G H ⟨s.env, s.st ++ [⟨boxC, [(0, .own da)]⟩] ++ [⟨boxC, [(0, .own db)]⟩]⟩ σ := by
  obtain ⟨mh, gh, ⟨f1, f2, h1, h2, nd, dj⟩⟩ := R
  have here : ∀ c ∈ f1 ++ f2, ∃ o, H0 c = some o := fun c hc => by
    rcases List.mem_append.mp hc with hc | hc
    · exact h1.here c hc
    · exact h2.here c hc
  have hh : ∀ c ∈ f1 ++ f2, H c = H0 c := fun c hc => by
    obtain ⟨o, ho⟩ := here c hc
    rw [ho]
    exact g.same _ _ ho
  have ml1 : MLe m (m ++ [a]) := MLe.snoc m a
  have ml2 : MLe (m ++ [a]) (m ++ [a] ++ [b]) := MLe.snoc _ b
  have ml : MLe m (m ++ [a] ++ [b]) := ml1.trans ml2
  refine ⟨g.mh, gh.trans g.same, f1, f2 ++ [a] ++ [b], h1.mono ml g.mm fun c hc => hh c (by simp [hc]), ?_, ?_, fun c hc => ?_⟩
  · refine StoreR.snoc (StoreR.snoc (h2.mono ml (MLe.refl _) g.mm fun c hc => hh c (by simp [hc])) al (.inr (.inl ⟨rfl, .own da, rfl, a, oa, rfl, rfl, ha, hda.mono ml (Same.refl _)⟩))) (by simp [al]) (.inr (.inl ⟨rfl, .own db, rfl, b, ob, rfl, rfl, hb, hdb.mono ml (Same.refl _)⟩))
  · rw [← List.append_assoc, ← List.append_assoc, List.nodup_append, List.nodup_append]
    refine ⟨⟨nd, by simp, fun c hc d' hd' e => ?_⟩, by simp, fun c hc d' hd' e => ?_⟩
    · have : d' = a := by simpa using hd'
      subst this
      obtain ⟨o', ho'⟩ := here c hc
      rw [e, ha0] at ho'
      cases ho'
    · have : d' = b := by simpa using hd'
      subst this
      rcases List.mem_append.mp hc with hc | hc
      · obtain ⟨o', ho'⟩ := here c hc
        rw [e, hb0] at ho'
        cases ho'
      · have : c = a := by simpa using hc
        exact hab (this.symm.trans e)
  · rw [← List.append_assoc, ← List.append_assoc] at hc
    rcases List.mem_append.mp hc with hc | hc
    · rcases List.mem_append.mp hc with hc | hc
      · obtain ⟨o', ho'⟩ := here c hc
        exact ⟨g.keepNone ho' (dj c hc).1, (dj c hc).2⟩
      · have : c = a := by simpa using hc
        subst this
        exact ⟨hMa, gh.free ha0⟩
    · have : c = b := by simpa using hc
      subst this
      exact ⟨hMb, gh.free hb0⟩
def box2 (l r : List D) : List Ob := [⟨boxC, [(0, .own (.list l))]⟩, ⟨boxC, [(0, .own (.list r))]⟩]
def xThaw2 (s : Sta) : Fr → Fe
  | .ok (.v .none) _ => .ok (.v .none) s
  | .ok (.v (.tup [.list l, .list r])) _ => if l.all strD = true ∧ r.all strD = true ∧ strsEq l r = false then .ok (.v (.tup [.obj s.st.length, .obj (s.st.length + 1)])) ⟨s.env, s.st ++ box2 l r⟩ else .stuck
  | _ => .stuck
def xThaw2F (s : Sta) (n : Nat) (sem : Sem) : PR (List D) → Fe
  | .ok ds => if ds.length = n ∧ coldDs ds = true then xThaw2 s (sem ds []) else .stuck
  | .exc e => .exc e s
  | .stuck => .stuck
def fThaw2 (n : Nat) (sem : Sem) (fs : Sta → PR (List D)) : Sta → Fe := fun s => xThaw2F s n sem (fs s)
theorem fe_thaw2 {fs : Sta → PR (List D)} (c : Callee X.prog X.w X.K X.mg X.base T x true k n sem) (hr : Room k X.A) (hg : Gl X x) (tk : Takes X W) (ha : PAs X T W (e :: es) fs)
    (hdb : (x == ("__debug__" : Str)) = false := by decide) (he : starEach (e :: es) X.env = (false, eval e X.env) :: starEach es X.env := by rfl) (hpl : (backTo pos (starEach es X.env)).any (·.1) = false := by rfl) :
    FEv X T W true (.Call (.Name x p) (e :: es) [] pos) (fThaw2 n sem fs) := by
  refine PE.wk (pe_callC c hr hg (fun σ => passAt tk σ) ha hdb he hpl) ?_
  rintro σ H Q ⟨s, m, M, G, R, al, q⟩
  refine ⟨s, m, M, G, R, ?_⟩
  revert q
  unfold fThaw2
  cases fs s with
  | ok ds =>
    intro q ys H1 M1 g1 r1
    unfold xThaw2F at q
    dsimp only at q
    by_cases hl : ds.length = n ∧ coldDs ds = true
    · rw [if_pos hl] at q
      have cs : Same (cutM M1) H1 := fun a o h => g1.mh _ _ (cut_sub h).1
      refine ⟨ds, [], [], cutM M1, H1, by rw [r1.length]; exact hl.1, DRs.noObj _ _ (DRs.shd ds ys r1 hl.2) (colds_noObj ds hl.2), rel_pure cs, (fun _ => rfl), ?_⟩
      cases hs : sem ds [] with
      | ok r st' =>
        rw [hs] at q
        intro y H' m' M' e' a' R'
        obtain ⟨mh, gh, ⟨f1, f2, h1, h2, nd, dj⟩⟩ := R'
        obtain ⟨f3, f4, ef, h3, h4⟩ := h1
        unfold xThaw2 at q
        split at q
        · rename_i heq
          cases heq
          obtain ⟨_, y', ey, hd⟩ := h3
          cases ey
          cases hd
          have g2 : Grow H1 M1 H' M1 := ⟨gh, Same.refl _, fun a o h => gh _ _ (g1.mh _ _ h), fun _ _ h => .inl h⟩
          exact q .non H' m M1 (Ext.grow (g1.trans g2) R.gh) al ((R.grow (g1.trans g2)).consV .non)
        · rename_i l r _ heq
          cases heq
          by_cases hc : l.all strD = true ∧ r.all strD = true ∧ strsEq l r = false
          · rw [if_pos hc] at q
            obtain ⟨_, y', ey, hd⟩ := h3
            cases ey
            cases hd with
            | tup t1 t2 =>
              rename_i t vs
              cases t2 with
              | cons l1 t3 =>
                cases t3 with
                | cons l2 t4 =>
                  cases t4
                  cases l1 with
                  | list a1 a2 =>
                    rename_i a xs
                    cases l2 with
                    | list b1 b2 =>
                      rename_i b zs
                      have fresh : ∀ {c : Addr} {zs : List V}, M' c = some (.lst zs) → H1 c = Option.none := fun {c zs} h => by
                        rcases e'.new _ _ h with w | w
                        · have := (cut_sub w).2
                          cases this
                        · exact w
                      have ha1 := fresh a1
                      have hb1 := fresh b1
                      have hab : a ≠ b := fun e => by
                        subst e
                        rw [a1] at b1
                        cases b1
                        have := DRs.txts_eq a2 b2 hc.1 hc.2.1
                        rw [hc.2.2] at this
                        cases this
                      -- the tuple, as it is shared
                      obtain ⟨M2, g2, tt, hMa, hMb⟩ : ∃ M2, Grow H1 M1 H' M2 ∧ SqT X.K M2 t [V.ref a, V.ref b] ∧ M2 a = Option.none ∧ M2 b = Option.none := by
                        have none1 : ∀ {c : Addr}, H1 c = Option.none → M1 c = Option.none := fun {c} h => g1.mh.free h
                        have mk : ∀ ot : HO, M' t = some ot → hoOpen ot = false → ∃ M2, Grow H1 M1 H' M2 ∧ M2 t = some ot ∧ M2 a = Option.none ∧ M2 b = Option.none := fun ot ht ho => by
                          have hta : a ≠ t := fun e => by subst e; rw [a1] at ht; cases ht; cases ho
                          have htb : b ≠ t := fun e => by subst e; rw [b1] at ht; cases ht; cases ho
                          have keep : ∀ o, M1 t = some o → o = ot := fun o h => by
                            rcases e'.new _ _ ht with w | w
                            · have := (cut_sub w).1
                              rw [h] at this
                              cases this; rfl
                            · have := g1.mh _ _ h
                              rw [w] at this
                              cases this
                          refine ⟨upd M1 t ot, ⟨gh, fun c o h => ?_, fun c o h => ?_, fun c o h => ?_⟩, upd_same, ?_, ?_⟩
                          · by_cases hct : c = t
                            · subst hct
                              rw [upd_same, keep o h]
                            · rw [upd_ne hct]; exact h
                          · by_cases hct : c = t
                            · subst hct
                              rw [upd_same] at h
                              cases h
                              exact mh _ _ ht
                            · rw [upd_ne hct] at h
                              exact gh _ _ (g1.mh _ _ h)
                          · by_cases hct : c = t
                            · subst hct
                              rw [upd_same] at h
                              cases h
                              rcases e'.new _ _ ht with w | w
                              · exact .inl (cut_sub w).1
                              · exact .inr w
                            · rw [upd_ne hct] at h
                              exact .inl h
                          · rw [upd_ne hta]; exact none1 ha1
                          · rw [upd_ne htb]; exact none1 hb1
                        rcases t1 with (t1 | ⟨o, t1⟩) | t1
                        · obtain ⟨M2, q1, q2, q3⟩ := mk _ t1 rfl
                          exact ⟨M2, q1, .inl (.inl q2), q3⟩
                        · obtain ⟨M2, q1, q2, q3⟩ := mk _ t1 rfl
                          exact ⟨M2, q1, .inl (.inr ⟨o, q2⟩), q3⟩
                        · exact ⟨M1, ⟨gh, Same.refl _, fun a o h => gh _ _ (g1.mh _ _ h), fun _ _ h => .inl h⟩, .inr t1, none1 ha1, none1 hb1⟩
                      have gg := g1.trans g2
                      have RB := Rel.boxed2 R (al rfl) gg (da := .list l) (db := .list r) hab (g1.same.free ha1) (g1.same.free hb1) (mh _ _ a1) (mh _ _ b1) (.lst (DRs.txts a2 hc.1)) (.lst (DRs.txts b2 hc.2.1)) hMa hMb
                      have eA : (m ++ [a] ++ [b])[s.st.length]? = some a := by rw [← al rfl]; simp
                      have eB : (m ++ [a] ++ [b])[s.st.length + 1]? = some b := by rw [← al rfl]; simp
                      have est : s.st ++ box2 l r = s.st ++ [⟨boxC, [(0, .own (.list l))]⟩] ++ [⟨boxC, [(0, .own (.list r))]⟩] := by unfold box2; simp
                      rw [est] at q
                      refine q (.ref t) H' (m ++ [a] ++ [b]) M2 ((Ext.grow gg R.gh).trans ⟨(MLe.snoc m a).trans (MLe.snoc _ b), (fun h => nomatch h), Same.refl _, fun _ _ h => .inl h⟩) (fun _ => by simp [al rfl]) ?_
                      exact RB.consV (.tup tt (.cons (.obj eA) (.cons (.obj eB) .nil)))
          · rw [if_neg hc] at q; exact q.elim
        · exact q.elim
      | exc x st' => rw [hs] at q; intro cls d H' m' M' e' a' R' xr; exact (show False from q).elim
      | stuck => rw [hs] at q; exact (show False from q).elim
    · rw [if_neg hl] at q
      exact q.elim
  | exc e => intro q cls d H' M' g xr; exact q cls d H' m M' (Ext.grow g R.gh) al (R.grow g) xr
  | stuck => intro q; exact q
end
section
variable {env : List Slot} {st : List Ob} {s : Sta}
theorem f_Thaw2 (n : Nat) (sem : Sem) (fs : Sta → PR (List D)) : fThaw2 n sem fs s = xThaw2F s n sem (fs s) := Eq.trans rfl rfl
theorem f_xThaw2F {n : Nat} {sem : Sem} {ds : List D} (h : ds.length = n) (h2 : coldDs ds = true) : xThaw2F s n sem (.ok ds) = xThaw2 s (sem ds []) := if_pos ⟨h, h2⟩
theorem f_xThawN (st' : List Ob) : xThaw2 s (.ok (.v .none) st') = .ok (.v .none) s := Eq.trans rfl rfl
theorem f_xThawT {l r : List D} {st' : List Ob} (h : l.all strD = true ∧ r.all strD = true ∧ strsEq l r = false) : xThaw2 ⟨env, st⟩ (.ok (.v (.tup [.list l, .list r])) st') = .ok (.v (.tup [.obj st.length, .obj (st.length + 1)])) ⟨env, st ++ box2 l r⟩ := if_pos h
end
end MP

namespace L_k64
open PySem L2 MP
def top (i : Nat) : Stmt := PySem.Challenge.pw_chordbed_k64_whole_clear_or_twofold.main.body.getD i (.Pass ⟨0, 0, 0, 0⟩)
abbrev s_l_cell : Stmt := top 14
abbrev s_l_stirred : Stmt := top 15
abbrev s_l_wide : Stmt := top 16
abbrev s_l_names : Stmt := top 20
abbrev s_l_name_of : Stmt := top 21
abbrev s_l_stroke_of : Stmt := top 22
abbrev s_l_read_book : Stmt := top 23
abbrev s_l_stream : Stmt := top 17
abbrev s_l_stroke : Stmt := top 19
abbrev s_l_book : Stmt := top 24
abbrev s_l_drawn : Stmt := top 29
abbrev s_begins : Stmt := top 1
abbrev s_first_ways : Stmt := top 2
abbrev s_next_ways : Stmt := top 3
abbrev s_ways_of : Stmt := top 4
abbrev s_twofold : Stmt := top 6
abbrev s_written : Stmt := top 11
abbrev s_read_strokes : Stmt := top 12
abbrev s_rests : Stmt := top 5
abbrev s_l_written : Stmt := top 25
abbrev s_l_row : Stmt := top 26
abbrev s_l_twofold : Stmt := top 28
abbrev s_l_asked : Stmt := top 30
abbrev s_law : Stmt := top 31
abbrev s_NoWord___init__ : Stmt := inClass (top 9) 0
def b_l_cell : Sta → Fl :=
  sRet (p2 gIx (p2 gPlus (pSl (pVar 0) (pSome (pVar 1)) (pSome (p2 gPlus (pVar 1) (pC (.int 1))))) (pLst (pCons (pD (pC (.int 0))) (pNil)))) (pC (.int 0)))
def sem_l_cell : MP.Sem := runB 2 b_l_cell
def b_l_stirred : Sta → Fl :=
  sSeq (sSetV 2 (pD (p2 gPlus (p2 gMod (pVar 0) (pC (.int 1000000007))) (p2 gTimes (pC (.int 13)) (pVar 1))))) (sSeq (sSetV 2 (pD (p2 gMod (p2 gPlus (p2 gPlus (p2 gTimes (pVar 2) (p2 gPlus (p2 gPlus (pVar 2) (p2 gTimes (pVar 1) (pVar 1))) (pC (.int 11)))) (p2 gTimes (pC (.int 40487)) (pVar 1))) (pC (.int 7))) (pC (.int 1000000033))))) (sRet (p2 gDiv (p2 gMod (p2 gPlus (p2 gTimes (pVar 2) (p2 gPlus (p2 gDiv (pVar 2) (pC (.int 7))) (pC (.int 31)))) (pC (.int 90001))) (pC (.int 999999937))) (pC (.int 3)))))
def sem_l_stirred : MP.Sem := runB 3 b_l_stirred
def b_l_wide : Sta → Fl :=
  sSeq (sIf (pOr (pB (p2 gLt (pVar 0) (pC (.int 0)))) (pB (p2 gGe (pVar 0) (p2 gPow (pC (.int 10)) (pC (.int 18)))))) (sRet (pCall gMax (pCons (pVar 0) (pCons (p2 gSub (pC (.int 0)) (pVar 0)) (pNil))))) (sNil)) (sRet (pUser 2 sem_l_stirred (pCons (pD (pUser 2 sem_l_stirred (pCons (pD (pVar 0)) (pCons (pD (pVar 1)) (pNil))))) (pCons (pD (pC (.int 3))) (pNil)))))
def sem_l_wide : MP.Sem := runB 2 b_l_wide
def lp_l_names_1 : Sta → Fl :=
  sSeq (sSetV 8 (pD (p2 gIx (pVar 2) (p2 gMod (p2 gPlus (p2 gTimes (pVar 7) (pC (.int 7))) (p2 gDiv (pVar 0) (pC (.int 5616)))) (pC (.int 26)))))) (sApp 6 (pD (p2 gPlus (p2 gPlus (p2 gRepS (pVar 3) (pVar 5)) (pVar 8)) (p2 gRepS (pVar 3) (p2 gSub (pVar 4) (pVar 5))))))
def b_l_names : Sta → Fl :=
  sSeq (sSetV 2 (pD (pC (.str "abcdefghijklmnopqrstuvwxyz")))) (sSeq (sSetV 3 (pD (p2 gIx (pVar 2) (p2 gMod (p2 gDiv (pVar 0) (pC (.int 3))) (pC (.int 26)))))) (sSeq (sIf (pAnd (pB (p2 gEq (p2 gMod (pVar 0) (pC (.int 3))) (pC (.int 0)))) (pB (p2 gLt (pVar 1) (pC (.int 9))))) (sRet (pComp (pRng gRng1 (pCons (pVar 1) (pNil))) (.nm 7) [7] (pYes) (pD (p2 gRepS (pVar 3) (p2 gPlus (pVar 7) (pC (.int 1))))))) (sNil)) (sSeq (sSetV 4 (pD (p2 gMod (p2 gDiv (pVar 0) (pC (.int 78))) (pC (.int 8))))) (sSeq (sSetV 5 (pD (p2 gMod (p2 gDiv (pVar 0) (pC (.int 624))) (p2 gPlus (pVar 4) (pC (.int 1)))))) (sSeq (sSetO 6 (pLst (pNil))) (sSeq (sFor (pRng gRng1 (pCons (pVar 1) (pNil))) (.nm 7) (lp_l_names_1)) (sRetS 6)))))))
def sem_l_names : MP.Sem := runB 9 b_l_names
def lp_l_name_of_1 : Sta → Fl :=
  sSeq (sSetV 1 (pD (p2 gPlus (pVar 1) (p2 gIx (pC (.str "abcdefghijklmnopqrstuvwxyz")) (p2 gMod (pVar 0) (pC (.int 26))))))) (sSetV 0 (pD (p2 gDiv (pVar 0) (pC (.int 26)))))
def b_l_name_of : Sta → Fl :=
  sSeq (sSetV 1 (pD (pC (.str "")))) (sSeq (sSetV 2 (pD (p2 gPlus (pC (.int 1)) (p2 gMod (pVar 0) (pC (.int 8)))))) (sSeq (sSetV 0 (pD (p2 gDiv (pVar 0) (pC (.int 8))))) (sSeq (sFor (pRng gRng1 (pCons (pVar 2) (pNil))) (.nm 3) (lp_l_name_of_1)) (sRet (pVar 1)))))
def sem_l_name_of : MP.Sem := runB 4 b_l_name_of
def lp_l_stroke_of_1 : Sta → Fl :=
  sSeq (sIf (pB (p2 gEq (p2 gMod (pVar 1) (pC (.int 2))) (pC (.int 1)))) (sApp 2 (pD (pVar 3))) (sNil)) (sSetV 1 (pD (p2 gDiv (pVar 1) (pC (.int 2)))))
def b_l_stroke_of : Sta → Fl :=
  sSeq (sSetV 1 (pD (p2 gPlus (pC (.int 1)) (pVar 0)))) (sSeq (sSetO 2 (pLst (pNil))) (sSeq (sFor (pRng gRng1 (pCons (pC (.int 12)) (pNil))) (.nm 3) (lp_l_stroke_of_1)) (sRet (pCall gTuple (pCons (pVar 2) (pNil))))))
def sem_l_stroke_of : MP.Sem := runB 4 b_l_stroke_of
def lp_l_read_book_1 : Sta → Fl :=
  sSeq (sApp 4 (pD (pUser 1 sem_l_stroke_of (pCons (pD (p2 gMod (pVar 5) (pC (.int 4095)))) (pNil))))) (sSetV 5 (pD (p2 gDiv (pVar 5) (pC (.int 4095)))))
def lp_l_read_book_2 : Sta → Fl :=
  sSeq (sSetV 3 (pD (pUser 1 sem_l_name_of (pCons (pD (p2 gIx (pVar 0) (p2 gPlus (pC (.int 1)) (p2 gTimes (pC (.int 2)) (pVar 2))))) (pNil))))) (sSeq (sSetO 4 (pLst (pNil))) (sSeq (sSetV 5 (pD (p2 gDiv (p2 gIx (pVar 0) (p2 gPlus (pC (.int 2)) (p2 gTimes (pC (.int 2)) (pVar 2)))) (pC (.int 6))))) (sSeq (sFor (pRng gRng1 (pCons (p2 gPlus (pC (.int 1)) (p2 gMod (p2 gIx (pVar 0) (p2 gPlus (pC (.int 2)) (p2 gTimes (pC (.int 2)) (pVar 2)))) (pC (.int 6)))) (pNil))) (.nm 6) (lp_l_read_book_1)) (sIf (pB (p2 gNin (pVar 3) (pComp (pSeqR (pVar 1)) (.tp [7, 8]) [7, 8] (pYes) (pD (pVar 7))))) (sApp 1 (pD (pTup (pCons (pD (pVar 3)) (pCons (pD (pCall gTuple (pCons (pVar 4) (pNil)))) (pNil)))))) (sNil)))))
def b_l_read_book : Sta → Fl :=
  sSeq (sSetO 1 (pLst (pNil))) (sSeq (sFor (pRng gRng1 (pCons (p2 gPlus (pC (.int 1)) (p2 gMod (p2 gIx (pVar 0) (pC (.int 0))) (pC (.int 20)))) (pNil))) (.nm 2) (lp_l_read_book_2)) (sRet (pCall gTupB (pCons (pVar 1) (pNil)))))
def sem_l_read_book : MP.Sem := runB 9 b_l_read_book
def lp_l_stream_1 : Sta → Fl :=
  sSetV 5 (pD (p2 gPlus (p2 gTimes (pVar 5) (p2 gPow (pC (.int 10)) (pC (.int 8)))) (p2 gMod (pUser 2 sem_l_stirred (pCons (pD (pVar 0)) (pCons (pD (p2 gPlus (p2 gTimes (pC (.int 3)) (pVar 4)) (pVar 6))) (pNil)))) (p2 gPow (pC (.int 10)) (pC (.int 8))))))
def lp_l_stream_2 : Sta → Fl :=
  sSeq (sSetV 5 (pD (pC (.int 0)))) (sSeq (sFor (pRng gRng1 (pCons (pC (.int 3)) (pNil))) (.nm 6) (lp_l_stream_1)) (sSeq (sIf (pAnd (pB (p2 gGt (pVar 3) (pC (.int 0)))) (pOr (pB (p2 gLt (pVar 0) (pC (.int 0)))) (pB (p2 gGe (pVar 0) (p2 gPow (pC (.int 10)) (pC (.int 18))))))) (sSeq (sSetV 5 (pD (p2 gMod (pVar 3) (p2 gPow (pC (.int 10)) (pC (.int 24)))))) (sSetV 3 (pD (p2 gDiv (pVar 3) (p2 gPow (pC (.int 10)) (pC (.int 24))))))) (sNil)) (sApp 2 (pD (pVar 5)))))
def b_l_stream : Sta → Fl :=
  sSeq (sSetO 2 (pLst (pNil))) (sSeq (sSetV 3 (pD (pCall gMax (pCons (pVar 0) (pCons (p2 gSub (pC (.int 0)) (pVar 0)) (pNil)))))) (sSeq (sFor (pRng gRng1 (pCons (pVar 1) (pNil))) (.nm 4) (lp_l_stream_2)) (sRetS 2)))
def sem_l_stream : MP.Sem := runB 7 b_l_stream
def lp_l_stroke_1 : Sta → Fl :=
  sSeq (sIf (pB (p2 gEq (p2 gMod (pVar 3) (pC (.int 2))) (pC (.int 1)))) (sApp 4 (pD (pVar 5))) (sNil)) (sSetV 3 (pD (p2 gDiv (pVar 3) (pC (.int 2)))))
def b_l_stroke : Sta → Fl :=
  sSeq (sSetV 2 (pD (pLst (pCons (pD (pTup (pCons (pD (pC (.int 0))) (pNil)))) (pCons (pD (pTup (pCons (pD (pC (.int 1))) (pNil)))) (pCons (pD (pTup (pCons (pD (pC (.int 0))) (pCons (pD (pC (.int 1))) (pNil))))) (pCons (pD (pTup (pCons (pD (pC (.int 2))) (pCons (pD (pC (.int 11))) (pNil))))) (pNil)))))))) (sSeq (sIf (pB (pVar 1)) (sSeq (sSetV 3 (pD (p2 gDiv (pVar 0) (pC (.int 4))))) (sSeq (sSetO 4 (pLst (pNil))) (sSeq (sFor (pRng gRng1 (pCons (pC (.int 12)) (pNil))) (.nm 5) (lp_l_stroke_1)) (sIf (pB (p2 gGt (pCall gLen (pCons (pVar 4) (pNil))) (pC (.int 0)))) (sRet (pCall gTuple (pCons (pVar 4) (pNil)))) (sNil))))) (sNil)) (sRet (p2 gIx (pVar 2) (p2 gMod (pVar 0) (pC (.int 4))))))
def sem_l_stroke : MP.Sem := runB 6 b_l_stroke
def lp_l_book_1 : Sta → Fl :=
  sSeq (sSetV 9 (pD (p2 gDiv (pVar 9) (pC (.int 4))))) (sApp 10 (pD (pUser 2 sem_l_stroke (pCons (pD (p2 gIx (pLst (pCons (pD (p2 gMod (pVar 9) (pC (.int 2)))) (pCons (pD (pVar 9)) (pCons (pD (pVar 9)) (pCons (pD (pVar 9)) (pNil)))))) (pVar 3))) (pCons (pD (p2 gEq (pVar 3) (pC (.int 1)))) (pNil))))))
def lp_l_book_2 : Sta → Fl :=
  sSeq (sSetV 9 (pD (pUser 2 sem_l_wide (pCons (pD (pUser 2 sem_l_cell (pCons (pD (pVar 0)) (pCons (pD (p2 gPlus (p2 gPlus (pVar 1) (pC (.int 2))) (p2 gMod (pVar 8) (pC (.int 6))))) (pNil))))) (pCons (pD (p2 gPlus (pC (.int 3)) (pVar 8))) (pNil)))))) (sSeq (sSetO 10 (pLst (pNil))) (sSeq (sFor (pRng gRng1 (pCons (p2 gPlus (pC (.int 1)) (p2 gMod (pVar 9) (pVar 5))) (pNil))) (.nm 11) (lp_l_book_1)) (sApp 7 (pD (pTup (pCons (pD (p2 gIx (pVar 6) (pVar 8))) (pCons (pD (pCall gTuple (pCons (pVar 10) (pNil)))) (pNil))))))))
def b_l_book : Sta → Fl :=
  sSeq (sSetV 2 (pD (pUser 2 sem_l_cell (pCons (pD (pVar 0)) (pCons (pD (pVar 1)) (pNil)))))) (sSeq (sIf (pOr (pB (p2 gLt (pVar 2) (pC (.int 0)))) (pB (p2 gGe (pVar 2) (p2 gPow (pC (.int 10)) (pC (.int 18)))))) (sRet (pUser 1 sem_l_read_book (pCons (pD (pUser 2 sem_l_stream (pCons (pD (pVar 2)) (pCons (pD (pC (.int 41))) (pNil))))) (pNil)))) (sNil)) (sSeq (sSetV 2 (pD (pUser 2 sem_l_wide (pCons (pD (pVar 2)) (pCons (pD (pC (.int 1))) (pNil)))))) (sSeq (sSetV 3 (pD (p2 gMod (p2 gDiv (pVar 2) (pC (.int 6))) (pC (.int 4))))) (sSeq (sSetV 4 (pD (p2 gPlus (pC (.int 1)) (p2 gMod (pVar 2) (pC (.int 6)))))) (sSeq (sSetV 5 (pD (pC (.int 4)))) (sSeq (sIf (pB (p2 gEq (p2 gMod (p2 gDiv (pVar 2) (pC (.int 24))) (pC (.int 8))) (pC (.int 3)))) (sSeq (sSetV 4 (pD (p2 gPlus (pC (.int 12)) (p2 gMod (p2 gDiv (pVar 2) (pC (.int 192))) (pC (.int 9)))))) (sSetV 5 (pD (pC (.int 6))))) (sNil)) (sSeq (sSetV 6 (pD (pUser 2 sem_l_names (pCons (pD (pUser 2 sem_l_wide (pCons (pD (pUser 2 sem_l_cell (pCons (pD (pVar 0)) (pCons (pD (p2 gPlus (pVar 1) (pC (.int 1)))) (pNil))))) (pCons (pD (pC (.int 2))) (pNil))))) (pCons (pD (pVar 4)) (pNil)))))) (sSeq (sSetO 7 (pLst (pNil))) (sSeq (sFor (pRng gRng1 (pCons (pVar 4) (pNil))) (.nm 8) (lp_l_book_2)) (sRet (pCall gTupB (pCons (pVar 7) (pNil)))))))))))))
def sem_l_book : MP.Sem := runB 12 b_l_book
def lp_l_drawn_1 : Sta → Fl :=
  sSeq (sTup (.tp [6, 7]) (pD (p2 gIx (pVar 0) (p2 gMod (p2 gDiv (pUser 2 sem_l_wide (pCons (pD (pVar 5)) (pCons (pD (pVar 2)) (pNil)))) (pVar 2)) (pCall gLen (pCons (pVar 0) (pNil))))))) (sIf (pB (p2 gLe (p2 gPlus (pVar 4) (pCall gLen (pCons (pVar 7) (pNil)))) (pC (.int 190)))) (sSeq (sApp 3 (pD (pVar 6))) (sSetV 4 (pD (p2 gPlus (pVar 4) (pCall gLen (pCons (pVar 7) (pNil))))))) (sNil))
def st_l_drawn_1 : Sta → Fl :=
  sSetO 3 (pLst (pNil))
def st_l_drawn_2 : Sta → Fl :=
  sSetV 4 (pD (pC (.int 0)))
def st_l_drawn_3 : Sta → Fl :=
  sFor (pSeq (pD (pVar 1))) (.nm 5) (lp_l_drawn_1)
def st_l_drawn_4 : Sta → Fl :=
  sRetS 3
def b_l_drawn : Sta → Fl :=
  sSeq st_l_drawn_1 (sSeq st_l_drawn_2 (sSeq st_l_drawn_3 (st_l_drawn_4)))
def sem_l_drawn : MP.Sem := runB 8 b_l_drawn
def b_begins : Sta → Fl :=
  sRet (p2 gEq (pSl (pVar 1) (pNo) (pSome (pCall gLen (pCons (pVar 0) (pNil))))) (pVar 0))
def sem_begins : MP.Sem := runB 2 b_begins
def lp_first_ways_1 : Sta → Fl :=
  sIf (pAnd (pB (p2 gNe (pVar 2) (pVar 4))) (pB (pUser 2 sem_begins (pCons (pD (pVar 3)) (pCons (pD (pVar 5)) (pNil)))))) (sApp 1 (pD (pTup (pCons (pD (pSl (pVar 5) (pSome (pCall gLen (pCons (pVar 3) (pNil)))) (pNo))) (pCons (pD (pCall gLen (pCons (pVar 5) (pNil)))) (pCons (pD (pLst (pCons (pD (pVar 4)) (pNil)))) (pCons (pD (pLst (pCons (pD (pVar 2)) (pNil)))) (pNil)))))))) (sNil)
def lp_first_ways_2 : Sta → Fl :=
  sFor (pSeq (pD (pVar 0))) (.tp [4, 5]) (lp_first_ways_1)
def st_first_ways_1 : Sta → Fl :=
  sSetO 1 (pLst (pNil))
def st_first_ways_2 : Sta → Fl :=
  sFor (pSeq (pD (pVar 0))) (.tp [2, 3]) (lp_first_ways_2)
def st_first_ways_3 : Sta → Fl :=
  sRetS 1
def b_first_ways : Sta → Fl :=
  sSeq st_first_ways_1 (sSeq st_first_ways_2 (st_first_ways_3))
def sem_first_ways : MP.Sem := runB 6 b_first_ways
def lp_next_ways_1 : Sta → Fl :=
  sIf (pB (pUser 2 sem_begins (pCons (pD (pVar 8)) (pCons (pD (pVar 1)) (pNil))))) (sApp 3 (pD (pTup (pCons (pD (pSl (pVar 1) (pSome (pCall gLen (pCons (pVar 8) (pNil)))) (pNo))) (pCons (pD (pVar 4)) (pCons (pD (pVar 5)) (pCons (pD (p2 gPlus (pVar 6) (pLst (pCons (pD (pVar 7)) (pNil))))) (pNil)))))))) (sIf (pB (pUser 2 sem_begins (pCons (pD (pVar 1)) (pCons (pD (pVar 8)) (pNil))))) (sApp 3 (pD (pTup (pCons (pD (pSl (pVar 8) (pSome (pCall gLen (pCons (pVar 1) (pNil)))) (pNo))) (pCons (pD (p2 gSub (p2 gPlus (pVar 4) (pCall gLen (pCons (pVar 8) (pNil)))) (pCall gLen (pCons (pVar 1) (pNil))))) (pCons (pD (p2 gPlus (pVar 6) (pLst (pCons (pD (pVar 7)) (pNil))))) (pCons (pD (pVar 5)) (pNil)))))))) (sNil))
def st_next_ways_1 : Sta → Fl :=
  sTup (.tp [4, 5, 6]) (pD (pVar 2))
def st_next_ways_2 : Sta → Fl :=
  sSetO 3 (pLst (pNil))
def st_next_ways_3 : Sta → Fl :=
  sFor (pSeq (pD (pVar 0))) (.tp [7, 8]) (lp_next_ways_1)
def st_next_ways_4 : Sta → Fl :=
  sRetS 3
def b_next_ways : Sta → Fl :=
  sSeq st_next_ways_1 (sSeq st_next_ways_2 (sSeq st_next_ways_3 (st_next_ways_4)))
def sem_next_ways : MP.Sem := runB 9 b_next_ways
def lp_ways_of_1 : Sta → Fl :=
  sIf (pOr (pB (pNdIn true (pVar 4) (pVar 1))) (pB (p2 gLt (pVar 5) (p2 gIx (pNdGet (pVar 1) (pVar 4)) (pC (.int 0)))))) (sSeq (sNdPut (pVar 1) (pD (pVar 4)) (pD (pTup (pCons (pD (pVar 5)) (pCons (pD (pVar 6)) (pCons (pD (pVar 7)) (pNil))))))) (sIf (pB (p2 gGt (pCall gLen (pCons (pVar 4) (pNil))) (pC (.int 0)))) (sExtP (.nm 3) (pUser 3 sem_next_ways (pCons (pD (pVar 0)) (pCons (pD (pVar 4)) (pCons (pD (pNdGet (pVar 1) (pVar 4))) (pNil)))))) (sNil))) (sNil)
def lp_ways_of_2 : Sta → Fl :=
  sSeq (sSetO 3 (pLst (pNil))) (sSeq (sFor (pSeq (pD (pVar 2))) (.tp [4, 5, 6, 7]) (lp_ways_of_1)) (sFrz 3 (sSetV 2 (pD (pVar 3)))))
def st_ways_of_1 : Sta → Fl :=
  sSetF 1 (fNdNew)
def st_ways_of_2 : Sta → Fl :=
  sSetV 2 (pD (pUser 1 sem_first_ways (pCons (pD (pVar 0)) (pNil))))
def st_ways_of_3 : Sta → Fl :=
  sWhile 100000 (pB (p2 gGt (pCall gLen (pCons (pVar 2) (pNil))) (pC (.int 0)))) (lp_ways_of_2)
def st_ways_of_4 : Sta → Fl :=
  sRet (pVar 1)
def b_ways_of : Sta → Fl :=
  sSeq st_ways_of_1 (sSeq st_ways_of_2 (sSeq st_ways_of_3 (st_ways_of_4)))
def sem_ways_of : MP.Sem := runB 8 b_ways_of
def st_twofold_1 : Sta → Fl :=
  sSetD 1 (dF (fUser 1 sem_ways_of (pCons (pD (pVar 0)) (pNil))))
def st_twofold_2 : Sta → Fl :=
  sIf (pB (pNdIn true (pTup (pNil)) (pVar 1))) (sRet (pC .none)) (sNil)
def st_twofold_3 : Sta → Fl :=
  sTup (.tp [2, 3, 4]) (pD (pNdGet (pVar 1) (pTup (pNil))))
def st_twofold_4 : Sta → Fl :=
  sRet (pTup (pCons (pD (pVar 3)) (pCons (pD (pVar 4)) (pNil))))
def b_twofold : Sta → Fl :=
  sSeq st_twofold_1 (sSeq st_twofold_2 (sSeq st_twofold_3 (st_twofold_4)))
def sem_twofold : MP.Sem := runB 5 b_twofold
def lp_written_1 : Sta → Fl :=
  sSeq (sIf (pB (p2 gDNin (pVar 4) (pVar 2))) (sRaise "NoWord" ["word"] (pCons (pD (pVar 4)) (pNil))) (sNil)) (sSetV 3 (pD (p2 gPlus (pVar 3) (p2 gDGet (pVar 2) (pVar 4)))))
def st_written_1 : Sta → Fl :=
  sSetV 2 (pD (pCall gDictB (pCons (pVar 0) (pNil))))
def st_written_2 : Sta → Fl :=
  sSetV 3 (pD (pTup (pNil)))
def st_written_3 : Sta → Fl :=
  sFor (pSeq (pD (pVar 1))) (.nm 4) (lp_written_1)
def st_written_4 : Sta → Fl :=
  sRet (pVar 3)
def b_written : Sta → Fl :=
  sSeq st_written_1 (sSeq st_written_2 (sSeq st_written_3 (st_written_4)))
def sem_written : MP.Sem := runB 5 b_written
def lp_read_strokes_1 : Sta → Fl :=
  sSeq (sSetV 6 (pD (p2 gPlus (pVar 3) (pCall gLen (pCons (pVar 5) (pNil)))))) (sIf (pAnd (pB (p2 gEq (pSl (pVar 1) (pSome (pVar 3)) (pSome (pVar 6))) (pVar 5))) (pB (p2 gIs (p2 gIx (pVar 2) (pVar 6)) (pC .none)))) (sLPutF (.nm 2) (pVar 6) (fBox (p2 gPlus (pDer (p2 gIx (pVar 2) (pVar 3))) (pLst (pCons (pD (pVar 4)) (pNil)))))) (sNil))
def lp_read_strokes_2 : Sta → Fl :=
  sSeq (sIf (pB (p2 gIs (p2 gIx (pVar 2) (pVar 3)) (pC .none))) (sCont) (sNil)) (sFor (pSeq (pD (pVar 0))) (.tp [4, 5]) (lp_read_strokes_1))
def st_read_strokes_1 : Sta → Fl :=
  sSetO 2 (p2 gTimes (pLst (pCons (pD (pC .none)) (pNil))) (p2 gPlus (pCall gLen (pCons (pVar 1) (pNil))) (pC (.int 1))))
def st_read_strokes_2 : Sta → Fl :=
  sLPutF (.nm 2) (pC (.int 0)) (fBox (pLst (pNil)))
def st_read_strokes_3 : Sta → Fl :=
  sFor (pRng gRng1 (pCons (pCall gLen (pCons (pVar 1) (pNil))) (pNil))) (.nm 3) (lp_read_strokes_2)
def st_read_strokes_4 : Sta → Fl :=
  sRetB (p2 gIx (pVar 2) (pCall gLen (pCons (pVar 1) (pNil))))
def b_read_strokes : Sta → Fl :=
  sSeq st_read_strokes_1 (sSeq st_read_strokes_2 (sSeq st_read_strokes_3 (st_read_strokes_4)))
def sem_read_strokes : MP.Sem := runB 7 b_read_strokes
noncomputable def st_rests_1 : Sta → Fl :=
  sSetD 1 (dF (fUser 1 sem_ways_of (pCons (pD (pVar 0)) (pNil))))
noncomputable def st_rests_2 : Sta → Fl :=
  sRet (pCall gSortD (pCons (pCompN 1 (.nm 2) [2] (pYes) (pD (pTup (pCons (pD (pVar 2)) (pCons (pD (p2 gIx (pNdGet (pVar 1) (pVar 2)) (pC (.int 0)))) (pNil)))))) (pNil)))
noncomputable def b_rests : Sta → Fl :=
  sSeq st_rests_1 (st_rests_2)
noncomputable def sem_rests : MP.Sem := runB 3 b_rests
def lp_l_written_1 : Sta → Fl :=
  sIf (pB (p2 gEq (pVar 4) (pVar 3))) (sSetV 2 (pD (p2 gPlus (pVar 2) (pVar 5)))) (sNil)
def lp_l_written_2 : Sta → Fl :=
  sFor (pSeq (pD (pVar 0))) (.tp [4, 5]) (lp_l_written_1)
def st_l_written_1 : Sta → Fl :=
  sSetV 2 (pD (pTup (pNil)))
def st_l_written_2 : Sta → Fl :=
  sFor (pSeq (pD (pVar 1))) (.nm 3) (lp_l_written_2)
def st_l_written_3 : Sta → Fl :=
  sRet (pVar 2)
def b_l_written : Sta → Fl :=
  sSeq st_l_written_1 (sSeq st_l_written_2 (st_l_written_3))
def sem_l_written : MP.Sem := runB 6 b_l_written
def st_l_row_1 : Sta → Fl :=
  sIf (pNot (pB (pIsi "list" (pVar 0)))) (sRet (pC (.bool false))) (sNil)
def st_l_row_2 : Sta → Fl :=
  sRet (pCall gAll (pCons (pComp (pSeqR (pVar 0)) (.nm 2) [2] (pYes) (pD (pAndV (pIsi "str" (pVar 2)) (p2 gIn (pVar 2) (pComp (pSeqR (pVar 1)) (.tp [3, 4]) [3, 4] (pYes) (pD (pVar 3))))))) (pNil)))
def b_l_row : Sta → Fl :=
  sSeq st_l_row_1 (st_l_row_2)
def sem_l_row : MP.Sem := runB 5 b_l_row
def st_l_twofold_1 : Sta → Fl :=
  sIf (pOr (pNot (pB (pIsi "tuple" (pVar 1)))) (pB (p2 gNe (pCall gLen (pCons (pVar 1) (pNil))) (pC (.int 2))))) (sRet (pC (.bool false))) (sNil)
def st_l_twofold_2 : Sta → Fl :=
  sIf (pOr (pNot (pB (pLook 2 sem_l_row (pCons (pDer (p2 gIx (pVar 1) (pC (.int 0)))) (pCons (pVar 0) (pNil)))))) (pOr (pNot (pB (pLook 2 sem_l_row (pCons (pDer (p2 gIx (pVar 1) (pC (.int 1)))) (pCons (pVar 0) (pNil)))))) (pB (p2 gEq (pDer (p2 gIx (pVar 1) (pC (.int 0)))) (pDer (p2 gIx (pVar 1) (pC (.int 1)))))))) (sRet (pC (.bool false))) (sNil)
def st_l_twofold_3 : Sta → Fl :=
  sSetV 3 (pD (pLook 2 sem_l_written (pCons (pVar 0) (pCons (pDer (p2 gIx (pVar 1) (pC (.int 0)))) (pNil)))))
def st_l_twofold_4 : Sta → Fl :=
  sRet (pAndV (p2 gEq (pVar 3) (pLook 2 sem_l_written (pCons (pVar 0) (pCons (pDer (p2 gIx (pVar 1) (pC (.int 1)))) (pNil))))) (p2 gEq (pCall gLen (pCons (pVar 3) (pNil))) (pVar 2)))
def b_l_twofold : Sta → Fl :=
  sSeq st_l_twofold_1 (sSeq st_l_twofold_2 (sSeq st_l_twofold_3 (st_l_twofold_4)))
def sem_l_twofold : MP.Sem := runB 4 b_l_twofold
noncomputable def lp_l_asked_1 : Sta → Fl :=
  sSeq (sSetD 3 (dF (fThaw2 1 sem_twofold (pCons (pD (pVar 0)) (pNil))))) (sSeq (sIf (pB (p2 gNe (p2 gIs (pVar 3) (pC .none)) (pNdIn true (pTup (pNil)) (pVar 1)))) (sRet (pC (.bool false))) (sNil)) (sIf (pB (p2 gIsNot (pVar 3) (pC .none))) (sSeq (sIfT (tN' (tB' (dF (fUser 3 sem_l_twofold (pCons (pD (pVar 0)) (pCons (pD (pVar 3)) (pCons (pD (pNdGet (pVar 1) (pTup (pNil)))) (pNil)))))))) (sRet (pC (.bool false))) (sNil)) (sSeq (sBApp (p2 gIx (pVar 3) (pC (.int 0))) (pD (p2 gIx (p2 gIx (pVar 0) (pC (.int 0))) (pC (.int 0))))) (sBApp (p2 gIx (pVar 3) (pC (.int 1))) (pD (p2 gIx (p2 gIx (pVar 0) (p1 gNeg (pC (.int 1)))) (pC (.int 0))))))) (sNil)))
noncomputable def st_l_asked_1 : Sta → Fl :=
  sSetF 1 (fNdDict (pSeal 1 sem_rests (pCons (pD (pVar 0)) (pNil))))
noncomputable def st_l_asked_2 : Sta → Fl :=
  sFor (pRng gRng1 (pCons (pC (.int 2)) (pNil))) (.nm 2) (lp_l_asked_1)
noncomputable def st_l_asked_3 : Sta → Fl :=
  sRet (pC (.bool true))
noncomputable def b_l_asked : Sta → Fl :=
  sSeq st_l_asked_1 (sSeq st_l_asked_2 (st_l_asked_3))
noncomputable def sem_l_asked : MP.Sem := runB 4 b_l_asked
noncomputable def lp_law_1 : Sta → Fl :=
  sSeq (sSetV 6 (pD (pUser 2 sem_written (pCons (pD (pVar 1)) (pCons (pD (pCall gList (pCons (pVar 5) (pNil)))) (pNil)))))) (sSeq (sIf (pB (p2 gNe (pVar 6) (pUser 2 sem_l_written (pCons (pD (p1 gTb (pVar 1))) (pCons (pD (pVar 5)) (pNil)))))) (sRet (pC (.bool false))) (sNil)) (sSeq (sSetV 7 (pD (pSeal 2 sem_read_strokes (pCons (pD (p1 gTb (pVar 1))) (pCons (pD (pVar 6)) (pNil)))))) (sSeq (sIf (pOr (pNot (pB (pUser 2 sem_l_row (pCons (pD (pVar 7)) (pCons (pD (p1 gTb (pVar 1))) (pNil)))))) (pOr (pB (p2 gNe (pUser 2 sem_l_written (pCons (pD (p1 gTb (pVar 1))) (pCons (pD (pVar 7)) (pNil)))) (pVar 6))) (pAnd (pB (pVar 3)) (pB (p2 gNe (pVar 7) (pVar 5)))))) (sRet (pC (.bool false))) (sNil)) (sIf (pAnd (pB (pVar 3)) (pB (p2 gNe (p2 gEq (pVar 5) (pVar 4)) (p2 gEq (pVar 6) (pUser 2 sem_written (pCons (pD (pVar 1)) (pCons (pD (pCall gList (pCons (pVar 4) (pNil)))) (pNil)))))))) (sRet (pC (.bool false))) (sNil)))))
noncomputable def st_law_1 : Sta → Fl :=
  sSetV 1 (pD (pUser 2 sem_l_book (pCons (pD (pVar 0)) (pCons (pD (pC (.int 0))) (pNil)))))
noncomputable def st_law_2 : Sta → Fl :=
  sSetV 2 (pD (pCall gTuple (pCons (pComp (pSeqR (p2 gPlus (pSl (p1 gTb (pVar 1)) (pSome (pC (.int 1))) (pNo)) (pSl (p1 gTb (pVar 1)) (pNo) (pSome (pC (.int 1)))))) (.tp [8, 6]) [8, 6] (pYes) (pD (pTup (pCons (pD (pVar 8)) (pCons (pD (p1 gRevT (pVar 6))) (pNil)))))) (pNil))))
noncomputable def st_law_3 : Sta → Fl :=
  sIf (pOr (pNot (pB (pSeal 1 sem_l_asked (pCons (pD (p1 gTb (pVar 1))) (pNil))))) (pOr (pNot (pB (pSeal 1 sem_l_asked (pCons (pD (pVar 2)) (pNil))))) (pNot (pB (pSeal 1 sem_l_asked (pCons (pD (p1 gTb (pVar 1))) (pNil))))))) (sRet (pC (.bool false))) (sNil)
noncomputable def st_law_4 : Sta → Fl :=
  sSetV 3 (pD (p2 gIs (pSeal 1 sem_twofold (pCons (pD (p1 gTb (pVar 1))) (pNil))) (pC .none)))
noncomputable def st_law_5 : Sta → Fl :=
  sSetV 4 (pD (pUser 3 sem_l_drawn (pCons (pD (p1 gTb (pVar 1))) (pCons (pD (pSl (pVar 0) (pSome (pC (.int 14))) (pSome (pC (.int 63))))) (pCons (pD (pC (.int 1))) (pNil))))))
noncomputable def st_law_6 : Sta → Fl :=
  sSetV 2 (pD (pUser 3 sem_l_drawn (pCons (pD (p1 gTb (pVar 1))) (pCons (pD (pSl (pVar 0) (pSome (pC (.int 40))) (pSome (pC (.int 63))))) (pCons (pD (pC (.int 7))) (pNil))))))
noncomputable def st_law_7 : Sta → Fl :=
  sFor (pSeq (pD (pLst (pCons (pD (pVar 4)) (pCons (pD (pVar 2)) (pCons (pD (pSl (pVar 4) (pNo) (pSome (pCall gLen (pCons (pVar 2) (pNil)))))) (pCons (pD (pSl (pVar 2) (pNo) (pSome (pC (.int 3))))) (pNil)))))))) (.nm 5) (lp_law_1)
noncomputable def st_law_8 : Sta → Fl :=
  sRet (pC (.bool true))
noncomputable def b_law : Sta → Fl :=
  sSeq st_law_1 (sSeq st_law_2 (sSeq st_law_3 (sSeq st_law_4 (sSeq st_law_5 (sSeq st_law_6 (sSeq st_law_7 (st_law_8)))))))
noncomputable def sem_law : MP.Sem := runB 9 b_law
end L_k64

namespace L_k64
open PySem L2 MP
def fnames : List Str := ["word"]
def tab (w : World) (ca : Nat → Addr) : Tab := ⟨ca, nmOf fnames, nmOf_inj (by decide +kernel) (by decide +kernel), w⟩
/-- what stands at the names of the top -/
structure Gb (w : World) (K : PySem.W.Frag) (mg : Str → Option Value) : Prop where
  g_all : mg "all" = none
  g_dict : mg "dict" = none
  g_isinstance : mg "isinstance" = none
  g_len : mg "len" = none
  g_list : mg "list" = none
  g_max : mg "max" = none
  g_range : mg "range" = none
  g_sorted : mg "sorted" = none
  g_str : mg "str" = none
  g_tuple : mg "tuple" = none
/-- what is told of the exceptions -/
structure Xb (P : Program) (w : World) (K : PySem.W.Frag) (mg : Str → Option Value) (base : Heap) : Prop where
  x_NoWord : ExcT P w K mg base "NoWord" ["word"]
section
variable {P : Program} {w : World} {K : PySem.W.Frag} {mg : Str → Option Value} {base : Heap} {ca : Nat → Addr}
theorem sc_l_cell : FnScope ["_law_script", "_law_k"] ["_law_script", "_law_k"] (defScope s_l_cell) := ⟨rfl, rfl, rfl, by decide +kernel, rfl, by decide +kernel, by decide +kernel⟩
theorem sc_l_stirred : FnScope ["_law_cell_here", "_law_salt", "_law_number"] ["_law_cell_here", "_law_salt"] (defScope s_l_stirred) := ⟨rfl, rfl, rfl, by decide +kernel, rfl, by decide +kernel, by decide +kernel⟩
theorem sc_l_wide : FnScope ["_law_cell_here", "_law_salt"] ["_law_cell_here", "_law_salt"] (defScope s_l_wide) := ⟨rfl, rfl, rfl, by decide +kernel, rfl, by decide +kernel, by decide +kernel⟩
theorem sc_l_names : FnScope ["_law_cell_here", "_law_many", "_law_letters", "_law_sign", "_law_size", "_law_at", "_law_found", "_law_k", "_law_other"] ["_law_cell_here", "_law_many"] (defScope s_l_names) := ⟨rfl, rfl, rfl, by decide +kernel, rfl, by decide +kernel, by decide +kernel⟩
theorem sc_l_name_of : FnScope ["_law_rest", "_law_word", "_law_many", "_law_k"] ["_law_rest"] (defScope s_l_name_of) := ⟨rfl, rfl, rfl, by decide +kernel, rfl, by decide +kernel, by decide +kernel⟩
theorem sc_l_stroke_of : FnScope ["_law_rest", "_law_mask", "_law_found", "_law_key"] ["_law_rest"] (defScope s_l_stroke_of) := ⟨rfl, rfl, rfl, by decide +kernel, rfl, by decide +kernel, by decide +kernel⟩
theorem sc_l_read_book : FnScope ["_law_xs", "_law_found", "_law_k", "_law_word", "_law_strokes_here", "_law_rest", "_law_j", "_law_name", "_law_other"] ["_law_xs"] (defScope s_l_read_book) := ⟨rfl, rfl, rfl, by decide +kernel, rfl, by decide +kernel, by decide +kernel⟩
theorem sc_l_stream : FnScope ["_law_cell_here", "_law_many", "_law_found", "_law_left", "_law_k", "_law_x", "_law_j"] ["_law_cell_here", "_law_many"] (defScope s_l_stream) := ⟨rfl, rfl, rfl, by decide +kernel, rfl, by decide +kernel, by decide +kernel⟩
theorem sc_l_stroke : FnScope ["_law_cell_here", "_law_wide_here", "_law_some", "_law_bits", "_law_keys", "_law_key"] ["_law_cell_here", "_law_wide_here"] (defScope s_l_stroke) := ⟨rfl, rfl, rfl, by decide +kernel, rfl, by decide +kernel, by decide +kernel⟩
theorem sc_l_book : FnScope ["_law_script", "_law_at", "_law_first", "_law_sort", "_law_many", "_law_most", "_law_names_here", "_law_found", "_law_k", "_law_cell_here", "_law_strokes_here", "_law_j"] ["_law_script", "_law_at"] (defScope s_l_book) := ⟨rfl, rfl, rfl, by decide +kernel, rfl, by decide +kernel, by decide +kernel⟩
theorem sc_l_drawn : FnScope ["_law_book_here", "_law_cells", "_law_by", "_law_words", "_law_many", "_law_cell_here", "_law_name", "_law_strokes_here"] ["_law_book_here", "_law_cells", "_law_by"] (defScope s_l_drawn) := ⟨rfl, rfl, rfl, by decide +kernel, rfl, by decide +kernel, by decide +kernel⟩
theorem sc_begins : FnScope ["one", "other"] ["one", "other"] (defScope s_begins) := ⟨rfl, rfl, rfl, by decide +kernel, rfl, by decide +kernel, by decide +kernel⟩
theorem sc_first_ways : FnScope ["book", "found", "word", "strokes", "other", "more"] ["book"] (defScope s_first_ways) := ⟨rfl, rfl, rfl, by decide +kernel, rfl, by decide +kernel, by decide +kernel⟩
theorem sc_next_ways : FnScope ["book", "rest", "way", "found", "price", "longer", "shorter", "word", "strokes"] ["book", "rest", "way"] (defScope s_next_ways) := ⟨rfl, rfl, rfl, by decide +kernel, rfl, by decide +kernel, by decide +kernel⟩
theorem sc_ways_of : FnScope ["book", "ways", "ahead", "later", "rest", "price", "longer", "shorter"] ["book"] (defScope s_ways_of) := ⟨rfl, rfl, rfl, by decide +kernel, rfl, by decide +kernel, by decide +kernel⟩
theorem sc_twofold : FnScope ["book", "ways", "price", "longer", "shorter"] ["book"] (defScope s_twofold) := ⟨rfl, rfl, rfl, by decide +kernel, rfl, by decide +kernel, by decide +kernel⟩
theorem sc_written : FnScope ["book", "words", "known", "found", "word"] ["book", "words"] (defScope s_written) := ⟨rfl, rfl, rfl, by decide +kernel, rfl, by decide +kernel, by decide +kernel⟩
theorem sc_read_strokes : FnScope ["book", "strokes", "ways", "at", "word", "part", "end"] ["book", "strokes"] (defScope s_read_strokes) := ⟨rfl, rfl, rfl, by decide +kernel, rfl, by decide +kernel, by decide +kernel⟩
theorem sc_rests : FnScope ["book", "ways", "rest"] ["book"] (defScope s_rests) := ⟨rfl, rfl, rfl, by decide +kernel, rfl, by decide +kernel, by decide +kernel⟩
theorem sc_l_written : FnScope ["_law_book_here", "_law_words", "_law_found", "_law_word", "_law_name", "_law_strokes_here"] ["_law_book_here", "_law_words"] (defScope s_l_written) := ⟨rfl, rfl, rfl, by decide +kernel, rfl, by decide +kernel, by decide +kernel⟩
theorem sc_l_row : FnScope ["_law_found", "_law_book_here", "_law_word", "_law_name", "_law_strokes_here"] ["_law_found", "_law_book_here"] (defScope s_l_row) := ⟨rfl, rfl, rfl, by decide +kernel, rfl, by decide +kernel, by decide +kernel⟩
theorem sc_l_twofold : FnScope ["_law_book_here", "_law_found", "_law_price", "_law_strokes_here"] ["_law_book_here", "_law_found", "_law_price"] (defScope s_l_twofold) := ⟨rfl, rfl, rfl, by decide +kernel, rfl, by decide +kernel, by decide +kernel⟩
theorem sc_l_asked : FnScope ["_law_book_here", "_law_prices", "_law_turn", "_law_found"] ["_law_book_here"] (defScope s_l_asked) := ⟨rfl, rfl, rfl, by decide +kernel, rfl, by decide +kernel, by decide +kernel⟩
theorem sc_law : FnScope ["_law_script", "_law_book_here", "_law_other", "_law_clear", "_law_one", "_law_words", "_law_strokes_here", "_law_read", "_law_name"] ["_law_script"] (defScope s_law) := ⟨rfl, rfl, rfl, by decide +kernel, rfl, by decide +kernel, by decide +kernel⟩
theorem sc_NoWord___init__ : FnScope ["self", "word"] ["self", "word"] (defScope s_NoWord___init__) := ⟨rfl, rfl, rfl, by decide +kernel, rfl, by decide +kernel, by decide +kernel⟩
theorem okx_NoWord {f C CB : Addr} {fd : FuncData} (BB : BasC K mg "BedError" CB) (O : OexC K C) (n0 : PySem.W.findIn K (.ref C) "word" = some none) (F : Fun K "__init__" "NoWord.__init__" s_NoWord___init__ f fd) : FnOk P w K mg base (L2.CX P w) 1 f fd ["self", "word"] (spInit C ["word"]) :=
  init1_ok O n0 F sc_NoWord___init__ fun cdv A outer s H E hr => pss_cons (ps_expr (pe_beinit BB rfl (pa_cons (pv 0) (pa_cons pe_str pa_nil)))) (pss_one (ps_ost (pv 0) (pv 1)))
theorem ok_l_cell {f : Addr} {fd : FuncData} (al : Bool) (F : Fun K "_law_cell" "_law_cell" s_l_cell f fd) (B : Gb w K mg) : FnOk P w K mg base (L2.CX P w) 1 f fd ["_law_script", "_law_k"] (spF K (tab w ca) al 2 sem_l_cell) :=
  fn_ok (.of F) sc_l_cell fun cdv A outer s H E1 hr =>
    (ss_one (s_ret (ev_ix (ev_bin ok_plus (ev_sl (ev_var (pv 0)) (eo_some (ev_var (pv 1))) (eo_some (ev_bin ok_plus (ev_var (pv 1)) ev_int))) (ev_lst (as_cons (pd_of ev_int) as_nil))) ev_int (fun _ _ => rfl))))
theorem ok_l_stirred {f : Addr} {fd : FuncData} (al : Bool) (F : Fun K "_law_stirred" "_law_stirred" s_l_stirred f fd) (B : Gb w K mg) : FnOk P w K mg base (L2.CX P w) 1 f fd ["_law_cell_here", "_law_salt"] (spF K (tab w ca) al 2 sem_l_stirred) :=
  fn_ok (.of F) sc_l_stirred fun cdv A outer s H E1 hr =>
    (ss_cons (s_setV (i := 2) sc_l_stirred.nd rfl (by first | exact Or.inl rfl | exact Or.inr rfl) (pd_of (ev_bin ok_plus (ev_bin ok_mod (ev_var (pv 0)) ev_int) (ev_bin ok_times ev_int (ev_var (pv 1)))))) (ss_cons (s_setV (i := 2) sc_l_stirred.nd rfl (by first | exact Or.inl rfl | exact Or.inr rfl) (pd_of (ev_bin ok_mod (ev_bin ok_plus (ev_bin ok_plus (ev_bin ok_times (ev_var (pv 2)) (ev_bin ok_plus (ev_bin ok_plus (ev_var (pv 2)) (ev_bin ok_times (ev_var (pv 1)) (ev_var (pv 1)))) ev_int)) (ev_bin ok_times ev_int (ev_var (pv 1)))) ev_int) ev_int))) (ss_one (s_ret (ev_bin ok_div (ev_bin ok_mod (ev_bin ok_plus (ev_bin ok_times (ev_var (pv 2)) (ev_bin ok_plus (ev_bin ok_div (ev_var (pv 2)) ev_int) ev_int)) ev_int) ev_int) ev_int)))))
theorem ok_l_wide {f : Addr} {fd : FuncData} (al : Bool) (F : Fun K "_law_wide" "_law_wide" s_l_wide f fd) (B : Gb w K mg) (c_l_stirred : ∀ al, Callee P w K mg base (tab w ca) "_law_stirred" al 1 2 sem_l_stirred) : FnOk P w K mg base (L2.CX P w) 2 f fd ["_law_cell_here", "_law_salt"] (spF K (tab w ca) al 2 sem_l_wide) :=
  fn_ok (.of F) sc_l_wide fun cdv A outer s H E1 hr =>
    (ss_cons (s_if (et_w (ew_or (et_cmp ok_lt (ev_var (pv 0)) ev_int (by first | exact nomark _ | rfl)) (ew_or1 (et_cmp ok_ge (ev_var (pv 0)) (ev_bin ok_pow ev_int ev_int) (by first | exact nomark _ | rfl))))) (ss_one (s_ret (ev_callB (ok_max rfl) rfl B.g_max (by decide +kernel) (ar_cons (ev_var (pv 0)) (ar_cons (ev_bin ok_sub ev_int (ev_var (pv 0))) ar_nil))))) ss_nil) (ss_one (s_ret (ev_user (c_l_stirred false) (hr.mono (by decide)) rfl (takes_of rfl rfl rfl rfl) (as_cons (pd_of (ev_user (c_l_stirred false) (hr.mono (by decide)) rfl (takes_of rfl rfl rfl rfl) (as_cons (pd_of (ev_var (pv 0))) (as_cons (pd_of (ev_var (pv 1))) as_nil)))) (as_cons (pd_of ev_int) as_nil))))))
theorem ok_l_names {f : Addr} {fd : FuncData} (al : Bool) (F : Fun K "_law_names" "_law_names" s_l_names f fd) (B : Gb w K mg) : FnOk P w K mg base (L2.CX P w) 1 f fd ["_law_cell_here", "_law_many"] (spF K (tab w ca) al 2 sem_l_names) :=
  fn_ok (.of F) sc_l_names fun cdv A outer s H E1 hr =>
    (ss_cons (s_setV (i := 2) sc_l_names.nd rfl (by first | exact Or.inl rfl | exact Or.inr rfl) (pd_of ev_str)) (ss_cons (s_setV (i := 3) sc_l_names.nd rfl (by first | exact Or.inl rfl | exact Or.inr rfl) (pd_of (ev_ix (ev_var (pv 2)) (ev_bin ok_mod (ev_bin ok_div (ev_var (pv 0)) ev_int) ev_int) (fun _ _ => rfl)))) (ss_cons (s_if (et_w (ew_and (et_cmp (ok_eq (hu64 hr)) (ev_bin ok_mod (ev_var (pv 0)) ev_int) ev_int (by first | exact nomark _ | rfl)) (ew_and1 (et_cmp ok_lt (ev_var (pv 1)) ev_int (by first | exact nomark _ | rfl))))) (ss_one (s_ret (ev_lc (own := [("_law_k", 7)]) rfl sc_l_names.nd (ic_of (iv_range1 rfl B.g_range (ar_cons (ev_var (pv 1)) ar_nil))) (blkOk_by (own := [("_law_k", 7)]) (N := ["_law_cell_here", "_law_many", "_law_letters", "_law_sign", "_law_size", "_law_at", "_law_found", "_law_k", "_law_other"]) (sc := defScope s_l_names) (by decide +kernel)) (t := .nm 7) (by decide) (fun _ _ _ _ _ => (pg_name (i := 7) sc_l_names.nd rfl (by first | exact Or.inl rfl | exact Or.inr rfl))) (fun _ _ _ _ _ => ets_nil) (fun _ _ _ _ _ => (pd_of (ev_bin ok_repS (ev_var (pv 3)) (ev_bin ok_plus (ev_var (pv 7)) ev_int))))))) ss_nil) (ss_cons (s_setV (i := 4) sc_l_names.nd rfl (by first | exact Or.inl rfl | exact Or.inr rfl) (pd_of (ev_bin ok_mod (ev_bin ok_div (ev_var (pv 0)) ev_int) ev_int))) (ss_cons (s_setV (i := 5) sc_l_names.nd rfl (by first | exact Or.inl rfl | exact Or.inr rfl) (pd_of (ev_bin ok_mod (ev_bin ok_div (ev_var (pv 0)) ev_int) (ev_bin ok_plus (ev_var (pv 4)) ev_int)))) (ss_cons (s_setO (i := 6) sc_l_names.nd rfl (by first | exact Or.inl rfl | exact Or.inr rfl) (ev_lst as_nil)) (ss_cons (s_for (t := .nm 7) (passes_of rfl) rfl (iv_range1 rfl B.g_range (ar_cons (ev_var (pv 1)) ar_nil)) (pg_name (i := 7) sc_l_names.nd rfl (by first | exact Or.inl rfl | exact Or.inr rfl)) (ss_cons (s_setV (i := 8) sc_l_names.nd rfl (by first | exact Or.inl rfl | exact Or.inr rfl) (pd_of (ev_ix (ev_var (pv 2)) (ev_bin ok_mod (ev_bin ok_plus (ev_bin ok_times (ev_var (pv 7)) ev_int) (ev_bin ok_div (ev_var (pv 0)) ev_int)) ev_int) (fun _ _ => rfl)))) (ss_one (s_app (i := 6) (pv 6) (pd_of (ev_bin ok_plus (ev_bin ok_plus (ev_bin ok_repS (ev_var (pv 3)) (ev_var (pv 5))) (ev_var (pv 8))) (ev_bin ok_repS (ev_var (pv 3)) (ev_bin ok_sub (ev_var (pv 4)) (ev_var (pv 5)))))))))) (ss_one (s_retS (i := 6) (pv 6))))))))))
theorem ok_l_name_of {f : Addr} {fd : FuncData} (al : Bool) (F : Fun K "_law_name_of" "_law_name_of" s_l_name_of f fd) (B : Gb w K mg) : FnOk P w K mg base (L2.CX P w) 1 f fd ["_law_rest"] (spF K (tab w ca) al 1 sem_l_name_of) :=
  fn_ok (.of F) sc_l_name_of fun cdv A outer s H E1 hr =>
    (ss_cons (s_setV (i := 1) sc_l_name_of.nd rfl (by first | exact Or.inl rfl | exact Or.inr rfl) (pd_of ev_str)) (ss_cons (s_setV (i := 2) sc_l_name_of.nd rfl (by first | exact Or.inl rfl | exact Or.inr rfl) (pd_of (ev_bin ok_plus ev_int (ev_bin ok_mod (ev_var (pv 0)) ev_int)))) (ss_cons (s_setV (i := 0) sc_l_name_of.nd rfl (by first | exact Or.inl rfl | exact Or.inr rfl) (pd_of (ev_bin ok_div (ev_var (pv 0)) ev_int))) (ss_cons (s_for (t := .nm 3) (passes_of rfl) rfl (iv_range1 rfl B.g_range (ar_cons (ev_var (pv 2)) ar_nil)) (pg_name (i := 3) sc_l_name_of.nd rfl (by first | exact Or.inl rfl | exact Or.inr rfl)) (ss_cons (s_setV (i := 1) sc_l_name_of.nd rfl (by first | exact Or.inl rfl | exact Or.inr rfl) (pd_of (ev_bin ok_plus (ev_var (pv 1)) (ev_ix ev_str (ev_bin ok_mod (ev_var (pv 0)) ev_int) (fun _ _ => rfl))))) (ss_one (s_setV (i := 0) sc_l_name_of.nd rfl (by first | exact Or.inl rfl | exact Or.inr rfl) (pd_of (ev_bin ok_div (ev_var (pv 0)) ev_int)))))) (ss_one (s_ret (ev_var (pv 1))))))))
theorem ok_l_stroke_of {f : Addr} {fd : FuncData} (al : Bool) (F : Fun K "_law_stroke_of" "_law_stroke_of" s_l_stroke_of f fd) (B : Gb w K mg) : FnOk P w K mg base (L2.CX P w) 1 f fd ["_law_rest"] (spF K (tab w ca) al 1 sem_l_stroke_of) :=
  fn_ok (.of F) sc_l_stroke_of fun cdv A outer s H E1 hr =>
    (ss_cons (s_setV (i := 1) sc_l_stroke_of.nd rfl (by first | exact Or.inl rfl | exact Or.inr rfl) (pd_of (ev_bin ok_plus ev_int (ev_var (pv 0))))) (ss_cons (s_setO (i := 2) sc_l_stroke_of.nd rfl (by first | exact Or.inl rfl | exact Or.inr rfl) (ev_lst as_nil)) (ss_cons (s_for (t := .nm 3) (passes_of rfl) rfl (iv_range1 rfl B.g_range (ar_cons ev_int ar_nil)) (pg_name (i := 3) sc_l_stroke_of.nd rfl (by first | exact Or.inl rfl | exact Or.inr rfl)) (ss_cons (s_if (et_cmp (ok_eq (hu64 hr)) (ev_bin ok_mod (ev_var (pv 1)) ev_int) ev_int (by first | exact nomark _ | rfl)) (ss_one (s_app (i := 2) (pv 2) (pd_of (ev_var (pv 3))))) ss_nil) (ss_one (s_setV (i := 1) sc_l_stroke_of.nd rfl (by first | exact Or.inl rfl | exact Or.inr rfl) (pd_of (ev_bin ok_div (ev_var (pv 1)) ev_int)))))) (ss_one (s_ret (ev_callTy ok_tuple rfl B.g_tuple (by decide +kernel) (ar_cons (ev_var (pv 2)) ar_nil)))))))
theorem ok_l_read_book {f : Addr} {fd : FuncData} (al : Bool) (F : Fun K "_law_read_book" "_law_read_book" s_l_read_book f fd) (B : Gb w K mg) (c_l_name_of : ∀ al, Callee P w K mg base (tab w ca) "_law_name_of" al 1 1 sem_l_name_of) (c_l_stroke_of : ∀ al, Callee P w K mg base (tab w ca) "_law_stroke_of" al 1 1 sem_l_stroke_of) : FnOk P w K mg base (L2.CX P w) 2 f fd ["_law_xs"] (spF K (tab w ca) al 1 sem_l_read_book) :=
  fn_ok (.of F) sc_l_read_book fun cdv A outer s H E1 hr =>
    (ss_cons (s_setO (i := 1) sc_l_read_book.nd rfl (by first | exact Or.inl rfl | exact Or.inr rfl) (ev_lst as_nil)) (ss_cons (s_for (t := .nm 2) (passes_of rfl) rfl (iv_range1 rfl B.g_range (ar_cons (ev_bin ok_plus ev_int (ev_bin ok_mod (ev_ix (ev_var (pv 0)) ev_int (fun _ _ => rfl)) ev_int)) ar_nil)) (pg_name (i := 2) sc_l_read_book.nd rfl (by first | exact Or.inl rfl | exact Or.inr rfl)) (ss_cons (s_setV (i := 3) sc_l_read_book.nd rfl (by first | exact Or.inl rfl | exact Or.inr rfl) (pd_of (ev_user (c_l_name_of false) (hr.mono (by decide)) rfl (takes_of rfl rfl rfl rfl) (as_cons (pd_of (ev_ix (ev_var (pv 0)) (ev_bin ok_plus ev_int (ev_bin ok_times ev_int (ev_var (pv 2)))) (fun _ _ => rfl))) as_nil)))) (ss_cons (s_setO (i := 4) sc_l_read_book.nd rfl (by first | exact Or.inl rfl | exact Or.inr rfl) (ev_lst as_nil)) (ss_cons (s_setV (i := 5) sc_l_read_book.nd rfl (by first | exact Or.inl rfl | exact Or.inr rfl) (pd_of (ev_bin ok_div (ev_ix (ev_var (pv 0)) (ev_bin ok_plus ev_int (ev_bin ok_times ev_int (ev_var (pv 2)))) (fun _ _ => rfl)) ev_int))) (ss_cons (s_for (t := .nm 6) (passes_of rfl) rfl (iv_range1 rfl B.g_range (ar_cons (ev_bin ok_plus ev_int (ev_bin ok_mod (ev_ix (ev_var (pv 0)) (ev_bin ok_plus ev_int (ev_bin ok_times ev_int (ev_var (pv 2)))) (fun _ _ => rfl)) ev_int)) ar_nil)) (pg_name (i := 6) sc_l_read_book.nd rfl (by first | exact Or.inl rfl | exact Or.inr rfl)) (ss_cons (s_app (i := 4) (pv 4) (pd_of (ev_user (c_l_stroke_of false) (hr.mono (by decide)) rfl (takes_of rfl rfl rfl rfl) (as_cons (pd_of (ev_bin ok_mod (ev_var (pv 5)) ev_int)) as_nil)))) (ss_one (s_setV (i := 5) sc_l_read_book.nd rfl (by first | exact Or.inl rfl | exact Or.inr rfl) (pd_of (ev_bin ok_div (ev_var (pv 5)) ev_int)))))) (ss_one (s_if (et_cmp (ok_nin (hu65 hr)) (ev_var (pv 3)) (ev_lc (own := [("_law_name", 7), ("_law_other", 8)]) rfl sc_l_read_book.nd (ic_seq (ev_var (pv 1))) (blkOk_by (own := [("_law_name", 7), ("_law_other", 8)]) (N := ["_law_xs", "_law_found", "_law_k", "_law_word", "_law_strokes_here", "_law_rest", "_law_j", "_law_name", "_law_other"]) (sc := defScope s_l_read_book) (by decide +kernel)) (t := .tp [7, 8]) (by decide) (fun _ _ _ _ _ => (pg_tup rfl (pgs_cons (pg_name (i := 7) sc_l_read_book.nd rfl (by first | exact Or.inl rfl | exact Or.inr rfl)) (pgs_cons (pg_name (i := 8) sc_l_read_book.nd rfl (by first | exact Or.inl rfl | exact Or.inr rfl)) pgs_nil)))) (fun _ _ _ _ _ => ets_nil) (fun _ _ _ _ _ => (pd_of (ev_var (pv 7))))) (by first | exact nomark _ | rfl)) (ss_one (s_app (i := 1) (pv 1) (pd_of (ev_tup (as_cons (pd_of (ev_var (pv 3))) (as_cons (pd_of (ev_callTy ok_tuple rfl B.g_tuple (by decide +kernel) (ar_cons (ev_var (pv 4)) ar_nil))) as_nil)))))) ss_nil))))))) (ss_one (s_ret (ev_callTy ok_tupB rfl B.g_tuple (by decide +kernel) (ar_cons (ev_var (pv 1)) ar_nil))))))
theorem ok_l_stream {f : Addr} {fd : FuncData} (al : Bool) (F : Fun K "_law_stream" "_law_stream" s_l_stream f fd) (B : Gb w K mg) (c_l_stirred : ∀ al, Callee P w K mg base (tab w ca) "_law_stirred" al 1 2 sem_l_stirred) : FnOk P w K mg base (L2.CX P w) 2 f fd ["_law_cell_here", "_law_many"] (spF K (tab w ca) al 2 sem_l_stream) :=
  fn_ok (.of F) sc_l_stream fun cdv A outer s H E1 hr =>
    (ss_cons (s_setO (i := 2) sc_l_stream.nd rfl (by first | exact Or.inl rfl | exact Or.inr rfl) (ev_lst as_nil)) (ss_cons (s_setV (i := 3) sc_l_stream.nd rfl (by first | exact Or.inl rfl | exact Or.inr rfl) (pd_of (ev_callB (ok_max rfl) rfl B.g_max (by decide +kernel) (ar_cons (ev_var (pv 0)) (ar_cons (ev_bin ok_sub ev_int (ev_var (pv 0))) ar_nil))))) (ss_cons (s_for (t := .nm 4) (passes_of rfl) rfl (iv_range1 rfl B.g_range (ar_cons (ev_var (pv 1)) ar_nil)) (pg_name (i := 4) sc_l_stream.nd rfl (by first | exact Or.inl rfl | exact Or.inr rfl)) (ss_cons (s_setV (i := 5) sc_l_stream.nd rfl (by first | exact Or.inl rfl | exact Or.inr rfl) (pd_of ev_int)) (ss_cons (s_for (t := .nm 6) (passes_of rfl) rfl (iv_range1 rfl B.g_range (ar_cons ev_int ar_nil)) (pg_name (i := 6) sc_l_stream.nd rfl (by first | exact Or.inl rfl | exact Or.inr rfl)) (ss_one (s_setV (i := 5) sc_l_stream.nd rfl (by first | exact Or.inl rfl | exact Or.inr rfl) (pd_of (ev_bin ok_plus (ev_bin ok_times (ev_var (pv 5)) (ev_bin ok_pow ev_int ev_int)) (ev_bin ok_mod (ev_user (c_l_stirred false) (hr.mono (by decide)) rfl (takes_of rfl rfl rfl rfl) (as_cons (pd_of (ev_var (pv 0))) (as_cons (pd_of (ev_bin ok_plus (ev_bin ok_times ev_int (ev_var (pv 4))) (ev_var (pv 6)))) as_nil))) (ev_bin ok_pow ev_int ev_int))))))) (ss_cons (s_if (et_w (ew_and (et_cmp ok_gt (ev_var (pv 3)) ev_int (by first | exact nomark _ | rfl)) (ew_and1 (et_w (ew_or (et_cmp ok_lt (ev_var (pv 0)) ev_int (by first | exact nomark _ | rfl)) (ew_or1 (et_cmp ok_ge (ev_var (pv 0)) (ev_bin ok_pow ev_int ev_int) (by first | exact nomark _ | rfl)))))))) (ss_cons (s_setV (i := 5) sc_l_stream.nd rfl (by first | exact Or.inl rfl | exact Or.inr rfl) (pd_of (ev_bin ok_mod (ev_var (pv 3)) (ev_bin ok_pow ev_int ev_int)))) (ss_one (s_setV (i := 3) sc_l_stream.nd rfl (by first | exact Or.inl rfl | exact Or.inr rfl) (pd_of (ev_bin ok_div (ev_var (pv 3)) (ev_bin ok_pow ev_int ev_int)))))) ss_nil) (ss_one (s_app (i := 2) (pv 2) (pd_of (ev_var (pv 5))))))))) (ss_one (s_retS (i := 2) (pv 2))))))
theorem ok_l_stroke {f : Addr} {fd : FuncData} (al : Bool) (F : Fun K "_law_stroke" "_law_stroke" s_l_stroke f fd) (B : Gb w K mg) : FnOk P w K mg base (L2.CX P w) 1 f fd ["_law_cell_here", "_law_wide_here"] (spF K (tab w ca) al 2 sem_l_stroke) :=
  fn_ok (.of F) sc_l_stroke fun cdv A outer s H E1 hr =>
    (ss_cons (s_setV (i := 2) sc_l_stroke.nd rfl (by first | exact Or.inl rfl | exact Or.inr rfl) (pd_of (ev_lst (as_cons (pd_of (ev_tup (as_cons (pd_of ev_int) as_nil))) (as_cons (pd_of (ev_tup (as_cons (pd_of ev_int) as_nil))) (as_cons (pd_of (ev_tup (as_cons (pd_of ev_int) (as_cons (pd_of ev_int) as_nil)))) (as_cons (pd_of (ev_tup (as_cons (pd_of ev_int) (as_cons (pd_of ev_int) as_nil)))) as_nil))))))) (ss_cons (s_if (et_val (ev_var (pv 1))) (ss_cons (s_setV (i := 3) sc_l_stroke.nd rfl (by first | exact Or.inl rfl | exact Or.inr rfl) (pd_of (ev_bin ok_div (ev_var (pv 0)) ev_int))) (ss_cons (s_setO (i := 4) sc_l_stroke.nd rfl (by first | exact Or.inl rfl | exact Or.inr rfl) (ev_lst as_nil)) (ss_cons (s_for (t := .nm 5) (passes_of rfl) rfl (iv_range1 rfl B.g_range (ar_cons ev_int ar_nil)) (pg_name (i := 5) sc_l_stroke.nd rfl (by first | exact Or.inl rfl | exact Or.inr rfl)) (ss_cons (s_if (et_cmp (ok_eq (hu64 hr)) (ev_bin ok_mod (ev_var (pv 3)) ev_int) ev_int (by first | exact nomark _ | rfl)) (ss_one (s_app (i := 4) (pv 4) (pd_of (ev_var (pv 5))))) ss_nil) (ss_one (s_setV (i := 3) sc_l_stroke.nd rfl (by first | exact Or.inl rfl | exact Or.inr rfl) (pd_of (ev_bin ok_div (ev_var (pv 3)) ev_int)))))) (ss_one (s_if (et_cmp ok_gt (ev_callB ok_len rfl B.g_len (by decide +kernel) (ar_cons (ev_var (pv 4)) ar_nil)) ev_int (by first | exact nomark _ | rfl)) (ss_one (s_ret (ev_callTy ok_tuple rfl B.g_tuple (by decide +kernel) (ar_cons (ev_var (pv 4)) ar_nil)))) ss_nil))))) ss_nil) (ss_one (s_ret (ev_ix (ev_var (pv 2)) (ev_bin ok_mod (ev_var (pv 0)) ev_int) (fun _ _ => rfl))))))
theorem ok_l_book {f : Addr} {fd : FuncData} (al : Bool) (F : Fun K "_law_book" "_law_book" s_l_book f fd) (B : Gb w K mg) (c_l_cell : ∀ al, Callee P w K mg base (tab w ca) "_law_cell" al 1 2 sem_l_cell) (c_l_read_book : ∀ al, Callee P w K mg base (tab w ca) "_law_read_book" al 2 1 sem_l_read_book) (c_l_stream : ∀ al, Callee P w K mg base (tab w ca) "_law_stream" al 2 2 sem_l_stream) (c_l_wide : ∀ al, Callee P w K mg base (tab w ca) "_law_wide" al 2 2 sem_l_wide) (c_l_names : ∀ al, Callee P w K mg base (tab w ca) "_law_names" al 1 2 sem_l_names) (c_l_stroke : ∀ al, Callee P w K mg base (tab w ca) "_law_stroke" al 1 2 sem_l_stroke) : FnOk P w K mg base (L2.CX P w) 3 f fd ["_law_script", "_law_at"] (spF K (tab w ca) al 2 sem_l_book) :=
  fn_ok (.of F) sc_l_book fun cdv A outer s H E1 hr =>
    (ss_cons (s_setV (i := 2) sc_l_book.nd rfl (by first | exact Or.inl rfl | exact Or.inr rfl) (pd_of (ev_user (c_l_cell false) (hr.mono (by decide)) rfl (takes_of rfl rfl rfl rfl) (as_cons (pd_of (ev_var (pv 0))) (as_cons (pd_of (ev_var (pv 1))) as_nil))))) (ss_cons (s_if (et_w (ew_or (et_cmp ok_lt (ev_var (pv 2)) ev_int (by first | exact nomark _ | rfl)) (ew_or1 (et_cmp ok_ge (ev_var (pv 2)) (ev_bin ok_pow ev_int ev_int) (by first | exact nomark _ | rfl))))) (ss_one (s_ret (ev_user (c_l_read_book false) (hr.mono (by decide)) rfl (takes_of rfl rfl rfl rfl) (as_cons (pd_of (ev_user (c_l_stream false) (hr.mono (by decide)) rfl (takes_of rfl rfl rfl rfl) (as_cons (pd_of (ev_var (pv 2))) (as_cons (pd_of ev_int) as_nil)))) as_nil)))) ss_nil) (ss_cons (s_setV (i := 2) sc_l_book.nd rfl (by first | exact Or.inl rfl | exact Or.inr rfl) (pd_of (ev_user (c_l_wide false) (hr.mono (by decide)) rfl (takes_of rfl rfl rfl rfl) (as_cons (pd_of (ev_var (pv 2))) (as_cons (pd_of ev_int) as_nil))))) (ss_cons (s_setV (i := 3) sc_l_book.nd rfl (by first | exact Or.inl rfl | exact Or.inr rfl) (pd_of (ev_bin ok_mod (ev_bin ok_div (ev_var (pv 2)) ev_int) ev_int))) (ss_cons (s_setV (i := 4) sc_l_book.nd rfl (by first | exact Or.inl rfl | exact Or.inr rfl) (pd_of (ev_bin ok_plus ev_int (ev_bin ok_mod (ev_var (pv 2)) ev_int)))) (ss_cons (s_setV (i := 5) sc_l_book.nd rfl (by first | exact Or.inl rfl | exact Or.inr rfl) (pd_of ev_int)) (ss_cons (s_if (et_cmp (ok_eq (hu64 hr)) (ev_bin ok_mod (ev_bin ok_div (ev_var (pv 2)) ev_int) ev_int) ev_int (by first | exact nomark _ | rfl)) (ss_cons (s_setV (i := 4) sc_l_book.nd rfl (by first | exact Or.inl rfl | exact Or.inr rfl) (pd_of (ev_bin ok_plus ev_int (ev_bin ok_mod (ev_bin ok_div (ev_var (pv 2)) ev_int) ev_int)))) (ss_one (s_setV (i := 5) sc_l_book.nd rfl (by first | exact Or.inl rfl | exact Or.inr rfl) (pd_of ev_int)))) ss_nil) (ss_cons (s_setV (i := 6) sc_l_book.nd rfl (by first | exact Or.inl rfl | exact Or.inr rfl) (pd_of (ev_user (c_l_names false) (hr.mono (by decide)) rfl (takes_of rfl rfl rfl rfl) (as_cons (pd_of (ev_user (c_l_wide false) (hr.mono (by decide)) rfl (takes_of rfl rfl rfl rfl) (as_cons (pd_of (ev_user (c_l_cell false) (hr.mono (by decide)) rfl (takes_of rfl rfl rfl rfl) (as_cons (pd_of (ev_var (pv 0))) (as_cons (pd_of (ev_bin ok_plus (ev_var (pv 1)) ev_int)) as_nil)))) (as_cons (pd_of ev_int) as_nil)))) (as_cons (pd_of (ev_var (pv 4))) as_nil))))) (ss_cons (s_setO (i := 7) sc_l_book.nd rfl (by first | exact Or.inl rfl | exact Or.inr rfl) (ev_lst as_nil)) (ss_cons (s_for (t := .nm 8) (passes_of rfl) rfl (iv_range1 rfl B.g_range (ar_cons (ev_var (pv 4)) ar_nil)) (pg_name (i := 8) sc_l_book.nd rfl (by first | exact Or.inl rfl | exact Or.inr rfl)) (ss_cons (s_setV (i := 9) sc_l_book.nd rfl (by first | exact Or.inl rfl | exact Or.inr rfl) (pd_of (ev_user (c_l_wide false) (hr.mono (by decide)) rfl (takes_of rfl rfl rfl rfl) (as_cons (pd_of (ev_user (c_l_cell false) (hr.mono (by decide)) rfl (takes_of rfl rfl rfl rfl) (as_cons (pd_of (ev_var (pv 0))) (as_cons (pd_of (ev_bin ok_plus (ev_bin ok_plus (ev_var (pv 1)) ev_int) (ev_bin ok_mod (ev_var (pv 8)) ev_int))) as_nil)))) (as_cons (pd_of (ev_bin ok_plus ev_int (ev_var (pv 8)))) as_nil))))) (ss_cons (s_setO (i := 10) sc_l_book.nd rfl (by first | exact Or.inl rfl | exact Or.inr rfl) (ev_lst as_nil)) (ss_cons (s_for (t := .nm 11) (passes_of rfl) rfl (iv_range1 rfl B.g_range (ar_cons (ev_bin ok_plus ev_int (ev_bin ok_mod (ev_var (pv 9)) (ev_var (pv 5)))) ar_nil)) (pg_name (i := 11) sc_l_book.nd rfl (by first | exact Or.inl rfl | exact Or.inr rfl)) (ss_cons (s_setV (i := 9) sc_l_book.nd rfl (by first | exact Or.inl rfl | exact Or.inr rfl) (pd_of (ev_bin ok_div (ev_var (pv 9)) ev_int))) (ss_one (s_app (i := 10) (pv 10) (pd_of (ev_user (c_l_stroke false) (hr.mono (by decide)) rfl (takes_of rfl rfl rfl rfl) (as_cons (pd_of (ev_ix (ev_lst (as_cons (pd_of (ev_bin ok_mod (ev_var (pv 9)) ev_int)) (as_cons (pd_of (ev_var (pv 9))) (as_cons (pd_of (ev_var (pv 9))) (as_cons (pd_of (ev_var (pv 9))) as_nil))))) (ev_var (pv 3)) (fun _ _ => rfl))) (as_cons (pd_of (ev_cmp (ok_eq (hu64 hr)) (ev_var (pv 3)) ev_int (by first | exact nomark _ | rfl))) as_nil)))))))) (ss_one (s_app (i := 7) (pv 7) (pd_of (ev_tup (as_cons (pd_of (ev_ix (ev_var (pv 6)) (ev_var (pv 8)) (fun _ _ => rfl))) (as_cons (pd_of (ev_callTy ok_tuple rfl B.g_tuple (by decide +kernel) (ar_cons (ev_var (pv 10)) ar_nil))) as_nil)))))))))) (ss_one (s_ret (ev_callTy ok_tupB rfl B.g_tuple (by decide +kernel) (ar_cons (ev_var (pv 7)) ar_nil))))))))))))))
theorem ok_l_drawn {f : Addr} {fd : FuncData} (al : Bool) (F : Fun K "_law_drawn" "_law_drawn" s_l_drawn f fd) (B : Gb w K mg) (c_l_wide : ∀ al, Callee P w K mg base (tab w ca) "_law_wide" al 2 2 sem_l_wide) : FnOk P w K mg base (L2.CX P w) 3 f fd ["_law_book_here", "_law_cells", "_law_by"] (spF K (tab w ca) al 3 sem_l_drawn) :=
  fn_ok (.of F) sc_l_drawn fun cdv A outer s H E1 hr =>
    (ss_cons (s_setO (i := 3) sc_l_drawn.nd rfl (by first | exact Or.inl rfl | exact Or.inr rfl) (ev_lst as_nil)) (ss_cons (s_setV (i := 4) sc_l_drawn.nd rfl (by first | exact Or.inl rfl | exact Or.inr rfl) (pd_of ev_int)) (ss_cons (s_for (t := .nm 5) (passes_of rfl) rfl (iv_seq (pd_of (ev_var (pv 1)))) (pg_name (i := 5) sc_l_drawn.nd rfl (by first | exact Or.inl rfl | exact Or.inr rfl)) (ss_cons (s_tup (t := .tp [6, 7]) (pd_of (ev_ix (ev_var (pv 0)) (ev_bin ok_mod (ev_bin ok_div (ev_user (c_l_wide false) (hr.mono (by decide)) rfl (takes_of rfl rfl rfl rfl) (as_cons (pd_of (ev_var (pv 5))) (as_cons (pd_of (ev_var (pv 2))) as_nil))) (ev_var (pv 2))) (ev_callB ok_len rfl B.g_len (by decide +kernel) (ar_cons (ev_var (pv 0)) ar_nil))) (fun _ _ => rfl))) (pg_tup rfl (pgs_cons (pg_name (i := 6) sc_l_drawn.nd rfl (by first | exact Or.inl rfl | exact Or.inr rfl)) (pgs_cons (pg_name (i := 7) sc_l_drawn.nd rfl (by first | exact Or.inl rfl | exact Or.inr rfl)) pgs_nil)))) (ss_one (s_if (et_cmp ok_le (ev_bin ok_plus (ev_var (pv 4)) (ev_callB ok_len rfl B.g_len (by decide +kernel) (ar_cons (ev_var (pv 7)) ar_nil))) ev_int (by first | exact nomark _ | rfl)) (ss_cons (s_app (i := 3) (pv 3) (pd_of (ev_var (pv 6)))) (ss_one (s_setV (i := 4) sc_l_drawn.nd rfl (by first | exact Or.inl rfl | exact Or.inr rfl) (pd_of (ev_bin ok_plus (ev_var (pv 4)) (ev_callB ok_len rfl B.g_len (by decide +kernel) (ar_cons (ev_var (pv 7)) ar_nil))))))) ss_nil)))) (ss_one (s_retS (i := 3) (pv 3))))))
theorem ok_begins {f : Addr} {fd : FuncData} (al : Bool) (F : Fun K "begins" "begins" s_begins f fd) (B : Gb w K mg) : FnOk P w K mg base (L2.CX P w) 1 f fd ["one", "other"] (spF K (tab w ca) al 2 sem_begins) :=
  fn_ok (.of F) sc_begins fun cdv A outer s H E1 hr =>
    (ss_one (s_ret (ev_cmp (ok_eq (hu64 hr)) (ev_sl (ev_var (pv 1)) eo_none (eo_some (ev_callB ok_len rfl B.g_len (by decide +kernel) (ar_cons (ev_var (pv 0)) ar_nil)))) (ev_var (pv 0)) (by first | exact nomark _ | rfl))))
theorem ok_first_ways {f : Addr} {fd : FuncData} (al : Bool) (F : Fun K "first_ways" "first_ways" s_first_ways f fd) (B : Gb w K mg) (c_begins : ∀ al, Callee P w K mg base (tab w ca) "begins" al 1 2 sem_begins) : FnOk P w K mg base (L2.CX P w) 2 f fd ["book"] (spF K (tab w ca) al 1 sem_first_ways) :=
  fn_ok (.of F) sc_first_ways fun cdv A outer s H E1 hr =>
    (ss_cons (s_setO (i := 1) sc_first_ways.nd rfl (by first | exact Or.inl rfl | exact Or.inr rfl) (ev_lst as_nil)) (ss_cons (s_for (t := .tp [2, 3]) (passes_of rfl) rfl (iv_seq (pd_of (ev_var (pv 0)))) (pg_tup rfl (pgs_cons (pg_name (i := 2) sc_first_ways.nd rfl (by first | exact Or.inl rfl | exact Or.inr rfl)) (pgs_cons (pg_name (i := 3) sc_first_ways.nd rfl (by first | exact Or.inl rfl | exact Or.inr rfl)) pgs_nil))) (ss_one (s_for (t := .tp [4, 5]) (passes_of rfl) rfl (iv_seq (pd_of (ev_var (pv 0)))) (pg_tup rfl (pgs_cons (pg_name (i := 4) sc_first_ways.nd rfl (by first | exact Or.inl rfl | exact Or.inr rfl)) (pgs_cons (pg_name (i := 5) sc_first_ways.nd rfl (by first | exact Or.inl rfl | exact Or.inr rfl)) pgs_nil))) (ss_one (s_if (et_w (ew_and (et_cmp (ok_ne (hu64 hr)) (ev_var (pv 2)) (ev_var (pv 4)) (by first | exact nomark _ | rfl)) (ew_and1 (et_val (ev_user (c_begins false) (hr.mono (by decide)) rfl (takes_of rfl rfl rfl rfl) (as_cons (pd_of (ev_var (pv 3))) (as_cons (pd_of (ev_var (pv 5))) as_nil))))))) (ss_one (s_app (i := 1) (pv 1) (pd_of (ev_tup (as_cons (pd_of (ev_sl (ev_var (pv 5)) (eo_some (ev_callB ok_len rfl B.g_len (by decide +kernel) (ar_cons (ev_var (pv 3)) ar_nil))) eo_none)) (as_cons (pd_of (ev_callB ok_len rfl B.g_len (by decide +kernel) (ar_cons (ev_var (pv 5)) ar_nil))) (as_cons (pd_of (ev_lst (as_cons (pd_of (ev_var (pv 4))) as_nil))) (as_cons (pd_of (ev_lst (as_cons (pd_of (ev_var (pv 2))) as_nil))) as_nil)))))))) ss_nil))))) (ss_one (s_retS (i := 1) (pv 1)))))
theorem ok_next_ways {f : Addr} {fd : FuncData} (al : Bool) (F : Fun K "next_ways" "next_ways" s_next_ways f fd) (B : Gb w K mg) (c_begins : ∀ al, Callee P w K mg base (tab w ca) "begins" al 1 2 sem_begins) : FnOk P w K mg base (L2.CX P w) 2 f fd ["book", "rest", "way"] (spF K (tab w ca) al 3 sem_next_ways) :=
  fn_ok (.of F) sc_next_ways fun cdv A outer s H E1 hr =>
    (ss_cons (s_tup (t := .tp [4, 5, 6]) (pd_of (ev_var (pv 2))) (pg_tup rfl (pgs_cons (pg_name (i := 4) sc_next_ways.nd rfl (by first | exact Or.inl rfl | exact Or.inr rfl)) (pgs_cons (pg_name (i := 5) sc_next_ways.nd rfl (by first | exact Or.inl rfl | exact Or.inr rfl)) (pgs_cons (pg_name (i := 6) sc_next_ways.nd rfl (by first | exact Or.inl rfl | exact Or.inr rfl)) pgs_nil))))) (ss_cons (s_setO (i := 3) sc_next_ways.nd rfl (by first | exact Or.inl rfl | exact Or.inr rfl) (ev_lst as_nil)) (ss_cons (s_for (t := .tp [7, 8]) (passes_of rfl) rfl (iv_seq (pd_of (ev_var (pv 0)))) (pg_tup rfl (pgs_cons (pg_name (i := 7) sc_next_ways.nd rfl (by first | exact Or.inl rfl | exact Or.inr rfl)) (pgs_cons (pg_name (i := 8) sc_next_ways.nd rfl (by first | exact Or.inl rfl | exact Or.inr rfl)) pgs_nil))) (ss_one (s_if (et_val (ev_user (c_begins false) (hr.mono (by decide)) rfl (takes_of rfl rfl rfl rfl) (as_cons (pd_of (ev_var (pv 8))) (as_cons (pd_of (ev_var (pv 1))) as_nil)))) (ss_one (s_app (i := 3) (pv 3) (pd_of (ev_tup (as_cons (pd_of (ev_sl (ev_var (pv 1)) (eo_some (ev_callB ok_len rfl B.g_len (by decide +kernel) (ar_cons (ev_var (pv 8)) ar_nil))) eo_none)) (as_cons (pd_of (ev_var (pv 4))) (as_cons (pd_of (ev_var (pv 5))) (as_cons (pd_of (ev_bin ok_plus (ev_var (pv 6)) (ev_lst (as_cons (pd_of (ev_var (pv 7))) as_nil)))) as_nil)))))))) (ss_one (s_if (et_val (ev_user (c_begins false) (hr.mono (by decide)) rfl (takes_of rfl rfl rfl rfl) (as_cons (pd_of (ev_var (pv 1))) (as_cons (pd_of (ev_var (pv 8))) as_nil)))) (ss_one (s_app (i := 3) (pv 3) (pd_of (ev_tup (as_cons (pd_of (ev_sl (ev_var (pv 8)) (eo_some (ev_callB ok_len rfl B.g_len (by decide +kernel) (ar_cons (ev_var (pv 1)) ar_nil))) eo_none)) (as_cons (pd_of (ev_bin ok_sub (ev_bin ok_plus (ev_var (pv 4)) (ev_callB ok_len rfl B.g_len (by decide +kernel) (ar_cons (ev_var (pv 8)) ar_nil))) (ev_callB ok_len rfl B.g_len (by decide +kernel) (ar_cons (ev_var (pv 1)) ar_nil)))) (as_cons (pd_of (ev_bin ok_plus (ev_var (pv 6)) (ev_lst (as_cons (pd_of (ev_var (pv 7))) as_nil)))) (as_cons (pd_of (ev_var (pv 5))) as_nil)))))))) ss_nil))))) (ss_one (s_retS (i := 3) (pv 3))))))
theorem ok_ways_of {f : Addr} {fd : FuncData} (F : Fun K "ways_of" "ways_of" s_ways_of f fd) (B : Gb w K mg) (c_first_ways : ∀ al, Callee P w K mg base (tab w ca) "first_ways" al 2 1 sem_first_ways) (c_next_ways : ∀ al, Callee P w K mg base (tab w ca) "next_ways" al 2 3 sem_next_ways) : FnOk P w K mg base (L2.CX P w) 3 f fd ["book"] (spF K (tab w ca) true 1 sem_ways_of) :=
  fn_ok (.of F) sc_ways_of fun cdv A outer s H E1 hr =>
    (ss_cons (s_setF (i := 1) sc_ways_of.nd rfl (by first | exact Or.inl rfl | exact Or.inr rfl) (fe_ndnew rfl)) (ss_cons (s_setV (i := 2) sc_ways_of.nd rfl (by first | exact Or.inl rfl | exact Or.inr rfl) (pd_of (ev_user (c_first_ways false) (hr.mono (by decide)) rfl (takes_of rfl rfl rfl rfl) (as_cons (pd_of (ev_var (pv 0))) as_nil)))) (ss_cons (s_while 100000 (passes_of rfl) (et_cmp ok_gt (ev_callB ok_len rfl B.g_len (by decide +kernel) (ar_cons (ev_var (pv 2)) ar_nil)) ev_int (by first | exact nomark _ | rfl)) (ss_cons (s_setO (i := 3) sc_ways_of.nd rfl (by first | exact Or.inl rfl | exact Or.inr rfl) (ev_lst as_nil)) (ss_cons (s_for (t := .tp [4, 5, 6, 7]) (passes_of rfl) rfl (iv_seq (pd_of (ev_var (pv 2)))) (pg_tup rfl (pgs_cons (pg_name (i := 4) sc_ways_of.nd rfl (by first | exact Or.inl rfl | exact Or.inr rfl)) (pgs_cons (pg_name (i := 5) sc_ways_of.nd rfl (by first | exact Or.inl rfl | exact Or.inr rfl)) (pgs_cons (pg_name (i := 6) sc_ways_of.nd rfl (by first | exact Or.inl rfl | exact Or.inr rfl)) (pgs_cons (pg_name (i := 7) sc_ways_of.nd rfl (by first | exact Or.inl rfl | exact Or.inr rfl)) pgs_nil))))) (ss_one (s_if (et_w (ew_or (et_ndnin (hu9 hr) rfl (ev_var (pv 4)) (ev_var (pv 1)) (by first | exact nomark _ | rfl)) (ew_or1 (et_cmp ok_lt (ev_var (pv 5)) (ev_ix (ev_ndget (hu9 hr) rfl (ev_var (pv 1)) (ev_var (pv 4)) (fun _ _ => rfl)) ev_int (fun _ _ => rfl)) (by first | exact nomark _ | rfl))))) (ss_cons (s_ndput (hu9 hr) rfl (ev_var (pv 1)) (pd_of (ev_var (pv 4))) (pd_of (ev_tup (as_cons (pd_of (ev_var (pv 5))) (as_cons (pd_of (ev_var (pv 6))) (as_cons (pd_of (ev_var (pv 7))) as_nil)))))) (ss_one (s_if (et_cmp ok_gt (ev_callB ok_len rfl B.g_len (by decide +kernel) (ar_cons (ev_var (pv 4)) ar_nil)) ev_int (by first | exact nomark _ | rfl)) (ss_one (s_extP (pl_nm (i := 3) (pv 3)) (ev_user (c_next_ways false) (hr.mono (by decide)) rfl (takes_of rfl rfl rfl rfl) (as_cons (pd_of (ev_var (pv 0))) (as_cons (pd_of (ev_var (pv 4))) (as_cons (pd_of (ev_ndget (hu9 hr) rfl (ev_var (pv 1)) (ev_var (pv 4)) (fun _ _ => rfl))) as_nil)))))) ss_nil))) ss_nil))) (ss_one (s_frz (i := 3) (s_setV (i := 2) sc_ways_of.nd rfl (by first | exact Or.inl rfl | exact Or.inr rfl) (pd_of (ev_var (pv 3))))))))) (ss_one (s_ret (ev_var (pv 1)))))))
theorem ok_twofold {f : Addr} {fd : FuncData} (F : Fun K "twofold" "twofold" s_twofold f fd) (B : Gb w K mg) (c_ways_of : Callee P w K mg base (tab w ca) "ways_of" true 3 1 sem_ways_of) : FnOk P w K mg base (L2.CX P w) 4 f fd ["book"] (spF K (tab w ca) true 1 sem_twofold) :=
  fn_ok (.of F) sc_twofold fun cdv A outer s H E1 hr =>
    (ss_cons (s_setD (i := 1) sc_twofold.nd rfl (by first | exact Or.inl rfl | exact Or.inr rfl) (fd_fe (fe_user c_ways_of (hr.mono (by decide)) rfl (takes_of rfl rfl rfl rfl) (as_cons (pd_of (ev_var (pv 0))) as_nil)))) (ss_cons (s_if (et_ndnin (hu9 hr) rfl (ev_tup as_nil) (ev_var (pv 1)) (by first | exact nomark _ | rfl)) (ss_one (s_ret ev_non)) ss_nil) (ss_cons (s_tup (t := .tp [2, 3, 4]) (pd_of (ev_ndget (hu9 hr) rfl (ev_var (pv 1)) (ev_tup as_nil) (fun _ _ => rfl))) (pg_tup rfl (pgs_cons (pg_name (i := 2) sc_twofold.nd rfl (by first | exact Or.inl rfl | exact Or.inr rfl)) (pgs_cons (pg_name (i := 3) sc_twofold.nd rfl (by first | exact Or.inl rfl | exact Or.inr rfl)) (pgs_cons (pg_name (i := 4) sc_twofold.nd rfl (by first | exact Or.inl rfl | exact Or.inr rfl)) pgs_nil))))) (ss_one (s_ret (ev_tup (as_cons (pd_of (ev_var (pv 3))) (as_cons (pd_of (ev_var (pv 4))) as_nil))))))))
theorem ok_written {f : Addr} {fd : FuncData} (al : Bool) (F : Fun K "written" "written" s_written f fd) (E : Xb P w K mg base) (B : Gb w K mg) : FnOk P w K mg base (L2.CX P w) 3 f fd ["book", "words"] (spF K (tab w ca) al 2 sem_written) :=
  fn_ok (.of F) sc_written fun cdv A outer s H E1 hr =>
    (ss_cons (s_setV (i := 2) sc_written.nd rfl (by first | exact Or.inl rfl | exact Or.inr rfl) (pd_of (ev_callTy (ok_dictB rfl) rfl B.g_dict (by decide +kernel) (ar_cons (ev_var (pv 0)) ar_nil)))) (ss_cons (s_setV (i := 3) sc_written.nd rfl (by first | exact Or.inl rfl | exact Or.inr rfl) (pd_of (ev_tup as_nil))) (ss_cons (s_for (t := .nm 4) (passes_of rfl) rfl (iv_seq (pd_of (ev_var (pv 1)))) (pg_name (i := 4) sc_written.nd rfl (by first | exact Or.inl rfl | exact Or.inr rfl)) (ss_cons (s_if (et_cmp (ok_dNin (hu1 hr)) (ev_var (pv 4)) (ev_var (pv 2)) (by first | exact nomark _ | rfl)) (ss_one (s_raise E.x_NoWord (hr.mono (by decide)) rfl (takes_of rfl rfl rfl rfl) rfl (as_cons (pd_of (ev_var (pv 4))) as_nil))) ss_nil) (ss_one (s_setV (i := 3) sc_written.nd rfl (by first | exact Or.inl rfl | exact Or.inr rfl) (pd_of (ev_bin ok_plus (ev_var (pv 3)) (ev_dget (hu1 hr) (ev_var (pv 2)) (ev_var (pv 4)) (fun _ _ => rfl)))))))) (ss_one (s_ret (ev_var (pv 3)))))))
theorem ok_read_strokes {f : Addr} {fd : FuncData} (F : Fun K "read_strokes" "read_strokes" s_read_strokes f fd) (B : Gb w K mg) : FnOk P w K mg base (L2.CX P w) 1 f fd ["book", "strokes"] (spF K (tab w ca) true 2 sem_read_strokes) :=
  fn_ok (.of F) sc_read_strokes fun cdv A outer s H E1 hr =>
    (ss_cons (s_setO (i := 2) sc_read_strokes.nd rfl (by first | exact Or.inl rfl | exact Or.inr rfl) (ev_bin ok_times (ev_lst (as_cons (pd_of ev_non) as_nil)) (ev_bin ok_plus (ev_callB ok_len rfl B.g_len (by decide +kernel) (ar_cons (ev_var (pv 1)) ar_nil)) ev_int))) (ss_cons (s_lputF (pl_nm (i := 2) (pv 2)) ev_int (fe_box (ev_lst as_nil))) (ss_cons (s_for (t := .nm 3) (passes_of rfl) rfl (iv_range1 rfl B.g_range (ar_cons (ev_callB ok_len rfl B.g_len (by decide +kernel) (ar_cons (ev_var (pv 1)) ar_nil)) ar_nil)) (pg_name (i := 3) sc_read_strokes.nd rfl (by first | exact Or.inl rfl | exact Or.inr rfl)) (ss_cons (s_if (et_cmp ok_is (ev_ix (ev_var (pv 2)) (ev_var (pv 3)) (fun _ _ => rfl)) ev_non (by first | exact nomark _ | rfl)) (ss_one s_cont) ss_nil) (ss_one (s_for (t := .tp [4, 5]) (passes_of rfl) rfl (iv_seq (pd_of (ev_var (pv 0)))) (pg_tup rfl (pgs_cons (pg_name (i := 4) sc_read_strokes.nd rfl (by first | exact Or.inl rfl | exact Or.inr rfl)) (pgs_cons (pg_name (i := 5) sc_read_strokes.nd rfl (by first | exact Or.inl rfl | exact Or.inr rfl)) pgs_nil))) (ss_cons (s_setV (i := 6) sc_read_strokes.nd rfl (by first | exact Or.inl rfl | exact Or.inr rfl) (pd_of (ev_bin ok_plus (ev_var (pv 3)) (ev_callB ok_len rfl B.g_len (by decide +kernel) (ar_cons (ev_var (pv 5)) ar_nil))))) (ss_one (s_if (et_w (ew_and (et_cmp (ok_eq (hu64 hr)) (ev_sl (ev_var (pv 1)) (eo_some (ev_var (pv 3))) (eo_some (ev_var (pv 6)))) (ev_var (pv 5)) (by first | exact nomark _ | rfl)) (ew_and1 (et_cmp ok_is (ev_ix (ev_var (pv 2)) (ev_var (pv 6)) (fun _ _ => rfl)) ev_non (by first | exact nomark _ | rfl))))) (ss_one (s_lputF (pl_nm (i := 2) (pv 2)) (ev_var (pv 6)) (fe_box (ev_bin ok_plus (ev_der (ev_ix (ev_var (pv 2)) (ev_var (pv 3)) (fun _ _ => rfl))) (ev_lst (as_cons (pd_of (ev_var (pv 4))) as_nil)))))) ss_nil))))))) (ss_one (s_retB (ev_ix (ev_var (pv 2)) (ev_callB ok_len rfl B.g_len (by decide +kernel) (ar_cons (ev_var (pv 1)) ar_nil)) (fun _ _ => rfl)))))))
theorem ok_rests {f : Addr} {fd : FuncData} (F : Fun K "rests" "rests" s_rests f fd) (B : Gb w K mg) (c_ways_of : Callee P w K mg base (tab w ca) "ways_of" true 3 1 sem_ways_of) : FnOk P w K mg base (L2.CX P w) 4 f fd ["book"] (spF K (tab w ca) true 1 sem_rests) :=
  fn_ok (.of F) sc_rests fun cdv A outer s H E1 hr =>
    (ss_cons (s_setD (i := 1) sc_rests.nd rfl (by first | exact Or.inl rfl | exact Or.inr rfl) (fd_fe (fe_user c_ways_of (hr.mono (by decide)) rfl (takes_of rfl rfl rfl rfl) (as_cons (pd_of (ev_var (pv 0))) as_nil)))) (ss_one (s_ret (ev_callB (ok_sortD (hu65 hr)) rfl B.g_sorted (by decide +kernel) (ar_cons (ev_lcN (own := [("rest", 2)]) (pv 1) rfl rfl sc_rests.nd (blkOk_by (own := [("rest", 2)]) (N := ["book", "ways", "rest"]) (sc := defScope s_rests) (by decide +kernel)) (t := .nm 2) (by decide) (fun _ _ _ _ _ => (pg_name (i := 2) sc_rests.nd rfl (by first | exact Or.inl rfl | exact Or.inr rfl))) (fun _ _ _ _ _ => ets_nil) (fun _ _ _ _ _ => (pd_of (ev_tup (as_cons (pd_of (ev_var (pv 2))) (as_cons (pd_of (ev_ix (ev_ndget (hu9 hr) rfl (ev_var (pv 1)) (ev_var (pv 2)) (fun _ _ => rfl)) ev_int (fun _ _ => rfl))) as_nil)))))) ar_nil)))))
theorem ok_l_written {f : Addr} {fd : FuncData} (al : Bool) (F : Fun K "_law_written" "_law_written" s_l_written f fd) (B : Gb w K mg) : FnOk P w K mg base (L2.CX P w) 1 f fd ["_law_book_here", "_law_words"] (spF K (tab w ca) al 2 sem_l_written) :=
  fn_ok (.of F) sc_l_written fun cdv A outer s H E1 hr =>
    (ss_cons (s_setV (i := 2) sc_l_written.nd rfl (by first | exact Or.inl rfl | exact Or.inr rfl) (pd_of (ev_tup as_nil))) (ss_cons (s_for (t := .nm 3) (passes_of rfl) rfl (iv_seq (pd_of (ev_var (pv 1)))) (pg_name (i := 3) sc_l_written.nd rfl (by first | exact Or.inl rfl | exact Or.inr rfl)) (ss_one (s_for (t := .tp [4, 5]) (passes_of rfl) rfl (iv_seq (pd_of (ev_var (pv 0)))) (pg_tup rfl (pgs_cons (pg_name (i := 4) sc_l_written.nd rfl (by first | exact Or.inl rfl | exact Or.inr rfl)) (pgs_cons (pg_name (i := 5) sc_l_written.nd rfl (by first | exact Or.inl rfl | exact Or.inr rfl)) pgs_nil))) (ss_one (s_if (et_cmp (ok_eq (hu64 hr)) (ev_var (pv 4)) (ev_var (pv 3)) (by first | exact nomark _ | rfl)) (ss_one (s_setV (i := 2) sc_l_written.nd rfl (by first | exact Or.inl rfl | exact Or.inr rfl) (pd_of (ev_bin ok_plus (ev_var (pv 2)) (ev_var (pv 5)))))) ss_nil))))) (ss_one (s_ret (ev_var (pv 2))))))
theorem ok_l_row {f : Addr} {fd : FuncData} (al : Bool) (F : Fun K "_law_row" "_law_row" s_l_row f fd) (B : Gb w K mg) : FnOk P w K mg base (L2.CX P w) 1 f fd ["_law_found", "_law_book_here"] (spF K (tab w ca) al 2 sem_l_row) :=
  fn_ok (.of F) sc_l_row fun cdv A outer s H E1 hr =>
    (ss_cons (s_if (et_not (et_val (ev_isi (n := "list") (by decide) (ev_var (pv 0)) rfl B.g_isinstance rfl B.g_list (by decide +kernel)))) (ss_one (s_ret ev_bl)) ss_nil) (ss_one (s_ret (ev_callB (ok_all rfl) rfl B.g_all (by decide +kernel) (ar_cons (ev_lc (own := [("_law_word", 2)]) rfl sc_l_row.nd (ic_seq (ev_var (pv 0))) (blkOk_by (own := [("_law_word", 2)]) (N := ["_law_found", "_law_book_here", "_law_word", "_law_name", "_law_strokes_here"]) (sc := defScope s_l_row) (by decide +kernel)) (t := .nm 2) (by decide) (fun _ _ _ _ _ => (pg_name (i := 2) sc_l_row.nd rfl (by first | exact Or.inl rfl | exact Or.inr rfl))) (fun _ _ _ _ _ => ets_nil) (fun _ _ _ _ _ => (pd_of (ev_and (ev_isi (n := "str") (by decide) (ev_var (pv 2)) rfl B.g_isinstance rfl B.g_str (by decide +kernel)) (ev_one (ev_cmp (ok_in (hu65 hr)) (ev_var (pv 2)) (ev_lc (own := [("_law_name", 3), ("_law_strokes_here", 4)]) rfl sc_l_row.nd (ic_seq (ev_var (pv 1))) (by exact blkOk_by (by first | kernel_rfl | rfl)) (t := .tp [3, 4]) (by decide) (fun _ _ _ _ _ => (pg_tup rfl (pgs_cons (pg_name (i := 3) sc_l_row.nd rfl (by first | exact Or.inl rfl | exact Or.inr rfl)) (pgs_cons (pg_name (i := 4) sc_l_row.nd rfl (by first | exact Or.inl rfl | exact Or.inr rfl)) pgs_nil)))) (fun _ _ _ _ _ => ets_nil) (fun _ _ _ _ _ => (pd_of (ev_var (pv 3))))) (by first | exact nomark _ | rfl))))))) ar_nil)))))
theorem ok_l_twofold {f : Addr} {fd : FuncData} (al : Bool) (F : Fun K "_law_twofold" "_law_twofold" s_l_twofold f fd) (B : Gb w K mg) (c_l_row : ∀ al, Callee P w K mg base (tab w ca) "_law_row" al 1 2 sem_l_row) (c_l_written : ∀ al, Callee P w K mg base (tab w ca) "_law_written" al 1 2 sem_l_written) : FnOk P w K mg base (L2.CX P w) 2 f fd ["_law_book_here", "_law_found", "_law_price"] (spF K (tab w ca) al 3 sem_l_twofold) :=
  fn_ok (.of F) sc_l_twofold fun cdv A outer s H E1 hr =>
    (ss_cons (s_if (et_w (ew_or (et_not (et_val (ev_isi (n := "tuple") (by decide) (ev_var (pv 1)) rfl B.g_isinstance rfl B.g_tuple (by decide +kernel)))) (ew_or1 (et_cmp (ok_ne (hu64 hr)) (ev_callB ok_len rfl B.g_len (by decide +kernel) (ar_cons (ev_var (pv 1)) ar_nil)) ev_int (by first | exact nomark _ | rfl))))) (ss_one (s_ret ev_bl)) ss_nil) (ss_cons (s_if (et_w (ew_or (et_not (et_val (ev_look (c_l_row false) (hr.mono (by decide)) rfl (takes_of rfl rfl rfl rfl) (ar_cons (ev_der (ev_ix (ev_var (pv 1)) ev_int (fun _ _ => rfl))) (ar_cons (ev_var (pv 0)) ar_nil))))) (ew_or (et_not (et_val (ev_look (c_l_row false) (hr.mono (by decide)) rfl (takes_of rfl rfl rfl rfl) (ar_cons (ev_der (ev_ix (ev_var (pv 1)) ev_int (fun _ _ => rfl))) (ar_cons (ev_var (pv 0)) ar_nil))))) (ew_or1 (et_cmp (ok_eq (hu64 hr)) (ev_der (ev_ix (ev_var (pv 1)) ev_int (fun _ _ => rfl))) (ev_der (ev_ix (ev_var (pv 1)) ev_int (fun _ _ => rfl))) (by first | exact nomark _ | rfl)))))) (ss_one (s_ret ev_bl)) ss_nil) (ss_cons (s_setV (i := 3) sc_l_twofold.nd rfl (by first | exact Or.inl rfl | exact Or.inr rfl) (pd_of (ev_look (c_l_written false) (hr.mono (by decide)) rfl (takes_of rfl rfl rfl rfl) (ar_cons (ev_var (pv 0)) (ar_cons (ev_der (ev_ix (ev_var (pv 1)) ev_int (fun _ _ => rfl))) ar_nil))))) (ss_one (s_ret (ev_and (ev_cmp (ok_eq (hu64 hr)) (ev_var (pv 3)) (ev_look (c_l_written false) (hr.mono (by decide)) rfl (takes_of rfl rfl rfl rfl) (ar_cons (ev_var (pv 0)) (ar_cons (ev_der (ev_ix (ev_var (pv 1)) ev_int (fun _ _ => rfl))) ar_nil))) (by first | exact nomark _ | rfl)) (ev_one (ev_cmp (ok_eq (hu64 hr)) (ev_callB ok_len rfl B.g_len (by decide +kernel) (ar_cons (ev_var (pv 3)) ar_nil)) (ev_var (pv 2)) (by first | exact nomark _ | rfl)))))))))
theorem ok_l_asked {f : Addr} {fd : FuncData} (F : Fun K "_law_asked" "_law_asked" s_l_asked f fd) (B : Gb w K mg) (c_rests : Callee P w K mg base (tab w ca) "rests" true 4 1 sem_rests) (c_twofold : Callee P w K mg base (tab w ca) "twofold" true 4 1 sem_twofold) (c_l_twofold : ∀ al, Callee P w K mg base (tab w ca) "_law_twofold" al 2 3 sem_l_twofold) : FnOk P w K mg base (L2.CX P w) 5 f fd ["_law_book_here"] (spF K (tab w ca) true 1 sem_l_asked) :=
  fn_ok (.of F) sc_l_asked fun cdv A outer s H E1 hr =>
    (ss_cons (s_setF (i := 1) sc_l_asked.nd rfl (by first | exact Or.inl rfl | exact Or.inr rfl) (fe_nddict rfl (hu10 hr) rfl (ev_seal c_rests (hr.mono (by decide)) rfl (takes_of rfl rfl rfl rfl) (as_cons (pd_of (ev_var (pv 0))) as_nil)) rfl B.g_dict)) (ss_cons (s_for (t := .nm 2) (passes_of rfl) rfl (iv_range1 rfl B.g_range (ar_cons ev_int ar_nil)) (pg_name (i := 2) sc_l_asked.nd rfl (by first | exact Or.inl rfl | exact Or.inr rfl)) (ss_cons (s_setD (i := 3) sc_l_asked.nd rfl (by first | exact Or.inl rfl | exact Or.inr rfl) (fd_fe (fe_thaw2 c_twofold (hr.mono (by decide)) rfl (takes_of rfl rfl rfl rfl) (as_cons (pd_of (ev_var (pv 0))) as_nil)))) (ss_cons (s_if (et_cmp (ok_ne (hu64 hr)) (ev_cmp ok_is (ev_var (pv 3)) ev_non (by first | exact nomark _ | rfl)) (ev_ndnin (hu9 hr) rfl (ev_tup as_nil) (ev_var (pv 1)) (by first | exact nomark _ | rfl)) (by first | exact nomark _ | rfl)) (ss_one (s_ret ev_bl)) ss_nil) (ss_one (s_if (et_cmp ok_isnot (ev_var (pv 3)) ev_non (by first | exact nomark _ | rfl)) (ss_cons (s_ifT (ft_not (ft_val (fd_fe (fe_user (c_l_twofold _) (hr.mono (by decide)) rfl (takes_of rfl rfl rfl rfl) (as_cons (pd_of (ev_var (pv 0))) (as_cons (pd_of (ev_var (pv 3))) (as_cons (pd_of (ev_ndget (hu9 hr) rfl (ev_var (pv 1)) (ev_tup as_nil) (fun _ _ => rfl))) as_nil))))))) (ss_one (s_ret ev_bl)) ss_nil) (ss_cons (s_bapp (ev_ix (ev_var (pv 3)) ev_int (fun _ _ => rfl)) (pd_of (ev_ix (ev_ix (ev_var (pv 0)) ev_int (fun _ _ => rfl)) ev_int (fun _ _ => rfl)))) (ss_one (s_bapp (ev_ix (ev_var (pv 3)) ev_int (fun _ _ => rfl)) (pd_of (ev_ix (ev_ix (ev_var (pv 0)) (ev_un ok_neg ev_int) (fun _ _ => rfl)) ev_int (fun _ _ => rfl))))))) ss_nil))))) (ss_one (s_ret ev_bl))))
theorem ok_law {f : Addr} {fd : FuncData} (al : Bool) (F : Fun K "law" "law" s_law f fd) (B : Gb w K mg) (c_l_book : ∀ al, Callee P w K mg base (tab w ca) "_law_book" al 3 2 sem_l_book) (c_l_asked : Callee P w K mg base (tab w ca) "_law_asked" true 5 1 sem_l_asked) (c_twofold : Callee P w K mg base (tab w ca) "twofold" true 4 1 sem_twofold) (c_l_drawn : ∀ al, Callee P w K mg base (tab w ca) "_law_drawn" al 3 3 sem_l_drawn) (c_written : ∀ al, Callee P w K mg base (tab w ca) "written" al 3 2 sem_written) (c_l_written : ∀ al, Callee P w K mg base (tab w ca) "_law_written" al 1 2 sem_l_written) (c_read_strokes : Callee P w K mg base (tab w ca) "read_strokes" true 1 2 sem_read_strokes) (c_l_row : ∀ al, Callee P w K mg base (tab w ca) "_law_row" al 1 2 sem_l_row) : FnOk P w K mg base (L2.CX P w) 6 f fd ["_law_script"] (spF K (tab w ca) al 1 sem_law) :=
  fn_ok (.of F) sc_law fun cdv A outer s H E1 hr =>
    (ss_cons (s_setV (i := 1) sc_law.nd rfl (by first | exact Or.inl rfl | exact Or.inr rfl) (pd_of (ev_user (c_l_book false) (hr.mono (by decide)) rfl (takes_of rfl rfl rfl rfl) (as_cons (pd_of (ev_var (pv 0))) (as_cons (pd_of ev_int) as_nil))))) (ss_cons (s_setV (i := 2) sc_law.nd rfl (by first | exact Or.inl rfl | exact Or.inr rfl) (pd_of (ev_callTy ok_tuple rfl B.g_tuple (by decide +kernel) (ar_cons (ev_lc (own := [("_law_name", 8), ("_law_strokes_here", 6)]) rfl sc_law.nd (ic_seq (ev_bin ok_plus (ev_sl (ev_tb (ev_var (pv 1))) (eo_some ev_int) eo_none) (ev_sl (ev_tb (ev_var (pv 1))) eo_none (eo_some ev_int)))) (blkOk_by (own := [("_law_name", 8), ("_law_strokes_here", 6)]) (N := ["_law_script", "_law_book_here", "_law_other", "_law_clear", "_law_one", "_law_words", "_law_strokes_here", "_law_read", "_law_name"]) (sc := defScope s_law) (by decide +kernel)) (t := .tp [8, 6]) (by decide) (fun _ _ _ _ _ => (pg_tup rfl (pgs_cons (pg_name (i := 8) sc_law.nd rfl (by first | exact Or.inl rfl | exact Or.inr rfl)) (pgs_cons (pg_name (i := 6) sc_law.nd rfl (by first | exact Or.inl rfl | exact Or.inr rfl)) pgs_nil)))) (fun _ _ _ _ _ => ets_nil) (fun _ _ _ _ _ => (pd_of (ev_tup (as_cons (pd_of (ev_var (pv 8))) (as_cons (pd_of (ev_revT (ev_var (pv 6)))) as_nil)))))) ar_nil)))) (ss_cons (s_if (et_w (ew_or (et_not (et_val (ev_seal c_l_asked (hr.mono (by decide)) rfl (takes_of rfl rfl rfl rfl) (as_cons (pd_of (ev_tb (ev_var (pv 1)))) as_nil)))) (ew_or (et_not (et_val (ev_seal c_l_asked (hr.mono (by decide)) rfl (takes_of rfl rfl rfl rfl) (as_cons (pd_of (ev_var (pv 2))) as_nil)))) (ew_or1 (et_not (et_val (ev_seal c_l_asked (hr.mono (by decide)) rfl (takes_of rfl rfl rfl rfl) (as_cons (pd_of (ev_tb (ev_var (pv 1)))) as_nil)))))))) (ss_one (s_ret ev_bl)) ss_nil) (ss_cons (s_setV (i := 3) sc_law.nd rfl (by first | exact Or.inl rfl | exact Or.inr rfl) (pd_of (ev_cmp ok_is (ev_seal c_twofold (hr.mono (by decide)) rfl (takes_of rfl rfl rfl rfl) (as_cons (pd_of (ev_tb (ev_var (pv 1)))) as_nil)) ev_non (by first | exact nomark _ | rfl)))) (ss_cons (s_setV (i := 4) sc_law.nd rfl (by first | exact Or.inl rfl | exact Or.inr rfl) (pd_of (ev_user (c_l_drawn false) (hr.mono (by decide)) rfl (takes_of rfl rfl rfl rfl) (as_cons (pd_of (ev_tb (ev_var (pv 1)))) (as_cons (pd_of (ev_sl (ev_var (pv 0)) (eo_some ev_int) (eo_some ev_int))) (as_cons (pd_of ev_int) as_nil)))))) (ss_cons (s_setV (i := 2) sc_law.nd rfl (by first | exact Or.inl rfl | exact Or.inr rfl) (pd_of (ev_user (c_l_drawn false) (hr.mono (by decide)) rfl (takes_of rfl rfl rfl rfl) (as_cons (pd_of (ev_tb (ev_var (pv 1)))) (as_cons (pd_of (ev_sl (ev_var (pv 0)) (eo_some ev_int) (eo_some ev_int))) (as_cons (pd_of ev_int) as_nil)))))) (ss_cons (s_for (t := .nm 5) (passes_of rfl) rfl (iv_seq (pd_of (ev_lst (as_cons (pd_of (ev_var (pv 4))) (as_cons (pd_of (ev_var (pv 2))) (as_cons (pd_of (ev_sl (ev_var (pv 4)) eo_none (eo_some (ev_callB ok_len rfl B.g_len (by decide +kernel) (ar_cons (ev_var (pv 2)) ar_nil))))) (as_cons (pd_of (ev_sl (ev_var (pv 2)) eo_none (eo_some ev_int))) as_nil))))))) (pg_name (i := 5) sc_law.nd rfl (by first | exact Or.inl rfl | exact Or.inr rfl)) (ss_cons (s_setV (i := 6) sc_law.nd rfl (by first | exact Or.inl rfl | exact Or.inr rfl) (pd_of (ev_user (c_written false) (hr.mono (by decide)) rfl (takes_of rfl rfl rfl rfl) (as_cons (pd_of (ev_var (pv 1))) (as_cons (pd_of (ev_callTy ok_list rfl B.g_list (by decide +kernel) (ar_cons (ev_var (pv 5)) ar_nil))) as_nil))))) (ss_cons (s_if (et_cmp (ok_ne (hu64 hr)) (ev_var (pv 6)) (ev_user (c_l_written false) (hr.mono (by decide)) rfl (takes_of rfl rfl rfl rfl) (as_cons (pd_of (ev_tb (ev_var (pv 1)))) (as_cons (pd_of (ev_var (pv 5))) as_nil))) (by first | exact nomark _ | rfl)) (ss_one (s_ret ev_bl)) ss_nil) (ss_cons (s_setV (i := 7) sc_law.nd rfl (by first | exact Or.inl rfl | exact Or.inr rfl) (pd_of (ev_seal c_read_strokes (hr.mono (by decide)) rfl (takes_of rfl rfl rfl rfl) (as_cons (pd_of (ev_tb (ev_var (pv 1)))) (as_cons (pd_of (ev_var (pv 6))) as_nil))))) (ss_cons (s_if (et_w (ew_or (et_not (et_val (ev_user (c_l_row false) (hr.mono (by decide)) rfl (takes_of rfl rfl rfl rfl) (as_cons (pd_of (ev_var (pv 7))) (as_cons (pd_of (ev_tb (ev_var (pv 1)))) as_nil))))) (ew_or (et_cmp (ok_ne (hu64 hr)) (ev_user (c_l_written false) (hr.mono (by decide)) rfl (takes_of rfl rfl rfl rfl) (as_cons (pd_of (ev_tb (ev_var (pv 1)))) (as_cons (pd_of (ev_var (pv 7))) as_nil))) (ev_var (pv 6)) (by first | exact nomark _ | rfl)) (ew_or1 (et_w (ew_and (et_val (ev_var (pv 3))) (ew_and1 (et_cmp (ok_ne (hu64 hr)) (ev_var (pv 7)) (ev_var (pv 5)) (by first | exact nomark _ | rfl))))))))) (ss_one (s_ret ev_bl)) ss_nil) (ss_one (s_if (et_w (ew_and (et_val (ev_var (pv 3))) (ew_and1 (et_cmp (ok_ne (hu64 hr)) (ev_cmp (ok_eq (hu64 hr)) (ev_var (pv 5)) (ev_var (pv 4)) (by first | exact nomark _ | rfl)) (ev_cmp (ok_eq (hu64 hr)) (ev_var (pv 6)) (ev_user (c_written false) (hr.mono (by decide)) rfl (takes_of rfl rfl rfl rfl) (as_cons (pd_of (ev_var (pv 1))) (as_cons (pd_of (ev_callTy ok_list rfl B.g_list (by decide +kernel) (ar_cons (ev_var (pv 4)) ar_nil))) as_nil))) (by first | exact nomark _ | rfl)) (by first | exact nomark _ | rfl))))) (ss_one (s_ret ev_bl)) ss_nil))))))) (ss_one (s_ret ev_bl)))))))))
end
end L_k64

namespace L_k64
open PySem L2 MP
def evEqs := And.intro (And.intro (And.intro (And.intro (And.intro (And.intro (And.intro (And.intro (@MP.of_some) (@MP.map_some)) (And.intro (@MP.e_lv) (And.intro (@MP.e_lo) (@MP.e_pD)))) (And.intro (And.intro (@MP.e_xDs) (@MP.e_xDf)) (And.intro (@MP.e_pC) (And.intro (@MP.e_pYes) (@MP.e_pVar))))) (And.intro (And.intro (And.intro (@MP.e_p2) (@MP.e_x2)) (And.intro (@MP.e_p1) (And.intro (@MP.e_x1) (@MP.e_pB)))) (And.intro (And.intro (@MP.e_xB) (@MP.e_pNot)) (And.intro (@MP.e_xNot) (And.intro (@MP.e_pAnd) (@MP.e_xAndT)))))) (And.intro (And.intro (And.intro (And.intro (@MP.e_xAndF) (@MP.e_pOr)) (And.intro (@MP.e_xOrT) (And.intro (@MP.e_xOrF) (@MP.e_pAndV)))) (And.intro (And.intro (@MP.e_xAndVT) (@MP.e_xAndVF)) (And.intro (@MP.e_p3) (And.intro (@MP.e_x3) (@MP.e_x3bT))))) (And.intro (And.intro (And.intro (@MP.e_x3bF) (@MP.e_pNil)) (And.intro (@MP.e_pCons) (And.intro (@MP.e_xCons) (@MP.e_pTup)))) (And.intro (And.intro (@MP.e_xTp) (@MP.e_pLst)) (And.intro (@MP.e_xLs) (And.intro (@MP.e_pNo) (@MP.e_pSome))))))) (And.intro (And.intro (And.intro (And.intro (And.intro (@MP.e_xSo) (@MP.e_pSl)) (And.intro (@MP.e_xSl) (And.intro (@MP.e_pCall) (@MP.e_xG)))) (And.intro (And.intro (@MP.e_pSeq) (@MP.e_xSq)) (And.intro (@MP.e_pSeqR) (And.intro (@MP.e_xSqR) (@MP.e_pRng))))) (And.intro (And.intro (And.intro (@MP.e_pComp) (@MP.e_xC)) (And.intro (@MP.e_xC2) (And.intro (@MP.e_pUser) (@MP.e_xU)))) (And.intro (And.intro (@MP.e_xFv) (@MP.e_xFo)) (And.intro (@MP.e_xFe) (And.intro (@MP.e_pSeal) (@MP.e_xSe)))))) (And.intro (And.intro (And.intro (And.intro (@MP.e_xSeFv) (@MP.e_xSeFt)) (And.intro (@MP.e_xSeFe) (And.intro (@MP.e_xSeFo) (@MP.e_pLook)))) (And.intro (And.intro (@MP.e_xLo) (@MP.e_xLoF)) (And.intro (@MP.e_xLoO) (And.intro (@MP.e_xLoE) (@MP.e_c0))))) (And.intro (And.intro (And.intro (@MP.e_c1) (@MP.g_add)) (And.intro (@MP.g_catS) (And.intro (@MP.g_catL) (@MP.g_catT)))) (And.intro (And.intro (@MP.g_sub) (@MP.g_mul)) (And.intro (@MP.g_rep) (And.intro (@MP.g_div) (@MP.g_mod)))))))) (And.intro (And.intro (And.intro (And.intro (And.intro (And.intro (@MP.g_pow) (@MP.g_neg)) (And.intro (@MP.g_lt) (And.intro (@MP.g_le) (@MP.g_gt)))) (And.intro (And.intro (@MP.g_ge) (@MP.g_eqI)) (And.intro (@MP.g_eqS) (And.intro (@MP.g_eqBo) (@MP.g_neI))))) (And.intro (And.intro (And.intro (@MP.g_neS) (@MP.g_neBo)) (And.intro (@MP.g_is) (And.intro (@MP.g_isNot) (@MP.n_none)))) (And.intro (And.intro (@MP.n_int) (@MP.n_str)) (And.intro (@MP.n_tup) (And.intro (@MP.n_list) (@MP.n_bool)))))) (And.intro (And.intro (And.intro (And.intro (@MP.g_max) (@MP.g_lenL)) (And.intro (@MP.g_lenK) (And.intro (@MP.g_lenT) (@MP.g_listL)))) (And.intro (And.intro (@MP.g_listK) (@MP.g_listT)) (And.intro (@MP.g_tupL) (And.intro (@MP.g_tupT) (@MP.q_list))))) (And.intro (And.intro (And.intro (@MP.q_lk) (@MP.q_tup)) (And.intro (@MP.g_rng1) (And.intro (@MP.g_ixL) (@MP.g_ixK)))) (And.intro (And.intro (@MP.g_ixT) (@MP.g_slL)) (And.intro (@MP.g_slK) (And.intro (@MP.g_slT) (@MP.s_Nil))))))) (And.intro (And.intro (And.intro (And.intro (And.intro (@MP.s_Cont) (@MP.s_Seq)) (And.intro (@MP.s_xSn) (And.intro (@MP.s_xSr) (@MP.s_xSb)))) (And.intro (And.intro (@MP.s_xSc) (@MP.s_xSe)) (And.intro (@MP.s_SetV) (And.intro (@MP.s_xSV) (@MP.s_SetO))))) (And.intro (And.intro (And.intro (@MP.s_xSOs) (@MP.s_xSOf)) (And.intro (@MP.s_Ret) (And.intro (@MP.s_xRts) (@MP.s_xRtf)))) (And.intro (And.intro (@MP.s_RetS) (@MP.s_xRSo)) (And.intro (@MP.s_xRSv) (And.intro (@MP.s_If) (@MP.s_xIfT)))))) (And.intro (And.intro (And.intro (And.intro (@MP.s_xIfF) (@MP.s_Tup)) (And.intro (@MP.s_xTu) (And.intro (@MP.s_xTb) (@MP.s_For)))) (And.intro (And.intro (@MP.s_xFor) (@MP.s_App)) (And.intro (@MP.s_xAp) (And.intro (@MP.s_Frz) (@MP.s_xFzo))))) (And.intro (And.intro (And.intro (@MP.s_xFzv) (@MP.s_SetF)) (And.intro (@MP.s_xSF) (And.intro (@MP.s_put0) (@MP.s_put1)))) (And.intro (And.intro (@MP.s_putN) (And.intro (@MP.f_User) (@MP.f_xFU))) (And.intro (@MP.fe_ok) (And.intro (@MP.r_run) (@MP.r_un))))))))) (And.intro (And.intro (And.intro (And.intro (And.intro (And.intro (And.intro (@MP.r_un0) (@MP.r_nx)) (And.intro (@MP.r_ret) (And.intro (@MP.r_exc) (@MP.t_nx)))) (And.intro (And.intro (@MP.t_cont) (@MP.t_brk)) (And.intro (@MP.t_ret) (And.intro (@MP.b_nm) (@MP.b_tp2))))) (And.intro (And.intro (And.intro (@MP.b_tp3) (@MP.t_bk)) (And.intro (@MP.g_allB) (And.intro (@MP.g_inI) (@MP.g_ninI)))) (And.intro (And.intro (@MP.g_inT) (@MP.g_ninT)) (And.intro (@MP.g_ninST) (And.intro (@MP.e_c2) (@MP.e_c3)))))) (And.intro (And.intro (And.intro (And.intro (@MP.e_c4) (@MP.e_c5)) (And.intro (@MP.e_pIsi) (And.intro (@MP.s_Raise) (@MP.s_xRa1)))) (And.intro (And.intro (@MP.s_xRa2) (@MP.e_xDe)) (And.intro (@MP.e_x1e) (And.intro (@MP.e_x2e) (@MP.e_xBe))))) (And.intro (And.intro (And.intro (@MP.s_xSVe) (@MP.s_xSOe)) (And.intro (@MP.s_xRte) (And.intro (@MP.s_xIfe) (@MP.s_xTue)))) (And.intro (And.intro (@MP.s_xSFe) (@MP.fe_exc)) (And.intro (@MP.t_exc) (And.intro (@MP.n_xv) (@MP.g_repS))))))) (And.intro (And.intro (And.intro (And.intro (And.intro (@MP.g_revT) (@MP.g_lenW)) (And.intro (@MP.g_slW) (And.intro (@MP.g_catW) (@MP.g_repW)))) (And.intro (And.intro (@MP.e_xC2e) (@MP.e_xCose)) (And.intro (@MP.e_xCoe) (And.intro (@MP.e_xTpe) (@MP.e_xLse))))) (And.intro (And.intro (And.intro (@MP.e_xGe) (@MP.e_xUe)) (And.intro (@MP.s_xApe) (And.intro (@MP.e_getN) (@MP.e_getF)))) (And.intro (And.intro (@MP.e_owSo) (@MP.e_owF)) (And.intro (@MP.e_owO) (And.intro (@MP.e_lkS0) (@MP.e_lkS1)))))) (And.intro (And.intro (And.intro (And.intro (@MP.e_putN) (@MP.e_putF)) (And.intro (@MP.e_putA) (And.intro (@MP.e_putB) (@MP.q_keyI)))) (And.intro (And.intro (@MP.q_keyS) (@MP.g_dNin)) (And.intro (@MP.g_dInBf) (And.intro (@MP.g_dInBt) (@MP.g_dGet))))) (And.intro (And.intro (And.intro (@MP.g_dGetB) (@MP.s_xAP0)) (And.intro (@MP.s_xAP1) (And.intro (@MP.e_dF) (@MP.e_xdFv)))) (And.intro (And.intro (@MP.e_xdFo) (@MP.e_xdFe)) (And.intro (@MP.e_d2) (And.intro (@MP.e_xd2) (@MP.e_xd2b)))))))) (And.intro (And.intro (And.intro (And.intro (And.intro (And.intro (@MP.e_xd2cs) (@MP.e_xd2cf)) (And.intro (@MP.t_B) (And.intro (@MP.t_xB) (@MP.t_xBe)))) (And.intro (And.intro (@MP.t_P) (@MP.t_xP)) (And.intro (@MP.t_N) (And.intro (@MP.t_xN) (@MP.t_A))))) (And.intro (And.intro (And.intro (@MP.t_xAT) (@MP.t_xAF)) (And.intro (@MP.t_O) (And.intro (@MP.t_xOT) (@MP.t_xOF)))) (And.intro (And.intro (@MP.s_IfT) (@MP.s_xsIfT)) (And.intro (@MP.s_xsIfF) (And.intro (@MP.s_xsIfE) (@MP.s_xdS)))))) (And.intro (And.intro (And.intro (And.intro (@MP.s_xdSe) (@MP.s_SetD)) (And.intro (@MP.s_xSD) (And.intro (@MP.s_xLP0) (@MP.s_xLP1)))) (And.intro (And.intro (@MP.s_xLP3) (@MP.f_Box)) (And.intro (@MP.f_xBx) (And.intro (@MP.e_xBox) (@MP.s_ExtP))))) (And.intro (And.intro (And.intro (@MP.s_xEP0) (@MP.s_xEP1)) (And.intro (@MP.n_getOb) (And.intro (@MP.n_putOb) (@MP.e_pDer)))) (And.intro (And.intro (@MP.e_xDer) (@MP.n_getTp)) (And.intro (@MP.n_putTp) (And.intro (@MP.n_tpG) (@MP.n_putT))))))) (And.intro (And.intro (And.intro (And.intro (And.intro (@MP.n_tpSo) (@MP.n_tpSv)) (And.intro (@MP.e_ndIn) (And.intro (@MP.e_ndGet) (@MP.e_nd)))) (And.intro (And.intro (@MP.bind_okL) (@MP.pfl_okL)) (And.intro (@MP.e_kvs) (And.intro (@MP.e_ndS) (@MP.e_xndIn))))) (And.intro (And.intro (And.intro (@MP.e_xndGet) (@MP.s_ndPut)) (And.intro (@MP.s_xndPut) (And.intro (@MP.f_ndNew) (@MP.e_d1)))) (And.intro (And.intro (@MP.e_xd1) (@MP.s_BApp)) (And.intro (@MP.s_xBA1) (And.intro (@MP.s_seqL) (@MP.s_seqT)))))) (And.intro (And.intro (And.intro (And.intro (@MP.g_sortD) (@MP.f_ndDict)) (And.intro (@MP.f_ndDictR) (And.intro (@MP.f_xNdDict) (@MP.e_pCompN)))) (And.intro (And.intro (@MP.e_objAt) (@MP.e_xCN0)) (And.intro (@MP.e_xCN1) (And.intro (@MP.g_tb) (@MP.g_tupB))))) (And.intro (And.intro (And.intro (@MP.g_dictB) (@MP.s_RetB)) (And.intro (@MP.s_xRB) (And.intro (@MP.s_xRBn) (@MP.s_xRB2)))) (And.intro (And.intro (@MP.s_LPutF) (And.intro (@MP.s_xLPF) (@MP.f_Thaw2))) (And.intro (@MP.f_xThaw2F) (And.intro (@MP.f_xThawN) (@MP.f_xThawT)))))))))
def stir (c s : Int) : Int :=
  (((c % 1000000007 + 13 * s) * ((c % 1000000007 + 13 * s) + s * s + 11) + 40487 * s + 7) % 1000000033 * (((c % 1000000007 + 13 * s) * ((c % 1000000007 + 13 * s) + s * s + 11) + 40487 * s + 7) % 1000000033 / 7 + 31) + 90001) % 999999937 / 3
theorem m_stirred (c s : Int) (h : 0 ≤ s ∧ s ≤ 100000) : sem_l_stirred [.int c, .int s] [] = .ok (.v (.int (stir c s))) [] := by
  unfold sem_l_stirred b_l_stirred
  simp (disch := (first | assumption | with_reducible rfl | decide +kernel | exact Or.inl (by decide +kernel) | exact Or.inr (by decide +kernel) | omega | (simp only [List.length_cons, List.length_nil, List.length_append, List.length_map, List.length_replicate, List.length_range] <;> omega) | rfl)) only [evEqs, List.getElem?_cons_zero, List.getElem?_cons_succ, List.getElem?_nil, List.set_cons_zero, List.set_cons_succ, List.map_cons, List.map_nil, List.length_cons, List.length_nil, List.length_append, List.cons_append, List.nil_append, List.length_map, List.length_singleton, Nat.reduceBEq, Nat.reduceAdd, Nat.reduceSub, Nat.reduceMul, Nat.reduceEqDiff, Nat.reduceLeDiff, Nat.reduceLT, if_false, if_true, ite_true, ite_false, ↓reduceIte, Bool.not_true, Bool.not_false, Bool.false_eq_true, decide_true, decide_false, eq_self, and_true, true_and, and_self, Nat.zero_le, Nat.zero_add, Option.bind_some, Option.bind_none, Nat.lt_irrefl, Int.reduceToNat, Int.reducePow, Int.reduceNeg, Int.reduceMul, Int.reduceAdd, Int.reduceSub, Int.reduceLT, Int.reduceLE, Int.reduceEq, beq_self_eq_true, wipeE, MP.at0, MP.at1, MP.at2, MP.atLit]
  rfl
def wide (c k : Int) : Int := if c < 0 ∨ 1000000000000000000 ≤ c then (if 0 - c > c then 0 - c else c) else stir (stir c k) 3
theorem m_wide (c k : Int) (h : 0 ≤ k ∧ k ≤ 100000) : sem_l_wide [.int c, .int k] [] = .ok (.v (.int (wide c k))) [] := by
  unfold sem_l_wide b_l_wide wide
  by_cases h1 : c < 0
  · simp (disch := (first | assumption | with_reducible rfl | decide +kernel | exact Or.inl (by decide +kernel) | exact Or.inr (by decide +kernel) | omega | (simp only [List.length_cons, List.length_nil, List.length_append, List.length_map, List.length_replicate, List.length_range] <;> omega) | rfl)) only [evEqs, List.getElem?_cons_zero, List.getElem?_cons_succ, List.getElem?_nil, List.set_cons_zero, List.set_cons_succ, List.map_cons, List.map_nil, List.length_cons, List.length_nil, List.length_append, List.cons_append, List.nil_append, List.length_map, List.length_singleton, Nat.reduceBEq, Nat.reduceAdd, Nat.reduceSub, Nat.reduceMul, Nat.reduceEqDiff, Nat.reduceLeDiff, Nat.reduceLT, if_false, if_true, ite_true, ite_false, ↓reduceIte, Bool.not_true, Bool.not_false, Bool.false_eq_true, decide_true, decide_false, eq_self, and_true, true_and, and_self, Nat.zero_le, Nat.zero_add, Option.bind_some, Option.bind_none, Nat.lt_irrefl, Int.reduceToNat, Int.reducePow, Int.reduceNeg, Int.reduceMul, Int.reduceAdd, Int.reduceSub, Int.reduceLT, Int.reduceLE, Int.reduceEq, beq_self_eq_true, wipeE, MP.at0, MP.at1, MP.at2, MP.atLit, h1, true_or]
  · by_cases h2 : 1000000000000000000 ≤ c
    · simp (disch := (first | assumption | with_reducible rfl | decide +kernel | exact Or.inl (by decide +kernel) | exact Or.inr (by decide +kernel) | omega | (simp only [List.length_cons, List.length_nil, List.length_append, List.length_map, List.length_replicate, List.length_range] <;> omega) | rfl)) only [evEqs, List.getElem?_cons_zero, List.getElem?_cons_succ, List.getElem?_nil, List.set_cons_zero, List.set_cons_succ, List.map_cons, List.map_nil, List.length_cons, List.length_nil, List.length_append, List.cons_append, List.nil_append, List.length_map, List.length_singleton, Nat.reduceBEq, Nat.reduceAdd, Nat.reduceSub, Nat.reduceMul, Nat.reduceEqDiff, Nat.reduceLeDiff, Nat.reduceLT, if_false, if_true, ite_true, ite_false, ↓reduceIte, Bool.not_true, Bool.not_false, Bool.false_eq_true, decide_true, decide_false, eq_self, and_true, true_and, and_self, Nat.zero_le, Nat.zero_add, Option.bind_some, Option.bind_none, Nat.lt_irrefl, Int.reduceToNat, Int.reducePow, Int.reduceNeg, Int.reduceMul, Int.reduceAdd, Int.reduceSub, Int.reduceLT, Int.reduceLE, Int.reduceEq, beq_self_eq_true, wipeE, MP.at0, MP.at1, MP.at2, MP.atLit, h1, h2, or_true]
    · simp (disch := (first | assumption | with_reducible rfl | decide +kernel | exact Or.inl (by decide +kernel) | exact Or.inr (by decide +kernel) | omega | (simp only [List.length_cons, List.length_nil, List.length_append, List.length_map, List.length_replicate, List.length_range] <;> omega) | rfl)) only [evEqs, List.getElem?_cons_zero, List.getElem?_cons_succ, List.getElem?_nil, List.set_cons_zero, List.set_cons_succ, List.map_cons, List.map_nil, List.length_cons, List.length_nil, List.length_append, List.cons_append, List.nil_append, List.length_map, List.length_singleton, Nat.reduceBEq, Nat.reduceAdd, Nat.reduceSub, Nat.reduceMul, Nat.reduceEqDiff, Nat.reduceLeDiff, Nat.reduceLT, if_false, if_true, ite_true, ite_false, ↓reduceIte, Bool.not_true, Bool.not_false, Bool.false_eq_true, decide_true, decide_false, eq_self, and_true, true_and, and_self, Nat.zero_le, Nat.zero_add, Option.bind_some, Option.bind_none, Nat.lt_irrefl, Int.reduceToNat, Int.reducePow, Int.reduceNeg, Int.reduceMul, Int.reduceAdd, Int.reduceSub, Int.reduceLT, Int.reduceLE, Int.reduceEq, beq_self_eq_true, wipeE, MP.at0, MP.at1, MP.at2, MP.atLit, h1, h2, or_self, m_stirred]
def zs (ns : List Int) : List D := ns.map D.int
theorem cut_one (ns : List Int) (k : Int) (h : 0 ≤ k) : cutD (zs ns) (some k) (some (k + 1)) = (ns[k.toNat]?.map D.int).toList := by
  rw [cut_eq _ h (by omega), show (k + 1).toNat - k.toNat = 1 by omega]
  unfold zs
  rw [← List.map_drop, ← List.map_take]
  generalize k.toNat = j
  induction ns generalizing j with
  | nil => simp
  | cons n ns ih =>
    cases j with
    | zero => simp
    | succ j => simpa using ih j
theorem m_cell (ns : List Int) (k : Int) (h : 0 ≤ k) : sem_l_cell [.lk (zs ns), .int k] [] = .ok (.v (.int (ns.getD k.toNat 0))) [] := by
  unfold sem_l_cell b_l_cell
  rw [List.getD_eq_getElem?_getD]
  cases e : ns[k.toNat]? with
  | none => simp (disch := (first | assumption | with_reducible rfl | decide +kernel | exact Or.inl (by decide +kernel) | exact Or.inr (by decide +kernel) | omega | (simp only [List.length_cons, List.length_nil, List.length_append, List.length_map, List.length_replicate, List.length_range] <;> omega) | rfl)) only [evEqs, List.getElem?_cons_zero, List.getElem?_cons_succ, List.getElem?_nil, List.set_cons_zero, List.set_cons_succ, List.map_cons, List.map_nil, List.length_cons, List.length_nil, List.length_append, List.cons_append, List.nil_append, List.length_map, List.length_singleton, Nat.reduceBEq, Nat.reduceAdd, Nat.reduceSub, Nat.reduceMul, Nat.reduceEqDiff, Nat.reduceLeDiff, Nat.reduceLT, if_false, if_true, ite_true, ite_false, ↓reduceIte, Bool.not_true, Bool.not_false, Bool.false_eq_true, decide_true, decide_false, eq_self, and_true, true_and, and_self, Nat.zero_le, Nat.zero_add, Option.bind_some, Option.bind_none, Nat.lt_irrefl, Int.reduceToNat, Int.reducePow, Int.reduceNeg, Int.reduceMul, Int.reduceAdd, Int.reduceSub, Int.reduceLT, Int.reduceLE, Int.reduceEq, beq_self_eq_true, wipeE, MP.at0, MP.at1, MP.at2, MP.atLit, cut_one ns k h, e, Option.map_none, Option.toList, Option.getD_none]
  | some v => simp (disch := (first | assumption | with_reducible rfl | decide +kernel | exact Or.inl (by decide +kernel) | exact Or.inr (by decide +kernel) | omega | (simp only [List.length_cons, List.length_nil, List.length_append, List.length_map, List.length_replicate, List.length_range] <;> omega) | rfl)) only [evEqs, List.getElem?_cons_zero, List.getElem?_cons_succ, List.getElem?_nil, List.set_cons_zero, List.set_cons_succ, List.map_cons, List.map_nil, List.length_cons, List.length_nil, List.length_append, List.cons_append, List.nil_append, List.length_map, List.length_singleton, Nat.reduceBEq, Nat.reduceAdd, Nat.reduceSub, Nat.reduceMul, Nat.reduceEqDiff, Nat.reduceLeDiff, Nat.reduceLT, if_false, if_true, ite_true, ite_false, ↓reduceIte, Bool.not_true, Bool.not_false, Bool.false_eq_true, decide_true, decide_false, eq_self, and_true, true_and, and_self, Nat.zero_le, Nat.zero_add, Option.bind_some, Option.bind_none, Nat.lt_irrefl, Int.reduceToNat, Int.reducePow, Int.reduceNeg, Int.reduceMul, Int.reduceAdd, Int.reduceSub, Int.reduceLT, Int.reduceLE, Int.reduceEq, beq_self_eq_true, wipeE, MP.at0, MP.at1, MP.at2, MP.atLit, cut_one ns k h, e, Option.map_some, Option.toList, Option.getD_some]
theorem zs_at (xs : List Int) (i : Nat) (h : i < xs.length) : (zs xs)[i]? = some (.int (xs.getD i 0)) := by
  unfold zs
  rw [List.getElem?_map, List.getElem?_eq_getElem h, List.getD_eq_getElem?_getD, List.getElem?_eq_getElem h]
  rfl
theorem zs_len (xs : List Int) : (zs xs).length = xs.length := by unfold zs; simp
theorem zs_snoc (xs : List Int) (x : Int) : zs xs ++ [.int x] = zs (xs ++ [x]) := by unfold zs; simp
theorem rng_at (n i : Nat) (d : D) (h : (rng 0 (n : Int))[i]? = some d) : d = .int (i : Int) ∧ i < n := by
  rw [rng_0, List.getElem?_map] at h
  have hi : i < n := by
    by_cases c : i < n
    · exact c
    · rw [List.getElem?_eq_none (by simp; omega)] at h
      cases h
  rw [List.getElem?_range hi] at h
  exact ⟨(Option.some.inj h).symm, hi⟩
theorem rng_len (n : Nat) : (rng 0 (n : Int)).length = n := by rw [rng_0]; simp

theorem m_stream_turn (c : Int) (n k : Nat) (xs : List Int) (l : Int) (x5 x6 : Slot) (hk : k ≤ 1000) (h : xs.length ≤ 1000) : ∃ (x l' : Int) (x6' : Slot),
    lp_l_stream_2 ⟨[.v (.int c), .v (.int n), .own (.list (zs xs)), .v (.int l), .v (.int k), x5, x6], []⟩ = .nx ⟨[.v (.int c), .v (.int n), .own (.list (zs (xs ++ [x]))), .v (.int l'), .v (.int k), .v (.int x), x6'], []⟩ := by
  have hz := zs_len xs
  have e3 : ∃ (y : Int) (x6' : Slot), sFor (pRng gRng1 (pCons (pC (.int 3)) (pNil))) (.nm 6) lp_l_stream_1 ⟨[.v (.int c), .v (.int n), .own (.list (zs xs)), .v (.int l), .v (.int k), .v (.int 0), x6], []⟩ = .nx ⟨[.v (.int c), .v (.int n), .own (.list (zs xs)), .v (.int l), .v (.int k), .v (.int y), x6'], []⟩ := by
    obtain ⟨s', h1, y, x6', rfl⟩ := forE (f := pRng gRng1 (pCons (pC (.int 3)) (pNil))) (t := .nm 6) (g := lp_l_stream_1) (s := ⟨[.v (.int c), .v (.int n), .own (.list (zs xs)), .v (.int l), .v (.int k), .v (.int 0), x6], []⟩) (rng 0 3) (fun i s => ∃ (y : Int) (x6' : Slot), s = ⟨[.v (.int c), .v (.int n), .own (.list (zs xs)), .v (.int l), .v (.int k), .v (.int y), x6'], []⟩) (by simp (disch := (first | assumption | with_reducible rfl | decide +kernel | exact Or.inl (by decide +kernel) | exact Or.inr (by decide +kernel) | omega | (simp only [List.length_cons, List.length_nil, List.length_append, List.length_map, List.length_replicate, List.length_range] <;> omega) | rfl)) only [evEqs, List.getElem?_cons_zero, List.getElem?_cons_succ, List.getElem?_nil, List.set_cons_zero, List.set_cons_succ, List.map_cons, List.map_nil, List.length_cons, List.length_nil, List.length_append, List.cons_append, List.nil_append, List.length_map, List.length_singleton, Nat.reduceBEq, Nat.reduceAdd, Nat.reduceSub, Nat.reduceMul, Nat.reduceEqDiff, Nat.reduceLeDiff, Nat.reduceLT, if_false, if_true, ite_true, ite_false, ↓reduceIte, Bool.not_true, Bool.not_false, Bool.false_eq_true, decide_true, decide_false, eq_self, and_true, true_and, and_self, Nat.zero_le, Nat.zero_add, Option.bind_some, Option.bind_none, Nat.lt_irrefl, Int.reduceToNat, Int.reducePow, Int.reduceNeg, Int.reduceMul, Int.reduceAdd, Int.reduceSub, Int.reduceLT, Int.reduceLE, Int.reduceEq, beq_self_eq_true, wipeE, MP.at0, MP.at1, MP.at2, MP.atLit]) ⟨_, _, rfl⟩ (by
      rintro j d s hd ⟨y, x6, rfl⟩
      obtain ⟨rfl, hj⟩ := rngAt hd
      refine ⟨_, b_nm .., ?_⟩
      unfold lp_l_stream_1
      simp (disch := (first | assumption | with_reducible rfl | decide +kernel | exact Or.inl (by decide +kernel) | exact Or.inr (by decide +kernel) | omega | (simp only [List.length_cons, List.length_nil, List.length_append, List.length_map, List.length_replicate, List.length_range] <;> omega) | rfl)) only [evEqs, List.getElem?_cons_zero, List.getElem?_cons_succ, List.getElem?_nil, List.set_cons_zero, List.set_cons_succ, List.map_cons, List.map_nil, List.length_cons, List.length_nil, List.length_append, List.cons_append, List.nil_append, List.length_map, List.length_singleton, Nat.reduceBEq, Nat.reduceAdd, Nat.reduceSub, Nat.reduceMul, Nat.reduceEqDiff, Nat.reduceLeDiff, Nat.reduceLT, if_false, if_true, ite_true, ite_false, ↓reduceIte, Bool.not_true, Bool.not_false, Bool.false_eq_true, decide_true, decide_false, eq_self, and_true, true_and, and_self, Nat.zero_le, Nat.zero_add, Option.bind_some, Option.bind_none, Nat.lt_irrefl, Int.reduceToNat, Int.reducePow, Int.reduceNeg, Int.reduceMul, Int.reduceAdd, Int.reduceSub, Int.reduceLT, Int.reduceLE, Int.reduceEq, beq_self_eq_true, wipeE, MP.at0, MP.at1, MP.at2, MP.atLit, m_stirred]
      exact ⟨_, _, rfl⟩)
    exact ⟨_, _, h1⟩
  obtain ⟨y, x6', e3⟩ := e3
  by_cases h1 : 0 < l
  · by_cases h2 : c < 0
    · refine ⟨l % 1000000000000000000000000, l / 1000000000000000000000000, x6', ?_⟩
      unfold lp_l_stream_2
      refine sqX (s' := ⟨[.v (.int c), .v (.int n), .own (.list (zs xs)), .v (.int l), .v (.int k), .v (.int 0), x6], []⟩) (by simp (disch := (first | assumption | with_reducible rfl | decide +kernel | exact Or.inl (by decide +kernel) | exact Or.inr (by decide +kernel) | omega | (simp only [List.length_cons, List.length_nil, List.length_append, List.length_map, List.length_replicate, List.length_range] <;> omega) | rfl)) only [evEqs, List.getElem?_cons_zero, List.getElem?_cons_succ, List.getElem?_nil, List.set_cons_zero, List.set_cons_succ, List.map_cons, List.map_nil, List.length_cons, List.length_nil, List.length_append, List.cons_append, List.nil_append, List.length_map, List.length_singleton, Nat.reduceBEq, Nat.reduceAdd, Nat.reduceSub, Nat.reduceMul, Nat.reduceEqDiff, Nat.reduceLeDiff, Nat.reduceLT, if_false, if_true, ite_true, ite_false, ↓reduceIte, Bool.not_true, Bool.not_false, Bool.false_eq_true, decide_true, decide_false, eq_self, and_true, true_and, and_self, Nat.zero_le, Nat.zero_add, Option.bind_some, Option.bind_none, Nat.lt_irrefl, Int.reduceToNat, Int.reducePow, Int.reduceNeg, Int.reduceMul, Int.reduceAdd, Int.reduceSub, Int.reduceLT, Int.reduceLE, Int.reduceEq, beq_self_eq_true, wipeE, MP.at0, MP.at1, MP.at2, MP.atLit]) (sqX e3 ?_)
      simp (disch := (first | assumption | with_reducible rfl | decide +kernel | exact Or.inl (by decide +kernel) | exact Or.inr (by decide +kernel) | omega | (simp only [List.length_cons, List.length_nil, List.length_append, List.length_map, List.length_replicate, List.length_range] <;> omega) | rfl)) only [evEqs, List.getElem?_cons_zero, List.getElem?_cons_succ, List.getElem?_nil, List.set_cons_zero, List.set_cons_succ, List.map_cons, List.map_nil, List.length_cons, List.length_nil, List.length_append, List.cons_append, List.nil_append, List.length_map, List.length_singleton, Nat.reduceBEq, Nat.reduceAdd, Nat.reduceSub, Nat.reduceMul, Nat.reduceEqDiff, Nat.reduceLeDiff, Nat.reduceLT, if_false, if_true, ite_true, ite_false, ↓reduceIte, Bool.not_true, Bool.not_false, Bool.false_eq_true, decide_true, decide_false, eq_self, and_true, true_and, and_self, Nat.zero_le, Nat.zero_add, Option.bind_some, Option.bind_none, Nat.lt_irrefl, Int.reduceToNat, Int.reducePow, Int.reduceNeg, Int.reduceMul, Int.reduceAdd, Int.reduceSub, Int.reduceLT, Int.reduceLE, Int.reduceEq, beq_self_eq_true, wipeE, MP.at0, MP.at1, MP.at2, MP.atLit, h1, h2, zs_len, zs_snoc]
    · by_cases h3 : 1000000000000000000 ≤ c
      · refine ⟨l % 1000000000000000000000000, l / 1000000000000000000000000, x6', ?_⟩
        unfold lp_l_stream_2
        refine sqX (s' := ⟨[.v (.int c), .v (.int n), .own (.list (zs xs)), .v (.int l), .v (.int k), .v (.int 0), x6], []⟩) (by simp (disch := (first | assumption | with_reducible rfl | decide +kernel | exact Or.inl (by decide +kernel) | exact Or.inr (by decide +kernel) | omega | (simp only [List.length_cons, List.length_nil, List.length_append, List.length_map, List.length_replicate, List.length_range] <;> omega) | rfl)) only [evEqs, List.getElem?_cons_zero, List.getElem?_cons_succ, List.getElem?_nil, List.set_cons_zero, List.set_cons_succ, List.map_cons, List.map_nil, List.length_cons, List.length_nil, List.length_append, List.cons_append, List.nil_append, List.length_map, List.length_singleton, Nat.reduceBEq, Nat.reduceAdd, Nat.reduceSub, Nat.reduceMul, Nat.reduceEqDiff, Nat.reduceLeDiff, Nat.reduceLT, if_false, if_true, ite_true, ite_false, ↓reduceIte, Bool.not_true, Bool.not_false, Bool.false_eq_true, decide_true, decide_false, eq_self, and_true, true_and, and_self, Nat.zero_le, Nat.zero_add, Option.bind_some, Option.bind_none, Nat.lt_irrefl, Int.reduceToNat, Int.reducePow, Int.reduceNeg, Int.reduceMul, Int.reduceAdd, Int.reduceSub, Int.reduceLT, Int.reduceLE, Int.reduceEq, beq_self_eq_true, wipeE, MP.at0, MP.at1, MP.at2, MP.atLit]) (sqX e3 ?_)
        simp (disch := (first | assumption | with_reducible rfl | decide +kernel | exact Or.inl (by decide +kernel) | exact Or.inr (by decide +kernel) | omega | (simp only [List.length_cons, List.length_nil, List.length_append, List.length_map, List.length_replicate, List.length_range] <;> omega) | rfl)) only [evEqs, List.getElem?_cons_zero, List.getElem?_cons_succ, List.getElem?_nil, List.set_cons_zero, List.set_cons_succ, List.map_cons, List.map_nil, List.length_cons, List.length_nil, List.length_append, List.cons_append, List.nil_append, List.length_map, List.length_singleton, Nat.reduceBEq, Nat.reduceAdd, Nat.reduceSub, Nat.reduceMul, Nat.reduceEqDiff, Nat.reduceLeDiff, Nat.reduceLT, if_false, if_true, ite_true, ite_false, ↓reduceIte, Bool.not_true, Bool.not_false, Bool.false_eq_true, decide_true, decide_false, eq_self, and_true, true_and, and_self, Nat.zero_le, Nat.zero_add, Option.bind_some, Option.bind_none, Nat.lt_irrefl, Int.reduceToNat, Int.reducePow, Int.reduceNeg, Int.reduceMul, Int.reduceAdd, Int.reduceSub, Int.reduceLT, Int.reduceLE, Int.reduceEq, beq_self_eq_true, wipeE, MP.at0, MP.at1, MP.at2, MP.atLit, h1, h2, h3, zs_len, zs_snoc]
      · refine ⟨y, l, x6', ?_⟩
        unfold lp_l_stream_2
        refine sqX (s' := ⟨[.v (.int c), .v (.int n), .own (.list (zs xs)), .v (.int l), .v (.int k), .v (.int 0), x6], []⟩) (by simp (disch := (first | assumption | with_reducible rfl | decide +kernel | exact Or.inl (by decide +kernel) | exact Or.inr (by decide +kernel) | omega | (simp only [List.length_cons, List.length_nil, List.length_append, List.length_map, List.length_replicate, List.length_range] <;> omega) | rfl)) only [evEqs, List.getElem?_cons_zero, List.getElem?_cons_succ, List.getElem?_nil, List.set_cons_zero, List.set_cons_succ, List.map_cons, List.map_nil, List.length_cons, List.length_nil, List.length_append, List.cons_append, List.nil_append, List.length_map, List.length_singleton, Nat.reduceBEq, Nat.reduceAdd, Nat.reduceSub, Nat.reduceMul, Nat.reduceEqDiff, Nat.reduceLeDiff, Nat.reduceLT, if_false, if_true, ite_true, ite_false, ↓reduceIte, Bool.not_true, Bool.not_false, Bool.false_eq_true, decide_true, decide_false, eq_self, and_true, true_and, and_self, Nat.zero_le, Nat.zero_add, Option.bind_some, Option.bind_none, Nat.lt_irrefl, Int.reduceToNat, Int.reducePow, Int.reduceNeg, Int.reduceMul, Int.reduceAdd, Int.reduceSub, Int.reduceLT, Int.reduceLE, Int.reduceEq, beq_self_eq_true, wipeE, MP.at0, MP.at1, MP.at2, MP.atLit]) (sqX e3 ?_)
        simp (disch := (first | assumption | with_reducible rfl | decide +kernel | exact Or.inl (by decide +kernel) | exact Or.inr (by decide +kernel) | omega | (simp only [List.length_cons, List.length_nil, List.length_append, List.length_map, List.length_replicate, List.length_range] <;> omega) | rfl)) only [evEqs, List.getElem?_cons_zero, List.getElem?_cons_succ, List.getElem?_nil, List.set_cons_zero, List.set_cons_succ, List.map_cons, List.map_nil, List.length_cons, List.length_nil, List.length_append, List.cons_append, List.nil_append, List.length_map, List.length_singleton, Nat.reduceBEq, Nat.reduceAdd, Nat.reduceSub, Nat.reduceMul, Nat.reduceEqDiff, Nat.reduceLeDiff, Nat.reduceLT, if_false, if_true, ite_true, ite_false, ↓reduceIte, Bool.not_true, Bool.not_false, Bool.false_eq_true, decide_true, decide_false, eq_self, and_true, true_and, and_self, Nat.zero_le, Nat.zero_add, Option.bind_some, Option.bind_none, Nat.lt_irrefl, Int.reduceToNat, Int.reducePow, Int.reduceNeg, Int.reduceMul, Int.reduceAdd, Int.reduceSub, Int.reduceLT, Int.reduceLE, Int.reduceEq, beq_self_eq_true, wipeE, MP.at0, MP.at1, MP.at2, MP.atLit, h1, h2, h3, zs_len, zs_snoc]
  · refine ⟨y, l, x6', ?_⟩
    unfold lp_l_stream_2
    refine sqX (s' := ⟨[.v (.int c), .v (.int n), .own (.list (zs xs)), .v (.int l), .v (.int k), .v (.int 0), x6], []⟩) (by simp (disch := (first | assumption | with_reducible rfl | decide +kernel | exact Or.inl (by decide +kernel) | exact Or.inr (by decide +kernel) | omega | (simp only [List.length_cons, List.length_nil, List.length_append, List.length_map, List.length_replicate, List.length_range] <;> omega) | rfl)) only [evEqs, List.getElem?_cons_zero, List.getElem?_cons_succ, List.getElem?_nil, List.set_cons_zero, List.set_cons_succ, List.map_cons, List.map_nil, List.length_cons, List.length_nil, List.length_append, List.cons_append, List.nil_append, List.length_map, List.length_singleton, Nat.reduceBEq, Nat.reduceAdd, Nat.reduceSub, Nat.reduceMul, Nat.reduceEqDiff, Nat.reduceLeDiff, Nat.reduceLT, if_false, if_true, ite_true, ite_false, ↓reduceIte, Bool.not_true, Bool.not_false, Bool.false_eq_true, decide_true, decide_false, eq_self, and_true, true_and, and_self, Nat.zero_le, Nat.zero_add, Option.bind_some, Option.bind_none, Nat.lt_irrefl, Int.reduceToNat, Int.reducePow, Int.reduceNeg, Int.reduceMul, Int.reduceAdd, Int.reduceSub, Int.reduceLT, Int.reduceLE, Int.reduceEq, beq_self_eq_true, wipeE, MP.at0, MP.at1, MP.at2, MP.atLit]) (sqX e3 ?_)
    simp (disch := (first | assumption | with_reducible rfl | decide +kernel | exact Or.inl (by decide +kernel) | exact Or.inr (by decide +kernel) | omega | (simp only [List.length_cons, List.length_nil, List.length_append, List.length_map, List.length_replicate, List.length_range] <;> omega) | rfl)) only [evEqs, List.getElem?_cons_zero, List.getElem?_cons_succ, List.getElem?_nil, List.set_cons_zero, List.set_cons_succ, List.map_cons, List.map_nil, List.length_cons, List.length_nil, List.length_append, List.cons_append, List.nil_append, List.length_map, List.length_singleton, Nat.reduceBEq, Nat.reduceAdd, Nat.reduceSub, Nat.reduceMul, Nat.reduceEqDiff, Nat.reduceLeDiff, Nat.reduceLT, if_false, if_true, ite_true, ite_false, ↓reduceIte, Bool.not_true, Bool.not_false, Bool.false_eq_true, decide_true, decide_false, eq_self, and_true, true_and, and_self, Nat.zero_le, Nat.zero_add, Option.bind_some, Option.bind_none, Nat.lt_irrefl, Int.reduceToNat, Int.reducePow, Int.reduceNeg, Int.reduceMul, Int.reduceAdd, Int.reduceSub, Int.reduceLT, Int.reduceLE, Int.reduceEq, beq_self_eq_true, wipeE, MP.at0, MP.at1, MP.at2, MP.atLit, h1, zs_len, zs_snoc]
theorem m_stream (c : Int) (n : Nat) (h : n ≤ 1000) : ∃ xs : List Int, xs.length = n ∧ sem_l_stream [.int c, .int n] [] = .ok (.own (.list (zs xs))) [] := by
  unfold sem_l_stream
  refine run_ex (Q := fun r => ∃ xs : List Int, xs.length = n ∧ r = .ok (.own (.list (zs xs))) []) [.v (.int c), .v (.int n), .un, .un, .un, .un, .un] rfl ?_
  unfold b_l_stream
  refine sq (P := fun fl => ∃ xs : List Int, xs.length = n ∧ fl.fr = .ok (.own (.list (zs xs))) []) (s' := ⟨[.v (.int c), .v (.int n), .own (.list []), .un, .un, .un, .un], []⟩) (by simp (disch := (first | assumption | with_reducible rfl | decide +kernel | exact Or.inl (by decide +kernel) | exact Or.inr (by decide +kernel) | omega | (simp only [List.length_cons, List.length_nil, List.length_append, List.length_map, List.length_replicate, List.length_range] <;> omega) | rfl)) only [evEqs, List.getElem?_cons_zero, List.getElem?_cons_succ, List.getElem?_nil, List.set_cons_zero, List.set_cons_succ, List.map_cons, List.map_nil, List.length_cons, List.length_nil, List.length_append, List.cons_append, List.nil_append, List.length_map, List.length_singleton, Nat.reduceBEq, Nat.reduceAdd, Nat.reduceSub, Nat.reduceMul, Nat.reduceEqDiff, Nat.reduceLeDiff, Nat.reduceLT, if_false, if_true, ite_true, ite_false, ↓reduceIte, Bool.not_true, Bool.not_false, Bool.false_eq_true, decide_true, decide_false, eq_self, and_true, true_and, and_self, Nat.zero_le, Nat.zero_add, Option.bind_some, Option.bind_none, Nat.lt_irrefl, Int.reduceToNat, Int.reducePow, Int.reduceNeg, Int.reduceMul, Int.reduceAdd, Int.reduceSub, Int.reduceLT, Int.reduceLE, Int.reduceEq, beq_self_eq_true, wipeE, MP.at0, MP.at1, MP.at2, MP.atLit]) ?_
  refine sq (P := fun fl => ∃ xs : List Int, xs.length = n ∧ fl.fr = .ok (.own (.list (zs xs))) []) (s' := ⟨[.v (.int c), .v (.int n), .own (.list []), .v (.int (if 0 - c > c then 0 - c else c)), .un, .un, .un], []⟩) (by simp (disch := (first | assumption | with_reducible rfl | decide +kernel | exact Or.inl (by decide +kernel) | exact Or.inr (by decide +kernel) | omega | (simp only [List.length_cons, List.length_nil, List.length_append, List.length_map, List.length_replicate, List.length_range] <;> omega) | rfl)) only [evEqs, List.getElem?_cons_zero, List.getElem?_cons_succ, List.getElem?_nil, List.set_cons_zero, List.set_cons_succ, List.map_cons, List.map_nil, List.length_cons, List.length_nil, List.length_append, List.cons_append, List.nil_append, List.length_map, List.length_singleton, Nat.reduceBEq, Nat.reduceAdd, Nat.reduceSub, Nat.reduceMul, Nat.reduceEqDiff, Nat.reduceLeDiff, Nat.reduceLT, if_false, if_true, ite_true, ite_false, ↓reduceIte, Bool.not_true, Bool.not_false, Bool.false_eq_true, decide_true, decide_false, eq_self, and_true, true_and, and_self, Nat.zero_le, Nat.zero_add, Option.bind_some, Option.bind_none, Nat.lt_irrefl, Int.reduceToNat, Int.reducePow, Int.reduceNeg, Int.reduceMul, Int.reduceAdd, Int.reduceSub, Int.reduceLT, Int.reduceLE, Int.reduceEq, beq_self_eq_true, wipeE, MP.at0, MP.at1, MP.at2, MP.atLit]) ?_
  refine forP (P := fun fl => ∃ xs : List Int, xs.length = n ∧ fl.fr = .ok (.own (.list (zs xs))) []) (rng 0 (n : Int)) (fun i s => ∃ (xs : List Int) (l : Int) (x4 x5 x6 : Slot), xs.length = i ∧ s = ⟨[.v (.int c), .v (.int n), .own (.list (zs xs)), .v (.int l), x4, x5, x6], []⟩) (by simp (disch := (first | assumption | with_reducible rfl | decide +kernel | exact Or.inl (by decide +kernel) | exact Or.inr (by decide +kernel) | omega | (simp only [List.length_cons, List.length_nil, List.length_append, List.length_map, List.length_replicate, List.length_range] <;> omega) | rfl)) only [evEqs, List.getElem?_cons_zero, List.getElem?_cons_succ, List.getElem?_nil, List.set_cons_zero, List.set_cons_succ, List.map_cons, List.map_nil, List.length_cons, List.length_nil, List.length_append, List.cons_append, List.nil_append, List.length_map, List.length_singleton, Nat.reduceBEq, Nat.reduceAdd, Nat.reduceSub, Nat.reduceMul, Nat.reduceEqDiff, Nat.reduceLeDiff, Nat.reduceLT, if_false, if_true, ite_true, ite_false, ↓reduceIte, Bool.not_true, Bool.not_false, Bool.false_eq_true, decide_true, decide_false, eq_self, and_true, true_and, and_self, Nat.zero_le, Nat.zero_add, Option.bind_some, Option.bind_none, Nat.lt_irrefl, Int.reduceToNat, Int.reducePow, Int.reduceNeg, Int.reduceMul, Int.reduceAdd, Int.reduceSub, Int.reduceLT, Int.reduceLE, Int.reduceEq, beq_self_eq_true, wipeE, MP.at0, MP.at1, MP.at2, MP.atLit]) ⟨[], _, _, _, _, rfl, rfl⟩ ?_ ?_
  · rintro k d s hd ⟨xs, l, x4, x5, x6, hx, rfl⟩
    obtain ⟨rfl, hi⟩ := rng_at _ _ _ hd
    obtain ⟨x, l', x6', e⟩ := m_stream_turn c n k xs l x5 x6 (by omega) (by omega)
    refine ⟨_, b_nm .., ?_⟩
    simp (disch := (first | assumption | with_reducible rfl | decide +kernel | exact Or.inl (by decide +kernel) | exact Or.inr (by decide +kernel) | omega | (simp only [List.length_cons, List.length_nil, List.length_append, List.length_map, List.length_replicate, List.length_range] <;> omega) | rfl)) only [evEqs, List.getElem?_cons_zero, List.getElem?_cons_succ, List.getElem?_nil, List.set_cons_zero, List.set_cons_succ, List.map_cons, List.map_nil, List.length_cons, List.length_nil, List.length_append, List.cons_append, List.nil_append, List.length_map, List.length_singleton, Nat.reduceBEq, Nat.reduceAdd, Nat.reduceSub, Nat.reduceMul, Nat.reduceEqDiff, Nat.reduceLeDiff, Nat.reduceLT, if_false, if_true, ite_true, ite_false, ↓reduceIte, Bool.not_true, Bool.not_false, Bool.false_eq_true, decide_true, decide_false, eq_self, and_true, true_and, and_self, Nat.zero_le, Nat.zero_add, Option.bind_some, Option.bind_none, Nat.lt_irrefl, Int.reduceToNat, Int.reducePow, Int.reduceNeg, Int.reduceMul, Int.reduceAdd, Int.reduceSub, Int.reduceLT, Int.reduceLE, Int.reduceEq, beq_self_eq_true, wipeE, MP.at0, MP.at1, MP.at2, MP.atLit, e]
    exact ⟨_, _, _, _, _, by simp [hx], rfl⟩
  · rintro s ⟨xs, l, x4, x5, x6, hx, rfl⟩
    rw [rng_len] at hx
    simp (disch := (first | assumption | with_reducible rfl | decide +kernel | exact Or.inl (by decide +kernel) | exact Or.inr (by decide +kernel) | omega | (simp only [List.length_cons, List.length_nil, List.length_append, List.length_map, List.length_replicate, List.length_range] <;> omega) | rfl)) only [evEqs, List.getElem?_cons_zero, List.getElem?_cons_succ, List.getElem?_nil, List.set_cons_zero, List.set_cons_succ, List.map_cons, List.map_nil, List.length_cons, List.length_nil, List.length_append, List.cons_append, List.nil_append, List.length_map, List.length_singleton, Nat.reduceBEq, Nat.reduceAdd, Nat.reduceSub, Nat.reduceMul, Nat.reduceEqDiff, Nat.reduceLeDiff, Nat.reduceLT, if_false, if_true, ite_true, ite_false, ↓reduceIte, Bool.not_true, Bool.not_false, Bool.false_eq_true, decide_true, decide_false, eq_self, and_true, true_and, and_self, Nat.zero_le, Nat.zero_add, Option.bind_some, Option.bind_none, Nat.lt_irrefl, Int.reduceToNat, Int.reducePow, Int.reduceNeg, Int.reduceMul, Int.reduceAdd, Int.reduceSub, Int.reduceLT, Int.reduceLE, Int.reduceEq, beq_self_eq_true, wipeE, MP.at0, MP.at1, MP.at2, MP.atLit]
    exact ⟨xs, hx, rfl⟩

def stD (s : List Int) : D := .tup (s.map D.int)
def wD (e : List Nat × List (List Int)) : D := .tup [.str (sw e.1), .tup (e.2.map stD)]
def bkD (b : List (List Nat × List (List Int))) : List D := b.map wD
theorem bkD_len (b : List (List Nat × List (List Int))) : (bkD b).length = b.length := by unfold bkD; simp
def lowB (c : Nat) : Bool := decide (97 ≤ c ∧ c ≤ 122)
def abcL : List Nat := (List.range 26).map fun k => 97 + k
theorem abc_sw : ("abcdefghijklmnopqrstuvwxyz" : Str) = sw abcL := by decide +kernel
def wordB (w : List Nat) : Bool := decide (1 ≤ w.length) && (decide (w.length ≤ 8) && (w.map lowB).all id)
def upB (s : List Int) : Bool := ((s.zip (s.drop 1)).map fun p => decide (p.1 < p.2)).all id
theorem up_iff : ∀ (s : List Int), upB s = true ↔ s.Pairwise (· < ·)
  | [] => by simp [upB]
  | [x] => by simp [upB]
  | x :: y :: r => by
    have ih := up_iff (y :: r)
    have e : upB (x :: y :: r) = (decide (x < y) && upB (y :: r)) := rfl
    rw [e, Bool.and_eq_true, ih, decide_eq_true_eq, List.pairwise_cons (a := x)]
    constructor
    · rintro ⟨h1, h2⟩
      refine ⟨fun z hz => ?_, h2⟩
      rcases List.mem_cons.mp hz with rfl | hz
      · exact h1
      · have := (List.pairwise_cons.mp h2).1 z hz
        omega
    · rintro ⟨h1, h2⟩
      exact ⟨h1 y (List.mem_cons_self ..), h2⟩
def strokeB : List Int → Bool
  | [] => false
  | x :: r => decide (0 ≤ x) && (decide ((x :: r).getLast (by simp) ≤ 11) && upB (x :: r))
abbrev Bk := List (List Nat × List (List Int))
structure Wf (b : Bk) : Prop where
  len : b.length ≤ 40
  ent : ∀ e ∈ b, e.1.length ≤ 40 ∧ e.2.length ≤ 10 ∧ ∀ s ∈ e.2, s.length ≤ 12
  cod : ∀ e ∈ b, ∀ c ∈ e.1, c < 1114112
theorem Wf.at {b : Bk} (g : Wf b) (i : Nat) (h : i < b.length) : b.getD i ([], []) ∈ b := by
  rw [List.getD_eq_getElem?_getD, List.getElem?_eq_getElem h]
  exact List.getElem_mem h
def entB (b : Bk) (i : Nat) : Bool := wordB (b.getD i ([], [])).1 && (!decide ((b.getD i ([], [])).1 ∈ (b.take i).map Prod.fst) && (decide (1 ≤ (b.getD i ([], [])).2.length) && (decide ((b.getD i ([], [])).2.length ≤ 6) && (b.getD i ([], [])).2.all strokeB)))
structure Wm (m : Nat) (b : Bk) : Prop where
  len : b.length ≤ 20 + m
  ent : ∀ e ∈ b, e.1.length ≤ 8 + 8 * m ∧ e.2.length ≤ 7 ∧ ∀ s ∈ e.2, s.length ≤ 12
  cod : ∀ e ∈ b, ∀ c ∈ e.1, c < 1114112
/-- a word put in -/
structure Em (m : Nat) (e : List Nat × List (List Int)) : Prop where
  ent : e.1.length ≤ 8 + 8 * m ∧ e.2.length ≤ 7 ∧ ∀ s ∈ e.2, s.length ≤ 12
  cod : ∀ c ∈ e.1, c < 1114112
theorem Em.up {m : Nat} {e : List Nat × List (List Int)} (h : Em m e) : Em (m + 1) e := ⟨⟨by have := h.ent.1; omega, h.ent.2.1, h.ent.2.2⟩, h.cod⟩
theorem Wm.of {m : Nat} {b : Bk} (hl : b.length ≤ 20 + m) (h : ∀ e ∈ b, Em m e) : Wm m b := ⟨hl, fun e he => (h e he).ent, fun e he => (h e he).cod⟩
theorem bkD_app (a b : Bk) : bkD a ++ bkD b = bkD (a ++ b) := by unfold bkD; rw [List.map_append]
theorem ix_abc (n : Nat) (h : n < 26) : gIx (.str "abcdefghijklmnopqrstuvwxyz") (.int (n : Int)) = some ⟨.sh, .str (sw [97 + n])⟩ := by
  rw [abc_sw]
  have h3 : gIx (.str (sw abcL)) (.int (n : Int)) = if (sw abcL).length ≤ 16777216 then (atI abcL (n : Int)).map (fun c => sh (.str (sw [c]))) else none := rfl
  rw [h3, sw_len, if_pos (by unfold abcL; simp), atN]
  unfold abcL
  rw [List.getElem?_map, List.getElem?_range h]
  rfl
theorem t_n : ("" : Str) = sw [] := by decide +kernel
/-- rising keys below i -/
structure Ks (i : Nat) (ks : List Int) : Prop where
  up : ks.Pairwise (· < ·)
  bd : ∀ k ∈ ks, 0 ≤ k ∧ k < i
  len : ks.length ≤ i
theorem Ks.add {i : Nat} {ks : List Int} (g : Ks i ks) : Ks (i + 1) (ks ++ [(i : Int)]) := by
  refine ⟨List.pairwise_append.mpr ⟨g.up, by simp, fun a ha b hb => ?_⟩, fun k hk => ?_, by have := g.len; simp; omega⟩
  · rw [List.mem_singleton] at hb
    have := g.bd a ha
    omega
  · rcases List.mem_append.mp hk with hk | hk
    · have := g.bd k hk
      omega
    · rw [List.mem_singleton] at hk
      omega
theorem Ks.skip {i : Nat} {ks : List Int} (g : Ks i ks) : Ks (i + 1) ks := ⟨g.up, fun k hk => by have := g.bd k hk; omega, by have := g.len; omega⟩
theorem Ks.stroke {ks : List Int} (g : Ks 12 ks) (h : ks ≠ []) : strokeB ks = true := by
  cases ks with
  | nil => exact absurd rfl h
  | cons x r =>
    show (decide (0 ≤ x) && (decide ((x :: r).getLast (by simp) ≤ 11) && upB (x :: r))) = true
    rw [decide_eq_true (g.bd x (List.mem_cons_self ..)).1, decide_eq_true (by have := (g.bd _ (List.getLast_mem (l := x :: r) (by simp))).2; omega), (up_iff (x :: r)).mpr g.up]
    rfl
theorem pw2 (i : Nat) : 2 ^ (i + 1) = 2 ^ i * 2 := Nat.pow_succ ..
theorem m_stroke_of (rest : Int) (h0 : 0 ≤ rest) (h1 : rest < 4095) : ∃ ks : List Int, (Ks 12 ks ∧ ks ≠ []) ∧ sem_l_stroke_of [.int rest] [] = .ok (.v (stD ks)) [] := by
  unfold sem_l_stroke_of stD
  refine run_ex (Q := fun r => ∃ ks : List Int, (Ks 12 ks ∧ ks ≠ []) ∧ r = .ok (.v (.tup (ks.map D.int))) []) [.v (.int rest), .un, .un, .un] rfl ?_
  unfold b_l_stroke_of
  refine sq (P := fun fl => ∃ ks : List Int, (Ks 12 ks ∧ ks ≠ []) ∧ fl.fr = .ok (.v (.tup (ks.map D.int))) []) (s' := ⟨[.v (.int rest), .v (.int (1 + rest)), .un, .un], []⟩) (by simp (disch := (first | assumption | with_reducible rfl | decide +kernel | exact Or.inl (by decide +kernel) | exact Or.inr (by decide +kernel) | omega | (simp only [List.length_cons, List.length_nil, List.length_append, List.length_map, List.length_replicate, List.length_range] <;> omega) | rfl)) only [evEqs, List.getElem?_cons_zero, List.getElem?_cons_succ, List.getElem?_nil, List.set_cons_zero, List.set_cons_succ, List.map_cons, List.map_nil, List.length_cons, List.length_nil, List.length_append, List.cons_append, List.nil_append, List.length_map, List.length_singleton, Nat.reduceBEq, Nat.reduceAdd, Nat.reduceSub, Nat.reduceMul, Nat.reduceEqDiff, Nat.reduceLeDiff, Nat.reduceLT, if_false, if_true, ite_true, ite_false, ↓reduceIte, Bool.not_true, Bool.not_false, Bool.false_eq_true, decide_true, decide_false, eq_self, and_true, true_and, and_self, Nat.zero_le, Nat.zero_add, Option.bind_some, Option.bind_none, Nat.lt_irrefl, Int.reduceToNat, Int.reducePow, Int.reduceNeg, Int.reduceMul, Int.reduceAdd, Int.reduceSub, Int.reduceLT, Int.reduceLE, Int.reduceEq, beq_self_eq_true, wipeE, MP.at0, MP.at1, MP.at2, MP.atLit]) ?_
  refine sq (P := fun fl => ∃ ks : List Int, (Ks 12 ks ∧ ks ≠ []) ∧ fl.fr = .ok (.v (.tup (ks.map D.int))) []) (s' := ⟨[.v (.int rest), .v (.int (1 + rest)), .own (.list []), .un], []⟩) (by simp (disch := (first | assumption | with_reducible rfl | decide +kernel | exact Or.inl (by decide +kernel) | exact Or.inr (by decide +kernel) | omega | (simp only [List.length_cons, List.length_nil, List.length_append, List.length_map, List.length_replicate, List.length_range] <;> omega) | rfl)) only [evEqs, List.getElem?_cons_zero, List.getElem?_cons_succ, List.getElem?_nil, List.set_cons_zero, List.set_cons_succ, List.map_cons, List.map_nil, List.length_cons, List.length_nil, List.length_append, List.cons_append, List.nil_append, List.length_map, List.length_singleton, Nat.reduceBEq, Nat.reduceAdd, Nat.reduceSub, Nat.reduceMul, Nat.reduceEqDiff, Nat.reduceLeDiff, Nat.reduceLT, if_false, if_true, ite_true, ite_false, ↓reduceIte, Bool.not_true, Bool.not_false, Bool.false_eq_true, decide_true, decide_false, eq_self, and_true, true_and, and_self, Nat.zero_le, Nat.zero_add, Option.bind_some, Option.bind_none, Nat.lt_irrefl, Int.reduceToNat, Int.reducePow, Int.reduceNeg, Int.reduceMul, Int.reduceAdd, Int.reduceSub, Int.reduceLT, Int.reduceLE, Int.reduceEq, beq_self_eq_true, wipeE, MP.at0, MP.at1, MP.at2, MP.atLit]) ?_
  refine forP (P := fun fl => ∃ ks : List Int, (Ks 12 ks ∧ ks ≠ []) ∧ fl.fr = .ok (.v (.tup (ks.map D.int))) []) (rng 0 (12 : Int)) (fun i s => ∃ (ks : List Int) (mk : Nat) (x3 : Slot), Ks i ks ∧ mk * 2 ^ i ≤ 4095 ∧ (ks = [] → 0 < mk) ∧ s = ⟨[.v (.int rest), .v (.int (mk : Nat)), .own (.list (ks.map D.int)), x3], []⟩) (by simp (disch := (first | assumption | with_reducible rfl | decide +kernel | exact Or.inl (by decide +kernel) | exact Or.inr (by decide +kernel) | omega | (simp only [List.length_cons, List.length_nil, List.length_append, List.length_map, List.length_replicate, List.length_range] <;> omega) | rfl)) only [evEqs, List.getElem?_cons_zero, List.getElem?_cons_succ, List.getElem?_nil, List.set_cons_zero, List.set_cons_succ, List.map_cons, List.map_nil, List.length_cons, List.length_nil, List.length_append, List.cons_append, List.nil_append, List.length_map, List.length_singleton, Nat.reduceBEq, Nat.reduceAdd, Nat.reduceSub, Nat.reduceMul, Nat.reduceEqDiff, Nat.reduceLeDiff, Nat.reduceLT, if_false, if_true, ite_true, ite_false, ↓reduceIte, Bool.not_true, Bool.not_false, Bool.false_eq_true, decide_true, decide_false, eq_self, and_true, true_and, and_self, Nat.zero_le, Nat.zero_add, Option.bind_some, Option.bind_none, Nat.lt_irrefl, Int.reduceToNat, Int.reducePow, Int.reduceNeg, Int.reduceMul, Int.reduceAdd, Int.reduceSub, Int.reduceLT, Int.reduceLE, Int.reduceEq, beq_self_eq_true, wipeE, MP.at0, MP.at1, MP.at2, MP.atLit]) ?_ ?_ ?_
  · refine ⟨[], (1 + rest).toNat, .un, ⟨List.Pairwise.nil, (fun k hk => by cases hk), Nat.le_refl _⟩, by simp; omega, fun _ => by omega, ?_⟩
    rw [Int.toNat_of_nonneg (by omega)]
    rfl
  · rintro i d s hd ⟨ks, mk, x3, g, hm, hn, rfl⟩
    obtain ⟨rfl, hi⟩ := rngAt hd
    have hkl : (ks.map D.int).length = ks.length := by simp
    have hkb := g.len
    have hm2 : mk / 2 * 2 ^ (i + 1) ≤ 4095 := by
      rw [pw2, Nat.mul_comm (2 ^ i) 2, ← Nat.mul_assoc]
      exact Nat.le_trans (Nat.mul_le_mul_right _ (Nat.div_mul_le_self mk 2)) hm
    have hdv : (mk : Int) / 2 = ((mk / 2 : Nat) : Int) := by omega
    refine ⟨_, b_nm .., ?_⟩
    unfold lp_l_stroke_of_1
    by_cases hb : (mk : Int) % 2 = 1
    · have hb' : ((mk : Int) % 2 = 1) = True := eq_true hb
      simp (disch := (first | assumption | with_reducible rfl | decide +kernel | exact Or.inl (by decide +kernel) | exact Or.inr (by decide +kernel) | omega | (simp only [List.length_cons, List.length_nil, List.length_append, List.length_map, List.length_replicate, List.length_range] <;> omega) | rfl)) only [evEqs, List.getElem?_cons_zero, List.getElem?_cons_succ, List.getElem?_nil, List.set_cons_zero, List.set_cons_succ, List.map_cons, List.map_nil, List.length_cons, List.length_nil, List.length_append, List.cons_append, List.nil_append, List.length_map, List.length_singleton, Nat.reduceBEq, Nat.reduceAdd, Nat.reduceSub, Nat.reduceMul, Nat.reduceEqDiff, Nat.reduceLeDiff, Nat.reduceLT, if_false, if_true, ite_true, ite_false, ↓reduceIte, Bool.not_true, Bool.not_false, Bool.false_eq_true, decide_true, decide_false, eq_self, and_true, true_and, and_self, Nat.zero_le, Nat.zero_add, Option.bind_some, Option.bind_none, Nat.lt_irrefl, Int.reduceToNat, Int.reducePow, Int.reduceNeg, Int.reduceMul, Int.reduceAdd, Int.reduceSub, Int.reduceLT, Int.reduceLE, Int.reduceEq, beq_self_eq_true, wipeE, MP.at0, MP.at1, MP.at2, MP.atLit, hb', hdv]
      exact ⟨ks ++ [(i : Int)], mk / 2, _, g.add, hm2, (fun h => by simp at h), by rw [List.map_append]; rfl⟩
    · simp (disch := (first | assumption | with_reducible rfl | decide +kernel | exact Or.inl (by decide +kernel) | exact Or.inr (by decide +kernel) | omega | (simp only [List.length_cons, List.length_nil, List.length_append, List.length_map, List.length_replicate, List.length_range] <;> omega) | rfl)) only [evEqs, List.getElem?_cons_zero, List.getElem?_cons_succ, List.getElem?_nil, List.set_cons_zero, List.set_cons_succ, List.map_cons, List.map_nil, List.length_cons, List.length_nil, List.length_append, List.cons_append, List.nil_append, List.length_map, List.length_singleton, Nat.reduceBEq, Nat.reduceAdd, Nat.reduceSub, Nat.reduceMul, Nat.reduceEqDiff, Nat.reduceLeDiff, Nat.reduceLT, if_false, if_true, ite_true, ite_false, ↓reduceIte, Bool.not_true, Bool.not_false, Bool.false_eq_true, decide_true, decide_false, eq_self, and_true, true_and, and_self, Nat.zero_le, Nat.zero_add, Option.bind_some, Option.bind_none, Nat.lt_irrefl, Int.reduceToNat, Int.reducePow, Int.reduceNeg, Int.reduceMul, Int.reduceAdd, Int.reduceSub, Int.reduceLT, Int.reduceLE, Int.reduceEq, beq_self_eq_true, wipeE, MP.at0, MP.at1, MP.at2, MP.atLit, hb, hdv]
      exact ⟨ks, mk / 2, _, g.skip, hm2, (fun h => by have := hn h; omega), rfl⟩
  · rintro s ⟨ks, mk, x3, g, hm, hn, rfl⟩
    have hl : (rng 0 (12 : Int)).length = 12 := rfl
    rw [hl] at g hm
    generalize hkd : ks.map D.int = kd
    simp (disch := (first | assumption | with_reducible rfl | decide +kernel | exact Or.inl (by decide +kernel) | exact Or.inr (by decide +kernel) | omega | (simp only [List.length_cons, List.length_nil, List.length_append, List.length_map, List.length_replicate, List.length_range] <;> omega) | rfl)) only [evEqs, List.getElem?_cons_zero, List.getElem?_cons_succ, List.getElem?_nil, List.set_cons_zero, List.set_cons_succ, List.map_cons, List.map_nil, List.length_cons, List.length_nil, List.length_append, List.cons_append, List.nil_append, List.length_map, List.length_singleton, Nat.reduceBEq, Nat.reduceAdd, Nat.reduceSub, Nat.reduceMul, Nat.reduceEqDiff, Nat.reduceLeDiff, Nat.reduceLT, if_false, if_true, ite_true, ite_false, ↓reduceIte, Bool.not_true, Bool.not_false, Bool.false_eq_true, decide_true, decide_false, eq_self, and_true, true_and, and_self, Nat.zero_le, Nat.zero_add, Option.bind_some, Option.bind_none, Nat.lt_irrefl, Int.reduceToNat, Int.reducePow, Int.reduceNeg, Int.reduceMul, Int.reduceAdd, Int.reduceSub, Int.reduceLT, Int.reduceLE, Int.reduceEq, beq_self_eq_true, wipeE, MP.at0, MP.at1, MP.at2, MP.atLit]
    refine ⟨ks, ⟨g, fun h => ?_⟩, by rw [hkd]⟩
    have := hn h
    have : mk * 4096 ≤ 4095 := hm
    omega
theorem m_stroke (c : Int) (wi : Bool) : ∃ ks : List Int, (Ks 12 ks ∧ ks ≠ []) ∧ sem_l_stroke [.int c, .bool wi] [] = .ok (.v (stD ks)) [] := by
  unfold sem_l_stroke stD
  refine run_ex (Q := fun r => ∃ ks : List Int, (Ks 12 ks ∧ ks ≠ []) ∧ r = .ok (.v (.tup (ks.map D.int))) []) [.v (.int c), .v (.bool wi), .un, .un, .un, .un] rfl ?_
  obtain ⟨j, hj, hjx⟩ : ∃ j : Nat, j < 4 ∧ c % 4 = (j : Int) := ⟨(c % 4).toNat, by omega, by omega⟩
  obtain ⟨k0, ⟨g0, n0⟩, e0⟩ : ∃ ks : List Int, (Ks 12 ks ∧ ks ≠ []) ∧ atI [D.tup [.int 0], .tup [.int 1], .tup [.int 0, .int 1], .tup [.int 2, .int 11]] (j : Int) = some (.tup (ks.map D.int)) := by
    rw [atN]
    rcases (by omega : j = 0 ∨ j = 1 ∨ j = 2 ∨ j = 3) with rfl | rfl | rfl | rfl
    · exact ⟨[0], ⟨⟨by simp, by simp, by simp⟩, by simp⟩, rfl⟩
    · exact ⟨[1], ⟨⟨by simp, by simp, by simp⟩, by simp⟩, rfl⟩
    · exact ⟨[0, 1], ⟨⟨by simp, by simp, by simp⟩, by simp⟩, rfl⟩
    · exact ⟨[2, 11], ⟨⟨by simp, by simp, by simp⟩, by simp⟩, rfl⟩
  unfold b_l_stroke
  refine sq (P := fun fl => ∃ ks : List Int, (Ks 12 ks ∧ ks ≠ []) ∧ fl.fr = .ok (.v (.tup (ks.map D.int))) []) (s' := ⟨[.v (.int c), .v (.bool wi), .v (.list [D.tup [.int 0], .tup [.int 1], .tup [.int 0, .int 1], .tup [.int 2, .int 11]]), .un, .un, .un], []⟩) (by simp (disch := (first | assumption | with_reducible rfl | decide +kernel | exact Or.inl (by decide +kernel) | exact Or.inr (by decide +kernel) | omega | (simp only [List.length_cons, List.length_nil, List.length_append, List.length_map, List.length_replicate, List.length_range] <;> omega) | rfl)) only [evEqs, List.getElem?_cons_zero, List.getElem?_cons_succ, List.getElem?_nil, List.set_cons_zero, List.set_cons_succ, List.map_cons, List.map_nil, List.length_cons, List.length_nil, List.length_append, List.cons_append, List.nil_append, List.length_map, List.length_singleton, Nat.reduceBEq, Nat.reduceAdd, Nat.reduceSub, Nat.reduceMul, Nat.reduceEqDiff, Nat.reduceLeDiff, Nat.reduceLT, if_false, if_true, ite_true, ite_false, ↓reduceIte, Bool.not_true, Bool.not_false, Bool.false_eq_true, decide_true, decide_false, eq_self, and_true, true_and, and_self, Nat.zero_le, Nat.zero_add, Option.bind_some, Option.bind_none, Nat.lt_irrefl, Int.reduceToNat, Int.reducePow, Int.reduceNeg, Int.reduceMul, Int.reduceAdd, Int.reduceSub, Int.reduceLT, Int.reduceLE, Int.reduceEq, beq_self_eq_true, wipeE, MP.at0, MP.at1, MP.at2, MP.atLit]) ?_
  cases wi with
  | false =>
    refine ⟨k0, ⟨g0, n0⟩, ?_⟩
    generalize k0.map D.int = kd at *
    simp (disch := (first | assumption | with_reducible rfl | decide +kernel | exact Or.inl (by decide +kernel) | exact Or.inr (by decide +kernel) | omega | (simp only [List.length_cons, List.length_nil, List.length_append, List.length_map, List.length_replicate, List.length_range] <;> omega) | rfl)) only [evEqs, List.getElem?_cons_zero, List.getElem?_cons_succ, List.getElem?_nil, List.set_cons_zero, List.set_cons_succ, List.map_cons, List.map_nil, List.length_cons, List.length_nil, List.length_append, List.cons_append, List.nil_append, List.length_map, List.length_singleton, Nat.reduceBEq, Nat.reduceAdd, Nat.reduceSub, Nat.reduceMul, Nat.reduceEqDiff, Nat.reduceLeDiff, Nat.reduceLT, if_false, if_true, ite_true, ite_false, ↓reduceIte, Bool.not_true, Bool.not_false, Bool.false_eq_true, decide_true, decide_false, eq_self, and_true, true_and, and_self, Nat.zero_le, Nat.zero_add, Option.bind_some, Option.bind_none, Nat.lt_irrefl, Int.reduceToNat, Int.reducePow, Int.reduceNeg, Int.reduceMul, Int.reduceAdd, Int.reduceSub, Int.reduceLT, Int.reduceLE, Int.reduceEq, beq_self_eq_true, wipeE, MP.at0, MP.at1, MP.at2, MP.atLit, hjx, e0]
  | true =>
    obtain ⟨s', e1, ks, bt, x5, g, rfl⟩ := loopE (t := .nm 5) (g := lp_l_stroke_1) (s := ⟨[.v (.int c), .v (.bool true), .v (.list [D.tup [.int 0], .tup [.int 1], .tup [.int 0, .int 1], .tup [.int 2, .int 11]]), .v (.int (c / 4)), .own (.list []), .un], []⟩) (rng 0 (12 : Int)) (fun i s => ∃ (ks : List Int) (bt : Int) (x5 : Slot), Ks i ks ∧ s = ⟨[.v (.int c), .v (.bool true), .v (.list [D.tup [.int 0], .tup [.int 1], .tup [.int 0, .int 1], .tup [.int 2, .int 11]]), .v (.int bt), .own (.list (ks.map D.int)), x5], []⟩) ⟨[], _, _, ⟨List.Pairwise.nil, (fun k hk => by cases hk), Nat.le_refl _⟩, rfl⟩ (by
      rintro i d s hd ⟨ks, bt, x5, g, rfl⟩
      obtain ⟨rfl, hi⟩ := rngAt hd
      have hkl : (ks.map D.int).length = ks.length := by simp
      have hkb := g.len
      refine ⟨_, b_nm .., ?_⟩
      unfold lp_l_stroke_1
      generalize [D.tup [.int 0], .tup [.int 1], .tup [.int 0, .int 1], .tup [.int 2, .int 11]] = four
      by_cases hb : bt % 2 = 1
      · have hb' : (bt % 2 = 1) = True := eq_true hb
        simp (disch := (first | assumption | with_reducible rfl | decide +kernel | exact Or.inl (by decide +kernel) | exact Or.inr (by decide +kernel) | omega | (simp only [List.length_cons, List.length_nil, List.length_append, List.length_map, List.length_replicate, List.length_range] <;> omega) | rfl)) only [evEqs, List.getElem?_cons_zero, List.getElem?_cons_succ, List.getElem?_nil, List.set_cons_zero, List.set_cons_succ, List.map_cons, List.map_nil, List.length_cons, List.length_nil, List.length_append, List.cons_append, List.nil_append, List.length_map, List.length_singleton, Nat.reduceBEq, Nat.reduceAdd, Nat.reduceSub, Nat.reduceMul, Nat.reduceEqDiff, Nat.reduceLeDiff, Nat.reduceLT, if_false, if_true, ite_true, ite_false, ↓reduceIte, Bool.not_true, Bool.not_false, Bool.false_eq_true, decide_true, decide_false, eq_self, and_true, true_and, and_self, Nat.zero_le, Nat.zero_add, Option.bind_some, Option.bind_none, Nat.lt_irrefl, Int.reduceToNat, Int.reducePow, Int.reduceNeg, Int.reduceMul, Int.reduceAdd, Int.reduceSub, Int.reduceLT, Int.reduceLE, Int.reduceEq, beq_self_eq_true, wipeE, MP.at0, MP.at1, MP.at2, MP.atLit, hb']
        exact ⟨ks ++ [(i : Int)], bt / 2, .v (.int (i : Nat)), g.add, by rw [List.map_append]; rfl⟩
      · simp (disch := (first | assumption | with_reducible rfl | decide +kernel | exact Or.inl (by decide +kernel) | exact Or.inr (by decide +kernel) | omega | (simp only [List.length_cons, List.length_nil, List.length_append, List.length_map, List.length_replicate, List.length_range] <;> omega) | rfl)) only [evEqs, List.getElem?_cons_zero, List.getElem?_cons_succ, List.getElem?_nil, List.set_cons_zero, List.set_cons_succ, List.map_cons, List.map_nil, List.length_cons, List.length_nil, List.length_append, List.cons_append, List.nil_append, List.length_map, List.length_singleton, Nat.reduceBEq, Nat.reduceAdd, Nat.reduceSub, Nat.reduceMul, Nat.reduceEqDiff, Nat.reduceLeDiff, Nat.reduceLT, if_false, if_true, ite_true, ite_false, ↓reduceIte, Bool.not_true, Bool.not_false, Bool.false_eq_true, decide_true, decide_false, eq_self, and_true, true_and, and_self, Nat.zero_le, Nat.zero_add, Option.bind_some, Option.bind_none, Nat.lt_irrefl, Int.reduceToNat, Int.reducePow, Int.reduceNeg, Int.reduceMul, Int.reduceAdd, Int.reduceSub, Int.reduceLT, Int.reduceLE, Int.reduceEq, beq_self_eq_true, wipeE, MP.at0, MP.at1, MP.at2, MP.atLit, hb]
        exact ⟨ks, bt / 2, .v (.int (i : Nat)), g.skip, rfl⟩)
    have hl : (rng 0 (12 : Int)).length = 12 := rfl
    rw [hl] at g
    have hkl : (ks.map D.int).length = ks.length := by simp
    generalize hfo : [D.tup [.int 0], .tup [.int 1], .tup [.int 0, .int 1], .tup [.int 2, .int 11]] = four at *
    by_cases hk : ks = []
    · refine ⟨k0, ⟨g0, n0⟩, ?_⟩
      subst hk
      generalize k0.map D.int = kd at *
      have e1 : loopL (.nm 5) lp_l_stroke_1 (rng 0 (12 : Int)) ⟨[.v (.int c), .v (.bool true), .v (.list four), .v (.int (c / 4)), .own (.list []), .un], []⟩ = .nx ⟨[.v (.int c), .v (.bool true), .v (.list four), .v (.int bt), .own (.list []), x5], []⟩ := e1
      simp (disch := (first | assumption | with_reducible rfl | decide +kernel | exact Or.inl (by decide +kernel) | exact Or.inr (by decide +kernel) | omega | (simp only [List.length_cons, List.length_nil, List.length_append, List.length_map, List.length_replicate, List.length_range] <;> omega) | rfl)) only [evEqs, List.getElem?_cons_zero, List.getElem?_cons_succ, List.getElem?_nil, List.set_cons_zero, List.set_cons_succ, List.map_cons, List.map_nil, List.length_cons, List.length_nil, List.length_append, List.cons_append, List.nil_append, List.length_map, List.length_singleton, Nat.reduceBEq, Nat.reduceAdd, Nat.reduceSub, Nat.reduceMul, Nat.reduceEqDiff, Nat.reduceLeDiff, Nat.reduceLT, if_false, if_true, ite_true, ite_false, ↓reduceIte, Bool.not_true, Bool.not_false, Bool.false_eq_true, decide_true, decide_false, eq_self, and_true, true_and, and_self, Nat.zero_le, Nat.zero_add, Option.bind_some, Option.bind_none, Nat.lt_irrefl, Int.reduceToNat, Int.reducePow, Int.reduceNeg, Int.reduceMul, Int.reduceAdd, Int.reduceSub, Int.reduceLT, Int.reduceLE, Int.reduceEq, beq_self_eq_true, wipeE, MP.at0, MP.at1, MP.at2, MP.atLit, hjx, e0, e1]
    · have hp : 0 < ks.length := List.length_pos_iff.mpr hk
      have hp' : (0 : Int) < (ks.length : Int) := by omega
      refine ⟨ks, ⟨g, hk⟩, ?_⟩
      generalize ks.map D.int = kd at *
      simp (disch := (first | assumption | with_reducible rfl | decide +kernel | exact Or.inl (by decide +kernel) | exact Or.inr (by decide +kernel) | omega | (simp only [List.length_cons, List.length_nil, List.length_append, List.length_map, List.length_replicate, List.length_range] <;> omega) | rfl)) only [evEqs, List.getElem?_cons_zero, List.getElem?_cons_succ, List.getElem?_nil, List.set_cons_zero, List.set_cons_succ, List.map_cons, List.map_nil, List.length_cons, List.length_nil, List.length_append, List.cons_append, List.nil_append, List.length_map, List.length_singleton, Nat.reduceBEq, Nat.reduceAdd, Nat.reduceSub, Nat.reduceMul, Nat.reduceEqDiff, Nat.reduceLeDiff, Nat.reduceLT, if_false, if_true, ite_true, ite_false, ↓reduceIte, Bool.not_true, Bool.not_false, Bool.false_eq_true, decide_true, decide_false, eq_self, and_true, true_and, and_self, Nat.zero_le, Nat.zero_add, Option.bind_some, Option.bind_none, Nat.lt_irrefl, Int.reduceToNat, Int.reducePow, Int.reduceNeg, Int.reduceMul, Int.reduceAdd, Int.reduceSub, Int.reduceLT, Int.reduceLE, Int.reduceEq, beq_self_eq_true, wipeE, MP.at0, MP.at1, MP.at2, MP.atLit, e1, hkl, hp']
def lowW (w : List Nat) : Prop := 1 ≤ w.length ∧ w.length ≤ 8 ∧ ∀ c ∈ w, 97 ≤ c ∧ c ≤ 122
theorem lowW.ok {w : List Nat} (h : lowW w) : wordB w = true := by
  unfold wordB
  rw [decide_eq_true h.1, decide_eq_true h.2.1]
  rw [List.all_map]
  refine (Bool.true_and _).trans ((Bool.true_and _).trans (List.all_eq_true.mpr fun c hc => ?_))
  exact decide_eq_true (h.2.2 c hc)
theorem abc_ix (y : Int) : ∃ n : Nat, n < 26 ∧ y % 26 = (n : Int) ∧ gIx (.str "abcdefghijklmnopqrstuvwxyz") (.int (n : Int)) = some ⟨.sh, .str (sw [97 + n])⟩ := by
  refine ⟨(y % 26).toNat, by omega, by omega, ix_abc _ (by omega)⟩
theorem m_name_of (rest : Int) : ∃ w : List Nat, lowW w ∧ sem_l_name_of [.int rest] [] = .ok (.v (.str (sw w))) [] := by
  unfold sem_l_name_of
  refine run_ex (Q := fun r => ∃ w : List Nat, lowW w ∧ r = .ok (.v (.str (sw w))) []) [.v (.int rest), .un, .un, .un] rfl ?_
  obtain ⟨n, hn1, hn8, hnx⟩ : ∃ n : Nat, 1 ≤ n ∧ n ≤ 8 ∧ 1 + rest % 8 = (n : Int) := ⟨(1 + rest % 8).toNat, by omega, by omega, by omega⟩
  unfold b_l_name_of
  refine sq (P := fun fl => ∃ w : List Nat, lowW w ∧ fl.fr = .ok (.v (.str (sw w))) []) (s' := ⟨[.v (.int rest), .v (.str (sw [])), .un, .un], []⟩) (by simp (disch := (first | assumption | with_reducible rfl | decide +kernel | exact Or.inl (by decide +kernel) | exact Or.inr (by decide +kernel) | omega | (simp only [List.length_cons, List.length_nil, List.length_append, List.length_map, List.length_replicate, List.length_range] <;> omega) | rfl)) only [evEqs, List.getElem?_cons_zero, List.getElem?_cons_succ, List.getElem?_nil, List.set_cons_zero, List.set_cons_succ, List.map_cons, List.map_nil, List.length_cons, List.length_nil, List.length_append, List.cons_append, List.nil_append, List.length_map, List.length_singleton, Nat.reduceBEq, Nat.reduceAdd, Nat.reduceSub, Nat.reduceMul, Nat.reduceEqDiff, Nat.reduceLeDiff, Nat.reduceLT, if_false, if_true, ite_true, ite_false, ↓reduceIte, Bool.not_true, Bool.not_false, Bool.false_eq_true, decide_true, decide_false, eq_self, and_true, true_and, and_self, Nat.zero_le, Nat.zero_add, Option.bind_some, Option.bind_none, Nat.lt_irrefl, Int.reduceToNat, Int.reducePow, Int.reduceNeg, Int.reduceMul, Int.reduceAdd, Int.reduceSub, Int.reduceLT, Int.reduceLE, Int.reduceEq, beq_self_eq_true, wipeE, MP.at0, MP.at1, MP.at2, MP.atLit, t_n]) ?_
  refine sq (P := fun fl => ∃ w : List Nat, lowW w ∧ fl.fr = .ok (.v (.str (sw w))) []) (s' := ⟨[.v (.int rest), .v (.str (sw [])), .v (.int (n : Nat)), .un], []⟩) (by simp (disch := (first | assumption | with_reducible rfl | decide +kernel | exact Or.inl (by decide +kernel) | exact Or.inr (by decide +kernel) | omega | (simp only [List.length_cons, List.length_nil, List.length_append, List.length_map, List.length_replicate, List.length_range] <;> omega) | rfl)) only [evEqs, List.getElem?_cons_zero, List.getElem?_cons_succ, List.getElem?_nil, List.set_cons_zero, List.set_cons_succ, List.map_cons, List.map_nil, List.length_cons, List.length_nil, List.length_append, List.cons_append, List.nil_append, List.length_map, List.length_singleton, Nat.reduceBEq, Nat.reduceAdd, Nat.reduceSub, Nat.reduceMul, Nat.reduceEqDiff, Nat.reduceLeDiff, Nat.reduceLT, if_false, if_true, ite_true, ite_false, ↓reduceIte, Bool.not_true, Bool.not_false, Bool.false_eq_true, decide_true, decide_false, eq_self, and_true, true_and, and_self, Nat.zero_le, Nat.zero_add, Option.bind_some, Option.bind_none, Nat.lt_irrefl, Int.reduceToNat, Int.reducePow, Int.reduceNeg, Int.reduceMul, Int.reduceAdd, Int.reduceSub, Int.reduceLT, Int.reduceLE, Int.reduceEq, beq_self_eq_true, wipeE, MP.at0, MP.at1, MP.at2, MP.atLit, hnx]) ?_
  refine sq (P := fun fl => ∃ w : List Nat, lowW w ∧ fl.fr = .ok (.v (.str (sw w))) []) (s' := ⟨[.v (.int (rest / 8)), .v (.str (sw [])), .v (.int (n : Nat)), .un], []⟩) (by simp (disch := (first | assumption | with_reducible rfl | decide +kernel | exact Or.inl (by decide +kernel) | exact Or.inr (by decide +kernel) | omega | (simp only [List.length_cons, List.length_nil, List.length_append, List.length_map, List.length_replicate, List.length_range] <;> omega) | rfl)) only [evEqs, List.getElem?_cons_zero, List.getElem?_cons_succ, List.getElem?_nil, List.set_cons_zero, List.set_cons_succ, List.map_cons, List.map_nil, List.length_cons, List.length_nil, List.length_append, List.cons_append, List.nil_append, List.length_map, List.length_singleton, Nat.reduceBEq, Nat.reduceAdd, Nat.reduceSub, Nat.reduceMul, Nat.reduceEqDiff, Nat.reduceLeDiff, Nat.reduceLT, if_false, if_true, ite_true, ite_false, ↓reduceIte, Bool.not_true, Bool.not_false, Bool.false_eq_true, decide_true, decide_false, eq_self, and_true, true_and, and_self, Nat.zero_le, Nat.zero_add, Option.bind_some, Option.bind_none, Nat.lt_irrefl, Int.reduceToNat, Int.reducePow, Int.reduceNeg, Int.reduceMul, Int.reduceAdd, Int.reduceSub, Int.reduceLT, Int.reduceLE, Int.reduceEq, beq_self_eq_true, wipeE, MP.at0, MP.at1, MP.at2, MP.atLit]) ?_
  refine forP (P := fun fl => ∃ w : List Nat, lowW w ∧ fl.fr = .ok (.v (.str (sw w))) []) (rng 0 (n : Int)) (fun i s => ∃ (w : List Nat) (r : Int) (x3 : Slot), (w.length = i ∧ ∀ c ∈ w, 97 ≤ c ∧ c ≤ 122) ∧ s = ⟨[.v (.int r), .v (.str (sw w)), .v (.int (n : Nat)), x3], []⟩) (by simp (disch := (first | assumption | with_reducible rfl | decide +kernel | exact Or.inl (by decide +kernel) | exact Or.inr (by decide +kernel) | omega | (simp only [List.length_cons, List.length_nil, List.length_append, List.length_map, List.length_replicate, List.length_range] <;> omega) | rfl)) only [evEqs, List.getElem?_cons_zero, List.getElem?_cons_succ, List.getElem?_nil, List.set_cons_zero, List.set_cons_succ, List.map_cons, List.map_nil, List.length_cons, List.length_nil, List.length_append, List.cons_append, List.nil_append, List.length_map, List.length_singleton, Nat.reduceBEq, Nat.reduceAdd, Nat.reduceSub, Nat.reduceMul, Nat.reduceEqDiff, Nat.reduceLeDiff, Nat.reduceLT, if_false, if_true, ite_true, ite_false, ↓reduceIte, Bool.not_true, Bool.not_false, Bool.false_eq_true, decide_true, decide_false, eq_self, and_true, true_and, and_self, Nat.zero_le, Nat.zero_add, Option.bind_some, Option.bind_none, Nat.lt_irrefl, Int.reduceToNat, Int.reducePow, Int.reduceNeg, Int.reduceMul, Int.reduceAdd, Int.reduceSub, Int.reduceLT, Int.reduceLE, Int.reduceEq, beq_self_eq_true, wipeE, MP.at0, MP.at1, MP.at2, MP.atLit]) ⟨[], _, _, ⟨rfl, by simp⟩, rfl⟩ ?_ ?_
  · rintro i d s hd ⟨w, r, x3, ⟨h1, h2⟩, rfl⟩
    obtain ⟨rfl, hi⟩ := rngAt hd
    obtain ⟨a, ha, hax, hix⟩ := abc_ix r
    refine ⟨_, b_nm .., ?_⟩
    unfold lp_l_name_of_1
    simp (disch := (first | assumption | with_reducible rfl | decide +kernel | exact Or.inl (by decide +kernel) | exact Or.inr (by decide +kernel) | omega | (simp only [List.length_cons, List.length_nil, List.length_append, List.length_map, List.length_replicate, List.length_range] <;> omega) | rfl)) only [evEqs, List.getElem?_cons_zero, List.getElem?_cons_succ, List.getElem?_nil, List.set_cons_zero, List.set_cons_succ, List.map_cons, List.map_nil, List.length_cons, List.length_nil, List.length_append, List.cons_append, List.nil_append, List.length_map, List.length_singleton, Nat.reduceBEq, Nat.reduceAdd, Nat.reduceSub, Nat.reduceMul, Nat.reduceEqDiff, Nat.reduceLeDiff, Nat.reduceLT, if_false, if_true, ite_true, ite_false, ↓reduceIte, Bool.not_true, Bool.not_false, Bool.false_eq_true, decide_true, decide_false, eq_self, and_true, true_and, and_self, Nat.zero_le, Nat.zero_add, Option.bind_some, Option.bind_none, Nat.lt_irrefl, Int.reduceToNat, Int.reducePow, Int.reduceNeg, Int.reduceMul, Int.reduceAdd, Int.reduceSub, Int.reduceLT, Int.reduceLE, Int.reduceEq, beq_self_eq_true, wipeE, MP.at0, MP.at1, MP.at2, MP.atLit, hax, hix]
    refine ⟨w ++ [97 + a], r / 26, .v (.int (i : Nat)), ⟨by simp [h1], fun c hc => ?_⟩, rfl⟩
    rcases List.mem_append.mp hc with hc | hc
    · exact h2 c hc
    · rw [List.mem_singleton] at hc
      omega
  · rintro s ⟨w, r, x3, ⟨h1, h2⟩, rfl⟩
    rw [rngLenN] at h1
    simp (disch := (first | assumption | with_reducible rfl | decide +kernel | exact Or.inl (by decide +kernel) | exact Or.inr (by decide +kernel) | omega | (simp only [List.length_cons, List.length_nil, List.length_append, List.length_map, List.length_replicate, List.length_range] <;> omega) | rfl)) only [evEqs, List.getElem?_cons_zero, List.getElem?_cons_succ, List.getElem?_nil, List.set_cons_zero, List.set_cons_succ, List.map_cons, List.map_nil, List.length_cons, List.length_nil, List.length_append, List.cons_append, List.nil_append, List.length_map, List.length_singleton, Nat.reduceBEq, Nat.reduceAdd, Nat.reduceSub, Nat.reduceMul, Nat.reduceEqDiff, Nat.reduceLeDiff, Nat.reduceLT, if_false, if_true, ite_true, ite_false, ↓reduceIte, Bool.not_true, Bool.not_false, Bool.false_eq_true, decide_true, decide_false, eq_self, and_true, true_and, and_self, Nat.zero_le, Nat.zero_add, Option.bind_some, Option.bind_none, Nat.lt_irrefl, Int.reduceToNat, Int.reducePow, Int.reduceNeg, Int.reduceMul, Int.reduceAdd, Int.reduceSub, Int.reduceLT, Int.reduceLE, Int.reduceEq, beq_self_eq_true, wipeE, MP.at0, MP.at1, MP.at2, MP.atLit]
    exact ⟨w, ⟨by omega, by omega, h2⟩, rfl⟩
theorem rep1 (n c : Nat) : (List.replicate n [c]).flatten = List.replicate n c := List.flatten_replicate_singleton
theorem m_names (c : Int) (many : Nat) (h1 : 1 ≤ many) (h20 : many ≤ 20) : ∃ ws : List (List Nat), ws.length = many ∧ (∀ w ∈ ws, lowW w) ∧ ws.Nodup ∧ sem_l_names [.int c, .int (many : Nat)] [] = .ok (.own (.list (ws.map fun w => D.str (sw w)))) [] := by
  unfold sem_l_names
  refine run_ex (Q := fun r => ∃ ws : List (List Nat), ws.length = many ∧ (∀ w ∈ ws, lowW w) ∧ ws.Nodup ∧ r = .ok (.own (.list (ws.map fun w => D.str (sw w)))) []) [.v (.int c), .v (.int (many : Nat)), .un, .un, .un, .un, .un, .un, .un] rfl ?_
  obtain ⟨a, ha, hax, hix⟩ := abc_ix (c / 3)
  unfold b_l_names
  refine sq (P := fun fl => ∃ ws : List (List Nat), ws.length = many ∧ (∀ w ∈ ws, lowW w) ∧ ws.Nodup ∧ fl.fr = .ok (.own (.list (ws.map fun w => D.str (sw w)))) []) (s' := ⟨[.v (.int c), .v (.int (many : Nat)), .v (.str "abcdefghijklmnopqrstuvwxyz"), .un, .un, .un, .un, .un, .un], []⟩) (by simp (disch := (first | assumption | with_reducible rfl | decide +kernel | exact Or.inl (by decide +kernel) | exact Or.inr (by decide +kernel) | omega | (simp only [List.length_cons, List.length_nil, List.length_append, List.length_map, List.length_replicate, List.length_range] <;> omega) | rfl)) only [evEqs, List.getElem?_cons_zero, List.getElem?_cons_succ, List.getElem?_nil, List.set_cons_zero, List.set_cons_succ, List.map_cons, List.map_nil, List.length_cons, List.length_nil, List.length_append, List.cons_append, List.nil_append, List.length_map, List.length_singleton, Nat.reduceBEq, Nat.reduceAdd, Nat.reduceSub, Nat.reduceMul, Nat.reduceEqDiff, Nat.reduceLeDiff, Nat.reduceLT, if_false, if_true, ite_true, ite_false, ↓reduceIte, Bool.not_true, Bool.not_false, Bool.false_eq_true, decide_true, decide_false, eq_self, and_true, true_and, and_self, Nat.zero_le, Nat.zero_add, Option.bind_some, Option.bind_none, Nat.lt_irrefl, Int.reduceToNat, Int.reducePow, Int.reduceNeg, Int.reduceMul, Int.reduceAdd, Int.reduceSub, Int.reduceLT, Int.reduceLE, Int.reduceEq, beq_self_eq_true, wipeE, MP.at0, MP.at1, MP.at2, MP.atLit]) ?_
  refine sq (P := fun fl => ∃ ws : List (List Nat), ws.length = many ∧ (∀ w ∈ ws, lowW w) ∧ ws.Nodup ∧ fl.fr = .ok (.own (.list (ws.map fun w => D.str (sw w)))) []) (s' := ⟨[.v (.int c), .v (.int (many : Nat)), .v (.str "abcdefghijklmnopqrstuvwxyz"), .v (.str (sw [97 + a])), .un, .un, .un, .un, .un], []⟩) (by simp (disch := (first | assumption | with_reducible rfl | decide +kernel | exact Or.inl (by decide +kernel) | exact Or.inr (by decide +kernel) | omega | (simp only [List.length_cons, List.length_nil, List.length_append, List.length_map, List.length_replicate, List.length_range] <;> omega) | rfl)) only [evEqs, List.getElem?_cons_zero, List.getElem?_cons_succ, List.getElem?_nil, List.set_cons_zero, List.set_cons_succ, List.map_cons, List.map_nil, List.length_cons, List.length_nil, List.length_append, List.cons_append, List.nil_append, List.length_map, List.length_singleton, Nat.reduceBEq, Nat.reduceAdd, Nat.reduceSub, Nat.reduceMul, Nat.reduceEqDiff, Nat.reduceLeDiff, Nat.reduceLT, if_false, if_true, ite_true, ite_false, ↓reduceIte, Bool.not_true, Bool.not_false, Bool.false_eq_true, decide_true, decide_false, eq_self, and_true, true_and, and_self, Nat.zero_le, Nat.zero_add, Option.bind_some, Option.bind_none, Nat.lt_irrefl, Int.reduceToNat, Int.reducePow, Int.reduceNeg, Int.reduceMul, Int.reduceAdd, Int.reduceSub, Int.reduceLT, Int.reduceLE, Int.reduceEq, beq_self_eq_true, wipeE, MP.at0, MP.at1, MP.at2, MP.atLit, hax, hix]) ?_
  by_cases hc : c % 3 = 0 ∧ many < 9
  · have hc1 : (c % 3 = 0) = True := eq_true hc.1
    have hc2 : (many : Int) < 9 := by omega
    have hcomp : compL (.nm 7) pYes (pD (p2 gRepS (pVar 3) (p2 gPlus (pVar 7) (pC (.int 1))))) ⟨[.v (.int c), .v (.int (many : Nat)), .v (.str "abcdefghijklmnopqrstuvwxyz"), .v (.str (sw [97 + a])), .un, .un, .un, .un, .un], []⟩ (rng 0 (many : Int)) = .ok (((List.range many).map fun k => List.replicate (k + 1) (97 + a)).map fun w => D.str (sw w)) := by
      rw [rng_0, List.map_map]
      refine compM _ _ fun k hk => ⟨_, b_nm .., ?_⟩
      have hk := List.mem_range.mp hk
      have e : gRepS (.str (sw [97 + a])) (.int ((k : Int) + 1)) = some ⟨.sh, .str (sw (List.replicate (k + 1) (97 + a)))⟩ := by
        rw [g_repW ⟨by omega, by omega, by simp; omega⟩, show ((k : Int) + 1).toNat = k + 1 by omega, rep1]
      show _ = PR.ok (D.str (sw (List.replicate (k + 1) (97 + a))))
      simp (disch := (first | assumption | with_reducible rfl | decide +kernel | exact Or.inl (by decide +kernel) | exact Or.inr (by decide +kernel) | omega | (simp only [List.length_cons, List.length_nil, List.length_append, List.length_map, List.length_replicate, List.length_range] <;> omega) | rfl)) only [evEqs, List.getElem?_cons_zero, List.getElem?_cons_succ, List.getElem?_nil, List.set_cons_zero, List.set_cons_succ, List.map_cons, List.map_nil, List.length_cons, List.length_nil, List.length_append, List.cons_append, List.nil_append, List.length_map, List.length_singleton, Nat.reduceBEq, Nat.reduceAdd, Nat.reduceSub, Nat.reduceMul, Nat.reduceEqDiff, Nat.reduceLeDiff, Nat.reduceLT, if_false, if_true, ite_true, ite_false, ↓reduceIte, Bool.not_true, Bool.not_false, Bool.false_eq_true, decide_true, decide_false, eq_self, and_true, true_and, and_self, Nat.zero_le, Nat.zero_add, Option.bind_some, Option.bind_none, Nat.lt_irrefl, Int.reduceToNat, Int.reducePow, Int.reduceNeg, Int.reduceMul, Int.reduceAdd, Int.reduceSub, Int.reduceLT, Int.reduceLE, Int.reduceEq, beq_self_eq_true, wipeE, MP.at0, MP.at1, MP.at2, MP.atLit, e]
    refine ⟨(List.range many).map fun k => List.replicate (k + 1) (97 + a), by simp, fun w hw => ?_, ?_, ?_⟩
    · obtain ⟨k, hk, rfl⟩ := List.mem_map.mp hw
      have hk := List.mem_range.mp hk
      refine ⟨by simp, by simp; omega, fun c hc => ?_⟩
      have := (List.mem_replicate.mp hc).2
      omega
    · refine List.pairwise_map.mpr (List.nodup_range.imp fun {x y} h e => h ?_)
      have := congrArg List.length e
      simp at this
      exact this
    · generalize ((List.range many).map fun k => List.replicate (k + 1) (97 + a)).map (fun w => D.str (sw w)) = wd at *
      have hmb : (many : Int) < 4611686018427387904 := by omega
      have hml := rngLenN many
      simp (disch := (first | assumption | with_reducible rfl | decide +kernel | exact Or.inl (by decide +kernel) | exact Or.inr (by decide +kernel) | omega | (simp only [List.length_cons, List.length_nil, List.length_append, List.length_map, List.length_replicate, List.length_range] <;> omega) | rfl)) only [evEqs, List.getElem?_cons_zero, List.getElem?_cons_succ, List.getElem?_nil, List.set_cons_zero, List.set_cons_succ, List.map_cons, List.map_nil, List.length_cons, List.length_nil, List.length_append, List.cons_append, List.nil_append, List.length_map, List.length_singleton, Nat.reduceBEq, Nat.reduceAdd, Nat.reduceSub, Nat.reduceMul, Nat.reduceEqDiff, Nat.reduceLeDiff, Nat.reduceLT, if_false, if_true, ite_true, ite_false, ↓reduceIte, Bool.not_true, Bool.not_false, Bool.false_eq_true, decide_true, decide_false, eq_self, and_true, true_and, and_self, Nat.zero_le, Nat.zero_add, Option.bind_some, Option.bind_none, Nat.lt_irrefl, Int.reduceToNat, Int.reducePow, Int.reduceNeg, Int.reduceMul, Int.reduceAdd, Int.reduceSub, Int.reduceLT, Int.reduceLE, Int.reduceEq, beq_self_eq_true, wipeE, MP.at0, MP.at1, MP.at2, MP.atLit, hc1, hc2, hcomp]
  · obtain ⟨z, hz, hzx⟩ : ∃ z : Nat, z < 8 ∧ c / 78 % 8 = (z : Int) := ⟨(c / 78 % 8).toNat, by omega, by omega⟩
    obtain ⟨t, ht, htx⟩ : ∃ t : Nat, t ≤ z ∧ c / 624 % ((z : Int) + 1) = (t : Int) := ⟨(c / 624 % ((z : Int) + 1)).toNat, by
      have p := Int.emod_nonneg (c / 624) (show ((z : Int) + 1) ≠ 0 by omega)
      have q := Int.emod_lt_of_pos (c / 624) (show (0 : Int) < (z : Int) + 1 by omega)
      omega, by
      have p := Int.emod_nonneg (c / 624) (show ((z : Int) + 1) ≠ 0 by omega)
      omega⟩
    refine sq (P := fun fl => ∃ ws : List (List Nat), ws.length = many ∧ (∀ w ∈ ws, lowW w) ∧ ws.Nodup ∧ fl.fr = .ok (.own (.list (ws.map fun w => D.str (sw w)))) []) (s' := ⟨[.v (.int c), .v (.int (many : Nat)), .v (.str "abcdefghijklmnopqrstuvwxyz"), .v (.str (sw [97 + a])), .un, .un, .un, .un, .un], []⟩) (by
      by_cases hc1 : c % 3 = 0
      · have hc2 : ¬ (many : Int) < 9 := by omega
        have hc1 : (c % 3 = 0) = True := eq_true hc1
        simp (disch := (first | assumption | with_reducible rfl | decide +kernel | exact Or.inl (by decide +kernel) | exact Or.inr (by decide +kernel) | omega | (simp only [List.length_cons, List.length_nil, List.length_append, List.length_map, List.length_replicate, List.length_range] <;> omega) | rfl)) only [evEqs, List.getElem?_cons_zero, List.getElem?_cons_succ, List.getElem?_nil, List.set_cons_zero, List.set_cons_succ, List.map_cons, List.map_nil, List.length_cons, List.length_nil, List.length_append, List.cons_append, List.nil_append, List.length_map, List.length_singleton, Nat.reduceBEq, Nat.reduceAdd, Nat.reduceSub, Nat.reduceMul, Nat.reduceEqDiff, Nat.reduceLeDiff, Nat.reduceLT, if_false, if_true, ite_true, ite_false, ↓reduceIte, Bool.not_true, Bool.not_false, Bool.false_eq_true, decide_true, decide_false, eq_self, and_true, true_and, and_self, Nat.zero_le, Nat.zero_add, Option.bind_some, Option.bind_none, Nat.lt_irrefl, Int.reduceToNat, Int.reducePow, Int.reduceNeg, Int.reduceMul, Int.reduceAdd, Int.reduceSub, Int.reduceLT, Int.reduceLE, Int.reduceEq, beq_self_eq_true, wipeE, MP.at0, MP.at1, MP.at2, MP.atLit, hc1, hc2]
      · simp (disch := (first | assumption | with_reducible rfl | decide +kernel | exact Or.inl (by decide +kernel) | exact Or.inr (by decide +kernel) | omega | (simp only [List.length_cons, List.length_nil, List.length_append, List.length_map, List.length_replicate, List.length_range] <;> omega) | rfl)) only [evEqs, List.getElem?_cons_zero, List.getElem?_cons_succ, List.getElem?_nil, List.set_cons_zero, List.set_cons_succ, List.map_cons, List.map_nil, List.length_cons, List.length_nil, List.length_append, List.cons_append, List.nil_append, List.length_map, List.length_singleton, Nat.reduceBEq, Nat.reduceAdd, Nat.reduceSub, Nat.reduceMul, Nat.reduceEqDiff, Nat.reduceLeDiff, Nat.reduceLT, if_false, if_true, ite_true, ite_false, ↓reduceIte, Bool.not_true, Bool.not_false, Bool.false_eq_true, decide_true, decide_false, eq_self, and_true, true_and, and_self, Nat.zero_le, Nat.zero_add, Option.bind_some, Option.bind_none, Nat.lt_irrefl, Int.reduceToNat, Int.reducePow, Int.reduceNeg, Int.reduceMul, Int.reduceAdd, Int.reduceSub, Int.reduceLT, Int.reduceLE, Int.reduceEq, beq_self_eq_true, wipeE, MP.at0, MP.at1, MP.at2, MP.atLit, hc1]) ?_
    refine sq (P := fun fl => ∃ ws : List (List Nat), ws.length = many ∧ (∀ w ∈ ws, lowW w) ∧ ws.Nodup ∧ fl.fr = .ok (.own (.list (ws.map fun w => D.str (sw w)))) []) (s' := ⟨[.v (.int c), .v (.int (many : Nat)), .v (.str "abcdefghijklmnopqrstuvwxyz"), .v (.str (sw [97 + a])), .v (.int (z : Nat)), .un, .un, .un, .un], []⟩) (by simp (disch := (first | assumption | with_reducible rfl | decide +kernel | exact Or.inl (by decide +kernel) | exact Or.inr (by decide +kernel) | omega | (simp only [List.length_cons, List.length_nil, List.length_append, List.length_map, List.length_replicate, List.length_range] <;> omega) | rfl)) only [evEqs, List.getElem?_cons_zero, List.getElem?_cons_succ, List.getElem?_nil, List.set_cons_zero, List.set_cons_succ, List.map_cons, List.map_nil, List.length_cons, List.length_nil, List.length_append, List.cons_append, List.nil_append, List.length_map, List.length_singleton, Nat.reduceBEq, Nat.reduceAdd, Nat.reduceSub, Nat.reduceMul, Nat.reduceEqDiff, Nat.reduceLeDiff, Nat.reduceLT, if_false, if_true, ite_true, ite_false, ↓reduceIte, Bool.not_true, Bool.not_false, Bool.false_eq_true, decide_true, decide_false, eq_self, and_true, true_and, and_self, Nat.zero_le, Nat.zero_add, Option.bind_some, Option.bind_none, Nat.lt_irrefl, Int.reduceToNat, Int.reducePow, Int.reduceNeg, Int.reduceMul, Int.reduceAdd, Int.reduceSub, Int.reduceLT, Int.reduceLE, Int.reduceEq, beq_self_eq_true, wipeE, MP.at0, MP.at1, MP.at2, MP.atLit, hzx]) ?_
    refine sq (P := fun fl => ∃ ws : List (List Nat), ws.length = many ∧ (∀ w ∈ ws, lowW w) ∧ ws.Nodup ∧ fl.fr = .ok (.own (.list (ws.map fun w => D.str (sw w)))) []) (s' := ⟨[.v (.int c), .v (.int (many : Nat)), .v (.str "abcdefghijklmnopqrstuvwxyz"), .v (.str (sw [97 + a])), .v (.int (z : Nat)), .v (.int (t : Nat)), .un, .un, .un], []⟩) (by simp (disch := (first | assumption | with_reducible rfl | decide +kernel | exact Or.inl (by decide +kernel) | exact Or.inr (by decide +kernel) | omega | (simp only [List.length_cons, List.length_nil, List.length_append, List.length_map, List.length_replicate, List.length_range] <;> omega) | rfl)) only [evEqs, List.getElem?_cons_zero, List.getElem?_cons_succ, List.getElem?_nil, List.set_cons_zero, List.set_cons_succ, List.map_cons, List.map_nil, List.length_cons, List.length_nil, List.length_append, List.cons_append, List.nil_append, List.length_map, List.length_singleton, Nat.reduceBEq, Nat.reduceAdd, Nat.reduceSub, Nat.reduceMul, Nat.reduceEqDiff, Nat.reduceLeDiff, Nat.reduceLT, if_false, if_true, ite_true, ite_false, ↓reduceIte, Bool.not_true, Bool.not_false, Bool.false_eq_true, decide_true, decide_false, eq_self, and_true, true_and, and_self, Nat.zero_le, Nat.zero_add, Option.bind_some, Option.bind_none, Nat.lt_irrefl, Int.reduceToNat, Int.reducePow, Int.reduceNeg, Int.reduceMul, Int.reduceAdd, Int.reduceSub, Int.reduceLT, Int.reduceLE, Int.reduceEq, beq_self_eq_true, wipeE, MP.at0, MP.at1, MP.at2, MP.atLit, htx]) ?_
    refine sq (P := fun fl => ∃ ws : List (List Nat), ws.length = many ∧ (∀ w ∈ ws, lowW w) ∧ ws.Nodup ∧ fl.fr = .ok (.own (.list (ws.map fun w => D.str (sw w)))) []) (s' := ⟨[.v (.int c), .v (.int (many : Nat)), .v (.str "abcdefghijklmnopqrstuvwxyz"), .v (.str (sw [97 + a])), .v (.int (z : Nat)), .v (.int (t : Nat)), .own (.list []), .un, .un], []⟩) (by simp (disch := (first | assumption | with_reducible rfl | decide +kernel | exact Or.inl (by decide +kernel) | exact Or.inr (by decide +kernel) | omega | (simp only [List.length_cons, List.length_nil, List.length_append, List.length_map, List.length_replicate, List.length_range] <;> omega) | rfl)) only [evEqs, List.getElem?_cons_zero, List.getElem?_cons_succ, List.getElem?_nil, List.set_cons_zero, List.set_cons_succ, List.map_cons, List.map_nil, List.length_cons, List.length_nil, List.length_append, List.cons_append, List.nil_append, List.length_map, List.length_singleton, Nat.reduceBEq, Nat.reduceAdd, Nat.reduceSub, Nat.reduceMul, Nat.reduceEqDiff, Nat.reduceLeDiff, Nat.reduceLT, if_false, if_true, ite_true, ite_false, ↓reduceIte, Bool.not_true, Bool.not_false, Bool.false_eq_true, decide_true, decide_false, eq_self, and_true, true_and, and_self, Nat.zero_le, Nat.zero_add, Option.bind_some, Option.bind_none, Nat.lt_irrefl, Int.reduceToNat, Int.reducePow, Int.reduceNeg, Int.reduceMul, Int.reduceAdd, Int.reduceSub, Int.reduceLT, Int.reduceLE, Int.reduceEq, beq_self_eq_true, wipeE, MP.at0, MP.at1, MP.at2, MP.atLit]) ?_
    obtain ⟨o, ho⟩ : ∃ o : Nat → Nat, ∀ k, o k = (((k : Int) * 7 + c / 5616) % 26).toNat := ⟨_, fun k => rfl⟩
    obtain ⟨f, hf⟩ : ∃ f : Nat → List Nat, ∀ k, f k = List.replicate t (97 + a) ++ [97 + o k] ++ List.replicate (z - t) (97 + a) := ⟨_, fun k => rfl⟩
    have hlow : ∀ w ∈ (List.range many).map f, lowW w := fun w hw => by
      obtain ⟨k, hk, rfl⟩ := List.mem_map.mp hw
      rw [hf]
      refine ⟨by simp; omega, by simp; omega, fun x hx => ?_⟩
      have ho' := ho k
      rcases List.mem_append.mp hx with hx | hx
      · rcases List.mem_append.mp hx with hx | hx
        · have := (List.mem_replicate.mp hx).2
          omega
        · rw [List.mem_singleton] at hx
          omega
      · have := (List.mem_replicate.mp hx).2
        omega
    have hnd : ((List.range many).map f).Nodup := by
      refine List.pairwise_map.mpr ((List.pairwise_lt_range).imp_of_mem fun {x y} hx hy h e => ?_)
      have hx := List.mem_range.mp hx
      have hy := List.mem_range.mp hy
      rw [hf, hf, List.append_assoc, List.append_assoc] at e
      have e2 := List.append_cancel_left e
      injection e2 with e3 e4
      have h1 := ho x
      have h2 := ho y
      omega
    refine forP (P := fun fl => ∃ ws : List (List Nat), ws.length = many ∧ (∀ w ∈ ws, lowW w) ∧ ws.Nodup ∧ fl.fr = .ok (.own (.list (ws.map fun w => D.str (sw w)))) []) (rng 0 (many : Int)) (fun i s => ∃ x7 x8 : Slot, s = ⟨[.v (.int c), .v (.int (many : Nat)), .v (.str "abcdefghijklmnopqrstuvwxyz"), .v (.str (sw [97 + a])), .v (.int (z : Nat)), .v (.int (t : Nat)), .own (.list (((List.range i).map f).map fun w => D.str (sw w))), x7, x8], []⟩) (by simp (disch := (first | assumption | with_reducible rfl | decide +kernel | exact Or.inl (by decide +kernel) | exact Or.inr (by decide +kernel) | omega | (simp only [List.length_cons, List.length_nil, List.length_append, List.length_map, List.length_replicate, List.length_range] <;> omega) | rfl)) only [evEqs, List.getElem?_cons_zero, List.getElem?_cons_succ, List.getElem?_nil, List.set_cons_zero, List.set_cons_succ, List.map_cons, List.map_nil, List.length_cons, List.length_nil, List.length_append, List.cons_append, List.nil_append, List.length_map, List.length_singleton, Nat.reduceBEq, Nat.reduceAdd, Nat.reduceSub, Nat.reduceMul, Nat.reduceEqDiff, Nat.reduceLeDiff, Nat.reduceLT, if_false, if_true, ite_true, ite_false, ↓reduceIte, Bool.not_true, Bool.not_false, Bool.false_eq_true, decide_true, decide_false, eq_self, and_true, true_and, and_self, Nat.zero_le, Nat.zero_add, Option.bind_some, Option.bind_none, Nat.lt_irrefl, Int.reduceToNat, Int.reducePow, Int.reduceNeg, Int.reduceMul, Int.reduceAdd, Int.reduceSub, Int.reduceLT, Int.reduceLE, Int.reduceEq, beq_self_eq_true, wipeE, MP.at0, MP.at1, MP.at2, MP.atLit]) ⟨_, _, rfl⟩ ?_ ?_
    · rintro k d s hd ⟨x7, x8, rfl⟩
      obtain ⟨rfl, hk⟩ := rngAt hd
      obtain ⟨n, hn, hnx, hni⟩ := abc_ix ((k : Int) * 7 + c / 5616)
      have hno : n = o k := by rw [ho]; omega
      have hdl : (((List.range k).map f).map fun w => D.str (sw w)).length = k := by simp
      have e1 : gRepS (.str (sw [97 + a])) (.int (t : Int)) = some ⟨.sh, .str (sw (List.replicate t (97 + a)))⟩ := by
        rw [g_repW ⟨by omega, by omega, by simp; omega⟩, Int.toNat_natCast, rep1]
      have e2 : gRepS (.str (sw [97 + a])) (.int ((z : Int) - t)) = some ⟨.sh, .str (sw (List.replicate (z - t) (97 + a)))⟩ := by
        rw [g_repW ⟨by omega, by omega, by simp; omega⟩, show ((z : Int) - t).toNat = z - t by omega, rep1]
      have hr1 : (List.replicate t (97 + a)).length ≤ 8 := by simp; omega
      have hr2 : (List.replicate (z - t) (97 + a)).length ≤ 8 := by simp; omega
      have hr3 : (List.replicate t (97 + a) ++ [97 + n]).length ≤ 9 := by simp; omega
      refine ⟨_, b_nm .., ?_⟩
      unfold lp_l_names_1
      rw [show (List.range (k + 1)).map f = (List.range k).map f ++ [f k] by rw [List.range_succ, List.map_append]; rfl, List.map_append, hf, ← hno]
      generalize ((List.range k).map f).map (fun w => D.str (sw w)) = wd at *
      generalize List.replicate t (97 + a) = r1 at *
      generalize List.replicate (z - t) (97 + a) = r2 at *
      simp (disch := (first | assumption | with_reducible rfl | decide +kernel | exact Or.inl (by decide +kernel) | exact Or.inr (by decide +kernel) | omega | (simp only [List.length_cons, List.length_nil, List.length_append, List.length_map, List.length_replicate, List.length_range] <;> omega) | rfl)) only [evEqs, List.getElem?_cons_zero, List.getElem?_cons_succ, List.getElem?_nil, List.set_cons_zero, List.set_cons_succ, List.map_cons, List.map_nil, List.length_cons, List.length_nil, List.length_append, List.cons_append, List.nil_append, List.length_map, List.length_singleton, Nat.reduceBEq, Nat.reduceAdd, Nat.reduceSub, Nat.reduceMul, Nat.reduceEqDiff, Nat.reduceLeDiff, Nat.reduceLT, if_false, if_true, ite_true, ite_false, ↓reduceIte, Bool.not_true, Bool.not_false, Bool.false_eq_true, decide_true, decide_false, eq_self, and_true, true_and, and_self, Nat.zero_le, Nat.zero_add, Option.bind_some, Option.bind_none, Nat.lt_irrefl, Int.reduceToNat, Int.reducePow, Int.reduceNeg, Int.reduceMul, Int.reduceAdd, Int.reduceSub, Int.reduceLT, Int.reduceLE, Int.reduceEq, beq_self_eq_true, wipeE, MP.at0, MP.at1, MP.at2, MP.atLit, hnx, hni, e1, e2]
      exact ⟨_, _, rfl⟩
    · rintro s ⟨x7, x8, rfl⟩
      rw [rngLenN]
      refine ⟨(List.range many).map f, by simp, hlow, hnd, ?_⟩
      generalize ((List.range many).map f).map (fun w => D.str (sw w)) = wd
      simp (disch := (first | assumption | with_reducible rfl | decide +kernel | exact Or.inl (by decide +kernel) | exact Or.inr (by decide +kernel) | omega | (simp only [List.length_cons, List.length_nil, List.length_append, List.length_map, List.length_replicate, List.length_range] <;> omega) | rfl)) only [evEqs, List.getElem?_cons_zero, List.getElem?_cons_succ, List.getElem?_nil, List.set_cons_zero, List.set_cons_succ, List.map_cons, List.map_nil, List.length_cons, List.length_nil, List.length_append, List.cons_append, List.nil_append, List.length_map, List.length_singleton, Nat.reduceBEq, Nat.reduceAdd, Nat.reduceSub, Nat.reduceMul, Nat.reduceEqDiff, Nat.reduceLeDiff, Nat.reduceLT, if_false, if_true, ite_true, ite_false, ↓reduceIte, Bool.not_true, Bool.not_false, Bool.false_eq_true, decide_true, decide_false, eq_self, and_true, true_and, and_self, Nat.zero_le, Nat.zero_add, Option.bind_some, Option.bind_none, Nat.lt_irrefl, Int.reduceToNat, Int.reducePow, Int.reduceNeg, Int.reduceMul, Int.reduceAdd, Int.reduceSub, Int.reduceLT, Int.reduceLE, Int.reduceEq, beq_self_eq_true, wipeE, MP.at0, MP.at1, MP.at2, MP.atLit]
structure Gd (b : Bk) : Prop where
  len1 : 1 ≤ b.length
  len20 : b.length ≤ 20
  low : ∀ e ∈ b, lowW e.1
  st : ∀ e ∈ b, 1 ≤ e.2.length ∧ e.2.length ≤ 6 ∧ ∀ s ∈ e.2, strokeB s = true ∧ s.length ≤ 12
  nd : (b.map Prod.fst).Nodup
theorem Gd.ent {b : Bk} (g : Gd b) (i : Nat) (hi : i < b.length) : entB b i = true := by
  have hm : b.getD i ([], []) ∈ b := by
    rw [List.getD_eq_getElem?_getD, List.getElem?_eq_getElem hi]
    exact List.getElem_mem hi
  have he : b.getD i ([], []) = b[i] := by rw [List.getD_eq_getElem?_getD, List.getElem?_eq_getElem hi]; rfl
  obtain ⟨h2, h3, h4⟩ := g.st _ hm
  have hn : (b.getD i ([], [])).1 ∉ (b.take i).map Prod.fst := fun hx => by
    have hs : b = b.take i ++ b[i] :: b.drop (i + 1) := by rw [List.getElem_cons_drop, List.take_append_drop]
    have nd := g.nd
    rw [hs, List.map_append, List.map_cons] at nd
    rw [he] at hx
    exact (List.nodup_append.mp nd).2.2 _ hx _ (List.mem_cons_self ..) rfl
  unfold entB
  rw [(g.low _ hm).ok, decide_eq_false hn, decide_eq_true h2, decide_eq_true h3, List.all_eq_true.mpr fun s hs => (h4 s hs).1]
  rfl
/-- strokes, drawn -/
def Sts (n : Nat) (ss : List (List Int)) : Prop := ss.length = n ∧ ∀ s ∈ ss, strokeB s = true ∧ s.length ≤ 12
theorem Sts.add {n : Nat} {ss : List (List Int)} (g : Sts n ss) {ks : List Int} (h : Ks 12 ks) (hn : ks ≠ []) : Sts (n + 1) (ss ++ [ks]) := by
  refine ⟨by simp [g.1], fun s hs => ?_⟩
  rcases List.mem_append.mp hs with hs | hs
  · exact g.2 s hs
  · rw [List.mem_singleton] at hs
    subst hs
    exact ⟨h.stroke hn, h.len⟩
/-- words drawn so far -/
structure Gp (i : Nat) (b : Bk) : Prop where
  len : b.length ≤ i
  low : ∀ e ∈ b, lowW e.1
  st : ∀ e ∈ b, 1 ≤ e.2.length ∧ e.2.length ≤ 6 ∧ ∀ s ∈ e.2, strokeB s = true ∧ s.length ≤ 12
  nd : (b.map Prod.fst).Nodup
  ne : 0 < i → 0 < b.length
theorem Gp.nil : Gp 0 [] := ⟨Nat.le_refl _, (fun e he => by cases he), (fun e he => by cases he), List.nodup_nil, fun h => h⟩
theorem Gp.add {i : Nat} {b : Bk} (g : Gp i b) {w : List Nat} {ss : List (List Int)} {n : Nat} (hw : lowW w) (hs : Sts n ss) (h1 : 1 ≤ n) (h6 : n ≤ 6) (hn : w ∉ b.map Prod.fst) : Gp (i + 1) (b ++ [(w, ss)]) := by
  refine ⟨by have := g.len; simp; omega, fun e he => ?_, fun e he => ?_, ?_, fun _ => by simp⟩
  · rcases List.mem_append.mp he with he | he
    · exact g.low e he
    · rw [List.mem_singleton] at he
      exact he ▸ hw
  · rcases List.mem_append.mp he with he | he
    · exact g.st e he
    · rw [List.mem_singleton] at he
      subst he
      exact ⟨by show 1 ≤ ss.length; rw [hs.1]; exact h1, by show ss.length ≤ 6; rw [hs.1]; exact h6, hs.2⟩
  · rw [List.map_append]
    refine List.nodup_append.mpr ⟨g.nd, by simp, fun a ha b' hb => ?_⟩
    have hb : b' = w := by simpa using hb
    subst hb
    exact fun e => hn (e ▸ ha)
theorem Gp.skip {i : Nat} {b : Bk} (g : Gp i b) (h : 0 < b.length) : Gp (i + 1) b := ⟨by have := g.len; omega, g.low, g.st, g.nd, fun _ => h⟩
theorem Gp.gd {i : Nat} {b : Bk} (g : Gp i b) (h0 : 0 < i) (h : i ≤ 20) : Gd b := ⟨g.ne h0, by have := g.len; omega, g.low, g.st, g.nd⟩
theorem st_one (ks : List Int) (ss : List (List Int)) : ss.map stD ++ [stD ks] = (ss ++ [ks]).map stD := by rw [List.map_append]; rfl
theorem m_rb_in (xs : List D) (x1 x2 x3 x0 : Slot) (n : Nat) (hn : n ≤ 6) (r : Int) : ∃ (ss : List (List Int)) (x5 x6 : Slot), Sts n ss ∧ loopL (.nm 6) lp_l_read_book_1 (rng 0 (n : Int)) ⟨[.v (.list xs), x1, x2, x3, .own (.list []), .v (.int r), x0, .un, .un], []⟩ = .nx ⟨[.v (.list xs), x1, x2, x3, .own (.list (ss.map stD)), x5, x6, .un, .un], []⟩ := by
  obtain ⟨s', e1, ss, r', x6, g, rfl⟩ := loopE (t := .nm 6) (g := lp_l_read_book_1) (s := ⟨[.v (.list xs), x1, x2, x3, .own (.list []), .v (.int r), x0, .un, .un], []⟩) (rng 0 (n : Int)) (fun i s => ∃ (ss : List (List Int)) (r' : Int) (x6 : Slot), Sts i ss ∧ s = ⟨[.v (.list xs), x1, x2, x3, .own (.list (ss.map stD)), .v (.int r'), x6, .un, .un], []⟩) ⟨[], r, x0, ⟨rfl, (fun s hs => by cases hs)⟩, rfl⟩ (by
    rintro i d s hd ⟨ss, r', x6, g, rfl⟩
    obtain ⟨rfl, hi⟩ := rngAt hd
    obtain ⟨ks, ⟨h1, h2⟩, e⟩ := m_stroke_of (r' % 4095) (by omega) (by omega)
    have hsl : (ss.map stD).length = i := by simp [g.1]
    refine ⟨_, b_nm .., ?_⟩
    unfold lp_l_read_book_1
    have hone := st_one ks ss
    generalize ss.map stD = sd at *
    generalize stD ks = kd at *
    simp (disch := (first | assumption | with_reducible rfl | decide +kernel | exact Or.inl (by decide +kernel) | exact Or.inr (by decide +kernel) | omega | (simp only [List.length_cons, List.length_nil, List.length_append, List.length_map, List.length_replicate, List.length_range] <;> omega) | rfl)) only [evEqs, List.getElem?_cons_zero, List.getElem?_cons_succ, List.getElem?_nil, List.set_cons_zero, List.set_cons_succ, List.map_cons, List.map_nil, List.length_cons, List.length_nil, List.length_append, List.cons_append, List.nil_append, List.length_map, List.length_singleton, Nat.reduceBEq, Nat.reduceAdd, Nat.reduceSub, Nat.reduceMul, Nat.reduceEqDiff, Nat.reduceLeDiff, Nat.reduceLT, if_false, if_true, ite_true, ite_false, ↓reduceIte, Bool.not_true, Bool.not_false, Bool.false_eq_true, decide_true, decide_false, eq_self, and_true, true_and, and_self, Nat.zero_le, Nat.zero_add, Option.bind_some, Option.bind_none, Nat.lt_irrefl, Int.reduceToNat, Int.reducePow, Int.reduceNeg, Int.reduceMul, Int.reduceAdd, Int.reduceSub, Int.reduceLT, Int.reduceLE, Int.reduceEq, beq_self_eq_true, wipeE, MP.at0, MP.at1, MP.at2, MP.atLit, e]
    exact ⟨ss ++ [ks], r' / 4095, .v (.int (i : Nat)), g.add h1 h2, by rw [hone]⟩)
  rw [rngLenN] at g
  exact ⟨ss, _, x6, g, e1⟩
theorem nin_names (w : List Nat) (b : Bk) : gNin (.str (sw w)) (.list (b.map fun e => D.str (sw e.1))) = some ⟨.sh, .bool (!decide (w ∈ b.map Prod.fst))⟩ := by
  have e : (b.map fun e => D.str (sw e.1)) = ((b.map Prod.fst).map sw).map D.str := by rw [List.map_map, List.map_map]; rfl
  rw [e, nin_strs]
  have : decide (sw w ∈ (b.map Prod.fst).map sw) = decide (w ∈ b.map Prod.fst) := by
    refine decide_eq_decide.mpr ?_
    rw [List.mem_map]
    constructor
    · rintro ⟨x, h1, h2⟩
      exact sw_inj h2 ▸ h1
    · exact fun h => ⟨w, h, rfl⟩
  rw [this]
theorem bk_snoc (b : Bk) (w : List Nat) (ss : List (List Int)) : bkD b ++ [D.tup [.str (sw w), .tup (ss.map stD)]] = bkD (b ++ [(w, ss)]) := by
  rw [← bkD_app]
  rfl
theorem m_rb_turn (xs : List Int) (hx : xs.length = 41) (i : Nat) (hi : i < 20) (b : Bk) (g : Gp i b) (x3 x4 x5 x6 : Slot) : ∃ (b' : Bk) (y3 y4 y5 y6 : Slot), Gp (i + 1) b' ∧
    lp_l_read_book_2 ⟨[.v (.list (zs xs)), .own (.list (bkD b)), .v (.int (i : Nat)), x3, x4, x5, x6, .un, .un], []⟩ = .nx ⟨[.v (.list (zs xs)), .own (.list (bkD b')), .v (.int (i : Nat)), y3, y4, y5, y6, .un, .un], []⟩ := by
  have hzl := zs_len xs
  have a1 : atI (zs xs) (1 + 2 * (i : Int)) = some (.int (xs.getD (1 + 2 * i) 0)) := by
    rw [show 1 + 2 * (i : Int) = ((1 + 2 * i : Nat) : Int) by omega, atN, zs_at xs _ (by omega)]
  have a2 : atI (zs xs) (2 + 2 * (i : Int)) = some (.int (xs.getD (2 + 2 * i) 0)) := by
    rw [show 2 + 2 * (i : Int) = ((2 + 2 * i : Nat) : Int) by omega, atN, zs_at xs _ (by omega)]
  generalize xs.getD (1 + 2 * i) 0 = r1 at *
  generalize xs.getD (2 + 2 * i) 0 = r2 at *
  obtain ⟨w, hw, ew⟩ := m_name_of r1
  obtain ⟨n, hn1, hn6, hnx⟩ : ∃ n : Nat, 1 ≤ n ∧ n ≤ 6 ∧ 1 + r2 % 6 = (n : Int) := ⟨(1 + r2 % 6).toNat, by omega, by omega, by omega⟩
  obtain ⟨ss, y5, y6, gs, el⟩ := m_rb_in (zs xs) (.own (.list (bkD b))) (.v (.int (i : Nat))) (.v (.str (sw w))) x6 n hn6 (r2 / 6)
  have hbl := bkD_len b
  have hb20 := g.len
  have hsl : (ss.map stD).length = n := by simp [gs.1]
  have hc : compL (.tp [7, 8]) pYes (pD (pVar 7)) ⟨[.v (.list (zs xs)), .own (.list (bkD b)), .v (.int (i : Nat)), .v (.str (sw w)), .own (.list (ss.map stD)), y5, y6, .un, .un], []⟩ (bkD b) = .ok (b.map fun e => D.str (sw e.1)) := by
    show compL _ _ _ _ (b.map wD) = _
    refine compA _ _ _ fun e _ => ⟨_, b_tp2 .., ?_⟩
    generalize bkD b = bd
    generalize ss.map stD = sd
    generalize zs xs = xd
    simp (disch := (first | assumption | with_reducible rfl | decide +kernel | exact Or.inl (by decide +kernel) | exact Or.inr (by decide +kernel) | omega | (simp only [List.length_cons, List.length_nil, List.length_append, List.length_map, List.length_replicate, List.length_range] <;> omega) | rfl)) only [evEqs, List.getElem?_cons_zero, List.getElem?_cons_succ, List.getElem?_nil, List.set_cons_zero, List.set_cons_succ, List.map_cons, List.map_nil, List.length_cons, List.length_nil, List.length_append, List.cons_append, List.nil_append, List.length_map, List.length_singleton, Nat.reduceBEq, Nat.reduceAdd, Nat.reduceSub, Nat.reduceMul, Nat.reduceEqDiff, Nat.reduceLeDiff, Nat.reduceLT, if_false, if_true, ite_true, ite_false, ↓reduceIte, Bool.not_true, Bool.not_false, Bool.false_eq_true, decide_true, decide_false, eq_self, and_true, true_and, and_self, Nat.zero_le, Nat.zero_add, Option.bind_some, Option.bind_none, Nat.lt_irrefl, Int.reduceToNat, Int.reducePow, Int.reduceNeg, Int.reduceMul, Int.reduceAdd, Int.reduceSub, Int.reduceLT, Int.reduceLE, Int.reduceEq, beq_self_eq_true, wipeE, MP.at0, MP.at1, MP.at2, MP.atLit]
  have hnn := nin_names w b
  have hnl : (b.map fun e => D.str (sw e.1)).length ≤ 20 := by simp; omega
  have hsn := bk_snoc b w ss
  generalize hbm : decide (w ∈ b.map Prod.fst) = bm at *
  unfold lp_l_read_book_2
  generalize (b.map fun e => D.str (sw e.1)) = nms at *
  generalize zs xs = xd at *
  cases bm with
  | true =>
    have hb0 : 0 < b.length := by
      have := of_decide_eq_true hbm
      cases b with
      | nil => cases this
      | cons _ _ => simp
    refine ⟨b, .v (.str (sw w)), .own (.list (ss.map stD)), y5, y6, g.skip hb0, ?_⟩
    generalize ss.map stD = sd at *
    generalize bkD b = bd at *
    refine sqX (s' := ⟨[.v (.list xd), .own (.list bd), .v (.int (i : Nat)), .v (.str (sw w)), x4, x5, x6, .un, .un], []⟩) (by simp (disch := (first | assumption | with_reducible rfl | decide +kernel | exact Or.inl (by decide +kernel) | exact Or.inr (by decide +kernel) | omega | (simp only [List.length_cons, List.length_nil, List.length_append, List.length_map, List.length_replicate, List.length_range] <;> omega) | rfl)) only [evEqs, List.getElem?_cons_zero, List.getElem?_cons_succ, List.getElem?_nil, List.set_cons_zero, List.set_cons_succ, List.map_cons, List.map_nil, List.length_cons, List.length_nil, List.length_append, List.cons_append, List.nil_append, List.length_map, List.length_singleton, Nat.reduceBEq, Nat.reduceAdd, Nat.reduceSub, Nat.reduceMul, Nat.reduceEqDiff, Nat.reduceLeDiff, Nat.reduceLT, if_false, if_true, ite_true, ite_false, ↓reduceIte, Bool.not_true, Bool.not_false, Bool.false_eq_true, decide_true, decide_false, eq_self, and_true, true_and, and_self, Nat.zero_le, Nat.zero_add, Option.bind_some, Option.bind_none, Nat.lt_irrefl, Int.reduceToNat, Int.reducePow, Int.reduceNeg, Int.reduceMul, Int.reduceAdd, Int.reduceSub, Int.reduceLT, Int.reduceLE, Int.reduceEq, beq_self_eq_true, wipeE, MP.at0, MP.at1, MP.at2, MP.atLit, a1, ew]) ?_
    refine sqX (s' := ⟨[.v (.list xd), .own (.list bd), .v (.int (i : Nat)), .v (.str (sw w)), .own (.list []), x5, x6, .un, .un], []⟩) (by simp (disch := (first | assumption | with_reducible rfl | decide +kernel | exact Or.inl (by decide +kernel) | exact Or.inr (by decide +kernel) | omega | (simp only [List.length_cons, List.length_nil, List.length_append, List.length_map, List.length_replicate, List.length_range] <;> omega) | rfl)) only [evEqs, List.getElem?_cons_zero, List.getElem?_cons_succ, List.getElem?_nil, List.set_cons_zero, List.set_cons_succ, List.map_cons, List.map_nil, List.length_cons, List.length_nil, List.length_append, List.cons_append, List.nil_append, List.length_map, List.length_singleton, Nat.reduceBEq, Nat.reduceAdd, Nat.reduceSub, Nat.reduceMul, Nat.reduceEqDiff, Nat.reduceLeDiff, Nat.reduceLT, if_false, if_true, ite_true, ite_false, ↓reduceIte, Bool.not_true, Bool.not_false, Bool.false_eq_true, decide_true, decide_false, eq_self, and_true, true_and, and_self, Nat.zero_le, Nat.zero_add, Option.bind_some, Option.bind_none, Nat.lt_irrefl, Int.reduceToNat, Int.reducePow, Int.reduceNeg, Int.reduceMul, Int.reduceAdd, Int.reduceSub, Int.reduceLT, Int.reduceLE, Int.reduceEq, beq_self_eq_true, wipeE, MP.at0, MP.at1, MP.at2, MP.atLit]) ?_
    refine sqX (s' := ⟨[.v (.list xd), .own (.list bd), .v (.int (i : Nat)), .v (.str (sw w)), .own (.list []), .v (.int (r2 / 6)), x6, .un, .un], []⟩) (by simp (disch := (first | assumption | with_reducible rfl | decide +kernel | exact Or.inl (by decide +kernel) | exact Or.inr (by decide +kernel) | omega | (simp only [List.length_cons, List.length_nil, List.length_append, List.length_map, List.length_replicate, List.length_range] <;> omega) | rfl)) only [evEqs, List.getElem?_cons_zero, List.getElem?_cons_succ, List.getElem?_nil, List.set_cons_zero, List.set_cons_succ, List.map_cons, List.map_nil, List.length_cons, List.length_nil, List.length_append, List.cons_append, List.nil_append, List.length_map, List.length_singleton, Nat.reduceBEq, Nat.reduceAdd, Nat.reduceSub, Nat.reduceMul, Nat.reduceEqDiff, Nat.reduceLeDiff, Nat.reduceLT, if_false, if_true, ite_true, ite_false, ↓reduceIte, Bool.not_true, Bool.not_false, Bool.false_eq_true, decide_true, decide_false, eq_self, and_true, true_and, and_self, Nat.zero_le, Nat.zero_add, Option.bind_some, Option.bind_none, Nat.lt_irrefl, Int.reduceToNat, Int.reducePow, Int.reduceNeg, Int.reduceMul, Int.reduceAdd, Int.reduceSub, Int.reduceLT, Int.reduceLE, Int.reduceEq, beq_self_eq_true, wipeE, MP.at0, MP.at1, MP.at2, MP.atLit, a2]) ?_
    refine sqX (s' := ⟨[.v (.list xd), .own (.list bd), .v (.int (i : Nat)), .v (.str (sw w)), .own (.list sd), y5, y6, .un, .un], []⟩) (by simp (disch := (first | assumption | with_reducible rfl | decide +kernel | exact Or.inl (by decide +kernel) | exact Or.inr (by decide +kernel) | omega | (simp only [List.length_cons, List.length_nil, List.length_append, List.length_map, List.length_replicate, List.length_range] <;> omega) | rfl)) only [evEqs, List.getElem?_cons_zero, List.getElem?_cons_succ, List.getElem?_nil, List.set_cons_zero, List.set_cons_succ, List.map_cons, List.map_nil, List.length_cons, List.length_nil, List.length_append, List.cons_append, List.nil_append, List.length_map, List.length_singleton, Nat.reduceBEq, Nat.reduceAdd, Nat.reduceSub, Nat.reduceMul, Nat.reduceEqDiff, Nat.reduceLeDiff, Nat.reduceLT, if_false, if_true, ite_true, ite_false, ↓reduceIte, Bool.not_true, Bool.not_false, Bool.false_eq_true, decide_true, decide_false, eq_self, and_true, true_and, and_self, Nat.zero_le, Nat.zero_add, Option.bind_some, Option.bind_none, Nat.lt_irrefl, Int.reduceToNat, Int.reducePow, Int.reduceNeg, Int.reduceMul, Int.reduceAdd, Int.reduceSub, Int.reduceLT, Int.reduceLE, Int.reduceEq, beq_self_eq_true, wipeE, MP.at0, MP.at1, MP.at2, MP.atLit, a2, hnx, el]) ?_
    simp (disch := (first | assumption | with_reducible rfl | decide +kernel | exact Or.inl (by decide +kernel) | exact Or.inr (by decide +kernel) | omega | (simp only [List.length_cons, List.length_nil, List.length_append, List.length_map, List.length_replicate, List.length_range] <;> omega) | rfl)) only [evEqs, List.getElem?_cons_zero, List.getElem?_cons_succ, List.getElem?_nil, List.set_cons_zero, List.set_cons_succ, List.map_cons, List.map_nil, List.length_cons, List.length_nil, List.length_append, List.cons_append, List.nil_append, List.length_map, List.length_singleton, Nat.reduceBEq, Nat.reduceAdd, Nat.reduceSub, Nat.reduceMul, Nat.reduceEqDiff, Nat.reduceLeDiff, Nat.reduceLT, if_false, if_true, ite_true, ite_false, ↓reduceIte, Bool.not_true, Bool.not_false, Bool.false_eq_true, decide_true, decide_false, eq_self, and_true, true_and, and_self, Nat.zero_le, Nat.zero_add, Option.bind_some, Option.bind_none, Nat.lt_irrefl, Int.reduceToNat, Int.reducePow, Int.reduceNeg, Int.reduceMul, Int.reduceAdd, Int.reduceSub, Int.reduceLT, Int.reduceLE, Int.reduceEq, beq_self_eq_true, wipeE, MP.at0, MP.at1, MP.at2, MP.atLit, hc, hnn]
  | false =>
    refine ⟨b ++ [(w, ss)], .v (.str (sw w)), .own (.list (ss.map stD)), y5, y6, g.add hw gs hn1 hn6 (of_decide_eq_false hbm), ?_⟩
    rw [← hsn]
    generalize ss.map stD = sd at *
    generalize bkD b = bd at *
    refine sqX (s' := ⟨[.v (.list xd), .own (.list bd), .v (.int (i : Nat)), .v (.str (sw w)), x4, x5, x6, .un, .un], []⟩) (by simp (disch := (first | assumption | with_reducible rfl | decide +kernel | exact Or.inl (by decide +kernel) | exact Or.inr (by decide +kernel) | omega | (simp only [List.length_cons, List.length_nil, List.length_append, List.length_map, List.length_replicate, List.length_range] <;> omega) | rfl)) only [evEqs, List.getElem?_cons_zero, List.getElem?_cons_succ, List.getElem?_nil, List.set_cons_zero, List.set_cons_succ, List.map_cons, List.map_nil, List.length_cons, List.length_nil, List.length_append, List.cons_append, List.nil_append, List.length_map, List.length_singleton, Nat.reduceBEq, Nat.reduceAdd, Nat.reduceSub, Nat.reduceMul, Nat.reduceEqDiff, Nat.reduceLeDiff, Nat.reduceLT, if_false, if_true, ite_true, ite_false, ↓reduceIte, Bool.not_true, Bool.not_false, Bool.false_eq_true, decide_true, decide_false, eq_self, and_true, true_and, and_self, Nat.zero_le, Nat.zero_add, Option.bind_some, Option.bind_none, Nat.lt_irrefl, Int.reduceToNat, Int.reducePow, Int.reduceNeg, Int.reduceMul, Int.reduceAdd, Int.reduceSub, Int.reduceLT, Int.reduceLE, Int.reduceEq, beq_self_eq_true, wipeE, MP.at0, MP.at1, MP.at2, MP.atLit, a1, ew]) ?_
    refine sqX (s' := ⟨[.v (.list xd), .own (.list bd), .v (.int (i : Nat)), .v (.str (sw w)), .own (.list []), x5, x6, .un, .un], []⟩) (by simp (disch := (first | assumption | with_reducible rfl | decide +kernel | exact Or.inl (by decide +kernel) | exact Or.inr (by decide +kernel) | omega | (simp only [List.length_cons, List.length_nil, List.length_append, List.length_map, List.length_replicate, List.length_range] <;> omega) | rfl)) only [evEqs, List.getElem?_cons_zero, List.getElem?_cons_succ, List.getElem?_nil, List.set_cons_zero, List.set_cons_succ, List.map_cons, List.map_nil, List.length_cons, List.length_nil, List.length_append, List.cons_append, List.nil_append, List.length_map, List.length_singleton, Nat.reduceBEq, Nat.reduceAdd, Nat.reduceSub, Nat.reduceMul, Nat.reduceEqDiff, Nat.reduceLeDiff, Nat.reduceLT, if_false, if_true, ite_true, ite_false, ↓reduceIte, Bool.not_true, Bool.not_false, Bool.false_eq_true, decide_true, decide_false, eq_self, and_true, true_and, and_self, Nat.zero_le, Nat.zero_add, Option.bind_some, Option.bind_none, Nat.lt_irrefl, Int.reduceToNat, Int.reducePow, Int.reduceNeg, Int.reduceMul, Int.reduceAdd, Int.reduceSub, Int.reduceLT, Int.reduceLE, Int.reduceEq, beq_self_eq_true, wipeE, MP.at0, MP.at1, MP.at2, MP.atLit]) ?_
    refine sqX (s' := ⟨[.v (.list xd), .own (.list bd), .v (.int (i : Nat)), .v (.str (sw w)), .own (.list []), .v (.int (r2 / 6)), x6, .un, .un], []⟩) (by simp (disch := (first | assumption | with_reducible rfl | decide +kernel | exact Or.inl (by decide +kernel) | exact Or.inr (by decide +kernel) | omega | (simp only [List.length_cons, List.length_nil, List.length_append, List.length_map, List.length_replicate, List.length_range] <;> omega) | rfl)) only [evEqs, List.getElem?_cons_zero, List.getElem?_cons_succ, List.getElem?_nil, List.set_cons_zero, List.set_cons_succ, List.map_cons, List.map_nil, List.length_cons, List.length_nil, List.length_append, List.cons_append, List.nil_append, List.length_map, List.length_singleton, Nat.reduceBEq, Nat.reduceAdd, Nat.reduceSub, Nat.reduceMul, Nat.reduceEqDiff, Nat.reduceLeDiff, Nat.reduceLT, if_false, if_true, ite_true, ite_false, ↓reduceIte, Bool.not_true, Bool.not_false, Bool.false_eq_true, decide_true, decide_false, eq_self, and_true, true_and, and_self, Nat.zero_le, Nat.zero_add, Option.bind_some, Option.bind_none, Nat.lt_irrefl, Int.reduceToNat, Int.reducePow, Int.reduceNeg, Int.reduceMul, Int.reduceAdd, Int.reduceSub, Int.reduceLT, Int.reduceLE, Int.reduceEq, beq_self_eq_true, wipeE, MP.at0, MP.at1, MP.at2, MP.atLit, a2]) ?_
    refine sqX (s' := ⟨[.v (.list xd), .own (.list bd), .v (.int (i : Nat)), .v (.str (sw w)), .own (.list sd), y5, y6, .un, .un], []⟩) (by simp (disch := (first | assumption | with_reducible rfl | decide +kernel | exact Or.inl (by decide +kernel) | exact Or.inr (by decide +kernel) | omega | (simp only [List.length_cons, List.length_nil, List.length_append, List.length_map, List.length_replicate, List.length_range] <;> omega) | rfl)) only [evEqs, List.getElem?_cons_zero, List.getElem?_cons_succ, List.getElem?_nil, List.set_cons_zero, List.set_cons_succ, List.map_cons, List.map_nil, List.length_cons, List.length_nil, List.length_append, List.cons_append, List.nil_append, List.length_map, List.length_singleton, Nat.reduceBEq, Nat.reduceAdd, Nat.reduceSub, Nat.reduceMul, Nat.reduceEqDiff, Nat.reduceLeDiff, Nat.reduceLT, if_false, if_true, ite_true, ite_false, ↓reduceIte, Bool.not_true, Bool.not_false, Bool.false_eq_true, decide_true, decide_false, eq_self, and_true, true_and, and_self, Nat.zero_le, Nat.zero_add, Option.bind_some, Option.bind_none, Nat.lt_irrefl, Int.reduceToNat, Int.reducePow, Int.reduceNeg, Int.reduceMul, Int.reduceAdd, Int.reduceSub, Int.reduceLT, Int.reduceLE, Int.reduceEq, beq_self_eq_true, wipeE, MP.at0, MP.at1, MP.at2, MP.atLit, a2, hnx, el]) ?_
    simp (disch := (first | assumption | with_reducible rfl | decide +kernel | exact Or.inl (by decide +kernel) | exact Or.inr (by decide +kernel) | omega | (simp only [List.length_cons, List.length_nil, List.length_append, List.length_map, List.length_replicate, List.length_range] <;> omega) | rfl)) only [evEqs, List.getElem?_cons_zero, List.getElem?_cons_succ, List.getElem?_nil, List.set_cons_zero, List.set_cons_succ, List.map_cons, List.map_nil, List.length_cons, List.length_nil, List.length_append, List.cons_append, List.nil_append, List.length_map, List.length_singleton, Nat.reduceBEq, Nat.reduceAdd, Nat.reduceSub, Nat.reduceMul, Nat.reduceEqDiff, Nat.reduceLeDiff, Nat.reduceLT, if_false, if_true, ite_true, ite_false, ↓reduceIte, Bool.not_true, Bool.not_false, Bool.false_eq_true, decide_true, decide_false, eq_self, and_true, true_and, and_self, Nat.zero_le, Nat.zero_add, Option.bind_some, Option.bind_none, Nat.lt_irrefl, Int.reduceToNat, Int.reducePow, Int.reduceNeg, Int.reduceMul, Int.reduceAdd, Int.reduceSub, Int.reduceLT, Int.reduceLE, Int.reduceEq, beq_self_eq_true, wipeE, MP.at0, MP.at1, MP.at2, MP.atLit, hc, hnn]
theorem m_read_book (xs : List Int) (hx : xs.length = 41) : ∃ b : Bk, Gd b ∧ sem_l_read_book [.list (zs xs)] [] = .ok (.v (.btp (bkD b))) [] := by
  unfold sem_l_read_book
  refine run_ex (Q := fun r => ∃ b : Bk, Gd b ∧ r = .ok (.v (.btp (bkD b))) []) [.v (.list (zs xs)), .un, .un, .un, .un, .un, .un, .un, .un] rfl ?_
  unfold b_l_read_book
  obtain ⟨n, hn1, hn20, hnx⟩ : ∃ n : Nat, 1 ≤ n ∧ n ≤ 20 ∧ 1 + xs.getD 0 0 % 20 = (n : Int) := ⟨(1 + xs.getD 0 0 % 20).toNat, by omega, by omega, by omega⟩
  have h0 := zs_at xs 0 (by omega)
  have hzl := zs_len xs
  refine sq (P := fun fl => ∃ b : Bk, Gd b ∧ fl.fr = .ok (.v (.btp (bkD b))) []) (s' := ⟨[.v (.list (zs xs)), .own (.list []), .un, .un, .un, .un, .un, .un, .un], []⟩) (by simp (disch := (first | assumption | with_reducible rfl | decide +kernel | exact Or.inl (by decide +kernel) | exact Or.inr (by decide +kernel) | omega | (simp only [List.length_cons, List.length_nil, List.length_append, List.length_map, List.length_replicate, List.length_range] <;> omega) | rfl)) only [evEqs, List.getElem?_cons_zero, List.getElem?_cons_succ, List.getElem?_nil, List.set_cons_zero, List.set_cons_succ, List.map_cons, List.map_nil, List.length_cons, List.length_nil, List.length_append, List.cons_append, List.nil_append, List.length_map, List.length_singleton, Nat.reduceBEq, Nat.reduceAdd, Nat.reduceSub, Nat.reduceMul, Nat.reduceEqDiff, Nat.reduceLeDiff, Nat.reduceLT, if_false, if_true, ite_true, ite_false, ↓reduceIte, Bool.not_true, Bool.not_false, Bool.false_eq_true, decide_true, decide_false, eq_self, and_true, true_and, and_self, Nat.zero_le, Nat.zero_add, Option.bind_some, Option.bind_none, Nat.lt_irrefl, Int.reduceToNat, Int.reducePow, Int.reduceNeg, Int.reduceMul, Int.reduceAdd, Int.reduceSub, Int.reduceLT, Int.reduceLE, Int.reduceEq, beq_self_eq_true, wipeE, MP.at0, MP.at1, MP.at2, MP.atLit]) ?_
  refine forP (P := fun fl => ∃ b : Bk, Gd b ∧ fl.fr = .ok (.v (.btp (bkD b))) []) (rng 0 (n : Int)) (fun i s => ∃ (b : Bk) (x2 x3 x4 x5 x6 : Slot), Gp i b ∧ s = ⟨[.v (.list (zs xs)), .own (.list (bkD b)), x2, x3, x4, x5, x6, .un, .un], []⟩) (by simp (disch := (first | assumption | with_reducible rfl | decide +kernel | exact Or.inl (by decide +kernel) | exact Or.inr (by decide +kernel) | omega | (simp only [List.length_cons, List.length_nil, List.length_append, List.length_map, List.length_replicate, List.length_range] <;> omega) | rfl)) only [evEqs, List.getElem?_cons_zero, List.getElem?_cons_succ, List.getElem?_nil, List.set_cons_zero, List.set_cons_succ, List.map_cons, List.map_nil, List.length_cons, List.length_nil, List.length_append, List.cons_append, List.nil_append, List.length_map, List.length_singleton, Nat.reduceBEq, Nat.reduceAdd, Nat.reduceSub, Nat.reduceMul, Nat.reduceEqDiff, Nat.reduceLeDiff, Nat.reduceLT, if_false, if_true, ite_true, ite_false, ↓reduceIte, Bool.not_true, Bool.not_false, Bool.false_eq_true, decide_true, decide_false, eq_self, and_true, true_and, and_self, Nat.zero_le, Nat.zero_add, Option.bind_some, Option.bind_none, Nat.lt_irrefl, Int.reduceToNat, Int.reducePow, Int.reduceNeg, Int.reduceMul, Int.reduceAdd, Int.reduceSub, Int.reduceLT, Int.reduceLE, Int.reduceEq, beq_self_eq_true, wipeE, MP.at0, MP.at1, MP.at2, MP.atLit, h0, hnx]) ⟨[], _, _, _, _, _, Gp.nil, rfl⟩ ?_ ?_
  · rintro i d s hd ⟨b, x2, x3, x4, x5, x6, g, rfl⟩
    obtain ⟨rfl, hi⟩ := rngAt hd
    obtain ⟨b', y3, y4, y5, y6, g', e⟩ := m_rb_turn xs hx i (by omega) b g x3 x4 x5 x6
    refine ⟨_, b_nm .., ?_⟩
    show Turn _ _ (lp_l_read_book_2 ⟨[.v (.list (zs xs)), .own (.list (bkD b)), .v (.int (i : Nat)), x3, x4, x5, x6, .un, .un], []⟩)
    rw [e]
    exact ⟨b', _, _, _, _, _, g', rfl⟩
  · rintro s ⟨b, x2, x3, x4, x5, x6, g, rfl⟩
    rw [rngLenN] at g
    refine ⟨b, g.gd (by omega) hn20, ?_⟩
    generalize bkD b = bd
    simp (disch := (first | assumption | with_reducible rfl | decide +kernel | exact Or.inl (by decide +kernel) | exact Or.inr (by decide +kernel) | omega | (simp only [List.length_cons, List.length_nil, List.length_append, List.length_map, List.length_replicate, List.length_range] <;> omega) | rfl)) only [evEqs, List.getElem?_cons_zero, List.getElem?_cons_succ, List.getElem?_nil, List.set_cons_zero, List.set_cons_succ, List.map_cons, List.map_nil, List.length_cons, List.length_nil, List.length_append, List.cons_append, List.nil_append, List.length_map, List.length_singleton, Nat.reduceBEq, Nat.reduceAdd, Nat.reduceSub, Nat.reduceMul, Nat.reduceEqDiff, Nat.reduceLeDiff, Nat.reduceLT, if_false, if_true, ite_true, ite_false, ↓reduceIte, Bool.not_true, Bool.not_false, Bool.false_eq_true, decide_true, decide_false, eq_self, and_true, true_and, and_self, Nat.zero_le, Nat.zero_add, Option.bind_some, Option.bind_none, Nat.lt_irrefl, Int.reduceToNat, Int.reducePow, Int.reduceNeg, Int.reduceMul, Int.reduceAdd, Int.reduceSub, Int.reduceLT, Int.reduceLE, Int.reduceEq, beq_self_eq_true, wipeE, MP.at0, MP.at1, MP.at2, MP.atLit]

theorem m_bk_in (ns : List Int) (x1 x2 x4 x6 x7 x8 x0 : Slot) (sort most : Nat) (hs : sort < 4) (n : Nat) (hn : n ≤ 6) (r : Int) : ∃ (ss : List (List Int)) (x9 x11 : Slot), Sts n ss ∧ loopL (.nm 11) lp_l_book_1 (rng 0 (n : Int)) ⟨[.v (.lk (zs ns)), x1, x2, .v (.int (sort : Nat)), x4, .v (.int (most : Nat)), x6, x7, x8, .v (.int r), .own (.list []), x0], []⟩ =
    .nx ⟨[.v (.lk (zs ns)), x1, x2, .v (.int (sort : Nat)), x4, .v (.int (most : Nat)), x6, x7, x8, x9, .own (.list (ss.map stD)), x11], []⟩ := by
  obtain ⟨s', e1, ss, r', x11, g, rfl⟩ := loopE (t := .nm 11) (g := lp_l_book_1) (s := ⟨[.v (.lk (zs ns)), x1, x2, .v (.int (sort : Nat)), x4, .v (.int (most : Nat)), x6, x7, x8, .v (.int r), .own (.list []), x0], []⟩) (rng 0 (n : Int)) (fun i s => ∃ (ss : List (List Int)) (r' : Int) (x11 : Slot), Sts i ss ∧ s = ⟨[.v (.lk (zs ns)), x1, x2, .v (.int (sort : Nat)), x4, .v (.int (most : Nat)), x6, x7, x8, .v (.int r'), .own (.list (ss.map stD)), x11], []⟩) ⟨[], r, x0, ⟨rfl, (fun s hs => by cases hs)⟩, rfl⟩ (by
    rintro i d s hd ⟨ss, r', x11, g, rfl⟩
    obtain ⟨rfl, hi⟩ := rngAt hd
    obtain ⟨z, ez⟩ : ∃ z : Int, atI [D.int (r' / 4 % 2), .int (r' / 4), .int (r' / 4), .int (r' / 4)] (sort : Int) = some (.int z) := by
      rw [atN]
      rcases (by omega : sort = 0 ∨ sort = 1 ∨ sort = 2 ∨ sort = 3) with rfl | rfl | rfl | rfl <;> exact ⟨_, rfl⟩
    obtain ⟨ks, ⟨h1, h2⟩, e⟩ := m_stroke z (decide ((sort : Int) = 1))
    have hsl : (ss.map stD).length = i := by simp [g.1]
    have hone := st_one ks ss
    refine ⟨_, b_nm .., ?_⟩
    unfold lp_l_book_1
    generalize ss.map stD = sd at *
    generalize stD ks = kd at *
    generalize zs ns = nd at *
    simp (disch := (first | assumption | with_reducible rfl | decide +kernel | exact Or.inl (by decide +kernel) | exact Or.inr (by decide +kernel) | omega | (simp only [List.length_cons, List.length_nil, List.length_append, List.length_map, List.length_replicate, List.length_range] <;> omega) | rfl)) only [evEqs, List.getElem?_cons_zero, List.getElem?_cons_succ, List.getElem?_nil, List.set_cons_zero, List.set_cons_succ, List.map_cons, List.map_nil, List.length_cons, List.length_nil, List.length_append, List.cons_append, List.nil_append, List.length_map, List.length_singleton, Nat.reduceBEq, Nat.reduceAdd, Nat.reduceSub, Nat.reduceMul, Nat.reduceEqDiff, Nat.reduceLeDiff, Nat.reduceLT, if_false, if_true, ite_true, ite_false, ↓reduceIte, Bool.not_true, Bool.not_false, Bool.false_eq_true, decide_true, decide_false, eq_self, and_true, true_and, and_self, Nat.zero_le, Nat.zero_add, Option.bind_some, Option.bind_none, Nat.lt_irrefl, Int.reduceToNat, Int.reducePow, Int.reduceNeg, Int.reduceMul, Int.reduceAdd, Int.reduceSub, Int.reduceLT, Int.reduceLE, Int.reduceEq, beq_self_eq_true, wipeE, MP.at0, MP.at1, MP.at2, MP.atLit, ez, e]
    exact ⟨ss ++ [ks], r' / 4, .v (.int (i : Nat)), g.add h1 h2, by rw [hone]⟩)
  rw [rngLenN] at g
  exact ⟨ss, _, x11, g, e1⟩
/-- words by a row of names -/
structure Gn (ws : List (List Nat)) (i : Nat) (b : Bk) : Prop where
  nm : b.map Prod.fst = ws.take i
  st : ∀ e ∈ b, 1 ≤ e.2.length ∧ e.2.length ≤ 6 ∧ ∀ s ∈ e.2, strokeB s = true ∧ s.length ≤ 12
theorem Gn.add {ws : List (List Nat)} {i : Nat} {b : Bk} (g : Gn ws i b) (hi : i < ws.length) {ss : List (List Int)} {n : Nat} (hs : Sts n ss) (h1 : 1 ≤ n) (h6 : n ≤ 6) : Gn ws (i + 1) (b ++ [(ws[i], ss)]) := by
  refine ⟨?_, fun e he => ?_⟩
  · rw [List.map_append, g.nm, List.take_succ, List.getElem?_eq_getElem hi]
    rfl
  · rcases List.mem_append.mp he with he | he
    · exact g.st e he
    · rw [List.mem_singleton] at he
      subst he
      exact ⟨by show 1 ≤ ss.length; rw [hs.1]; exact h1, by show ss.length ≤ 6; rw [hs.1]; exact h6, hs.2⟩
theorem m_book (ns : List Int) : ∃ b : Bk, Gd b ∧ sem_l_book [.lk (zs ns), .int 0] [] = .ok (.v (.btp (bkD b))) [] := by
  have c0 := m_cell ns 0 (by decide)
  generalize ns.getD (0 : Int).toNat 0 = c at c0
  unfold sem_l_book
  refine run_ex (Q := fun r => ∃ b : Bk, Gd b ∧ r = .ok (.v (.btp (bkD b))) []) [.v (.lk (zs ns)), .v (.int 0), .un, .un, .un, .un, .un, .un, .un, .un, .un, .un] rfl ?_
  unfold b_l_book
  refine sq (P := fun fl => ∃ b : Bk, Gd b ∧ fl.fr = .ok (.v (.btp (bkD b))) []) (s' := ⟨[.v (.lk (zs ns)), .v (.int 0), .v (.int c), .un, .un, .un, .un, .un, .un, .un, .un, .un], []⟩) (by simp (disch := (first | assumption | with_reducible rfl | decide +kernel | exact Or.inl (by decide +kernel) | exact Or.inr (by decide +kernel) | omega | (simp only [List.length_cons, List.length_nil, List.length_append, List.length_map, List.length_replicate, List.length_range] <;> omega) | rfl)) only [evEqs, List.getElem?_cons_zero, List.getElem?_cons_succ, List.getElem?_nil, List.set_cons_zero, List.set_cons_succ, List.map_cons, List.map_nil, List.length_cons, List.length_nil, List.length_append, List.cons_append, List.nil_append, List.length_map, List.length_singleton, Nat.reduceBEq, Nat.reduceAdd, Nat.reduceSub, Nat.reduceMul, Nat.reduceEqDiff, Nat.reduceLeDiff, Nat.reduceLT, if_false, if_true, ite_true, ite_false, ↓reduceIte, Bool.not_true, Bool.not_false, Bool.false_eq_true, decide_true, decide_false, eq_self, and_true, true_and, and_self, Nat.zero_le, Nat.zero_add, Option.bind_some, Option.bind_none, Nat.lt_irrefl, Int.reduceToNat, Int.reducePow, Int.reduceNeg, Int.reduceMul, Int.reduceAdd, Int.reduceSub, Int.reduceLT, Int.reduceLE, Int.reduceEq, beq_self_eq_true, wipeE, MP.at0, MP.at1, MP.at2, MP.atLit, c0]) ?_
  have hrb : c < 0 ∨ 1000000000000000000 ≤ c → ∃ b : Bk, Gd b ∧ pUser 1 sem_l_read_book (pCons (pD (pUser 2 sem_l_stream (pCons (pD (pVar 2)) (pCons (pD (pC (.int 41))) (pNil))))) (pNil)) ⟨[.v (.lk (zs ns)), .v (.int 0), .v (.int c), .un, .un, .un, .un, .un, .un, .un, .un, .un], []⟩ = .ok ⟨.sh, .btp (bkD b)⟩ := fun _ => by
    obtain ⟨xs, hx, es⟩ := m_stream c 41 (by decide)
    have es : sem_l_stream [.int c, .int 41] [] = .ok (.own (.list (zs xs))) [] := es
    obtain ⟨b, g, eb⟩ := m_read_book xs hx
    refine ⟨b, g, ?_⟩
    generalize bkD b = bd at *
    simp (disch := (first | assumption | with_reducible rfl | decide +kernel | exact Or.inl (by decide +kernel) | exact Or.inr (by decide +kernel) | omega | (simp only [List.length_cons, List.length_nil, List.length_append, List.length_map, List.length_replicate, List.length_range] <;> omega) | rfl)) only [evEqs, List.getElem?_cons_zero, List.getElem?_cons_succ, List.getElem?_nil, List.set_cons_zero, List.set_cons_succ, List.map_cons, List.map_nil, List.length_cons, List.length_nil, List.length_append, List.cons_append, List.nil_append, List.length_map, List.length_singleton, Nat.reduceBEq, Nat.reduceAdd, Nat.reduceSub, Nat.reduceMul, Nat.reduceEqDiff, Nat.reduceLeDiff, Nat.reduceLT, if_false, if_true, ite_true, ite_false, ↓reduceIte, Bool.not_true, Bool.not_false, Bool.false_eq_true, decide_true, decide_false, eq_self, and_true, true_and, and_self, Nat.zero_le, Nat.zero_add, Option.bind_some, Option.bind_none, Nat.lt_irrefl, Int.reduceToNat, Int.reducePow, Int.reduceNeg, Int.reduceMul, Int.reduceAdd, Int.reduceSub, Int.reduceLT, Int.reduceLE, Int.reduceEq, beq_self_eq_true, wipeE, MP.at0, MP.at1, MP.at2, MP.atLit, es, eb]
  by_cases h1 : c < 0
  · obtain ⟨b, g, eb⟩ := hrb (.inl h1)
    refine ⟨b, g, ?_⟩
    generalize bkD b = bd at *
    generalize hpu : pUser 1 sem_l_read_book (pCons (pD (pUser 2 sem_l_stream (pCons (pD (pVar 2)) (pCons (pD (pC (.int 41))) (pNil))))) (pNil)) = pu at *
    simp (disch := (first | assumption | with_reducible rfl | decide +kernel | exact Or.inl (by decide +kernel) | exact Or.inr (by decide +kernel) | omega | (simp only [List.length_cons, List.length_nil, List.length_append, List.length_map, List.length_replicate, List.length_range] <;> omega) | rfl)) only [evEqs, List.getElem?_cons_zero, List.getElem?_cons_succ, List.getElem?_nil, List.set_cons_zero, List.set_cons_succ, List.map_cons, List.map_nil, List.length_cons, List.length_nil, List.length_append, List.cons_append, List.nil_append, List.length_map, List.length_singleton, Nat.reduceBEq, Nat.reduceAdd, Nat.reduceSub, Nat.reduceMul, Nat.reduceEqDiff, Nat.reduceLeDiff, Nat.reduceLT, if_false, if_true, ite_true, ite_false, ↓reduceIte, Bool.not_true, Bool.not_false, Bool.false_eq_true, decide_true, decide_false, eq_self, and_true, true_and, and_self, Nat.zero_le, Nat.zero_add, Option.bind_some, Option.bind_none, Nat.lt_irrefl, Int.reduceToNat, Int.reducePow, Int.reduceNeg, Int.reduceMul, Int.reduceAdd, Int.reduceSub, Int.reduceLT, Int.reduceLE, Int.reduceEq, beq_self_eq_true, wipeE, MP.at0, MP.at1, MP.at2, MP.atLit, h1, eb]
  by_cases h2 : 1000000000000000000 ≤ c
  · obtain ⟨b, g, eb⟩ := hrb (.inr h2)
    refine ⟨b, g, ?_⟩
    generalize bkD b = bd at *
    generalize hpu : pUser 1 sem_l_read_book (pCons (pD (pUser 2 sem_l_stream (pCons (pD (pVar 2)) (pCons (pD (pC (.int 41))) (pNil))))) (pNil)) = pu at *
    simp (disch := (first | assumption | with_reducible rfl | decide +kernel | exact Or.inl (by decide +kernel) | exact Or.inr (by decide +kernel) | omega | (simp only [List.length_cons, List.length_nil, List.length_append, List.length_map, List.length_replicate, List.length_range] <;> omega) | rfl)) only [evEqs, List.getElem?_cons_zero, List.getElem?_cons_succ, List.getElem?_nil, List.set_cons_zero, List.set_cons_succ, List.map_cons, List.map_nil, List.length_cons, List.length_nil, List.length_append, List.cons_append, List.nil_append, List.length_map, List.length_singleton, Nat.reduceBEq, Nat.reduceAdd, Nat.reduceSub, Nat.reduceMul, Nat.reduceEqDiff, Nat.reduceLeDiff, Nat.reduceLT, if_false, if_true, ite_true, ite_false, ↓reduceIte, Bool.not_true, Bool.not_false, Bool.false_eq_true, decide_true, decide_false, eq_self, and_true, true_and, and_self, Nat.zero_le, Nat.zero_add, Option.bind_some, Option.bind_none, Nat.lt_irrefl, Int.reduceToNat, Int.reducePow, Int.reduceNeg, Int.reduceMul, Int.reduceAdd, Int.reduceSub, Int.reduceLT, Int.reduceLE, Int.reduceEq, beq_self_eq_true, wipeE, MP.at0, MP.at1, MP.at2, MP.atLit, h1, h2, eb]
  clear hrb
  have hw := m_wide c 1 (by decide)
  generalize wide c 1 = f at hw
  refine sq (P := fun fl => ∃ b : Bk, Gd b ∧ fl.fr = .ok (.v (.btp (bkD b))) []) (s' := ⟨[.v (.lk (zs ns)), .v (.int 0), .v (.int c), .un, .un, .un, .un, .un, .un, .un, .un, .un], []⟩) (by simp (disch := (first | assumption | with_reducible rfl | decide +kernel | exact Or.inl (by decide +kernel) | exact Or.inr (by decide +kernel) | omega | (simp only [List.length_cons, List.length_nil, List.length_append, List.length_map, List.length_replicate, List.length_range] <;> omega) | rfl)) only [evEqs, List.getElem?_cons_zero, List.getElem?_cons_succ, List.getElem?_nil, List.set_cons_zero, List.set_cons_succ, List.map_cons, List.map_nil, List.length_cons, List.length_nil, List.length_append, List.cons_append, List.nil_append, List.length_map, List.length_singleton, Nat.reduceBEq, Nat.reduceAdd, Nat.reduceSub, Nat.reduceMul, Nat.reduceEqDiff, Nat.reduceLeDiff, Nat.reduceLT, if_false, if_true, ite_true, ite_false, ↓reduceIte, Bool.not_true, Bool.not_false, Bool.false_eq_true, decide_true, decide_false, eq_self, and_true, true_and, and_self, Nat.zero_le, Nat.zero_add, Option.bind_some, Option.bind_none, Nat.lt_irrefl, Int.reduceToNat, Int.reducePow, Int.reduceNeg, Int.reduceMul, Int.reduceAdd, Int.reduceSub, Int.reduceLT, Int.reduceLE, Int.reduceEq, beq_self_eq_true, wipeE, MP.at0, MP.at1, MP.at2, MP.atLit, h1, h2]) ?_
  refine sq (P := fun fl => ∃ b : Bk, Gd b ∧ fl.fr = .ok (.v (.btp (bkD b))) []) (s' := ⟨[.v (.lk (zs ns)), .v (.int 0), .v (.int f), .un, .un, .un, .un, .un, .un, .un, .un, .un], []⟩) (by simp (disch := (first | assumption | with_reducible rfl | decide +kernel | exact Or.inl (by decide +kernel) | exact Or.inr (by decide +kernel) | omega | (simp only [List.length_cons, List.length_nil, List.length_append, List.length_map, List.length_replicate, List.length_range] <;> omega) | rfl)) only [evEqs, List.getElem?_cons_zero, List.getElem?_cons_succ, List.getElem?_nil, List.set_cons_zero, List.set_cons_succ, List.map_cons, List.map_nil, List.length_cons, List.length_nil, List.length_append, List.cons_append, List.nil_append, List.length_map, List.length_singleton, Nat.reduceBEq, Nat.reduceAdd, Nat.reduceSub, Nat.reduceMul, Nat.reduceEqDiff, Nat.reduceLeDiff, Nat.reduceLT, if_false, if_true, ite_true, ite_false, ↓reduceIte, Bool.not_true, Bool.not_false, Bool.false_eq_true, decide_true, decide_false, eq_self, and_true, true_and, and_self, Nat.zero_le, Nat.zero_add, Option.bind_some, Option.bind_none, Nat.lt_irrefl, Int.reduceToNat, Int.reducePow, Int.reduceNeg, Int.reduceMul, Int.reduceAdd, Int.reduceSub, Int.reduceLT, Int.reduceLE, Int.reduceEq, beq_self_eq_true, wipeE, MP.at0, MP.at1, MP.at2, MP.atLit, hw]) ?_
  obtain ⟨sort, hs4, hsx⟩ : ∃ n : Nat, n < 4 ∧ f / 6 % 4 = (n : Int) := ⟨(f / 6 % 4).toNat, by omega, by omega⟩
  obtain ⟨m6, hm1, hm6, hmx⟩ : ∃ n : Nat, 1 ≤ n ∧ n ≤ 6 ∧ 1 + f % 6 = (n : Int) := ⟨(1 + f % 6).toNat, by omega, by omega, by omega⟩
  obtain ⟨m9, hn1, hn9, hnx⟩ : ∃ n : Nat, 12 ≤ n ∧ n ≤ 20 ∧ 12 + f / 192 % 9 = (n : Int) := ⟨(12 + f / 192 % 9).toNat, by omega, by omega, by omega⟩
  refine sq (P := fun fl => ∃ b : Bk, Gd b ∧ fl.fr = .ok (.v (.btp (bkD b))) []) (s' := ⟨[.v (.lk (zs ns)), .v (.int 0), .v (.int f), .v (.int (sort : Nat)), .un, .un, .un, .un, .un, .un, .un, .un], []⟩) (by simp (disch := (first | assumption | with_reducible rfl | decide +kernel | exact Or.inl (by decide +kernel) | exact Or.inr (by decide +kernel) | omega | (simp only [List.length_cons, List.length_nil, List.length_append, List.length_map, List.length_replicate, List.length_range] <;> omega) | rfl)) only [evEqs, List.getElem?_cons_zero, List.getElem?_cons_succ, List.getElem?_nil, List.set_cons_zero, List.set_cons_succ, List.map_cons, List.map_nil, List.length_cons, List.length_nil, List.length_append, List.cons_append, List.nil_append, List.length_map, List.length_singleton, Nat.reduceBEq, Nat.reduceAdd, Nat.reduceSub, Nat.reduceMul, Nat.reduceEqDiff, Nat.reduceLeDiff, Nat.reduceLT, if_false, if_true, ite_true, ite_false, ↓reduceIte, Bool.not_true, Bool.not_false, Bool.false_eq_true, decide_true, decide_false, eq_self, and_true, true_and, and_self, Nat.zero_le, Nat.zero_add, Option.bind_some, Option.bind_none, Nat.lt_irrefl, Int.reduceToNat, Int.reducePow, Int.reduceNeg, Int.reduceMul, Int.reduceAdd, Int.reduceSub, Int.reduceLT, Int.reduceLE, Int.reduceEq, beq_self_eq_true, wipeE, MP.at0, MP.at1, MP.at2, MP.atLit, hsx]) ?_
  refine sq (P := fun fl => ∃ b : Bk, Gd b ∧ fl.fr = .ok (.v (.btp (bkD b))) []) (s' := ⟨[.v (.lk (zs ns)), .v (.int 0), .v (.int f), .v (.int (sort : Nat)), .v (.int (m6 : Nat)), .un, .un, .un, .un, .un, .un, .un], []⟩) (by simp (disch := (first | assumption | with_reducible rfl | decide +kernel | exact Or.inl (by decide +kernel) | exact Or.inr (by decide +kernel) | omega | (simp only [List.length_cons, List.length_nil, List.length_append, List.length_map, List.length_replicate, List.length_range] <;> omega) | rfl)) only [evEqs, List.getElem?_cons_zero, List.getElem?_cons_succ, List.getElem?_nil, List.set_cons_zero, List.set_cons_succ, List.map_cons, List.map_nil, List.length_cons, List.length_nil, List.length_append, List.cons_append, List.nil_append, List.length_map, List.length_singleton, Nat.reduceBEq, Nat.reduceAdd, Nat.reduceSub, Nat.reduceMul, Nat.reduceEqDiff, Nat.reduceLeDiff, Nat.reduceLT, if_false, if_true, ite_true, ite_false, ↓reduceIte, Bool.not_true, Bool.not_false, Bool.false_eq_true, decide_true, decide_false, eq_self, and_true, true_and, and_self, Nat.zero_le, Nat.zero_add, Option.bind_some, Option.bind_none, Nat.lt_irrefl, Int.reduceToNat, Int.reducePow, Int.reduceNeg, Int.reduceMul, Int.reduceAdd, Int.reduceSub, Int.reduceLT, Int.reduceLE, Int.reduceEq, beq_self_eq_true, wipeE, MP.at0, MP.at1, MP.at2, MP.atLit, hmx]) ?_
  refine sq (P := fun fl => ∃ b : Bk, Gd b ∧ fl.fr = .ok (.v (.btp (bkD b))) []) (s' := ⟨[.v (.lk (zs ns)), .v (.int 0), .v (.int f), .v (.int (sort : Nat)), .v (.int (m6 : Nat)), .v (.int 4), .un, .un, .un, .un, .un, .un], []⟩) (by simp (disch := (first | assumption | with_reducible rfl | decide +kernel | exact Or.inl (by decide +kernel) | exact Or.inr (by decide +kernel) | omega | (simp only [List.length_cons, List.length_nil, List.length_append, List.length_map, List.length_replicate, List.length_range] <;> omega) | rfl)) only [evEqs, List.getElem?_cons_zero, List.getElem?_cons_succ, List.getElem?_nil, List.set_cons_zero, List.set_cons_succ, List.map_cons, List.map_nil, List.length_cons, List.length_nil, List.length_append, List.cons_append, List.nil_append, List.length_map, List.length_singleton, Nat.reduceBEq, Nat.reduceAdd, Nat.reduceSub, Nat.reduceMul, Nat.reduceEqDiff, Nat.reduceLeDiff, Nat.reduceLT, if_false, if_true, ite_true, ite_false, ↓reduceIte, Bool.not_true, Bool.not_false, Bool.false_eq_true, decide_true, decide_false, eq_self, and_true, true_and, and_self, Nat.zero_le, Nat.zero_add, Option.bind_some, Option.bind_none, Nat.lt_irrefl, Int.reduceToNat, Int.reducePow, Int.reduceNeg, Int.reduceMul, Int.reduceAdd, Int.reduceSub, Int.reduceLT, Int.reduceLE, Int.reduceEq, beq_self_eq_true, wipeE, MP.at0, MP.at1, MP.at2, MP.atLit]) ?_
  obtain ⟨many, most, hmn, hmo, e7⟩ : ∃ many most : Nat, (1 ≤ many ∧ many ≤ 20) ∧ (1 ≤ most ∧ most ≤ 6) ∧ sIf (pB (p2 gEq (p2 gMod (p2 gDiv (pVar 2) (pC (.int 24))) (pC (.int 8))) (pC (.int 3)))) (sSeq (sSetV 4 (pD (p2 gPlus (pC (.int 12)) (p2 gMod (p2 gDiv (pVar 2) (pC (.int 192))) (pC (.int 9)))))) (sSetV 5 (pD (pC (.int 6))))) (sNil) ⟨[.v (.lk (zs ns)), .v (.int 0), .v (.int f), .v (.int (sort : Nat)), .v (.int (m6 : Nat)), .v (.int 4), .un, .un, .un, .un, .un, .un], []⟩ =
      .nx ⟨[.v (.lk (zs ns)), .v (.int 0), .v (.int f), .v (.int (sort : Nat)), .v (.int (many : Nat)), .v (.int (most : Nat)), .un, .un, .un, .un, .un, .un], []⟩ := by
    by_cases h8 : f / 24 % 8 = 3
    · have h8 : (f / 24 % 8 = 3) = True := eq_true h8
      refine ⟨m9, 6, ⟨by omega, hn9⟩, by decide, ?_⟩
      simp (disch := (first | assumption | with_reducible rfl | decide +kernel | exact Or.inl (by decide +kernel) | exact Or.inr (by decide +kernel) | omega | (simp only [List.length_cons, List.length_nil, List.length_append, List.length_map, List.length_replicate, List.length_range] <;> omega) | rfl)) only [evEqs, List.getElem?_cons_zero, List.getElem?_cons_succ, List.getElem?_nil, List.set_cons_zero, List.set_cons_succ, List.map_cons, List.map_nil, List.length_cons, List.length_nil, List.length_append, List.cons_append, List.nil_append, List.length_map, List.length_singleton, Nat.reduceBEq, Nat.reduceAdd, Nat.reduceSub, Nat.reduceMul, Nat.reduceEqDiff, Nat.reduceLeDiff, Nat.reduceLT, if_false, if_true, ite_true, ite_false, ↓reduceIte, Bool.not_true, Bool.not_false, Bool.false_eq_true, decide_true, decide_false, eq_self, and_true, true_and, and_self, Nat.zero_le, Nat.zero_add, Option.bind_some, Option.bind_none, Nat.lt_irrefl, Int.reduceToNat, Int.reducePow, Int.reduceNeg, Int.reduceMul, Int.reduceAdd, Int.reduceSub, Int.reduceLT, Int.reduceLE, Int.reduceEq, beq_self_eq_true, wipeE, MP.at0, MP.at1, MP.at2, MP.atLit, h8, hnx]
      rfl
    · refine ⟨m6, 4, ⟨hm1, by omega⟩, by decide, ?_⟩
      simp (disch := (first | assumption | with_reducible rfl | decide +kernel | exact Or.inl (by decide +kernel) | exact Or.inr (by decide +kernel) | omega | (simp only [List.length_cons, List.length_nil, List.length_append, List.length_map, List.length_replicate, List.length_range] <;> omega) | rfl)) only [evEqs, List.getElem?_cons_zero, List.getElem?_cons_succ, List.getElem?_nil, List.set_cons_zero, List.set_cons_succ, List.map_cons, List.map_nil, List.length_cons, List.length_nil, List.length_append, List.cons_append, List.nil_append, List.length_map, List.length_singleton, Nat.reduceBEq, Nat.reduceAdd, Nat.reduceSub, Nat.reduceMul, Nat.reduceEqDiff, Nat.reduceLeDiff, Nat.reduceLT, if_false, if_true, ite_true, ite_false, ↓reduceIte, Bool.not_true, Bool.not_false, Bool.false_eq_true, decide_true, decide_false, eq_self, and_true, true_and, and_self, Nat.zero_le, Nat.zero_add, Option.bind_some, Option.bind_none, Nat.lt_irrefl, Int.reduceToNat, Int.reducePow, Int.reduceNeg, Int.reduceMul, Int.reduceAdd, Int.reduceSub, Int.reduceLT, Int.reduceLE, Int.reduceEq, beq_self_eq_true, wipeE, MP.at0, MP.at1, MP.at2, MP.atLit, h8]
  refine sq (P := fun fl => ∃ b : Bk, Gd b ∧ fl.fr = .ok (.v (.btp (bkD b))) []) e7 ?_
  have c1 := m_cell ns 1 (by decide)
  generalize ns.getD (1 : Int).toNat 0 = cc at c1
  have hw1 := m_wide cc 2 (by decide)
  generalize wide cc 2 = ff at hw1
  obtain ⟨ws, hwl, hlow, hnd, en⟩ := m_names ff many hmn.1 hmn.2
  have hwdl : (ws.map fun w => D.str (sw w)).length = many := by simp [hwl]
  refine sq (P := fun fl => ∃ b : Bk, Gd b ∧ fl.fr = .ok (.v (.btp (bkD b))) []) (s' := ⟨[.v (.lk (zs ns)), .v (.int 0), .v (.int f), .v (.int (sort : Nat)), .v (.int (many : Nat)), .v (.int (most : Nat)), .v (.list (ws.map fun w => D.str (sw w))), .un, .un, .un, .un, .un], []⟩) (by
    generalize ws.map (fun w => D.str (sw w)) = wd at *
    simp (disch := (first | assumption | with_reducible rfl | decide +kernel | exact Or.inl (by decide +kernel) | exact Or.inr (by decide +kernel) | omega | (simp only [List.length_cons, List.length_nil, List.length_append, List.length_map, List.length_replicate, List.length_range] <;> omega) | rfl)) only [evEqs, List.getElem?_cons_zero, List.getElem?_cons_succ, List.getElem?_nil, List.set_cons_zero, List.set_cons_succ, List.map_cons, List.map_nil, List.length_cons, List.length_nil, List.length_append, List.cons_append, List.nil_append, List.length_map, List.length_singleton, Nat.reduceBEq, Nat.reduceAdd, Nat.reduceSub, Nat.reduceMul, Nat.reduceEqDiff, Nat.reduceLeDiff, Nat.reduceLT, if_false, if_true, ite_true, ite_false, ↓reduceIte, Bool.not_true, Bool.not_false, Bool.false_eq_true, decide_true, decide_false, eq_self, and_true, true_and, and_self, Nat.zero_le, Nat.zero_add, Option.bind_some, Option.bind_none, Nat.lt_irrefl, Int.reduceToNat, Int.reducePow, Int.reduceNeg, Int.reduceMul, Int.reduceAdd, Int.reduceSub, Int.reduceLT, Int.reduceLE, Int.reduceEq, beq_self_eq_true, wipeE, MP.at0, MP.at1, MP.at2, MP.atLit, c1, hw1, en]) ?_
  refine sq (P := fun fl => ∃ b : Bk, Gd b ∧ fl.fr = .ok (.v (.btp (bkD b))) []) (s' := ⟨[.v (.lk (zs ns)), .v (.int 0), .v (.int f), .v (.int (sort : Nat)), .v (.int (many : Nat)), .v (.int (most : Nat)), .v (.list (ws.map fun w => D.str (sw w))), .own (.list []), .un, .un, .un, .un], []⟩) (by simp (disch := (first | assumption | with_reducible rfl | decide +kernel | exact Or.inl (by decide +kernel) | exact Or.inr (by decide +kernel) | omega | (simp only [List.length_cons, List.length_nil, List.length_append, List.length_map, List.length_replicate, List.length_range] <;> omega) | rfl)) only [evEqs, List.getElem?_cons_zero, List.getElem?_cons_succ, List.getElem?_nil, List.set_cons_zero, List.set_cons_succ, List.map_cons, List.map_nil, List.length_cons, List.length_nil, List.length_append, List.cons_append, List.nil_append, List.length_map, List.length_singleton, Nat.reduceBEq, Nat.reduceAdd, Nat.reduceSub, Nat.reduceMul, Nat.reduceEqDiff, Nat.reduceLeDiff, Nat.reduceLT, if_false, if_true, ite_true, ite_false, ↓reduceIte, Bool.not_true, Bool.not_false, Bool.false_eq_true, decide_true, decide_false, eq_self, and_true, true_and, and_self, Nat.zero_le, Nat.zero_add, Option.bind_some, Option.bind_none, Nat.lt_irrefl, Int.reduceToNat, Int.reducePow, Int.reduceNeg, Int.reduceMul, Int.reduceAdd, Int.reduceSub, Int.reduceLT, Int.reduceLE, Int.reduceEq, beq_self_eq_true, wipeE, MP.at0, MP.at1, MP.at2, MP.atLit]) ?_
  refine forP (P := fun fl => ∃ b : Bk, Gd b ∧ fl.fr = .ok (.v (.btp (bkD b))) []) (rng 0 (many : Int)) (fun i s => ∃ (b : Bk) (x8 x9 x10 x11 : Slot), Gn ws i b ∧ s = ⟨[.v (.lk (zs ns)), .v (.int 0), .v (.int f), .v (.int (sort : Nat)), .v (.int (many : Nat)), .v (.int (most : Nat)), .v (.list (ws.map fun w => D.str (sw w))), .own (.list (bkD b)), x8, x9, x10, x11], []⟩) (by simp (disch := (first | assumption | with_reducible rfl | decide +kernel | exact Or.inl (by decide +kernel) | exact Or.inr (by decide +kernel) | omega | (simp only [List.length_cons, List.length_nil, List.length_append, List.length_map, List.length_replicate, List.length_range] <;> omega) | rfl)) only [evEqs, List.getElem?_cons_zero, List.getElem?_cons_succ, List.getElem?_nil, List.set_cons_zero, List.set_cons_succ, List.map_cons, List.map_nil, List.length_cons, List.length_nil, List.length_append, List.cons_append, List.nil_append, List.length_map, List.length_singleton, Nat.reduceBEq, Nat.reduceAdd, Nat.reduceSub, Nat.reduceMul, Nat.reduceEqDiff, Nat.reduceLeDiff, Nat.reduceLT, if_false, if_true, ite_true, ite_false, ↓reduceIte, Bool.not_true, Bool.not_false, Bool.false_eq_true, decide_true, decide_false, eq_self, and_true, true_and, and_self, Nat.zero_le, Nat.zero_add, Option.bind_some, Option.bind_none, Nat.lt_irrefl, Int.reduceToNat, Int.reducePow, Int.reduceNeg, Int.reduceMul, Int.reduceAdd, Int.reduceSub, Int.reduceLT, Int.reduceLE, Int.reduceEq, beq_self_eq_true, wipeE, MP.at0, MP.at1, MP.at2, MP.atLit]) ⟨[], _, _, _, _, ⟨by simp, (fun e he => by cases he)⟩, rfl⟩ ?_ ?_
  · rintro k d s hd ⟨b, x8, x9, x10, x11, g, rfl⟩
    obtain ⟨rfl, hk⟩ := rngAt hd
    have hkw : k < ws.length := by omega
    have ck := m_cell ns (2 + (k : Int) % 6) (by omega)
    generalize ns.getD (2 + (k : Int) % 6).toNat 0 = ck' at ck
    have hwk := m_wide ck' (3 + (k : Int)) (by omega)
    generalize wide ck' (3 + (k : Int)) = fk at hwk
    obtain ⟨n, hn1, hn6, hnx⟩ : ∃ n : Nat, 1 ≤ n ∧ n ≤ 6 ∧ 1 + fk % (most : Int) = (n : Int) := ⟨(1 + fk % (most : Int)).toNat, by
      have p := Int.emod_nonneg fk (show (most : Int) ≠ 0 by omega)
      omega, by
      have p := Int.emod_nonneg fk (show (most : Int) ≠ 0 by omega)
      have q := Int.emod_lt_of_pos fk (show (0 : Int) < (most : Int) by omega)
      omega, by
      have p := Int.emod_nonneg fk (show (most : Int) ≠ 0 by omega)
      omega⟩
    obtain ⟨ss, y9, y11, gs, el⟩ := m_bk_in ns (.v (.int 0)) (.v (.int f)) (.v (.int (many : Nat))) (.v (.list (ws.map fun w => D.str (sw w)))) (.own (.list (bkD b))) (.v (.int (k : Nat))) x11 sort most hs4 n hn6 fk
    have hat : atI (ws.map fun w => D.str (sw w)) (k : Int) = some (.str (sw ws[k])) := by rw [atN, List.getElem?_map, List.getElem?_eq_getElem hkw]; rfl
    have hsn := bk_snoc b ws[k] ss
    have hbl := bkD_len b
    have hb20 : b.length ≤ 20 := by
      have := congrArg List.length g.nm
      simp at this
      omega
    have hsl : (ss.map stD).length = n := by simp [gs.1]
    have g' := g.add hkw gs hn1 hn6
    have hm2 : 0 < (most : Int) := by omega
    have hm3 : (most : Int) < 100 := by omega
    refine ⟨_, b_nm .., ?_⟩
    show Turn _ _ (lp_l_book_2 ⟨[.v (.lk (zs ns)), .v (.int 0), .v (.int f), .v (.int (sort : Nat)), .v (.int (many : Nat)), .v (.int (most : Nat)), .v (.list (ws.map fun w => D.str (sw w))), .own (.list (bkD b)), .v (.int (k : Nat)), x9, x10, x11], []⟩)
    have e : lp_l_book_2 ⟨[.v (.lk (zs ns)), .v (.int 0), .v (.int f), .v (.int (sort : Nat)), .v (.int (many : Nat)), .v (.int (most : Nat)), .v (.list (ws.map fun w => D.str (sw w))), .own (.list (bkD b)), .v (.int (k : Nat)), x9, x10, x11], []⟩ = .nx ⟨[.v (.lk (zs ns)), .v (.int 0), .v (.int f), .v (.int (sort : Nat)), .v (.int (many : Nat)), .v (.int (most : Nat)), .v (.list (ws.map fun w => D.str (sw w))), .own (.list (bkD (b ++ [(ws[k], ss)]))), .v (.int (k : Nat)), y9, .own (.list (ss.map stD)), y11], []⟩ := by
      rw [← hsn]
      unfold lp_l_book_2
      generalize ws[k] = wk at *
      generalize ws.map (fun w => D.str (sw w)) = wd at *
      generalize ss.map stD = sd at *
      generalize bkD b = bd at *
      refine sqX (s' := ⟨[.v (.lk (zs ns)), .v (.int 0), .v (.int f), .v (.int (sort : Nat)), .v (.int (many : Nat)), .v (.int (most : Nat)), .v (.list wd), .own (.list bd), .v (.int (k : Nat)), .v (.int fk), x10, x11], []⟩) (by simp (disch := (first | assumption | with_reducible rfl | decide +kernel | exact Or.inl (by decide +kernel) | exact Or.inr (by decide +kernel) | omega | (simp only [List.length_cons, List.length_nil, List.length_append, List.length_map, List.length_replicate, List.length_range] <;> omega) | rfl)) only [evEqs, List.getElem?_cons_zero, List.getElem?_cons_succ, List.getElem?_nil, List.set_cons_zero, List.set_cons_succ, List.map_cons, List.map_nil, List.length_cons, List.length_nil, List.length_append, List.cons_append, List.nil_append, List.length_map, List.length_singleton, Nat.reduceBEq, Nat.reduceAdd, Nat.reduceSub, Nat.reduceMul, Nat.reduceEqDiff, Nat.reduceLeDiff, Nat.reduceLT, if_false, if_true, ite_true, ite_false, ↓reduceIte, Bool.not_true, Bool.not_false, Bool.false_eq_true, decide_true, decide_false, eq_self, and_true, true_and, and_self, Nat.zero_le, Nat.zero_add, Option.bind_some, Option.bind_none, Nat.lt_irrefl, Int.reduceToNat, Int.reducePow, Int.reduceNeg, Int.reduceMul, Int.reduceAdd, Int.reduceSub, Int.reduceLT, Int.reduceLE, Int.reduceEq, beq_self_eq_true, wipeE, MP.at0, MP.at1, MP.at2, MP.atLit, ck, hwk]) ?_
      refine sqX (s' := ⟨[.v (.lk (zs ns)), .v (.int 0), .v (.int f), .v (.int (sort : Nat)), .v (.int (many : Nat)), .v (.int (most : Nat)), .v (.list wd), .own (.list bd), .v (.int (k : Nat)), .v (.int fk), .own (.list []), x11], []⟩) (by simp (disch := (first | assumption | with_reducible rfl | decide +kernel | exact Or.inl (by decide +kernel) | exact Or.inr (by decide +kernel) | omega | (simp only [List.length_cons, List.length_nil, List.length_append, List.length_map, List.length_replicate, List.length_range] <;> omega) | rfl)) only [evEqs, List.getElem?_cons_zero, List.getElem?_cons_succ, List.getElem?_nil, List.set_cons_zero, List.set_cons_succ, List.map_cons, List.map_nil, List.length_cons, List.length_nil, List.length_append, List.cons_append, List.nil_append, List.length_map, List.length_singleton, Nat.reduceBEq, Nat.reduceAdd, Nat.reduceSub, Nat.reduceMul, Nat.reduceEqDiff, Nat.reduceLeDiff, Nat.reduceLT, if_false, if_true, ite_true, ite_false, ↓reduceIte, Bool.not_true, Bool.not_false, Bool.false_eq_true, decide_true, decide_false, eq_self, and_true, true_and, and_self, Nat.zero_le, Nat.zero_add, Option.bind_some, Option.bind_none, Nat.lt_irrefl, Int.reduceToNat, Int.reducePow, Int.reduceNeg, Int.reduceMul, Int.reduceAdd, Int.reduceSub, Int.reduceLT, Int.reduceLE, Int.reduceEq, beq_self_eq_true, wipeE, MP.at0, MP.at1, MP.at2, MP.atLit]) ?_
      refine sqX (s' := ⟨[.v (.lk (zs ns)), .v (.int 0), .v (.int f), .v (.int (sort : Nat)), .v (.int (many : Nat)), .v (.int (most : Nat)), .v (.list wd), .own (.list bd), .v (.int (k : Nat)), y9, .own (.list sd), y11], []⟩) (by simp (disch := (first | assumption | with_reducible rfl | decide +kernel | exact Or.inl (by decide +kernel) | exact Or.inr (by decide +kernel) | omega | (simp only [List.length_cons, List.length_nil, List.length_append, List.length_map, List.length_replicate, List.length_range] <;> omega) | rfl)) only [evEqs, List.getElem?_cons_zero, List.getElem?_cons_succ, List.getElem?_nil, List.set_cons_zero, List.set_cons_succ, List.map_cons, List.map_nil, List.length_cons, List.length_nil, List.length_append, List.cons_append, List.nil_append, List.length_map, List.length_singleton, Nat.reduceBEq, Nat.reduceAdd, Nat.reduceSub, Nat.reduceMul, Nat.reduceEqDiff, Nat.reduceLeDiff, Nat.reduceLT, if_false, if_true, ite_true, ite_false, ↓reduceIte, Bool.not_true, Bool.not_false, Bool.false_eq_true, decide_true, decide_false, eq_self, and_true, true_and, and_self, Nat.zero_le, Nat.zero_add, Option.bind_some, Option.bind_none, Nat.lt_irrefl, Int.reduceToNat, Int.reducePow, Int.reduceNeg, Int.reduceMul, Int.reduceAdd, Int.reduceSub, Int.reduceLT, Int.reduceLE, Int.reduceEq, beq_self_eq_true, wipeE, MP.at0, MP.at1, MP.at2, MP.atLit, hnx, el]) ?_
      simp (disch := (first | assumption | with_reducible rfl | decide +kernel | exact Or.inl (by decide +kernel) | exact Or.inr (by decide +kernel) | omega | (simp only [List.length_cons, List.length_nil, List.length_append, List.length_map, List.length_replicate, List.length_range] <;> omega) | rfl)) only [evEqs, List.getElem?_cons_zero, List.getElem?_cons_succ, List.getElem?_nil, List.set_cons_zero, List.set_cons_succ, List.map_cons, List.map_nil, List.length_cons, List.length_nil, List.length_append, List.cons_append, List.nil_append, List.length_map, List.length_singleton, Nat.reduceBEq, Nat.reduceAdd, Nat.reduceSub, Nat.reduceMul, Nat.reduceEqDiff, Nat.reduceLeDiff, Nat.reduceLT, if_false, if_true, ite_true, ite_false, ↓reduceIte, Bool.not_true, Bool.not_false, Bool.false_eq_true, decide_true, decide_false, eq_self, and_true, true_and, and_self, Nat.zero_le, Nat.zero_add, Option.bind_some, Option.bind_none, Nat.lt_irrefl, Int.reduceToNat, Int.reducePow, Int.reduceNeg, Int.reduceMul, Int.reduceAdd, Int.reduceSub, Int.reduceLT, Int.reduceLE, Int.reduceEq, beq_self_eq_true, wipeE, MP.at0, MP.at1, MP.at2, MP.atLit, hat]
    rw [e]
    exact ⟨_, _, _, _, _, g', rfl⟩
  · rintro s ⟨b, x8, x9, x10, x11, g, rfl⟩
    rw [rngLenN] at g
    have hnm : b.map Prod.fst = ws := by rw [g.nm, List.take_of_length_le (by omega)]
    have hbl : b.length = many := by
      have := congrArg List.length hnm
      simpa [hwl] using this
    refine ⟨b, ⟨by omega, by omega, fun e he => hlow _ (by rw [← hnm]; exact List.mem_map.mpr ⟨e, he, rfl⟩), g.st, by rw [hnm]; exact hnd⟩, ?_⟩
    generalize ws.map (fun w => D.str (sw w)) = wd
    generalize bkD b = bd
    simp (disch := (first | assumption | with_reducible rfl | decide +kernel | exact Or.inl (by decide +kernel) | exact Or.inr (by decide +kernel) | omega | (simp only [List.length_cons, List.length_nil, List.length_append, List.length_map, List.length_replicate, List.length_range] <;> omega) | rfl)) only [evEqs, List.getElem?_cons_zero, List.getElem?_cons_succ, List.getElem?_nil, List.set_cons_zero, List.set_cons_succ, List.map_cons, List.map_nil, List.length_cons, List.length_nil, List.length_append, List.cons_append, List.nil_append, List.length_map, List.length_singleton, Nat.reduceBEq, Nat.reduceAdd, Nat.reduceSub, Nat.reduceMul, Nat.reduceEqDiff, Nat.reduceLeDiff, Nat.reduceLT, if_false, if_true, ite_true, ite_false, ↓reduceIte, Bool.not_true, Bool.not_false, Bool.false_eq_true, decide_true, decide_false, eq_self, and_true, true_and, and_self, Nat.zero_le, Nat.zero_add, Option.bind_some, Option.bind_none, Nat.lt_irrefl, Int.reduceToNat, Int.reducePow, Int.reduceNeg, Int.reduceMul, Int.reduceAdd, Int.reduceSub, Int.reduceLT, Int.reduceLE, Int.reduceEq, beq_self_eq_true, wipeE, MP.at0, MP.at1, MP.at2, MP.atLit]

abbrev Wd := List Nat × List (List Int)
def wst (ws : List Wd) : List (List Int) := ws.flatMap (·.2)
theorem wst_cons (w : Wd) (ws : List Wd) : wst (w :: ws) = w.2 ++ wst ws := rfl
theorem wst_app (a b : List Wd) : wst (a ++ b) = wst a ++ wst b := by unfold wst; rw [List.flatMap_append]
theorem wst_one (w : Wd) : wst [w] = w.2 := by unfold wst; simp
structure Way where
  rest : List (List Int)
  price : Nat
  lo : List Wd
  sh : List Wd
def pre (a b : List (List Int)) : Bool := decide (b.take a.length = a)
theorem pre_iff (a b : List (List Int)) : pre a b = true ↔ ∃ c, b = a ++ c := by
  unfold pre
  rw [decide_eq_true_eq]
  constructor
  · intro h
    refine ⟨b.drop a.length, ?_⟩
    conv => lhs; rw [← List.take_append_drop a.length b]
    rw [h]
  · rintro ⟨c, rfl⟩
    simp
def frow (b : List Wd) (w : Wd) : List Way := (b.filter fun o => decide (w.1 ≠ o.1) && pre w.2 o.2).map fun o => ⟨o.2.drop w.2.length, o.2.length, [o], [w]⟩
def firsts (b : List Wd) : List Way := b.flatMap (frow b)
def nextW (y : Way) (w : Wd) : List Way :=
  if pre w.2 y.rest = true then [⟨y.rest.drop w.2.length, y.price, y.lo, y.sh ++ [w]⟩]
  else if pre y.rest w.2 = true then [⟨w.2.drop y.rest.length, y.price + w.2.length - y.rest.length, y.sh ++ [w], y.lo⟩] else []
def nexts (b : List Wd) (y : Way) : List Way := b.flatMap (nextW y)
def kat (k : List Way) (r : List (List Int)) : Option Way := k.find? fun y => decide (y.rest = r)
def kput (k : List Way) (y : Way) : List Way := if (kat k y.rest).isSome = true then k.map (fun z => if z.rest = y.rest then y else z) else k ++ [y]
def better (k : List Way) (y : Way) : Bool := match kat k y.rest with
  | none => true
  | some z => decide (y.price < z.price)
def acc (b : List Wd) (st : List Way × List Way) (y : Way) : List Way × List Way :=
  if better st.1 y = true then (kput st.1 y, if 0 < y.rest.length then st.2 ++ nexts b y else st.2) else st
def roundW (b : List Wd) (k ahead : List Way) : List Way × List Way := ahead.foldl (acc b) (k, [])
inductive WR (b : List Wd) : Nat → List Way → List Way → List Way → Prop
  | stop (k : List Way) : WR b 0 k [] k
  | go {n : Nat} {k ahead r : List Way} : ahead ≠ [] → WR b n (roundW b k ahead).1 (roundW b k ahead).2 r → WR b (n + 1) k ahead r
/-- what holds of each way -/
structure WOk (b : List Wd) (y : Way) : Prop where
  eq : wst y.lo = wst y.sh ++ y.rest
  pr : y.price = (wst y.lo).length
  lo : ∀ w ∈ y.lo, w ∈ b
  sh : ∀ w ∈ y.sh, w ∈ b
theorem firsts_ok (b : List Wd) : ∀ y ∈ firsts b, WOk b y := by
  intro y hy
  obtain ⟨w, hw, hy⟩ := List.mem_flatMap.mp hy
  obtain ⟨o, ho, rfl⟩ := List.mem_map.mp hy
  obtain ⟨ho1, ho2⟩ := List.mem_filter.mp ho
  rw [Bool.and_eq_true] at ho2
  obtain ⟨c, hc⟩ := (pre_iff _ _).mp ho2.2
  refine ⟨?_, ?_, ?_, ?_⟩
  · show wst [o] = wst [w] ++ o.2.drop w.2.length
    rw [wst_one, wst_one, hc]; simp
  · show o.2.length = (wst [o]).length
    rw [wst_one]
  · intro x hx; rw [List.mem_singleton.mp hx]; exact ho1
  · intro x hx; rw [List.mem_singleton.mp hx]; exact hw
theorem nexts_ok {b : List Wd} {y : Way} (h : WOk b y) : ∀ z ∈ nexts b y, WOk b z := by
  intro z hz
  obtain ⟨w, hw, hz⟩ := List.mem_flatMap.mp hz
  unfold nextW at hz
  have he := h.eq
  have hp := h.pr
  by_cases c1 : pre w.2 y.rest = true
  · rw [if_pos c1] at hz
    rw [List.mem_singleton.mp hz]
    obtain ⟨c, hc⟩ := (pre_iff _ _).mp c1
    refine ⟨?_, hp, h.lo, ?_⟩
    · show wst y.lo = wst (y.sh ++ [w]) ++ y.rest.drop w.2.length
      rw [wst_app, wst_one, he, hc]; simp
    · intro x hx
      rcases List.mem_append.mp hx with hx | hx
      · exact h.sh x hx
      · rw [List.mem_singleton.mp hx]; exact hw
  · rw [if_neg c1] at hz
    by_cases c2 : pre y.rest w.2 = true
    · rw [if_pos c2] at hz
      rw [List.mem_singleton.mp hz]
      obtain ⟨c, hc⟩ := (pre_iff _ _).mp c2
      have hl : wst (y.sh ++ [w]) = wst y.lo ++ c := by rw [wst_app, wst_one, he, hc]; simp
      refine ⟨?_, ?_, ?_, h.lo⟩
      · show wst (y.sh ++ [w]) = wst y.lo ++ w.2.drop y.rest.length
        rw [hl, hc]; simp
      · show y.price + w.2.length - y.rest.length = (wst (y.sh ++ [w])).length
        rw [hl, hp, hc, List.length_append, List.length_append]; omega
      · intro x hx
        rcases List.mem_append.mp hx with hx | hx
        · exact h.sh x hx
        · rw [List.mem_singleton.mp hx]; exact hw
    · rw [if_neg c2] at hz; cases hz
/-- r is kept at a price no higher than p -/
def Kp (k : List Way) (r : List (List Int)) (p : Nat) : Prop := ∃ y ∈ k, y.rest = r ∧ y.price ≤ p
def Pd (l : List Way) (r : List (List Int)) (p : Nat) : Prop := ∃ y ∈ l, y.rest = r ∧ y.price = p
/-- a step of the way from (r, p) by the word w -/
def stepR (r : List (List Int)) (p : Nat) (w : Wd) : Option (List (List Int) × Nat) :=
  if pre w.2 r = true then some (r.drop w.2.length, p) else if pre r w.2 = true then some (w.2.drop r.length, p + w.2.length - r.length) else none
theorem next_step {y z : Way} {w : Wd} (h : z ∈ nextW y w) : stepR y.rest y.price w = some (z.rest, z.price) := by
  unfold nextW at h
  unfold stepR
  by_cases c1 : pre w.2 y.rest = true
  · rw [if_pos c1] at h ⊢
    rw [List.mem_singleton.mp h]
  · rw [if_neg c1] at h ⊢
    by_cases c2 : pre y.rest w.2 = true
    · rw [if_pos c2] at h ⊢
      rw [List.mem_singleton.mp h]
    · rw [if_neg c2] at h; cases h
theorem step_next {y : Way} {w : Wd} {r : List (List Int)} {p : Nat} (h : stepR y.rest y.price w = some (r, p)) : ∃ z ∈ nextW y w, z.rest = r ∧ z.price = p := by
  unfold stepR at h
  unfold nextW
  by_cases c1 : pre w.2 y.rest = true
  · rw [if_pos c1] at h ⊢
    cases h
    exact ⟨_, List.mem_singleton.mpr rfl, rfl, rfl⟩
  · rw [if_neg c1] at h ⊢
    by_cases c2 : pre y.rest w.2 = true
    · rw [if_pos c2] at h ⊢
      cases h
      exact ⟨_, List.mem_singleton.mpr rfl, rfl, rfl⟩
    · rw [if_neg c2] at h; cases h
/-- pending, or kept -/
def Got2 (k l : List Way) (r : List (List Int)) (p : Nat) : Prop := Kp k r p ∨ Pd l r p
structure CI (b : List Wd) (k l : List Way) : Prop where
  nd : (k.map Way.rest).Nodup
  ok : ∀ y ∈ k, WOk b y
  okl : ∀ y ∈ l, WOk b y
  fst : ∀ y ∈ firsts b, Got2 k l y.rest y.price
  nxt : ∀ y ∈ k, y.rest ≠ [] → ∀ w ∈ b, ∀ r p, stepR y.rest y.price w = some (r, p) → Got2 k l r p
theorem kat_some {k : List Way} {r : List (List Int)} {z : Way} (h : kat k r = some z) : z ∈ k ∧ z.rest = r := by
  unfold kat at h
  have e := List.find?_some h
  exact ⟨List.mem_of_find?_eq_some h, of_decide_eq_true e⟩
theorem kat_none {k : List Way} {r : List (List Int)} (h : kat k r = none) : ∀ z ∈ k, z.rest ≠ r := by
  unfold kat at h
  intro z hz e
  have := List.find?_eq_none.mp h z hz
  exact this (decide_eq_true e)
theorem mem_kput {k : List Way} {y z : Way} (h : z ∈ kput k y) : z = y ∨ (z ∈ k ∧ z.rest ≠ y.rest) := by
  unfold kput at h
  by_cases c : (kat k y.rest).isSome = true
  · rw [if_pos c] at h
    obtain ⟨x, hx, e⟩ := List.mem_map.mp h
    by_cases c2 : x.rest = y.rest
    · rw [if_pos c2] at e; exact .inl e.symm
    · rw [if_neg c2] at e; subst e; exact .inr ⟨hx, c2⟩
  · rw [if_neg c] at h
    have hn : kat k y.rest = none := by
      cases hk : kat k y.rest with
      | none => rfl
      | some z => rw [hk] at c; exact absurd rfl c
    rcases List.mem_append.mp h with h | h
    · exact .inr ⟨h, kat_none hn z h⟩
    · exact .inl (List.mem_singleton.mp h)
theorem kput_mem {k : List Way} {y : Way} : y ∈ kput k y := by
  unfold kput
  cases hk : kat k y.rest with
  | none =>
    rw [if_neg (by simp)]
    exact List.mem_append_right _ (List.mem_singleton.mpr rfl)
  | some z =>
    rw [if_pos (show (some z).isSome = true from rfl)]
    obtain ⟨h1, h2⟩ := kat_some hk
    exact List.mem_map.mpr ⟨z, h1, if_pos h2⟩
theorem kput_old {k : List Way} {y z : Way} (h : z ∈ k) (hr : z.rest ≠ y.rest) : z ∈ kput k y := by
  unfold kput
  split
  · exact List.mem_map.mpr ⟨z, h, if_neg hr⟩
  · exact List.mem_append_left _ h
theorem kput_nd {k : List Way} {y : Way} (h : (k.map Way.rest).Nodup) : ((kput k y).map Way.rest).Nodup := by
  unfold kput
  cases hk : kat k y.rest with
  | none =>
    rw [if_neg (by simp), List.map_append]
    refine List.nodup_append.mpr ⟨h, (by simp), fun a ha b hb e => ?_⟩
    obtain ⟨z, hz, rfl⟩ := List.mem_map.mp ha
    have hb : b = y.rest := by simpa using hb
    exact kat_none hk z hz (e.trans hb)
  | some z =>
    rw [if_pos (show (some z).isSome = true from rfl), List.map_map]
    have : (Way.rest ∘ fun z => if z.rest = y.rest then y else z) = Way.rest := by
      funext z
      show (if z.rest = y.rest then y else z).rest = z.rest
      by_cases c : z.rest = y.rest
      · rw [if_pos c]; exact c.symm
      · rw [if_neg c]
    rw [this]
    exact h
theorem nd_inj {α β : Type} {f : α → β} : ∀ {l : List α}, (l.map f).Nodup → ∀ {x y : α}, x ∈ l → y ∈ l → f x = f y → x = y
  | [], _, x, y, h, _, _ => by cases h
  | a :: l, h, x, y, hx, hy, e => by
    rw [List.map_cons, List.nodup_cons] at h
    rcases List.mem_cons.mp hx with ex | hx'
    · rcases List.mem_cons.mp hy with ey | hy'
      · rw [ex, ey]
      · exact absurd (List.mem_map.mpr ⟨y, hy', by rw [← ex]; exact e.symm⟩) h.1
    · rcases List.mem_cons.mp hy with ey | hy'
      · exact absurd (List.mem_map.mpr ⟨x, hx', by rw [← ey]; exact e⟩) h.1
      · exact nd_inj h.2 hx' hy' e
theorem Kp.put {k : List Way} {y : Way} (hn : (k.map Way.rest).Nodup) (hb : better k y = true) {r : List (List Int)} {p : Nat} (h : Kp k r p) : Kp (kput k y) r p := by
  obtain ⟨z, hz, rfl, hp⟩ := h
  by_cases c : z.rest = y.rest
  · refine ⟨y, kput_mem, c.symm, ?_⟩
    unfold better at hb
    cases hk : kat k y.rest with
    | none => exact absurd c (kat_none hk z hz)
    | some x =>
      rw [hk] at hb
      have hb := of_decide_eq_true hb
      obtain ⟨h1, h2⟩ := kat_some hk
      have : x = z := nd_inj hn h1 hz (h2.trans c.symm)
      subst this
      omega
  · exact ⟨z, kput_old hz c, rfl, hp⟩

theorem better_no {k : List Way} {y : Way} (h : ¬ better k y = true) : Kp k y.rest y.price := by
  unfold better at h
  cases hk : kat k y.rest with
  | none => rw [hk] at h; exact absurd rfl h
  | some z =>
    rw [hk] at h
    obtain ⟨h1, h2⟩ := kat_some hk
    refine ⟨z, h1, h2, ?_⟩
    have : ¬ (y.price < z.price) := fun c => h (decide_eq_true c)
    omega
/-- one entry: what is pending is (y :: rest of ahead) ++ later -/
theorem CI.step {b : List Wd} {k later ahead : List Way} {y : Way} (h : CI b k (y :: ahead ++ later)) : CI b (acc b (k, later) y).1 (ahead ++ (acc b (k, later) y).2) := by
  unfold acc
  dsimp only
  by_cases c : better k y = true
  · rw [if_pos c]
    dsimp only
    have hy := h.okl y (by simp)
    have up : ∀ {r : List (List Int)} {p : Nat} {l : List Way}, (∀ z, z ∈ ahead ++ later → z ∈ l) → Got2 k (y :: ahead ++ later) r p → Got2 (kput k y) l r p := by
      rintro r p l hl (g | ⟨z, hz, e1, e2⟩)
      · exact .inl (Kp.put h.nd c g)
      · rw [List.cons_append] at hz
        rcases List.mem_cons.mp hz with rfl | hz
        · exact .inl ⟨z, kput_mem, e1, by omega⟩
        · exact .inr ⟨z, hl z hz, e1, e2⟩
    by_cases c0 : 0 < y.rest.length
    · rw [if_pos c0]
      have hl : ∀ z, z ∈ ahead ++ later → z ∈ ahead ++ (later ++ nexts b y) := fun z hz => by
        rcases List.mem_append.mp hz with hz | hz
        · exact List.mem_append_left _ hz
        · exact List.mem_append_right _ (List.mem_append_left _ hz)
      refine ⟨kput_nd h.nd, fun z hz => ?_, fun z hz => ?_, fun z hz => up hl (h.fst z hz), fun z hz hr w hw r p e => ?_⟩
      · rcases mem_kput hz with rfl | ⟨hz, _⟩
        · exact hy
        · exact h.ok z hz
      · rcases List.mem_append.mp hz with hz | hz
        · exact h.okl z (by simp [hz])
        · rcases List.mem_append.mp hz with hz | hz
          · exact h.okl z (by simp [hz])
          · exact nexts_ok hy z hz
      · rcases mem_kput hz with rfl | ⟨hz, _⟩
        · obtain ⟨x, hx, e1, e2⟩ := step_next e
          exact .inr ⟨x, List.mem_append_right _ (List.mem_append_right _ (List.mem_flatMap.mpr ⟨w, hw, hx⟩)), e1, e2⟩
        · exact up hl (h.nxt z hz hr w hw r p e)
    · rw [if_neg c0]
      have hy0 : y.rest = [] := List.eq_nil_of_length_eq_zero (by omega)
      refine ⟨kput_nd h.nd, fun z hz => ?_, fun z hz => h.okl z (by rw [List.cons_append]; exact List.mem_cons_of_mem _ hz), fun z hz => up (fun z hz => hz) (h.fst z hz), fun z hz hr w hw r p e => ?_⟩
      · rcases mem_kput hz with rfl | ⟨hz, _⟩
        · exact hy
        · exact h.ok z hz
      · rcases mem_kput hz with rfl | ⟨hz, _⟩
        · exact absurd hy0 hr
        · exact up (fun z hz => hz) (h.nxt z hz hr w hw r p e)
  · rw [if_neg c]
    have hk := better_no c
    have up : ∀ {r : List (List Int)} {p : Nat}, Got2 k (y :: ahead ++ later) r p → Got2 k (ahead ++ later) r p := by
      rintro r p (g | ⟨z, hz, e1, e2⟩)
      · exact .inl g
      · rw [List.cons_append] at hz
        rcases List.mem_cons.mp hz with rfl | hz
        · rw [← e1, ← e2]; exact .inl hk
        · exact .inr ⟨z, hz, e1, e2⟩
    exact ⟨h.nd, h.ok, fun z hz => h.okl z (by rw [List.cons_append]; exact List.mem_cons_of_mem _ hz), fun z hz => up (h.fst z hz), fun z hz hr w hw r p e => up (h.nxt z hz hr w hw r p e)⟩
theorem CI.fold {b : List Wd} : ∀ (ahead : List Way) (k later : List Way), CI b k (ahead ++ later) → CI b (ahead.foldl (acc b) (k, later)).1 (ahead.foldl (acc b) (k, later)).2
  | [], k, later, h => h
  | y :: ahead, k, later, h => by
    have h2 := h.step
    rw [List.foldl_cons]
    exact CI.fold ahead _ _ h2
theorem CI.end {b : List Wd} {n : Nat} {k ahead r : List Way} (h : WR b n k ahead r) : CI b k ahead → CI b r [] := by
  induction h with
  | stop k => exact id
  | @go n k ahead r h1 h2 ih =>
    intro h
    refine ih (CI.fold ahead k [] ?_)
    rw [List.append_nil]
    exact h
theorem CI.first (b : List Wd) : CI b [] (firsts b) :=
  ⟨List.nodup_nil, (fun y h => by cases h), firsts_ok b, (fun y h => .inr ⟨y, h, rfl, rfl⟩), (fun y h => by cases h)⟩
/-- at the end all is kept -/
theorem CI.kp {b : List Wd} {k : List Way} {r : List (List Int)} {p : Nat} (h : Got2 k [] r p) : Kp k r p := by
  rcases h with h | ⟨z, hz, _⟩
  · exact h
  · cases hz

structure Cl (b : List Wd) (k : List Way) : Prop where
  fst : ∀ y ∈ firsts b, Kp k y.rest y.price
  nxt : ∀ y ∈ k, y.rest ≠ [] → ∀ w ∈ b, ∀ r p, stepR y.rest y.price w = some (r, p) → Kp k r p
theorem CI.cl {b : List Wd} {k : List Way} (h : CI b k []) : Cl b k :=
  ⟨fun y hy => CI.kp (b := b) (h.fst y hy), fun y hy hr w hw r p e => CI.kp (b := b) (h.nxt y hy hr w hw r p e)⟩
def sumP (k : List Way) : Nat := (k.map Way.price).sum
/-- the rests there are -/
def InS (b : List Wd) (r : List (List Int)) : Prop := ∃ w ∈ b, ∃ i, 1 ≤ i ∧ i ≤ 6 ∧ r = w.2.drop i
/-- how far it may still fall -/
def phi (k : List Way) : Nat := sumP k + (120 - k.length) * 610
structure TI (b : List Wd) (k l : List Way) : Prop where
  nd : (k.map Way.rest).Nodup
  sub : ∀ y ∈ k, InS b y.rest
  subl : ∀ y ∈ l, InS b y.rest
  pr : ∀ y ∈ k, y.price ≤ 5 * k.length + 1
  prl : ∀ y ∈ l, y.price ≤ 5 * k.length + 6
theorem sub_len2 {α : Type} [DecidableEq α] : ∀ {l l' : List α}, l.Nodup → (∀ a ∈ l, a ∈ l') → l.length ≤ l'.length
  | [], _, _, _ => Nat.zero_le _
  | a :: l, l', hn, hs => by
    have hn := List.nodup_cons.mp hn
    have ha := hs a (List.mem_cons_self ..)
    have := sub_len2 (l' := l'.erase a) hn.2 fun x hx => (List.mem_erase_of_ne (fun e : x = a => hn.1 (by rw [← e]; exact hx))).mpr (hs x (List.mem_cons_of_mem _ hx))
    rw [List.length_erase_of_mem ha] at this
    have := List.length_pos_of_mem ha
    rw [List.length_cons]
    omega
theorem TI.len {b : List Wd} {k l : List Way} (h : TI b k l) (hb : b.length ≤ 20) : k.length ≤ 120 := by
  have := sub_len2 (l' := b.flatMap fun w => [w.2.drop 1, w.2.drop 2, w.2.drop 3, w.2.drop 4, w.2.drop 5, w.2.drop 6]) h.nd fun r hr => by
    obtain ⟨y, hy, rfl⟩ := List.mem_map.mp hr
    obtain ⟨w, hw, i, h1, h2, e⟩ := h.sub y hy
    refine List.mem_flatMap.mpr ⟨w, hw, ?_⟩
    have : i = 1 ∨ i = 2 ∨ i = 3 ∨ i = 4 ∨ i = 5 ∨ i = 6 := by omega
    rcases this with rfl | rfl | rfl | rfl | rfl | rfl <;> simp [e]
  rw [List.length_map] at this
  have h3 : ∀ c : List Wd, (c.flatMap fun w => [w.2.drop 1, w.2.drop 2, w.2.drop 3, w.2.drop 4, w.2.drop 5, w.2.drop 6]).length = 6 * c.length := by
    intro c
    induction c with
    | nil => rfl
    | cons w c ih => rw [List.flatMap_cons, List.length_append, ih, List.length_cons]; simp; omega
  rw [h3] at this
  omega
theorem sum_put {y : Way} : ∀ {k : List Way}, (k.map Way.rest).Nodup → ∀ z ∈ k, z.rest = y.rest → sumP (k.map fun x => if x.rest = y.rest then y else x) + z.price = sumP k + y.price
  | [], _, z, h, _ => by cases h
  | x :: k, hn, z, h, e => by
    rw [List.map_cons, List.nodup_cons] at hn
    unfold sumP
    rw [List.map_cons, List.map_cons, List.map_cons, List.sum_cons, List.sum_cons]
    rcases List.mem_cons.mp h with rfl | h
    · rw [if_pos e]
      have : (k.map fun x => if x.rest = y.rest then y else x) = k := by
        conv => rhs; rw [← List.map_id k]
        refine List.map_congr_left fun x hx => if_neg fun c => hn.1 (List.mem_map.mpr ⟨x, hx, c.trans e.symm⟩)
      rw [this]
      omega
    · have hx : x.rest ≠ y.rest := fun c => hn.1 (List.mem_map.mpr ⟨z, h, e.trans c.symm⟩)
      rw [if_neg hx]
      have := sum_put hn.2 z h e
      unfold sumP at this
      omega
theorem InS.drop {b : List Wd} {r : List (List Int)} (hb : ∀ w ∈ b, w.2.length ≤ 6) (h : InS b r) (j : Nat) : InS b (r.drop j) := by
  obtain ⟨w, hw, i, h1, h2, rfl⟩ := h
  rw [List.drop_drop]
  by_cases c : i + j ≤ 6
  · exact ⟨w, hw, i + j, by omega, c, rfl⟩
  · refine ⟨w, hw, 6, by omega, by omega, ?_⟩
    have := hb w hw
    rw [List.drop_eq_nil_of_le (by omega), List.drop_eq_nil_of_le (by omega)]
theorem put_pos {b : List Wd} {k l : List Way} {y : Way} (h : TI b k (y :: l)) (hb : b.length ≤ 20) (hbt : better k y = true) :
    phi (kput k y) < phi k ∧ k.length ≤ (kput k y).length ∧ (∀ z ∈ kput k y, z.price ≤ 5 * (kput k y).length + 1) ∧ y.price ≤ 5 * (kput k y).length + 1 := by
  have hl := h.len hb
  have hyp := h.prl y (List.mem_cons_self ..)
  cases hk : kat k y.rest with
  | none =>
    have ek : kput k y = k ++ [y] := by unfold kput; rw [hk]; rfl
    have hnl : (k ++ [y]).length ≤ 120 := by
      have h2 : TI b (k ++ [y]) [] := by
        refine ⟨by rw [← ek]; exact kput_nd h.nd, fun z hz => ?_, (fun z hz => by cases hz), fun z hz => ?_, (fun z hz => by cases hz)⟩
        · rcases List.mem_append.mp hz with hz | hz
          · exact h.sub z hz
          · rw [List.mem_singleton.mp hz]; exact h.subl y (List.mem_cons_self ..)
        · rw [List.length_append, List.length_singleton]
          rcases List.mem_append.mp hz with hz | hz
          · have := h.pr z hz; omega
          · rw [List.mem_singleton.mp hz]; omega
      exact h2.len hb
    rw [ek]
    rw [List.length_append, List.length_singleton] at *
    refine ⟨?_, by omega, fun z hz => ?_, by omega⟩
    · have es : sumP (k ++ [y]) = sumP k + y.price := by unfold sumP; simp
      unfold phi
      rw [es, List.length_append, List.length_singleton]
      omega
    · rcases List.mem_append.mp hz with hz | hz
      · have := h.pr z hz; omega
      · rw [List.mem_singleton.mp hz]; omega
  | some x =>
    obtain ⟨h1, h2⟩ := kat_some hk
    have ek : kput k y = k.map fun z => if z.rest = y.rest then y else z := by unfold kput; rw [hk]; rfl
    have hlt : y.price < x.price := by
      unfold better at hbt
      rw [hk] at hbt
      exact of_decide_eq_true hbt
    have hs := sum_put h.nd x h1 h2
    have hx := h.pr x h1
    have el : (kput k y).length = k.length := by rw [ek, List.length_map]
    rw [el]
    refine ⟨?_, Nat.le_refl _, fun z hz => ?_, by omega⟩
    · unfold phi
      rw [el, ek]
      omega
    · rcases mem_kput hz with rfl | ⟨hz, _⟩
      · omega
      · exact h.pr z hz
theorem next_pr {b : List Wd} {y z : Way} (hb3 : ∀ w ∈ b, w.2.length ≤ 6) (hne : ∀ w ∈ b, w.2 ≠ []) (hy : InS b y.rest) (h0 : 0 < y.rest.length) (h : z ∈ nexts b y) : InS b z.rest ∧ z.price ≤ y.price + 5 := by
  obtain ⟨w, hw, hz⟩ := List.mem_flatMap.mp h
  unfold nextW at hz
  have h3 := hb3 w hw
  by_cases c1 : pre w.2 y.rest = true
  · rw [if_pos c1] at hz
    rw [List.mem_singleton.mp hz]
    exact ⟨hy.drop hb3 _, Nat.le_add_right _ _⟩
  · rw [if_neg c1] at hz
    by_cases c2 : pre y.rest w.2 = true
    · rw [if_pos c2] at hz
      rw [List.mem_singleton.mp hz]
      refine ⟨?_, ?_⟩
      · show InS b (w.2.drop y.rest.length)
        by_cases c : y.rest.length ≤ 6
        · exact ⟨w, hw, y.rest.length, h0, c, rfl⟩
        · exact ⟨w, hw, 6, by omega, by omega, by rw [List.drop_eq_nil_of_le (by omega), List.drop_eq_nil_of_le (by omega)]⟩
      · show y.price + w.2.length - y.rest.length ≤ y.price + 5
        omega
    · rw [if_neg c2] at hz; cases hz
theorem TI.step {b : List Wd} (hb : b.length ≤ 20) (hb3 : ∀ w ∈ b, w.2.length ≤ 6) (hne : ∀ w ∈ b, w.2 ≠ []) {k later ahead : List Way} {y : Way} (h : TI b k (y :: ahead ++ later)) :
    TI b (acc b (k, later) y).1 (ahead ++ (acc b (k, later) y).2) ∧ phi (acc b (k, later) y).1 ≤ phi k ∧ ((acc b (k, later) y).2 ≠ later → phi (acc b (k, later) y).1 < phi k) := by
  unfold acc
  dsimp only
  by_cases c : better k y = true
  · rw [if_pos c]
    dsimp only
    obtain ⟨p1, p2, p3, p4⟩ := put_pos h hb c
    have hy := h.subl y (by simp)
    refine ⟨⟨kput_nd h.nd, fun z hz => ?_, fun z hz => ?_, p3, fun z hz => ?_⟩, Nat.le_of_lt p1, fun _ => p1⟩
    · rcases mem_kput hz with rfl | ⟨hz, _⟩
      · exact hy
      · exact h.sub z hz
    · rcases List.mem_append.mp hz with hz | hz
      · exact h.subl z (by simp [hz])
      · by_cases c0 : 0 < y.rest.length
        · rw [if_pos c0] at hz
          rcases List.mem_append.mp hz with hz | hz
          · exact h.subl z (by simp [hz])
          · exact (next_pr hb3 hne hy c0 hz).1
        · rw [if_neg c0] at hz
          exact h.subl z (by simp [hz])
    · have old : z ∈ y :: ahead ++ later → z.price ≤ 5 * (kput k y).length + 6 := fun hz => by
        have := h.prl z hz
        omega
      rcases List.mem_append.mp hz with hz | hz
      · exact old (by simp [hz])
      · by_cases c0 : 0 < y.rest.length
        · rw [if_pos c0] at hz
          rcases List.mem_append.mp hz with hz | hz
          · exact old (by simp [hz])
          · have := (next_pr hb3 hne hy c0 hz).2
            omega
        · rw [if_neg c0] at hz
          exact old (by simp [hz])
  · rw [if_neg c]
    refine ⟨⟨h.nd, h.sub, fun z hz => h.subl z (by rw [List.cons_append]; exact List.mem_cons_of_mem _ hz), h.pr, fun z hz => h.prl z (by rw [List.cons_append]; exact List.mem_cons_of_mem _ hz)⟩, Nat.le_refl _, fun z => absurd rfl z⟩
theorem TI.fold {b : List Wd} (hb : b.length ≤ 20) (hb3 : ∀ w ∈ b, w.2.length ≤ 6) (hne : ∀ w ∈ b, w.2 ≠ []) : ∀ (ahead k later : List Way), TI b k (ahead ++ later) →
    TI b (ahead.foldl (acc b) (k, later)).1 (ahead.foldl (acc b) (k, later)).2 ∧ phi (ahead.foldl (acc b) (k, later)).1 ≤ phi k ∧ ((ahead.foldl (acc b) (k, later)).2 ≠ later → phi (ahead.foldl (acc b) (k, later)).1 < phi k)
  | [], k, later, h => ⟨h, Nat.le_refl _, fun z => absurd rfl z⟩
  | y :: ahead, k, later, h => by
    obtain ⟨h2, h3, h4⟩ := h.step hb hb3 hne
    rw [List.foldl_cons]
    obtain ⟨g1, g2, g3⟩ := TI.fold hb hb3 hne ahead _ _ h2
    refine ⟨g1, Nat.le_trans g2 h3, fun z => ?_⟩
    by_cases c : (acc b (k, later) y).2 = later
    · have e : acc b (k, later) y = ((acc b (k, later) y).1, (acc b (k, later) y).2) := rfl
      exact Nat.lt_of_lt_of_le (g3 fun q => z (by
        have : (ahead.foldl (acc b) (acc b (k, later) y)).2 = (acc b (k, later) y).2 := q
        rw [this, c])) h3
    · exact Nat.lt_of_le_of_lt g2 (h4 c)
theorem wr_ex {b : List Wd} (hb : b.length ≤ 20) (hb3 : ∀ w ∈ b, w.2.length ≤ 6) (hne : ∀ w ∈ b, w.2 ≠ []) : ∀ (d : Nat) (k ahead : List Way), TI b k ahead → phi k < d → ∃ n r, n ≤ d ∧ WR b n k ahead r
  | 0, _, _, _, h => by omega
  | d + 1, k, [], _, _ => ⟨0, k, Nat.zero_le _, .stop k⟩
  | d + 1, k, y :: ahead, h, hd => by
    have hf := TI.fold hb hb3 hne (y :: ahead) k [] (by rw [List.append_nil]; exact h)
    obtain ⟨g1, g2, g3⟩ := hf
    by_cases c : (roundW b k (y :: ahead)).2 = []
    · refine ⟨1, _, by omega, .go (List.cons_ne_nil _ _) (by rw [c]; exact .stop _)⟩
    · have := g3 c
      obtain ⟨n, r, hn, hr⟩ := wr_ex hb hb3 hne d (roundW b k (y :: ahead)).1 (roundW b k (y :: ahead)).2 g1 (by
        show phi (List.foldl (acc b) (k, []) (y :: ahead)).1 < d
        omega)
      exact ⟨n + 1, r, by omega, .go (List.cons_ne_nil _ _) hr⟩
theorem TI.first {b : List Wd} (hb3 : ∀ w ∈ b, w.2.length ≤ 6) (hne : ∀ w ∈ b, w.2 ≠ []) : TI b [] (firsts b) := by
  refine ⟨List.nodup_nil, (fun y h => by cases h), fun y hy => ?_, (fun y h => by cases h), fun y hy => ?_⟩
  · obtain ⟨w, hw, hy⟩ := List.mem_flatMap.mp hy
    obtain ⟨o, ho, rfl⟩ := List.mem_map.mp hy
    have h1 : 0 < w.2.length := List.length_pos_iff.mpr (hne w hw)
    exact ⟨o, (List.mem_filter.mp ho).1, w.2.length, h1, hb3 w hw, rfl⟩
  · obtain ⟨w, hw, hy⟩ := List.mem_flatMap.mp hy
    obtain ⟨o, ho, rfl⟩ := List.mem_map.mp hy
    have := hb3 o (List.mem_filter.mp ho).1
    show o.2.length ≤ 5 * 0 + 6
    omega
theorem wr_all {b : List Wd} (hb : b.length ≤ 20) (hb3 : ∀ w ∈ b, w.2.length ≤ 6) (hne : ∀ w ∈ b, w.2 ≠ []) : ∃ n r, n ≤ 73300 ∧ WR b n [] (firsts b) r := by
  obtain ⟨n, r, h1, h2⟩ := wr_ex hb hb3 hne 73300 [] (firsts b) (TI.first hb3 hne) (by unfold phi sumP; simp)
  exact ⟨n, r, h1, h2⟩

theorem app_pre {a c d e : List (List Int)} (h : a ++ c = d ++ e) : (∃ t, d = a ++ t ∧ c = t ++ e) ∨ ∃ t, a = d ++ t ∧ t ≠ [] ∧ e = t ++ c := by
  rcases List.append_eq_append_iff.mp h with ⟨t, h1, h2⟩ | ⟨t, h1, h2⟩
  · exact .inl ⟨t, h1, h2⟩
  · by_cases c0 : t = []
    · subst c0
      exact .inl ⟨[], by rw [List.append_nil] at h1 ⊢; exact h1.symm, by simpa using h2.symm⟩
    · exact .inr ⟨t, h1, c0, h2⟩
theorem cl_go {b : List Wd} {k : List Way} (h : Cl b k) (hne : ∀ w ∈ b, w.2 ≠ []) : ∀ (n : Nat) (r : List (List Int)) (p : Nat) (xs ys : List Wd), xs.length + ys.length ≤ n → Kp k r p → (∀ w ∈ xs, w ∈ b) → (∀ w ∈ ys, w ∈ b) → r ++ wst ys = wst xs → Kp k [] (p + (wst ys).length) := by
  intro n
  induction n with
  | zero =>
    intro r p xs ys hn hk hx hy e
    have x0 : xs = [] := List.eq_nil_of_length_eq_zero (by omega)
    subst x0
    have e : r ++ wst ys = [] := e
    have r0 : r = [] := (List.append_eq_nil_iff.mp e).1
    subst r0
    obtain ⟨y, h1, h2, h3⟩ := hk
    exact ⟨y, h1, h2, by omega⟩
  | succ n ih =>
    intro r p xs ys hn hk hx hy e
    by_cases r0 : r = []
    · subst r0
      obtain ⟨y, h1, h2, h3⟩ := hk
      exact ⟨y, h1, h2, by omega⟩
    · cases xs with
      | nil =>
        have e : r ++ wst ys = [] := e
        exact absurd (List.append_eq_nil_iff.mp e).1 r0
      | cons w xs =>
        obtain ⟨y, h1, h2, h3⟩ := hk
        have hw := hx w (List.mem_cons_self ..)
        have hx' : ∀ z ∈ xs, z ∈ b := fun z hz => hx z (List.mem_cons_of_mem _ hz)
        rw [List.length_cons] at hn
        rw [wst_cons] at e
        rcases app_pre e.symm with ⟨t, e1, e2⟩ | ⟨t, e1, e2, e3⟩
        · have hs : stepR y.rest y.price w = some (t, y.price) := by
            unfold stepR
            rw [h2, if_pos ((pre_iff _ _).mpr ⟨t, e1⟩), e1]
            simp
          have hk2 := h.nxt y h1 (by rw [h2]; exact r0) w hw _ _ hs
          have := ih t y.price xs ys (by omega) hk2 hx' hy e2.symm
          obtain ⟨z, g1, g2, g3⟩ := this
          exact ⟨z, g1, g2, by omega⟩
        · have hs : stepR y.rest y.price w = some (t, y.price + t.length) := by
            unfold stepR
            rw [h2]
            rw [if_neg (fun c => by
              obtain ⟨q, hq⟩ := (pre_iff _ _).mp c
              have := congrArg List.length e1
              have := congrArg List.length hq
              have : t.length ≠ 0 := fun z => e2 (List.eq_nil_of_length_eq_zero z)
              simp only [List.length_append] at *
              omega), if_pos ((pre_iff _ _).mpr ⟨t, e1⟩)]
            have hd : w.2.drop r.length = t := by rw [e1]; simp
            have hl : y.price + w.2.length - r.length = y.price + t.length := by rw [e1, List.length_append]; omega
            rw [hd, hl]
          have hk2 := h.nxt y h1 (by rw [h2]; exact r0) w hw _ _ hs
          have := ih t (y.price + t.length) ys xs (by omega) hk2 hy hx' e3.symm
          obtain ⟨z, g1, g2, g3⟩ := this
          refine ⟨z, g1, g2, ?_⟩
          have := congrArg List.length e3
          rw [List.length_append] at this
          omega
theorem cl_two {b : List Wd} {k : List Way} (h : Cl b k) (hne : ∀ w ∈ b, w.2 ≠ []) (hin : ∀ w ∈ b, ∀ v ∈ b, w.1 = v.1 → w = v) : ∀ (xs ys : List Wd), (∀ w ∈ xs, w ∈ b) → (∀ w ∈ ys, w ∈ b) → xs ≠ ys → wst xs = wst ys → Kp k [] (wst xs).length
  | [], [], _, _, hd, _ => absurd rfl hd
  | [], v :: ys, _, hy, _, e => by
    rw [wst_cons] at e
    have e : [] = v.2 ++ wst ys := e
    exact absurd (List.append_eq_nil_iff.mp e.symm).1 (hne v (hy v (List.mem_cons_self ..)))
  | w :: xs, [], hx, _, _, e => by
    rw [wst_cons] at e
    have e : w.2 ++ wst xs = [] := e
    exact absurd (List.append_eq_nil_iff.mp e).1 (hne w (hx w (List.mem_cons_self ..)))
  | w :: xs, v :: ys, hx, hy, hd, e => by
    have hw := hx w (List.mem_cons_self ..)
    have hv := hy v (List.mem_cons_self ..)
    have hx' : ∀ z ∈ xs, z ∈ b := fun z hz => hx z (List.mem_cons_of_mem _ hz)
    have hy' : ∀ z ∈ ys, z ∈ b := fun z hz => hy z (List.mem_cons_of_mem _ hz)
    by_cases c : w = v
    · subst c
      rw [wst_cons, wst_cons] at e
      have := cl_two h hne hin xs ys hx' hy' (fun z => hd (by rw [z])) (List.append_cancel_left e)
      obtain ⟨z, g1, g2, g3⟩ := this
      refine ⟨z, g1, g2, ?_⟩
      rw [wst_cons, List.length_append]
      omega
    · have hn : w.1 ≠ v.1 := fun z => c (hin w hw v hv z)
      have key : ∀ (w v : Wd) (xs ys : List Wd), w ∈ b → v ∈ b → w.1 ≠ v.1 → (∀ z ∈ xs, z ∈ b) → (∀ z ∈ ys, z ∈ b) → (∃ t, v.2 = w.2 ++ t ∧ wst xs = t ++ wst ys) → Kp k [] (wst (v :: ys)).length := by
        rintro w v xs ys hw hv hn hx' hy' ⟨t, e1, e2⟩
        have hf : (⟨v.2.drop w.2.length, v.2.length, [v], [w]⟩ : Way) ∈ firsts b := by
          refine List.mem_flatMap.mpr ⟨w, hw, List.mem_map.mpr ⟨v, List.mem_filter.mpr ⟨hv, ?_⟩, rfl⟩⟩
          rw [Bool.and_eq_true]
          exact ⟨decide_eq_true hn, (pre_iff _ _).mpr ⟨t, e1⟩⟩
        have hk := h.fst _ hf
        have ht : v.2.drop w.2.length = t := by rw [e1]; simp
        dsimp only at hk
        rw [ht] at hk
        have := cl_go h hne _ t v.2.length xs ys (Nat.le_refl _) hk hx' hy' e2.symm
        rw [wst_cons, List.length_append]
        exact this
      rw [wst_cons, wst_cons] at e
      rcases app_pre e with ⟨t, e1, e2⟩ | ⟨t, e1, _, e3⟩
      · have := key w v xs ys hw hv hn hx' hy' ⟨t, e1, e2⟩
        have ee : wst (w :: xs) = wst (v :: ys) := by rw [wst_cons, wst_cons]; exact e
        rw [ee]
        exact this
      · exact key v w ys xs hv hw (fun z => hn z.symm) hy' hx' ⟨t, e1, e3⟩


/-- nothing is asked of a stroke here -/
def SK (_ : List Int) : Prop := True
def stD2 (ss : List (List Int)) : D := .tup (ss.map stD)
def wdD (w : Wd) : D := .tup [.str (sw w.1), stD2 w.2]
def bkD2 (b : List Wd) : D := .tup (b.map wdD)
structure GBk (b : List Wd) : Prop where
  len : 1 ≤ b.length ∧ b.length ≤ 20
  l3 : ∀ w ∈ b, w.2.length ≤ 6
  ne : ∀ w ∈ b, w.2 ≠ []
  lt : ∀ w ∈ b, ∀ s ∈ w.2, SK s
  nm : (b.map (·.1)).Nodup
  sl : ∀ w ∈ b, ∀ s ∈ w.2, s.length ≤ 12
theorem ints_plain (s : List Int) (n : Nat) : (s.map D.int).all (D.plain n) = true := by
  rw [List.all_map]
  refine List.all_eq_true.mpr fun i _ => ?_
  show (D.int i).plain n = true
  cases n <;> rfl
theorem stk_plainN (s : List Int) (n : Nat) : (stD s).plain (n + 1) = true := ints_plain s n
theorem ints_inj : ∀ {x y : List Int}, x.map D.int = y.map D.int → x = y
  | [], [], _ => rfl
  | [], _ :: _, h => by cases h
  | _ :: _, [], h => by cases h
  | a :: x, b :: y, h => by
    rw [List.map_cons, List.map_cons] at h
    injection h with h1 h2
    injection h1 with h1
    rw [h1, ints_inj h2]
theorem stk_inj {s t : List Int} (hs : SK s) (ht : SK t) (h : stD s = stD t) : s = t := by
  unfold stD at h
  injection h with h
  exact ints_inj h
theorem map_stk_inj : ∀ {x y : List (List Int)}, (∀ s ∈ x, SK s) → (∀ s ∈ y, SK s) → x.map stD = y.map stD → x = y
  | [], [], _, _, _ => rfl
  | [], _ :: _, _, _, h => by cases h
  | _ :: _, [], _, _, h => by cases h
  | s :: x, t :: y, hx, hy, h => by
    rw [List.map_cons, List.map_cons] at h
    injection h with h1 h2
    rw [stk_inj (hx s (List.mem_cons_self ..)) (hy t (List.mem_cons_self ..)) h1, map_stk_inj (fun z hz => hx z (List.mem_cons_of_mem _ hz)) (fun z hz => hy z (List.mem_cons_of_mem _ hz)) h2]
theorem ints_eqv : ∀ (a b : List Int), PyData.eqvAll (pys (a.map D.int)) (pys (b.map D.int)) = decide (a = b)
  | [], [] => rfl
  | [], _ :: _ => rfl
  | _ :: _, [] => rfl
  | p :: a, q :: b => by
    have e : PyData.eqv (D.int p).py (D.int q).py = decide (p = q) := by
      show (p == q) = decide (p = q)
      by_cases h : p = q
      · subst h; simp
      · rw [decide_eq_false h]; exact beq_eq_false_iff_ne.mpr h
    rw [List.map_cons, List.map_cons, pys, pys, PyData.eqvAll, e, ints_eqv a b]
    by_cases h1 : p = q
    · by_cases h2 : a = b
      · subst h1; subst h2; simp
      · rw [decide_eq_false h2, Bool.and_false]; exact (decide_eq_false fun h => h2 (List.cons.inj h).2).symm
    · rw [decide_eq_false h1, Bool.false_and]; exact (decide_eq_false fun h => h1 (List.cons.inj h).1).symm
theorem stk_eqv {s t : List Int} (hs : SK s) (ht : SK t) : PyData.eqv (stD s).py (stD t).py = decide (s = t) := by
  show PyData.eqv (.tuple (pys (s.map D.int))) (.tuple (pys (t.map D.int))) = _
  rw [PyData.eqv, ints_eqv]
theorem stks_eqv : ∀ {a b : List (List Int)}, (∀ s ∈ a, SK s) → (∀ s ∈ b, SK s) → PyData.eqvAll (pys (a.map stD)) (pys (b.map stD)) = decide (a = b)
  | [], [], _, _ => rfl
  | [], _ :: _, _, _ => rfl
  | _ :: _, [], _, _ => rfl
  | p :: a, q :: b, ha, hb => by
    rw [List.map_cons, List.map_cons, pys, pys, PyData.eqvAll, stk_eqv (ha p (List.mem_cons_self ..)) (hb q (List.mem_cons_self ..)), stks_eqv (fun s hs => ha s (List.mem_cons_of_mem _ hs)) (fun s hs => hb s (List.mem_cons_of_mem _ hs))]
    by_cases h1 : p = q
    · by_cases h2 : a = b
      · subst h1; subst h2; simp
      · rw [decide_eq_false h2, Bool.and_false]; exact (decide_eq_false fun h => h2 (List.cons.inj h).2).symm
    · rw [decide_eq_false h1, Bool.false_and]; exact (decide_eq_false fun h => h1 (List.cons.inj h).1).symm
theorem stD2_plain (a : List (List Int)) : (stD2 a).plain 9 = true := by
  show (a.map stD).all (D.plain 8) = true
  rw [List.all_map]
  exact List.all_eq_true.mpr fun p _ => stk_plainN p 7
theorem eq_stD2 {a b : List (List Int)} (ha : ∀ s ∈ a, SK s) (hb : ∀ s ∈ b, SK s) : gEq (stD2 a) (stD2 b) = some ⟨.sh, .bool (decide (a = b))⟩ := by
  have h4 : PyData.eqv (stD2 a).py (stD2 b).py = decide (a = b) := by
    show PyData.eqv (.tuple (pys (a.map stD))) (.tuple (pys (b.map stD))) = _
    rw [PyData.eqv, stks_eqv ha hb]
  unfold gEq
  rw [eqB_gen (stD2_plain a) (stD2_plain b), h4]
  rfl
theorem m_begins {a b : List (List Int)} (ha : ∀ s ∈ a, SK s) (hb : ∀ s ∈ b, SK s) : sem_begins [stD2 a, stD2 b] [] = .ok (.v (.bool (pre a b))) [] := by
  have he := eq_stD2 (a := b.take a.length) (b := a) (fun s hs => hb s (List.mem_of_mem_take hs)) ha
  have hct := cut_hi (b.map stD) (h := ((a.length : Nat) : Int)) (by omega)
  have hl : (a.map stD).length = a.length := List.length_map ..
  rw [Int.toNat_natCast, ← List.map_take] at hct
  unfold sem_begins b_begins pre
  unfold stD2 at *
  generalize (b.take a.length).map stD = t at *
  generalize decide (b.take a.length = a) = q at *
  generalize b.map stD = bl at *
  generalize a.map stD = al at *
  simp (disch := (first | assumption | with_reducible rfl | decide +kernel | exact Or.inl (by decide +kernel) | exact Or.inr (by decide +kernel) | omega | (simp only [List.length_cons, List.length_nil, List.length_append, List.length_map, List.length_replicate, List.length_range] <;> omega) | rfl)) only [evEqs, List.getElem?_cons_zero, List.getElem?_cons_succ, List.getElem?_nil, List.set_cons_zero, List.set_cons_succ, List.map_cons, List.map_nil, List.length_cons, List.length_nil, List.length_append, List.cons_append, List.nil_append, List.length_map, List.length_singleton, Nat.reduceBEq, Nat.reduceAdd, Nat.reduceSub, Nat.reduceMul, Nat.reduceEqDiff, Nat.reduceLeDiff, Nat.reduceLT, if_false, if_true, ite_true, ite_false, ↓reduceIte, Bool.not_true, Bool.not_false, Bool.false_eq_true, decide_true, decide_false, eq_self, and_true, true_and, and_self, Nat.zero_le, Nat.zero_add, Option.bind_some, Option.bind_none, Nat.lt_irrefl, Int.reduceToNat, Int.reducePow, Int.reduceNeg, Int.reduceMul, Int.reduceAdd, Int.reduceSub, Int.reduceLT, Int.reduceLE, Int.reduceEq, beq_self_eq_true, wipeE, MP.at0, MP.at1, MP.at2, MP.atLit, hl, hct, he]

def nmD (w : Wd) : D := .str (sw w.1)
def wyD (y : Way) : D := .tup [stD2 y.rest, .int (y.price : Nat), .list (y.lo.map nmD), .list (y.sh.map nmD)]
theorem ne_nm (w o : Wd) : gNe (.str (sw w.1)) (.str (sw o.1)) = some ⟨.sh, .bool (decide (w.1 ≠ o.1))⟩ := by
  show some (sh (.bool (!(sw w.1 == sw o.1)))) = _
  by_cases h : w.1 = o.1
  · rw [h, decide_eq_false (fun z => z rfl)]; simp
  · rw [decide_eq_true h, beq_eq_false_iff_ne.mpr fun e => h (sw_inj e)]; rfl
def fw1 (w o : Wd) : List Way := if (decide (w.1 ≠ o.1) && pre w.2 o.2) = true then [⟨o.2.drop w.2.length, o.2.length, [o], [w]⟩] else []
theorem m_fw_turn {w o : Wd} (hw : ∀ s ∈ w.2, SK s) (ho : ∀ s ∈ o.2, SK s) (found : List D) (hf : found.length ≤ 200000) (bk : Slot) :
    lp_first_ways_1 ⟨[bk, .own (.list found), .v (.str (sw w.1)), .v (stD2 w.2), .v (.str (sw o.1)), .v (stD2 o.2)], []⟩ = .nx ⟨[bk, .own (.list (found ++ (fw1 w o).map wyD)), .v (.str (sw w.1)), .v (stD2 w.2), .v (.str (sw o.1)), .v (stD2 o.2)], []⟩ := by
  have hne := ne_nm w o
  have hbg := m_begins hw ho
  have hl : (w.2.map stD).length = w.2.length := List.length_map ..
  have hlo : (o.2.map stD).length = o.2.length := List.length_map ..
  have hct := cut_lo (o.2.map stD) (l := ((w.2.length : Nat) : Int)) (by omega)
  rw [Int.toNat_natCast, ← List.map_drop] at hct
  have en : nmD w = .str (sw w.1) := rfl
  have eo : nmD o = .str (sw o.1) := rfl
  unfold lp_first_ways_1 fw1
  by_cases h1 : w.1 ≠ o.1
  · rw [decide_eq_true h1] at hne
    cases h2 : pre w.2 o.2 with
    | true =>
      rw [h2] at hbg
      rw [decide_eq_true h1, if_pos (by rfl), List.map_singleton]
      unfold wyD stD2 at *
      dsimp only
      rw [List.map_singleton, List.map_singleton, en, eo]
      generalize (o.2.drop w.2.length).map stD = dl at *
      generalize o.2.map stD = ol at *
      generalize w.2.map stD = wl at *
      generalize sw w.1 = wn at *
      generalize sw o.1 = on at *
      simp (disch := (first | assumption | with_reducible rfl | decide +kernel | exact Or.inl (by decide +kernel) | exact Or.inr (by decide +kernel) | omega | (simp only [List.length_cons, List.length_nil, List.length_append, List.length_map, List.length_replicate, List.length_range] <;> omega) | rfl)) only [evEqs, List.getElem?_cons_zero, List.getElem?_cons_succ, List.getElem?_nil, List.set_cons_zero, List.set_cons_succ, List.map_cons, List.map_nil, List.length_cons, List.length_nil, List.length_append, List.cons_append, List.nil_append, List.length_map, List.length_singleton, Nat.reduceBEq, Nat.reduceAdd, Nat.reduceSub, Nat.reduceMul, Nat.reduceEqDiff, Nat.reduceLeDiff, Nat.reduceLT, if_false, if_true, ite_true, ite_false, ↓reduceIte, Bool.not_true, Bool.not_false, Bool.false_eq_true, decide_true, decide_false, eq_self, and_true, true_and, and_self, Nat.zero_le, Nat.zero_add, Option.bind_some, Option.bind_none, Nat.lt_irrefl, Int.reduceToNat, Int.reducePow, Int.reduceNeg, Int.reduceMul, Int.reduceAdd, Int.reduceSub, Int.reduceLT, Int.reduceLE, Int.reduceEq, beq_self_eq_true, wipeE, MP.at0, MP.at1, MP.at2, MP.atLit, hne, hbg, hl, hlo, hct]
    | false =>
      rw [h2] at hbg
      rw [decide_eq_true h1, if_neg (by simp), List.map_nil, List.append_nil]
      generalize stD2 w.2 = wl at *
      generalize stD2 o.2 = ol at *
      generalize sw w.1 = wn at *
      generalize sw o.1 = on at *
      simp (disch := (first | assumption | with_reducible rfl | decide +kernel | exact Or.inl (by decide +kernel) | exact Or.inr (by decide +kernel) | omega | (simp only [List.length_cons, List.length_nil, List.length_append, List.length_map, List.length_replicate, List.length_range] <;> omega) | rfl)) only [evEqs, List.getElem?_cons_zero, List.getElem?_cons_succ, List.getElem?_nil, List.set_cons_zero, List.set_cons_succ, List.map_cons, List.map_nil, List.length_cons, List.length_nil, List.length_append, List.cons_append, List.nil_append, List.length_map, List.length_singleton, Nat.reduceBEq, Nat.reduceAdd, Nat.reduceSub, Nat.reduceMul, Nat.reduceEqDiff, Nat.reduceLeDiff, Nat.reduceLT, if_false, if_true, ite_true, ite_false, ↓reduceIte, Bool.not_true, Bool.not_false, Bool.false_eq_true, decide_true, decide_false, eq_self, and_true, true_and, and_self, Nat.zero_le, Nat.zero_add, Option.bind_some, Option.bind_none, Nat.lt_irrefl, Int.reduceToNat, Int.reducePow, Int.reduceNeg, Int.reduceMul, Int.reduceAdd, Int.reduceSub, Int.reduceLT, Int.reduceLE, Int.reduceEq, beq_self_eq_true, wipeE, MP.at0, MP.at1, MP.at2, MP.atLit, hne, hbg]
  · rw [decide_eq_false h1] at hne
    rw [decide_eq_false h1, if_neg (by simp), List.map_nil, List.append_nil]
    generalize stD2 w.2 = wl at *
    generalize stD2 o.2 = ol at *
    generalize sw w.1 = wn at *
    generalize sw o.1 = on at *
    simp (disch := (first | assumption | with_reducible rfl | decide +kernel | exact Or.inl (by decide +kernel) | exact Or.inr (by decide +kernel) | omega | (simp only [List.length_cons, List.length_nil, List.length_append, List.length_map, List.length_replicate, List.length_range] <;> omega) | rfl)) only [evEqs, List.getElem?_cons_zero, List.getElem?_cons_succ, List.getElem?_nil, List.set_cons_zero, List.set_cons_succ, List.map_cons, List.map_nil, List.length_cons, List.length_nil, List.length_append, List.cons_append, List.nil_append, List.length_map, List.length_singleton, Nat.reduceBEq, Nat.reduceAdd, Nat.reduceSub, Nat.reduceMul, Nat.reduceEqDiff, Nat.reduceLeDiff, Nat.reduceLT, if_false, if_true, ite_true, ite_false, ↓reduceIte, Bool.not_true, Bool.not_false, Bool.false_eq_true, decide_true, decide_false, eq_self, and_true, true_and, and_self, Nat.zero_le, Nat.zero_add, Option.bind_some, Option.bind_none, Nat.lt_irrefl, Int.reduceToNat, Int.reducePow, Int.reduceNeg, Int.reduceMul, Int.reduceAdd, Int.reduceSub, Int.reduceLT, Int.reduceLE, Int.reduceEq, beq_self_eq_true, wipeE, MP.at0, MP.at1, MP.at2, MP.atLit, hne]

theorem loop_one {t : Tg} {g : Sta → Fl} {d : D} {ds : List D} {s s' : Sta} {env : List Slot} (h1 : t.bind d s.env = some env) (h2 : g { s with env := env } = .nx s') : loopL t g (d :: ds) s = loopL t g ds s' := by
  rw [loopL, h1]
  simp only [h2]
theorem fw_row (w : Wd) : ∀ b : List Wd, b.flatMap (fw1 w) = frow b w
  | [] => rfl
  | o :: b => by
    rw [List.flatMap_cons, fw_row w b]
    unfold fw1 frow
    rw [List.filter_cons]
    by_cases c : (decide (w.1 ≠ o.1) && pre w.2 o.2) = true
    · rw [if_pos c, if_pos c]; rfl
    · rw [if_neg c, if_neg c]; rfl
theorem m_fw_in {w : Wd} (hw : ∀ s ∈ w.2, SK s) (bk : Slot) : ∀ (b : List Wd) (found : List D) (x4 x5 : Slot), (∀ o ∈ b, ∀ s ∈ o.2, SK s) → found.length + b.length ≤ 200000 → ∃ y4 y5,
    loopL (.tp [4, 5]) lp_first_ways_1 (b.map wdD) ⟨[bk, .own (.list found), .v (.str (sw w.1)), .v (stD2 w.2), x4, x5], []⟩ = .nx ⟨[bk, .own (.list (found ++ (b.flatMap (fw1 w)).map wyD)), .v (.str (sw w.1)), .v (stD2 w.2), y4, y5], []⟩
  | [], found, x4, x5, _, _ => ⟨x4, x5, by simp only [List.flatMap_nil, List.map_nil, List.append_nil]; rfl⟩
  | o :: b, found, x4, x5, hb, hl => by
    rw [List.length_cons] at hl
    have ht := m_fw_turn hw (hb o (List.mem_cons_self ..)) found (by omega) bk
    have hf1 : ((fw1 w o).map wyD).length ≤ 1 := by
      unfold fw1
      split <;> simp
    obtain ⟨y4, y5, hr⟩ := m_fw_in hw bk b (found ++ (fw1 w o).map wyD) (.v (.str (sw o.1))) (.v (stD2 o.2)) (fun z hz => hb z (List.mem_cons_of_mem _ hz)) (by rw [List.length_append]; omega)
    refine ⟨y4, y5, ?_⟩
    have e1 : wdD o = .tup [.str (sw o.1), stD2 o.2] := rfl
    rw [List.map_cons, e1, loop_one (b_tp2 ..) ht, hr, List.flatMap_cons, List.map_append, List.append_assoc]

theorem frow_len (b : List Wd) (w : Wd) : (frow b w).length ≤ b.length := by
  unfold frow
  rw [List.length_map]
  exact List.length_filter_le _ _
theorem m_fw_out {b : List Wd} (hb : ∀ w ∈ b, ∀ s ∈ w.2, SK s) (hl : b.length ≤ 20) : ∀ (c : List Wd) (found : List D) (x2 x3 x4 x5 : Slot), (∀ w ∈ c, w ∈ b) → found.length + 20 * c.length ≤ 3000 → ∃ y2 y3 y4 y5,
    loopL (.tp [2, 3]) lp_first_ways_2 (c.map wdD) ⟨[.v (bkD2 b), .own (.list found), x2, x3, x4, x5], []⟩ = .nx ⟨[.v (bkD2 b), .own (.list (found ++ (c.flatMap (frow b)).map wyD)), y2, y3, y4, y5], []⟩
  | [], found, x2, x3, x4, x5, _, _ => ⟨x2, x3, x4, x5, by simp only [List.flatMap_nil, List.map_nil, List.append_nil]; rfl⟩
  | w :: c, found, x2, x3, x4, x5, hc, hf => by
    rw [List.length_cons] at hf
    have hwb := hc w (List.mem_cons_self ..)
    obtain ⟨y4, y5, hin⟩ := m_fw_in (hb w hwb) (.v (bkD2 b)) b found x4 x5 hb (by omega)
    rw [fw_row] at hin
    have hr1 := frow_len b w
    obtain ⟨z2, z3, z4, z5, hr⟩ := m_fw_out hb hl c (found ++ (frow b w).map wyD) (.v (.str (sw w.1))) (.v (stD2 w.2)) y4 y5 (fun z hz => hc z (List.mem_cons_of_mem _ hz)) (by rw [List.length_append, List.length_map]; omega)
    refine ⟨z2, z3, z4, z5, ?_⟩
    have e1 : wdD w = .tup [.str (sw w.1), stD2 w.2] := rfl
    have ht : lp_first_ways_2 ⟨[.v (bkD2 b), .own (.list found), .v (.str (sw w.1)), .v (stD2 w.2), x4, x5], []⟩ = .nx ⟨[.v (bkD2 b), .own (.list (found ++ (frow b w).map wyD)), .v (.str (sw w.1)), .v (stD2 w.2), y4, y5], []⟩ := by
      unfold lp_first_ways_2
      unfold bkD2 at *
      have hbl : (b.map wdD).length ≤ 60 := by rw [List.length_map]; omega
      generalize b.map wdD = bl at *
      generalize stD2 w.2 = wl at *
      generalize sw w.1 = wn at *
      clear hr
      simp (disch := (first | assumption | with_reducible rfl | decide +kernel | exact Or.inl (by decide +kernel) | exact Or.inr (by decide +kernel) | omega | (simp only [List.length_cons, List.length_nil, List.length_append, List.length_map, List.length_replicate, List.length_range] <;> omega) | rfl)) only [evEqs, List.getElem?_cons_zero, List.getElem?_cons_succ, List.getElem?_nil, List.set_cons_zero, List.set_cons_succ, List.map_cons, List.map_nil, List.length_cons, List.length_nil, List.length_append, List.cons_append, List.nil_append, List.length_map, List.length_singleton, Nat.reduceBEq, Nat.reduceAdd, Nat.reduceSub, Nat.reduceMul, Nat.reduceEqDiff, Nat.reduceLeDiff, Nat.reduceLT, if_false, if_true, ite_true, ite_false, ↓reduceIte, Bool.not_true, Bool.not_false, Bool.false_eq_true, decide_true, decide_false, eq_self, and_true, true_and, and_self, Nat.zero_le, Nat.zero_add, Option.bind_some, Option.bind_none, Nat.lt_irrefl, Int.reduceToNat, Int.reducePow, Int.reduceNeg, Int.reduceMul, Int.reduceAdd, Int.reduceSub, Int.reduceLT, Int.reduceLE, Int.reduceEq, beq_self_eq_true, wipeE, MP.at0, MP.at1, MP.at2, MP.atLit, hin]
    rw [List.map_cons, e1, loop_one (b_tp2 ..) ht, hr, List.flatMap_cons, List.map_append, List.append_assoc]

theorem m_firsts {b : List Wd} (hg : GBk b) : sem_first_ways [bkD2 b] [] = .ok (.own (.list ((firsts b).map wyD))) [] := by
  obtain ⟨y2, y3, y4, y5, hl⟩ := m_fw_out hg.lt hg.len.2 b [] .un .un .un .un (fun w h => h) (by have := hg.len.2; simp; omega)
  rw [List.nil_append] at hl
  have hbl : (b.map wdD).length ≤ 60 := by rw [List.length_map]; have := hg.len.2; omega
  unfold sem_first_ways firsts
  refine run_ex (Q := fun r => r = .ok (.own (.list ((b.flatMap (frow b)).map wyD))) []) [.v (bkD2 b), .un, .un, .un, .un, .un] rfl ?_
  unfold b_first_ways st_first_ways_1 st_first_ways_2 st_first_ways_3
  unfold bkD2 at *
  generalize (b.flatMap (frow b)).map wyD = fl at *
  generalize b.map wdD = bl at *
  simp (disch := (first | assumption | with_reducible rfl | decide +kernel | exact Or.inl (by decide +kernel) | exact Or.inr (by decide +kernel) | omega | (simp only [List.length_cons, List.length_nil, List.length_append, List.length_map, List.length_replicate, List.length_range] <;> omega) | rfl)) only [evEqs, List.getElem?_cons_zero, List.getElem?_cons_succ, List.getElem?_nil, List.set_cons_zero, List.set_cons_succ, List.map_cons, List.map_nil, List.length_cons, List.length_nil, List.length_append, List.cons_append, List.nil_append, List.length_map, List.length_singleton, Nat.reduceBEq, Nat.reduceAdd, Nat.reduceSub, Nat.reduceMul, Nat.reduceEqDiff, Nat.reduceLeDiff, Nat.reduceLT, if_false, if_true, ite_true, ite_false, ↓reduceIte, Bool.not_true, Bool.not_false, Bool.false_eq_true, decide_true, decide_false, eq_self, and_true, true_and, and_self, Nat.zero_le, Nat.zero_add, Option.bind_some, Option.bind_none, Nat.lt_irrefl, Int.reduceToNat, Int.reducePow, Int.reduceNeg, Int.reduceMul, Int.reduceAdd, Int.reduceSub, Int.reduceLT, Int.reduceLE, Int.reduceEq, beq_self_eq_true, wipeE, MP.at0, MP.at1, MP.at2, MP.atLit, hl]
def wvD (y : Way) : D := .tup [.int (y.price : Nat), .list (y.lo.map nmD), .list (y.sh.map nmD)]
theorem m_nw_turn {y : Way} {w : Wd} (hy : ∀ s ∈ y.rest, SK s) (hw : ∀ s ∈ w.2, SK s) (hyl : y.lo.length + y.sh.length ≤ 200000) (found : List D) (hf : found.length ≤ 200000) (bk wy : Slot) :
    lp_next_ways_1 ⟨[bk, .v (stD2 y.rest), wy, .own (.list found), .v (.int (y.price : Nat)), .v (.list (y.lo.map nmD)), .v (.list (y.sh.map nmD)), .v (.str (sw w.1)), .v (stD2 w.2)], []⟩ = .nx ⟨[bk, .v (stD2 y.rest), wy, .own (.list (found ++ (nextW y w).map wyD)), .v (.int (y.price : Nat)), .v (.list (y.lo.map nmD)), .v (.list (y.sh.map nmD)), .v (.str (sw w.1)), .v (stD2 w.2)], []⟩ := by
  have hb1 := m_begins hw hy
  have hb2 := m_begins hy hw
  have hl : (w.2.map stD).length = w.2.length := List.length_map ..
  have hlr : (y.rest.map stD).length = y.rest.length := List.length_map ..
  have hct := cut_lo (y.rest.map stD) (l := ((w.2.length : Nat) : Int)) (by omega)
  rw [Int.toNat_natCast, ← List.map_drop] at hct
  have hct2 := cut_lo (w.2.map stD) (l := ((y.rest.length : Nat) : Int)) (by omega)
  rw [Int.toNat_natCast, ← List.map_drop] at hct2
  have en : nmD w = .str (sw w.1) := rfl
  have hsl : (y.sh.map nmD).length ≤ 200000 := by rw [List.length_map]; omega
  unfold lp_next_ways_1 nextW
  cases h1 : pre w.2 y.rest with
  | true =>
    rw [h1] at hb1
    rw [if_pos rfl, List.map_singleton]
    unfold wyD
    dsimp only
    rw [List.map_append, List.map_singleton, en]
    unfold stD2 at *
    clear hb2 hct2
    generalize (y.rest.drop w.2.length).map stD = dl at *
    generalize y.rest.map stD = rl at *
    generalize w.2.map stD = wl at *
    generalize sw w.1 = wn at *
    generalize y.sh.map nmD = sl at *
    generalize y.lo.map nmD = ll at *
    simp (disch := (first | assumption | with_reducible rfl | decide +kernel | exact Or.inl (by decide +kernel) | exact Or.inr (by decide +kernel) | omega | (simp only [List.length_cons, List.length_nil, List.length_append, List.length_map, List.length_replicate, List.length_range] <;> omega) | rfl)) only [evEqs, List.getElem?_cons_zero, List.getElem?_cons_succ, List.getElem?_nil, List.set_cons_zero, List.set_cons_succ, List.map_cons, List.map_nil, List.length_cons, List.length_nil, List.length_append, List.cons_append, List.nil_append, List.length_map, List.length_singleton, Nat.reduceBEq, Nat.reduceAdd, Nat.reduceSub, Nat.reduceMul, Nat.reduceEqDiff, Nat.reduceLeDiff, Nat.reduceLT, if_false, if_true, ite_true, ite_false, ↓reduceIte, Bool.not_true, Bool.not_false, Bool.false_eq_true, decide_true, decide_false, eq_self, and_true, true_and, and_self, Nat.zero_le, Nat.zero_add, Option.bind_some, Option.bind_none, Nat.lt_irrefl, Int.reduceToNat, Int.reducePow, Int.reduceNeg, Int.reduceMul, Int.reduceAdd, Int.reduceSub, Int.reduceLT, Int.reduceLE, Int.reduceEq, beq_self_eq_true, wipeE, MP.at0, MP.at1, MP.at2, MP.atLit, hb1, hl, hlr, hct]
  | false =>
    rw [h1] at hb1
    rw [if_neg (by simp)]
    cases h2 : pre y.rest w.2 with
    | true =>
      rw [h2] at hb2
      rw [if_pos rfl, List.map_singleton]
      obtain ⟨c, hc⟩ := (pre_iff _ _).mp h2
      have hle : y.rest.length ≤ w.2.length := by rw [hc, List.length_append]; omega
      have ep : ((y.price + w.2.length - y.rest.length : Nat) : Int) = (y.price : Nat) + (w.2.length : Nat) - (y.rest.length : Nat) := by omega
      unfold wyD
      dsimp only
      rw [List.map_append, List.map_singleton, en, ep]
      unfold stD2 at *
      clear hct ep hc h1 h2 hle
      generalize (w.2.drop y.rest.length).map stD = dl at *
      generalize y.rest.map stD = rl at *
      generalize w.2.map stD = wl at *
      generalize sw w.1 = wn at *
      generalize y.sh.map nmD = sl at *
      generalize y.lo.map nmD = ll at *
      simp (disch := (first | assumption | with_reducible rfl | decide +kernel | exact Or.inl (by decide +kernel) | exact Or.inr (by decide +kernel) | omega | (simp only [List.length_cons, List.length_nil, List.length_append, List.length_map, List.length_replicate, List.length_range] <;> omega) | rfl)) only [evEqs, List.getElem?_cons_zero, List.getElem?_cons_succ, List.getElem?_nil, List.set_cons_zero, List.set_cons_succ, List.map_cons, List.map_nil, List.length_cons, List.length_nil, List.length_append, List.cons_append, List.nil_append, List.length_map, List.length_singleton, Nat.reduceBEq, Nat.reduceAdd, Nat.reduceSub, Nat.reduceMul, Nat.reduceEqDiff, Nat.reduceLeDiff, Nat.reduceLT, if_false, if_true, ite_true, ite_false, ↓reduceIte, Bool.not_true, Bool.not_false, Bool.false_eq_true, decide_true, decide_false, eq_self, and_true, true_and, and_self, Nat.zero_le, Nat.zero_add, Option.bind_some, Option.bind_none, Nat.lt_irrefl, Int.reduceToNat, Int.reducePow, Int.reduceNeg, Int.reduceMul, Int.reduceAdd, Int.reduceSub, Int.reduceLT, Int.reduceLE, Int.reduceEq, beq_self_eq_true, wipeE, MP.at0, MP.at1, MP.at2, MP.atLit, hb1, hb2, hl, hlr, hct2]
    | false =>
      rw [h2] at hb2
      rw [if_neg (by simp), List.map_nil, List.append_nil]
      generalize stD2 y.rest = rl at *
      generalize stD2 w.2 = wl at *
      generalize sw w.1 = wn at *
      simp (disch := (first | assumption | with_reducible rfl | decide +kernel | exact Or.inl (by decide +kernel) | exact Or.inr (by decide +kernel) | omega | (simp only [List.length_cons, List.length_nil, List.length_append, List.length_map, List.length_replicate, List.length_range] <;> omega) | rfl)) only [evEqs, List.getElem?_cons_zero, List.getElem?_cons_succ, List.getElem?_nil, List.set_cons_zero, List.set_cons_succ, List.map_cons, List.map_nil, List.length_cons, List.length_nil, List.length_append, List.cons_append, List.nil_append, List.length_map, List.length_singleton, Nat.reduceBEq, Nat.reduceAdd, Nat.reduceSub, Nat.reduceMul, Nat.reduceEqDiff, Nat.reduceLeDiff, Nat.reduceLT, if_false, if_true, ite_true, ite_false, ↓reduceIte, Bool.not_true, Bool.not_false, Bool.false_eq_true, decide_true, decide_false, eq_self, and_true, true_and, and_self, Nat.zero_le, Nat.zero_add, Option.bind_some, Option.bind_none, Nat.lt_irrefl, Int.reduceToNat, Int.reducePow, Int.reduceNeg, Int.reduceMul, Int.reduceAdd, Int.reduceSub, Int.reduceLT, Int.reduceLE, Int.reduceEq, beq_self_eq_true, wipeE, MP.at0, MP.at1, MP.at2, MP.atLit, hb1, hb2]
theorem nextW_len (y : Way) (w : Wd) : (nextW y w).length ≤ 1 := by
  unfold nextW
  split
  · simp
  · split <;> simp
theorem m_nw_in {y : Way} (hy : ∀ s ∈ y.rest, SK s) (hyl : y.lo.length + y.sh.length ≤ 200000) (bk wy : Slot) : ∀ (b : List Wd) (found : List D) (x7 x8 : Slot), (∀ o ∈ b, ∀ s ∈ o.2, SK s) → found.length + b.length ≤ 200000 → ∃ y7 y8,
    loopL (.tp [7, 8]) lp_next_ways_1 (b.map wdD) ⟨[bk, .v (stD2 y.rest), wy, .own (.list found), .v (.int (y.price : Nat)), .v (.list (y.lo.map nmD)), .v (.list (y.sh.map nmD)), x7, x8], []⟩ = .nx ⟨[bk, .v (stD2 y.rest), wy, .own (.list (found ++ (nexts b y).map wyD)), .v (.int (y.price : Nat)), .v (.list (y.lo.map nmD)), .v (.list (y.sh.map nmD)), y7, y8], []⟩
  | [], found, x7, x8, _, _ => ⟨x7, x8, by unfold nexts; simp only [List.flatMap_nil, List.map_nil, List.append_nil]; rfl⟩
  | o :: b, found, x7, x8, hb, hl => by
    rw [List.length_cons] at hl
    have ht := m_nw_turn hy (hb o (List.mem_cons_self ..)) hyl found (by omega) bk wy
    have hf1 : ((nextW y o).map wyD).length ≤ 1 := by rw [List.length_map]; exact nextW_len y o
    obtain ⟨y7, y8, hr⟩ := m_nw_in hy hyl bk wy b (found ++ (nextW y o).map wyD) (.v (.str (sw o.1))) (.v (stD2 o.2)) (fun z hz => hb z (List.mem_cons_of_mem _ hz)) (by rw [List.length_append]; omega)
    refine ⟨y7, y8, ?_⟩
    have e1 : wdD o = .tup [.str (sw o.1), stD2 o.2] := rfl
    unfold nexts at *
    rw [List.map_cons, e1, loop_one (b_tp2 ..) ht, hr, List.flatMap_cons, List.map_append, List.append_assoc]
theorem m_nexts {b : List Wd} (hg : GBk b) {y : Way} (hy : ∀ s ∈ y.rest, SK s) (hyl : y.lo.length + y.sh.length ≤ 200000) : sem_next_ways [bkD2 b, stD2 y.rest, wvD y] [] = .ok (.own (.list ((nexts b y).map wyD))) [] := by
  have hb4 := hg.len.2
  obtain ⟨y7, y8, hl⟩ := m_nw_in hy hyl (.v (bkD2 b)) (.v (wvD y)) b [] .un .un hg.lt (by simp; omega)
  rw [List.nil_append] at hl
  have hbl : (b.map wdD).length ≤ 60 := by rw [List.length_map]; omega
  unfold sem_next_ways
  refine run_ex (Q := fun r => r = .ok (.own (.list ((nexts b y).map wyD))) []) [.v (bkD2 b), .v (stD2 y.rest), .v (wvD y), .un, .un, .un, .un, .un, .un] rfl ?_
  unfold b_next_ways st_next_ways_1 st_next_ways_2 st_next_ways_3 st_next_ways_4
  unfold bkD2 wvD at *
  generalize (nexts b y).map wyD = fl at *
  generalize b.map wdD = bl at *
  generalize stD2 y.rest = rl at *
  generalize y.sh.map nmD = sl at *
  generalize y.lo.map nmD = ll at *
  generalize ((y.price : Nat) : Int) = pl at *
  simp (disch := (first | assumption | with_reducible rfl | decide +kernel | exact Or.inl (by decide +kernel) | exact Or.inr (by decide +kernel) | omega | (simp only [List.length_cons, List.length_nil, List.length_append, List.length_map, List.length_replicate, List.length_range] <;> omega) | rfl)) only [evEqs, List.getElem?_cons_zero, List.getElem?_cons_succ, List.getElem?_nil, List.set_cons_zero, List.set_cons_succ, List.map_cons, List.map_nil, List.length_cons, List.length_nil, List.length_append, List.cons_append, List.nil_append, List.length_map, List.length_singleton, Nat.reduceBEq, Nat.reduceAdd, Nat.reduceSub, Nat.reduceMul, Nat.reduceEqDiff, Nat.reduceLeDiff, Nat.reduceLT, if_false, if_true, ite_true, ite_false, ↓reduceIte, Bool.not_true, Bool.not_false, Bool.false_eq_true, decide_true, decide_false, eq_self, and_true, true_and, and_self, Nat.zero_le, Nat.zero_add, Option.bind_some, Option.bind_none, Nat.lt_irrefl, Int.reduceToNat, Int.reducePow, Int.reduceNeg, Int.reduceMul, Int.reduceAdd, Int.reduceSub, Int.reduceLT, Int.reduceLE, Int.reduceEq, beq_self_eq_true, wipeE, MP.at0, MP.at1, MP.at2, MP.atLit, hl]

mutual
def nbD : D → Bool
  | .bool _ => false
  | .tup xs => nbDs xs
  | .none => true
  | .int _ => true
  | .str _ => true
  | .list _ => true
  | .lk _ => true
  | .dic _ => true
  | .obj _ => true
  | .xv _ _ => true
  | .btp _ => true
def nbDs : List D → Bool
  | [] => true
  | x :: xs => nbD x && nbDs xs
end
mutual
def decN : NestedKey → D
  | .none => .none
  | .num i => .int i
  | .text x => .str x
  | .tup ks => .tup (decNs ks)
def decNs : List NestedKey → List D
  | [] => []
  | k :: ks => decN k :: decNs ks
end
mutual
theorem dec_nk : ∀ (d : D) (k : NestedKey), nbD d = true → nkD d = some k → decN k = d
  | .none, k, _, h => by rw [nkD] at h; cases h; rw [decN]
  | .int i, k, _, h => by rw [nkD] at h; cases h; rw [decN]
  | .str x, k, _, h => by rw [nkD] at h; cases h; rw [decN]
  | .tup xs, k, hb, h => by
    rw [nkD] at h
    rw [nbD] at hb
    cases hx : nkDs xs with
    | none => rw [hx] at h; cases h
    | some ks => rw [hx] at h; cases h; rw [decN, dec_nks xs ks hb hx]
  | .bool b, k, hb, _ => by rw [nbD] at hb; cases hb
  | .list _, k, _, h => by rw [nkD] at h; cases h
  | .lk _, k, _, h => by rw [nkD] at h; cases h
  | .dic _, k, _, h => by rw [nkD] at h; cases h
  | .obj _, k, _, h => by rw [nkD] at h; cases h
  | .xv _ _, k, _, h => by rw [nkD] at h; cases h
  | .btp _, k, _, h => by rw [nkD] at h; cases h
theorem dec_nks : ∀ (ds : List D) (ks : List NestedKey), nbDs ds = true → nkDs ds = some ks → decNs ks = ds
  | [], ks, _, h => by rw [nkDs] at h; cases h; rw [decNs]
  | d :: ds, ks, hb, h => by
    rw [nkDs] at h
    rw [nbDs, Bool.and_eq_true] at hb
    cases h1 : nkD d with
    | none => rw [h1] at h; cases h
    | some k =>
      cases h2 : nkDs ds with
      | none => rw [h1, h2] at h; cases h
      | some ks' => rw [h1, h2] at h; cases h; rw [decNs, dec_nk d k hb.1 h1, dec_nks ds ks' hb.2 h2]
end
theorem keyN_nk {d : D} {k : NestedKey} (h : keyN d = some k) : nkD d = some k := by
  unfold keyN at h
  cases d with
  | tup xs =>
    dsimp only at h
    cases hx : nkD (.tup xs) with
    | none => rw [hx] at h; cases h
    | some k' =>
      rw [hx] at h
      have h : (if k'.depth ≤ 8 then some k' else none) = some k := h
      split at h
      · exact h
      · cases h
  | _ => cases h
theorem keyN_inj {d d' : D} {k : NestedKey} (h1 : nbD d = true) (h2 : nbD d' = true) (e1 : keyN d = some k) (e2 : keyN d' = some k) : d = d' := by
  rw [← dec_nk d k h1 (keyN_nk e1), ← dec_nk d' k h2 (keyN_nk e2)]

theorem nb_ints : ∀ l : List Int, nbDs (l.map D.int) = true
  | [] => rfl
  | a :: l => by
    rw [List.map_cons]
    show (nbD (D.int a) && nbDs (l.map D.int)) = true
    rw [nb_ints l]; rfl
theorem nb_stk (s : List Int) : nbD (stD s) = true := nb_ints s
theorem nb_stks : ∀ l : List (List Int), nbDs (l.map stD) = true
  | [] => rfl
  | a :: l => by
    rw [List.map_cons]
    show (nbD (stD a) && nbDs (l.map stD)) = true
    rw [nb_stk, nb_stks l]; rfl
theorem nb_stD2 (l : List (List Int)) : nbD (stD2 l) = true := nb_stks l
theorem nk_ints : ∀ l : List Int, ∃ ks, nkDs (l.map D.int) = some ks ∧ NestedKey.depthAll ks = 0
  | [] => ⟨[], by rw [List.map_nil, nkDs], by simp only [NestedKey.depthAll]⟩
  | a :: l => by
    obtain ⟨ks, h3, h4⟩ := nk_ints l
    exact ⟨.num a :: ks, by rw [List.map_cons, nkDs, h3]; rfl, by simp only [NestedKey.depthAll, NestedKey.depth, h4]; rfl⟩
theorem nk_stk (s : List Int) : ∃ k, nkD (stD s) = some k ∧ k.depth ≤ 1 := by
  obtain ⟨ks, h1, h2⟩ := nk_ints s
  refine ⟨.tup ks, ?_, by simp only [NestedKey.depth, h2]; omega⟩
  show nkD (.tup (s.map D.int)) = _
  rw [nkD, h1]; rfl
theorem nk_stks : ∀ l : List (List Int), ∃ ks, nkDs (l.map stD) = some ks ∧ NestedKey.depthAll ks ≤ 1
  | [] => ⟨[], by rw [List.map_nil, nkDs], by simp only [NestedKey.depthAll]; omega⟩
  | a :: l => by
    obtain ⟨k, h1, h2⟩ := nk_stk a
    obtain ⟨ks, h3, h4⟩ := nk_stks l
    exact ⟨k :: ks, by rw [List.map_cons, nkDs, h1, h3]; rfl, by simp only [NestedKey.depthAll]; omega⟩
def kyR (r : List (List Int)) : NestedKey := (keyN (stD2 r)).getD .none
theorem kyR_ok (r : List (List Int)) : keyN (stD2 r) = some (kyR r) := by
  have : ∃ k, keyN (stD2 r) = some k := by
    obtain ⟨ks, h1, h2⟩ := nk_stks r
    have e : nkD (stD2 r) = some (.tup ks) := by
      show nkD (.tup (r.map stD)) = _
      rw [nkD, h1]; rfl
    refine ⟨.tup ks, ?_⟩
    show ((nkD (stD2 r)).bind fun k => if k.depth ≤ 8 then some k else none) = _
    rw [e]
    show (if (NestedKey.tup ks).depth ≤ 8 then _ else _) = _
    rw [if_pos (by simp only [NestedKey.depth]; omega)]
  obtain ⟨k, h⟩ := this
  unfold kyR
  rw [h]; rfl
theorem stD2_inj {r t : List (List Int)} (hr : ∀ s ∈ r, SK s) (ht : ∀ s ∈ t, SK s) (h : stD2 r = stD2 t) : r = t := by
  unfold stD2 at h
  injection h with h
  exact map_stk_inj hr ht h
theorem kyR_is {r t : List (List Int)} (hr : ∀ s ∈ r, SK s) (ht : ∀ s ∈ t, SK s) : (keyN (stD2 r) = some (kyR t)) = (r = t) := by
  apply propext
  constructor
  · intro h; exact stD2_inj hr ht (keyN_inj (nb_stD2 r) (nb_stD2 t) h (kyR_ok t))
  · rintro rfl; exact kyR_ok r
def knW (k : List Way) : List (D × D) := k.map fun y => (stD2 y.rest, wvD y)
theorem kw_val {r : List (List Int)} (hr : ∀ s ∈ r, SK s) : ∀ {k : List Way}, (∀ y ∈ k, ∀ s ∈ y.rest, SK s) → ndVal (knW k) (kyR r) = (kat k r).map wvD
  | [], _ => rfl
  | y :: k, hk => by
    have ih := kw_val hr (fun z hz => hk z (List.mem_cons_of_mem _ hz))
    unfold ndVal knW kat at *
    rw [List.map_cons, List.find?_cons, List.find?_cons]
    dsimp only
    have e := kyR_is (hk y (List.mem_cons_self ..)) hr
    simp only [e]
    by_cases c : y.rest = r
    · rw [decide_eq_true c]; rfl
    · rw [decide_eq_false c]; exact ih
theorem kw_put {y : Way} (hy : ∀ s ∈ y.rest, SK s) {k : List Way} (hk : ∀ z ∈ k, ∀ s ∈ z.rest, SK s) : ndPut (knW k) (stD2 y.rest) (wvD y) (kyR y.rest) = knW (kput k y) := by
  unfold ndPut kput
  rw [kw_val hy hk, Option.isSome_map]
  by_cases c : (kat k y.rest).isSome = true
  · rw [if_pos c, if_pos c]
    unfold knW
    rw [List.map_map, List.map_map]
    refine List.map_congr_left fun z hz => ?_
    show (if keyN (stD2 z.rest) = some (kyR y.rest) then (stD2 z.rest, wvD y) else (stD2 z.rest, wvD z)) = (stD2 (if z.rest = y.rest then y else z).rest, wvD (if z.rest = y.rest then y else z))
    have q := kyR_is (hk z hz) hy
    by_cases e : z.rest = y.rest
    · rw [if_pos (q.mpr e), if_pos e, e]
    · rw [if_neg (fun h => e (q.mp h)), if_neg e]
  · rw [if_neg c, if_neg c]
    unfold knW
    rw [List.map_append]; rfl
theorem kat_put (k : List Way) (y : Way) : kat (kput k y) y.rest = some y := by
  cases h : kat (kput k y) y.rest with
  | none => exact absurd rfl (kat_none h y kput_mem)
  | some z =>
    obtain ⟨hz, hr⟩ := kat_some h
    rcases mem_kput hz with rfl | ⟨_, c⟩
    · rfl
    · exact absurd hr c
theorem put_lt3 {y : Way} (hy : ∀ s ∈ y.rest, SK s) {k : List Way} (hk : ∀ z ∈ k, ∀ s ∈ z.rest, SK s) : ∀ z ∈ kput k y, ∀ s ∈ z.rest, SK s := by
  intro z hz
  rcases mem_kput hz with rfl | ⟨hz, _⟩
  · exact hy
  · exact hk z hz
theorem kw_len (k : List Way) : (knW k).length = k.length := by unfold knW; rw [List.length_map]
def woS (b : List Wd) (k later : List Way) (x2 : D) (a b' c d : Slot) : Sta := ⟨[.v (bkD2 b), .v (.obj 0), .v x2, .own (.list (later.map wyD)), a, b', c, d], [ndOb (knW k)]⟩
theorem m_wo_yes {b : List Wd} (hg : GBk b) {k later : List Way} {y : Way} (hk : ∀ z ∈ k, ∀ s ∈ z.rest, SK s) (hy : ∀ s ∈ y.rest, SK s) (hyl : y.lo.length + y.sh.length ≤ 200000) (hkl : k.length ≤ 4000) (hll : later.length ≤ 1500000) (x2 : D) :
    (sSeq (sNdPut (pVar 1) (pD (pVar 4)) (pD (pTup (pCons (pD (pVar 5)) (pCons (pD (pVar 6)) (pCons (pD (pVar 7)) (pNil))))))) (sIf (pB (p2 gGt (pCall gLen (pCons (pVar 4) (pNil))) (pC (.int 0)))) (sExtP (.nm 3) (pUser 3 sem_next_ways (pCons (pD (pVar 0)) (pCons (pD (pVar 4)) (pCons (pD (pNdGet (pVar 1) (pVar 4))) (pNil)))))) (sNil)))
      (woS b k later x2 (.v (stD2 y.rest)) (.v (.int (y.price : Nat))) (.v (.list (y.lo.map nmD))) (.v (.list (y.sh.map nmD))))
    = .nx (woS b (kput k y) (if 0 < y.rest.length then later ++ nexts b y else later) x2 (.v (stD2 y.rest)) (.v (.int (y.price : Nat))) (.v (.list (y.lo.map nmD))) (.v (.list (y.sh.map nmD)))) := by
  have hky := kyR_ok y.rest
  have hput := kw_put hy hk
  have hv := kw_val hy (put_lt3 hy hk)
  rw [kat_put, Option.map_some] at hv
  have hnx := m_nexts hg hy hyl
  have hkw : (knW k).length ≤ 4000 := by rw [kw_len]; exact hkl
  have hll2 : (later.map wyD).length ≤ 1500000 := by rw [List.length_map]; exact hll
  have hnl : ((nexts b y).map wyD).length ≤ 20 := by
    rw [List.length_map]
    have h : ∀ c : List Wd, (nexts c y).length ≤ c.length := by
      intro c
      unfold nexts
      induction c with
      | nil => exact Nat.le_refl _
      | cons w c ih => rw [List.flatMap_cons, List.length_append, List.length_cons]; have := nextW_len y w; omega
    have := h b
    have := hg.len.2
    omega
  have hrl : (y.rest.map stD).length = y.rest.length := List.length_map ..
  have hwv : wvD y = .tup [.int (y.price : Nat), .list (y.lo.map nmD), .list (y.sh.map nmD)] := rfl
  have hs : stD2 y.rest = .tup (y.rest.map stD) := rfl
  unfold woS
  by_cases c : 0 < y.rest.length
  · rw [if_pos c, List.map_append]
    have p : (((y.rest.length : Nat) : Int) > 0) = True := by apply eq_true; omega
    rw [hwv] at hput hnx hv
    clear hwv
    rw [hs] at hky hput hnx ⊢
    clear hs
    generalize knW (kput k y) = kn2 at *
    generalize knW k = kn1 at *
    generalize kyR y.rest = ky at *
    generalize y.rest.map stD = rl at *
    generalize y.sh.map nmD = sl at *
    generalize y.lo.map nmD = ll at *
    generalize ((y.price : Nat) : Int) = pl at *
    generalize (nexts b y).map wyD = nl at *
    generalize later.map wyD = ld at *
    generalize bkD2 b = bd at *
    simp (disch := (first | assumption | with_reducible rfl | decide +kernel | exact Or.inl (by decide +kernel) | exact Or.inr (by decide +kernel) | omega | (simp only [List.length_cons, List.length_nil, List.length_append, List.length_map, List.length_replicate, List.length_range] <;> omega) | rfl)) only [evEqs, List.getElem?_cons_zero, List.getElem?_cons_succ, List.getElem?_nil, List.set_cons_zero, List.set_cons_succ, List.map_cons, List.map_nil, List.length_cons, List.length_nil, List.length_append, List.cons_append, List.nil_append, List.length_map, List.length_singleton, Nat.reduceBEq, Nat.reduceAdd, Nat.reduceSub, Nat.reduceMul, Nat.reduceEqDiff, Nat.reduceLeDiff, Nat.reduceLT, if_false, if_true, ite_true, ite_false, ↓reduceIte, Bool.not_true, Bool.not_false, Bool.false_eq_true, decide_true, decide_false, eq_self, and_true, true_and, and_self, Nat.zero_le, Nat.zero_add, Option.bind_some, Option.bind_none, Nat.lt_irrefl, Int.reduceToNat, Int.reducePow, Int.reduceNeg, Int.reduceMul, Int.reduceAdd, Int.reduceSub, Int.reduceLT, Int.reduceLE, Int.reduceEq, beq_self_eq_true, wipeE, MP.at0, MP.at1, MP.at2, MP.atLit, hky, hput, hv, hnx, hrl, p]
  · rw [if_neg c]
    have p : (((y.rest.length : Nat) : Int) > 0) = False := by apply eq_false; omega
    rw [hwv] at hput
    clear hwv hv hnx hnl
    rw [hs] at hky hput ⊢
    clear hs
    generalize knW (kput k y) = kn2 at *
    generalize knW k = kn1 at *
    generalize kyR y.rest = ky at *
    generalize y.rest.map stD = rl at *
    generalize y.sh.map nmD = sl at *
    generalize y.lo.map nmD = ll at *
    generalize ((y.price : Nat) : Int) = pl at *
    generalize later.map wyD = ld at *
    generalize bkD2 b = bd at *
    simp (disch := (first | assumption | with_reducible rfl | decide +kernel | exact Or.inl (by decide +kernel) | exact Or.inr (by decide +kernel) | omega | (simp only [List.length_cons, List.length_nil, List.length_append, List.length_map, List.length_replicate, List.length_range] <;> omega) | rfl)) only [evEqs, List.getElem?_cons_zero, List.getElem?_cons_succ, List.getElem?_nil, List.set_cons_zero, List.set_cons_succ, List.map_cons, List.map_nil, List.length_cons, List.length_nil, List.length_append, List.cons_append, List.nil_append, List.length_map, List.length_singleton, Nat.reduceBEq, Nat.reduceAdd, Nat.reduceSub, Nat.reduceMul, Nat.reduceEqDiff, Nat.reduceLeDiff, Nat.reduceLT, if_false, if_true, ite_true, ite_false, ↓reduceIte, Bool.not_true, Bool.not_false, Bool.false_eq_true, decide_true, decide_false, eq_self, and_true, true_and, and_self, Nat.zero_le, Nat.zero_add, Option.bind_some, Option.bind_none, Nat.lt_irrefl, Int.reduceToNat, Int.reducePow, Int.reduceNeg, Int.reduceMul, Int.reduceAdd, Int.reduceSub, Int.reduceLT, Int.reduceLE, Int.reduceEq, beq_self_eq_true, wipeE, MP.at0, MP.at1, MP.at2, MP.atLit, hky, hput, hrl, p]
theorem m_wo_turn {b : List Wd} (hg : GBk b) {k later : List Way} {y : Way} (hk : ∀ z ∈ k, ∀ s ∈ z.rest, SK s) (hy : ∀ s ∈ y.rest, SK s) (hyl : y.lo.length + y.sh.length ≤ 200000) (hkl : k.length ≤ 4000) (hll : later.length ≤ 1500000) (x2 : D) :
    lp_ways_of_1 (woS b k later x2 (.v (stD2 y.rest)) (.v (.int (y.price : Nat))) (.v (.list (y.lo.map nmD))) (.v (.list (y.sh.map nmD))))
    = .nx (woS b (acc b (k, later) y).1 (acc b (k, later) y).2 x2 (.v (stD2 y.rest)) (.v (.int (y.price : Nat))) (.v (.list (y.lo.map nmD))) (.v (.list (y.sh.map nmD)))) := by
  have hyes := m_wo_yes hg hk hy hyl hkl hll x2
  have hky := kyR_ok y.rest
  have hv := kw_val hy hk
  unfold lp_ways_of_1 acc better
  cases hz : kat k y.rest with
  | none =>
    rw [hz, Option.map_none] at hv
    have hvs : (ndVal (knW k) (kyR y.rest)).isSome = false := by rw [hv]; rfl
    have hbn : (false != true) = true := rfl
    dsimp only
    rw [if_pos rfl]
    refine Eq.trans ?_ hyes
    generalize (sSeq (sNdPut (pVar 1) (pD (pVar 4)) (pD (pTup (pCons (pD (pVar 5)) (pCons (pD (pVar 6)) (pCons (pD (pVar 7)) (pNil))))))) (sIf (pB (p2 gGt (pCall gLen (pCons (pVar 4) (pNil))) (pC (.int 0)))) (sExtP (.nm 3) (pUser 3 sem_next_ways (pCons (pD (pVar 0)) (pCons (pD (pVar 4)) (pCons (pD (pNdGet (pVar 1) (pVar 4))) (pNil)))))) (sNil))) = blk at *
    unfold woS
    clear hv hyes hz
    generalize knW k = kn1 at *
    generalize kyR y.rest = ky at *
    generalize stD2 y.rest = rl at *
    generalize later.map wyD = ld at *
    generalize bkD2 b = bd at *
    simp (disch := (first | assumption | with_reducible rfl | decide +kernel | exact Or.inl (by decide +kernel) | exact Or.inr (by decide +kernel) | omega | (simp only [List.length_cons, List.length_nil, List.length_append, List.length_map, List.length_replicate, List.length_range] <;> omega) | rfl)) only [evEqs, List.getElem?_cons_zero, List.getElem?_cons_succ, List.getElem?_nil, List.set_cons_zero, List.set_cons_succ, List.map_cons, List.map_nil, List.length_cons, List.length_nil, List.length_append, List.cons_append, List.nil_append, List.length_map, List.length_singleton, Nat.reduceBEq, Nat.reduceAdd, Nat.reduceSub, Nat.reduceMul, Nat.reduceEqDiff, Nat.reduceLeDiff, Nat.reduceLT, if_false, if_true, ite_true, ite_false, ↓reduceIte, Bool.not_true, Bool.not_false, Bool.false_eq_true, decide_true, decide_false, eq_self, and_true, true_and, and_self, Nat.zero_le, Nat.zero_add, Option.bind_some, Option.bind_none, Nat.lt_irrefl, Int.reduceToNat, Int.reducePow, Int.reduceNeg, Int.reduceMul, Int.reduceAdd, Int.reduceSub, Int.reduceLT, Int.reduceLE, Int.reduceEq, beq_self_eq_true, wipeE, MP.at0, MP.at1, MP.at2, MP.atLit, hky, hvs, hbn]
  | some z =>
    rw [hz, Option.map_some] at hv
    have hvs : (ndVal (knW k) (kyR y.rest)).isSome = true := by rw [hv]; rfl
    have hbn : (true != true) = false := rfl
    have i0 : gIx (wvD z) (.int 0) = some ⟨.sh, .int (z.price : Nat)⟩ := rfl
    dsimp only
    by_cases c : y.price < z.price
    · rw [if_pos (decide_eq_true c)]
      have p : (((y.price : Nat) : Int) < ((z.price : Nat) : Int)) = True := by apply eq_true; omega
      refine Eq.trans ?_ hyes
      generalize (sSeq (sNdPut (pVar 1) (pD (pVar 4)) (pD (pTup (pCons (pD (pVar 5)) (pCons (pD (pVar 6)) (pCons (pD (pVar 7)) (pNil))))))) (sIf (pB (p2 gGt (pCall gLen (pCons (pVar 4) (pNil))) (pC (.int 0)))) (sExtP (.nm 3) (pUser 3 sem_next_ways (pCons (pD (pVar 0)) (pCons (pD (pVar 4)) (pCons (pD (pNdGet (pVar 1) (pVar 4))) (pNil)))))) (sNil))) = blk at *
      unfold woS
      clear hyes hz c
      generalize knW k = kn1 at *
      generalize kyR y.rest = ky at *
      generalize stD2 y.rest = rl at *
      generalize later.map wyD = ld at *
      generalize bkD2 b = bd at *
      generalize ((y.price : Nat) : Int) = py at *
      generalize ((z.price : Nat) : Int) = pz at *
      generalize wvD z = wz at *
      simp (disch := (first | assumption | with_reducible rfl | decide +kernel | exact Or.inl (by decide +kernel) | exact Or.inr (by decide +kernel) | omega | (simp only [List.length_cons, List.length_nil, List.length_append, List.length_map, List.length_replicate, List.length_range] <;> omega) | rfl)) only [evEqs, List.getElem?_cons_zero, List.getElem?_cons_succ, List.getElem?_nil, List.set_cons_zero, List.set_cons_succ, List.map_cons, List.map_nil, List.length_cons, List.length_nil, List.length_append, List.cons_append, List.nil_append, List.length_map, List.length_singleton, Nat.reduceBEq, Nat.reduceAdd, Nat.reduceSub, Nat.reduceMul, Nat.reduceEqDiff, Nat.reduceLeDiff, Nat.reduceLT, if_false, if_true, ite_true, ite_false, ↓reduceIte, Bool.not_true, Bool.not_false, Bool.false_eq_true, decide_true, decide_false, eq_self, and_true, true_and, and_self, Nat.zero_le, Nat.zero_add, Option.bind_some, Option.bind_none, Nat.lt_irrefl, Int.reduceToNat, Int.reducePow, Int.reduceNeg, Int.reduceMul, Int.reduceAdd, Int.reduceSub, Int.reduceLT, Int.reduceLE, Int.reduceEq, beq_self_eq_true, wipeE, MP.at0, MP.at1, MP.at2, MP.atLit, hky, hv, Option.isSome_some, hbn, i0, p]
    · rw [if_neg (by simpa using c)]
      have p : (((y.price : Nat) : Int) < ((z.price : Nat) : Int)) = False := by apply eq_false; omega
      generalize (sSeq (sNdPut (pVar 1) (pD (pVar 4)) (pD (pTup (pCons (pD (pVar 5)) (pCons (pD (pVar 6)) (pCons (pD (pVar 7)) (pNil))))))) (sIf (pB (p2 gGt (pCall gLen (pCons (pVar 4) (pNil))) (pC (.int 0)))) (sExtP (.nm 3) (pUser 3 sem_next_ways (pCons (pD (pVar 0)) (pCons (pD (pVar 4)) (pCons (pD (pNdGet (pVar 1) (pVar 4))) (pNil)))))) (sNil))) = blk at *
      unfold woS
      clear hyes hz c
      generalize knW k = kn1 at *
      generalize kyR y.rest = ky at *
      generalize stD2 y.rest = rl at *
      generalize later.map wyD = ld at *
      generalize bkD2 b = bd at *
      generalize ((y.price : Nat) : Int) = py at *
      generalize ((z.price : Nat) : Int) = pz at *
      generalize wvD z = wz at *
      simp (disch := (first | assumption | with_reducible rfl | decide +kernel | exact Or.inl (by decide +kernel) | exact Or.inr (by decide +kernel) | omega | (simp only [List.length_cons, List.length_nil, List.length_append, List.length_map, List.length_replicate, List.length_range] <;> omega) | rfl)) only [evEqs, List.getElem?_cons_zero, List.getElem?_cons_succ, List.getElem?_nil, List.set_cons_zero, List.set_cons_succ, List.map_cons, List.map_nil, List.length_cons, List.length_nil, List.length_append, List.cons_append, List.nil_append, List.length_map, List.length_singleton, Nat.reduceBEq, Nat.reduceAdd, Nat.reduceSub, Nat.reduceMul, Nat.reduceEqDiff, Nat.reduceLeDiff, Nat.reduceLT, if_false, if_true, ite_true, ite_false, ↓reduceIte, Bool.not_true, Bool.not_false, Bool.false_eq_true, decide_true, decide_false, eq_self, and_true, true_and, and_self, Nat.zero_le, Nat.zero_add, Option.bind_some, Option.bind_none, Nat.lt_irrefl, Int.reduceToNat, Int.reducePow, Int.reduceNeg, Int.reduceMul, Int.reduceAdd, Int.reduceSub, Int.reduceLT, Int.reduceLE, Int.reduceEq, beq_self_eq_true, wipeE, MP.at0, MP.at1, MP.at2, MP.atLit, hky, hv, Option.isSome_some, hbn, i0, p]

theorem wh_nx {c : Sta → PR Bool} {g : Sta → Fl} {n : Nat} {s s' : Sta} (h1 : c s = .ok true) (h2 : g s = .nx s') : whL c g (n + 1) s = whL c g n s' := by
  rw [whL, h1]
  show (match g s with | .nx s' => whL c g n s' | .cont s' => whL c g n s' | .brk s' => .nx s' | fl => fl) = _
  rw [h2]
theorem wh_end {c : Sta → PR Bool} {g : Sta → Fl} {n : Nat} {s : Sta} (h1 : c s = .ok false) : whL c g (n + 1) s = .nx s := by
  rw [whL, h1]
  rfl
theorem InS.lt3 {b : List Wd} (hb : ∀ w ∈ b, ∀ s ∈ w.2, SK s) {r : List (List Int)} (h : InS b r) : ∀ s ∈ r, SK s := by
  obtain ⟨w, hw, i, _, _, rfl⟩ := h
  exact fun s hs => hb w hw s (List.mem_of_mem_drop hs)
theorem nexts_len (c : List Wd) (y : Way) : (nexts c y).length ≤ c.length := by
  unfold nexts
  induction c with
  | nil => exact Nat.le_refl _
  | cons w c ih => rw [List.flatMap_cons, List.length_append, List.length_cons]; have := nextW_len y w; omega
theorem next_wds {b : List Wd} {y z : Way} (h : z ∈ nexts b y) : z.lo.length + z.sh.length = y.lo.length + y.sh.length + 1 := by
  obtain ⟨w, hw, hz⟩ := List.mem_flatMap.mp h
  unfold nextW at hz
  by_cases c1 : pre w.2 y.rest = true
  · rw [if_pos c1] at hz
    rw [List.mem_singleton.mp hz]
    show y.lo.length + (y.sh ++ [w]).length = _
    rw [List.length_append, List.length_singleton]; omega
  · rw [if_neg c1] at hz
    by_cases c2 : pre y.rest w.2 = true
    · rw [if_pos c2] at hz
      rw [List.mem_singleton.mp hz]
      show (y.sh ++ [w]).length + y.lo.length = _
      rw [List.length_append, List.length_singleton]; omega
    · rw [if_neg c2] at hz; cases hz
theorem acc_wds {b : List Wd} {k later : List Way} {y : Way} {B : Nat} (hy : y.lo.length + y.sh.length ≤ B) (hl : ∀ z ∈ later, z.lo.length + z.sh.length ≤ B + 1) : ∀ z ∈ (acc b (k, later) y).2, z.lo.length + z.sh.length ≤ B + 1 := by
  intro z hz
  unfold acc at hz
  by_cases c : better k y = true
  · rw [if_pos c] at hz
    dsimp only at hz
    by_cases c0 : 0 < y.rest.length
    · rw [if_pos c0] at hz
      rcases List.mem_append.mp hz with hz | hz
      · exact hl z hz
      · have := next_wds hz; omega
    · rw [if_neg c0] at hz
      exact hl z hz
  · rw [if_neg c] at hz
    exact hl z hz
theorem acc_len {b : List Wd} (hb : b.length ≤ 20) (hb3 : ∀ w ∈ b, w.2.length ≤ 6) (hne : ∀ w ∈ b, w.2 ≠ []) {k later ahead : List Way} {y : Way} (h : TI b k (y :: ahead ++ later)) : (acc b (k, later) y).2.length + 20 * phi (acc b (k, later) y).1 ≤ later.length + 20 * phi k := by
  obtain ⟨_, h2, h3⟩ := h.step hb hb3 hne
  by_cases e : (acc b (k, later) y).2 = later
  · rw [e]; omega
  · have := h3 e
    have hl : (acc b (k, later) y).2.length ≤ later.length + 20 := by
      unfold acc
      by_cases c : better k y = true
      · rw [if_pos c]
        dsimp only
        by_cases c0 : 0 < y.rest.length
        · rw [if_pos c0, List.length_append]; have := nexts_len b y; omega
        · rw [if_neg c0]; omega
      · rw [if_neg c]; exact Nat.le_add_right _ _
    omega
theorem m_wo_in {b : List Wd} (hg : GBk b) (x2 : D) {B : Nat} (hB : B ≤ 100000) : ∀ (ahead k later : List Way) (x4 x5 x6 x7 : Slot), TI b k (ahead ++ later) → (∀ y ∈ ahead, y.lo.length + y.sh.length ≤ B) → (∀ y ∈ later, y.lo.length + y.sh.length ≤ B + 1) → later.length + 20 * phi k ≤ 1500000 → ∃ y4 y5 y6 y7,
    loopL (.tp [4, 5, 6, 7]) lp_ways_of_1 (ahead.map wyD) (woS b k later x2 x4 x5 x6 x7) = .nx (woS b (ahead.foldl (acc b) (k, later)).1 (ahead.foldl (acc b) (k, later)).2 x2 y4 y5 y6 y7)
      ∧ (∀ y ∈ (ahead.foldl (acc b) (k, later)).2, y.lo.length + y.sh.length ≤ B + 1) ∧ (ahead.foldl (acc b) (k, later)).2.length + 20 * phi (ahead.foldl (acc b) (k, later)).1 ≤ 1500000
  | [], k, later, x4, x5, x6, x7, _, _, h2, h3 => ⟨x4, x5, x6, x7, rfl, h2, h3⟩
  | y :: ahead, k, later, x4, x5, x6, x7, hT, h1, h2, h3 => by
    have hyb := h1 y (List.mem_cons_self ..)
    have hst := (hT.step hg.len.2 hg.l3 hg.ne).1
    have hal := acc_len hg.len.2 hg.l3 hg.ne hT
    have haw := acc_wds (b := b) (k := k) hyb h2
    have hkl := hT.len hg.len.2
    have ht := m_wo_turn hg (k := k) (later := later) (y := y) (fun z hz => (hT.sub z hz).lt3 hg.lt) ((hT.subl y (by simp)).lt3 hg.lt) (by omega) (by omega) (by omega) x2
    obtain ⟨y4, y5, y6, y7, hr, g1, g2⟩ := m_wo_in hg x2 hB ahead (acc b (k, later) y).1 (acc b (k, later) y).2 (.v (stD2 y.rest)) (.v (.int (y.price : Nat))) (.v (.list (y.lo.map nmD))) (.v (.list (y.sh.map nmD))) hst (fun z hz => h1 z (List.mem_cons_of_mem _ hz)) haw (by omega)
    refine ⟨y4, y5, y6, y7, ?_, g1, g2⟩
    have e1 : wyD y = .tup [stD2 y.rest, .int (y.price : Nat), .list (y.lo.map nmD), .list (y.sh.map nmD)] := rfl
    rw [List.map_cons, e1, loop_one (s' := woS b (acc b (k, later) y).1 (acc b (k, later) y).2 x2 (.v (stD2 y.rest)) (.v (.int (y.price : Nat))) (.v (.list (y.lo.map nmD))) (.v (.list (y.sh.map nmD)))) (env := (woS b k later x2 (.v (stD2 y.rest)) (.v (.int (y.price : Nat))) (.v (.list (y.lo.map nmD))) (.v (.list (y.sh.map nmD)))).env) rfl ht]
    exact hr
def whS (b : List Wd) (k ahead : List Way) (x3 x4 x5 x6 x7 : Slot) : Sta := ⟨[.v (bkD2 b), .v (.obj 0), .v (.list (ahead.map wyD)), x3, x4, x5, x6, x7], [ndOb (knW k)]⟩
theorem m_wo_body {b : List Wd} (hg : GBk b) {B : Nat} (hB : B ≤ 100000) {k ahead : List Way} (hT : TI b k ahead) (hw : ∀ y ∈ ahead, y.lo.length + y.sh.length ≤ B) (hp : 20 * phi k ≤ 1500000) (hal : ahead.length ≤ 1500000) (x3 x4 x5 x6 x7 : Slot) : ∃ y3 y4 y5 y6 y7,
    lp_ways_of_2 (whS b k ahead x3 x4 x5 x6 x7) = .nx (whS b (roundW b k ahead).1 (roundW b k ahead).2 y3 y4 y5 y6 y7) ∧ (∀ y ∈ (roundW b k ahead).2, y.lo.length + y.sh.length ≤ B + 1) ∧ (roundW b k ahead).2.length + 20 * phi (roundW b k ahead).1 ≤ 1500000 := by
  obtain ⟨y4, y5, y6, y7, hl, g1, g2⟩ := m_wo_in hg (.list (ahead.map wyD)) hB ahead k [] x4 x5 x6 x7 (by rw [List.append_nil]; exact hT) hw (fun y h => by cases h) (by simp; omega)
  refine ⟨.v (.list ((roundW b k ahead).2.map wyD)), y4, y5, y6, y7, ?_, g1, g2⟩
  have hadl : (ahead.map wyD).length ≤ 1500000 := by rw [List.length_map]; exact hal
  unfold lp_ways_of_2 roundW whS
  unfold woS at hl
  rw [List.map_nil] at hl
  clear g1 g2 hw hp hT
  generalize (ahead.foldl (acc b) (k, [])).2.map wyD = nl at *
  generalize knW (ahead.foldl (acc b) (k, [])).1 = kn2 at *
  generalize knW k = kn1 at *
  generalize ahead.map wyD = al at *
  generalize bkD2 b = bd at *
  simp (disch := (first | assumption | with_reducible rfl | decide +kernel | exact Or.inl (by decide +kernel) | exact Or.inr (by decide +kernel) | omega | (simp only [List.length_cons, List.length_nil, List.length_append, List.length_map, List.length_replicate, List.length_range] <;> omega) | rfl)) only [evEqs, List.getElem?_cons_zero, List.getElem?_cons_succ, List.getElem?_nil, List.set_cons_zero, List.set_cons_succ, List.map_cons, List.map_nil, List.length_cons, List.length_nil, List.length_append, List.cons_append, List.nil_append, List.length_map, List.length_singleton, Nat.reduceBEq, Nat.reduceAdd, Nat.reduceSub, Nat.reduceMul, Nat.reduceEqDiff, Nat.reduceLeDiff, Nat.reduceLT, if_false, if_true, ite_true, ite_false, ↓reduceIte, Bool.not_true, Bool.not_false, Bool.false_eq_true, decide_true, decide_false, eq_self, and_true, true_and, and_self, Nat.zero_le, Nat.zero_add, Option.bind_some, Option.bind_none, Nat.lt_irrefl, Int.reduceToNat, Int.reducePow, Int.reduceNeg, Int.reduceMul, Int.reduceAdd, Int.reduceSub, Int.reduceLT, Int.reduceLE, Int.reduceEq, beq_self_eq_true, wipeE, MP.at0, MP.at1, MP.at2, MP.atLit, hl]
theorem wo_cond (b : List Wd) (k ahead : List Way) (x3 x4 x5 x6 x7 : Slot) : pB (p2 gGt (pCall gLen (pCons (pVar 2) (pNil))) (pC (.int 0))) (whS b k ahead x3 x4 x5 x6 x7) = .ok (decide (0 < ahead.length)) := by
  have hl : (ahead.map wyD).length = ahead.length := List.length_map ..
  unfold whS
  by_cases c : 0 < ahead.length
  · have p : (((ahead.length : Nat) : Int) > 0) = True := by apply eq_true; omega
    rw [decide_eq_true c]
    generalize ahead.length = n at *
    generalize ahead.map wyD = al at *
    generalize bkD2 b = bd at *
    simp (disch := (first | assumption | with_reducible rfl | decide +kernel | exact Or.inl (by decide +kernel) | exact Or.inr (by decide +kernel) | omega | (simp only [List.length_cons, List.length_nil, List.length_append, List.length_map, List.length_replicate, List.length_range] <;> omega) | rfl)) only [evEqs, List.getElem?_cons_zero, List.getElem?_cons_succ, List.getElem?_nil, List.set_cons_zero, List.set_cons_succ, List.map_cons, List.map_nil, List.length_cons, List.length_nil, List.length_append, List.cons_append, List.nil_append, List.length_map, List.length_singleton, Nat.reduceBEq, Nat.reduceAdd, Nat.reduceSub, Nat.reduceMul, Nat.reduceEqDiff, Nat.reduceLeDiff, Nat.reduceLT, if_false, if_true, ite_true, ite_false, ↓reduceIte, Bool.not_true, Bool.not_false, Bool.false_eq_true, decide_true, decide_false, eq_self, and_true, true_and, and_self, Nat.zero_le, Nat.zero_add, Option.bind_some, Option.bind_none, Nat.lt_irrefl, Int.reduceToNat, Int.reducePow, Int.reduceNeg, Int.reduceMul, Int.reduceAdd, Int.reduceSub, Int.reduceLT, Int.reduceLE, Int.reduceEq, beq_self_eq_true, wipeE, MP.at0, MP.at1, MP.at2, MP.atLit, hl, p]
  · have p : (((ahead.length : Nat) : Int) > 0) = False := by apply eq_false; omega
    rw [decide_eq_false c]
    generalize ahead.length = n at *
    generalize ahead.map wyD = al at *
    generalize bkD2 b = bd at *
    simp (disch := (first | assumption | with_reducible rfl | decide +kernel | exact Or.inl (by decide +kernel) | exact Or.inr (by decide +kernel) | omega | (simp only [List.length_cons, List.length_nil, List.length_append, List.length_map, List.length_replicate, List.length_range] <;> omega) | rfl)) only [evEqs, List.getElem?_cons_zero, List.getElem?_cons_succ, List.getElem?_nil, List.set_cons_zero, List.set_cons_succ, List.map_cons, List.map_nil, List.length_cons, List.length_nil, List.length_append, List.cons_append, List.nil_append, List.length_map, List.length_singleton, Nat.reduceBEq, Nat.reduceAdd, Nat.reduceSub, Nat.reduceMul, Nat.reduceEqDiff, Nat.reduceLeDiff, Nat.reduceLT, if_false, if_true, ite_true, ite_false, ↓reduceIte, Bool.not_true, Bool.not_false, Bool.false_eq_true, decide_true, decide_false, eq_self, and_true, true_and, and_self, Nat.zero_le, Nat.zero_add, Option.bind_some, Option.bind_none, Nat.lt_irrefl, Int.reduceToNat, Int.reducePow, Int.reduceNeg, Int.reduceMul, Int.reduceAdd, Int.reduceSub, Int.reduceLT, Int.reduceLE, Int.reduceEq, beq_self_eq_true, wipeE, MP.at0, MP.at1, MP.at2, MP.atLit, hl, p]
theorem wo_loop {b : List Wd} (hg : GBk b) {n : Nat} {k ahead r : List Way} (h : WR b n k ahead r) : ∀ (m B : Nat) (x3 x4 x5 x6 x7 : Slot), n < m → TI b k ahead → (∀ y ∈ ahead, y.lo.length + y.sh.length ≤ B) → B + n ≤ 100000 → 20 * phi k ≤ 1500000 → ahead.length ≤ 1500000 → ∃ y3 y4 y5 y6 y7,
    whL (pB (p2 gGt (pCall gLen (pCons (pVar 2) (pNil))) (pC (.int 0)))) lp_ways_of_2 m (whS b k ahead x3 x4 x5 x6 x7) = .nx (whS b r [] y3 y4 y5 y6 y7) := by
  induction h with
  | stop k =>
    intro m B x3 x4 x5 x6 x7 hm _ _ _ _ _
    obtain ⟨m', rfl⟩ : ∃ m', m = m' + 1 := ⟨m - 1, by omega⟩
    have hc := wo_cond b k [] x3 x4 x5 x6 x7
    exact ⟨x3, x4, x5, x6, x7, wh_end hc⟩
  | @go n k ahead r h1 h2 ih =>
    intro m B x3 x4 x5 x6 x7 hm hT hw hB hp hal
    obtain ⟨m', rfl⟩ : ∃ m', m = m' + 1 := ⟨m - 1, by omega⟩
    have hc := wo_cond b k ahead x3 x4 x5 x6 x7
    rw [decide_eq_true (List.length_pos_iff.mpr h1)] at hc
    obtain ⟨y3, y4, y5, y6, y7, hb, g1, g2⟩ := m_wo_body hg (by omega) hT hw hp hal x3 x4 x5 x6 x7
    rw [wh_nx hc hb]
    have hT2 := (TI.fold hg.len.2 hg.l3 hg.ne ahead k [] (by rw [List.append_nil]; exact hT)).1
    exact ih m' (B + 1) y3 y4 y5 y6 y7 (by omega) hT2 g1 (by omega) (by omega) (by omega)
def st3w (s : Sta) : Fl := st_ways_of_3 s
theorem st3w_eq (s : Sta) : whL (pB (p2 gGt (pCall gLen (pCons (pVar 2) (pNil))) (pC (.int 0)))) lp_ways_of_2 100000 s = st3w s := by
  unfold st3w st_ways_of_3 sWhile
  rfl
theorem wo_3 {b : List Wd} (hg : GBk b) {n : Nat} {r : List Way} (h : WR b n [] (firsts b) r) (hn : n ≤ 73300) : ∃ y3 y4 y5 y6 y7, st_ways_of_3 (whS b [] (firsts b) .un .un .un .un .un) = .nx (whS b r [] y3 y4 y5 y6 y7) := by
  have hw : ∀ y ∈ firsts b, y.lo.length + y.sh.length ≤ 2 := by
    intro y hy
    obtain ⟨w, hw, hy⟩ := List.mem_flatMap.mp hy
    obtain ⟨o, ho, rfl⟩ := List.mem_map.mp hy
    exact Nat.le_refl _
  have hfl : ∀ c : List Wd, (c.flatMap (frow b)).length ≤ 20 * c.length := by
    intro c
    induction c with
    | nil => exact Nat.le_refl _
    | cons w c ih =>
      rw [List.flatMap_cons, List.length_append, List.length_cons]
      have := frow_len b w
      have := hg.len.2
      omega
  have hf := hfl b
  have h4 := hg.len.2
  have := wo_loop hg h 100000 2 .un .un .un .un .un (by omega) (TI.first hg.l3 hg.ne) hw (by omega) (by unfold phi sumP; simp) (by unfold firsts; omega)
  rw [st3w_eq] at this
  exact this
theorem m_ways {b : List Wd} (hg : GBk b) {n : Nat} {r : List Way} (h : WR b n [] (firsts b) r) (hn : n ≤ 73300) : sem_ways_of [bkD2 b] [] = .ok (.v (.obj 0)) [ndOb (knW r)] := by
  obtain ⟨y3, y4, y5, y6, y7, h3⟩ := wo_3 hg h hn
  have hf := m_firsts hg
  unfold sem_ways_of
  refine run_ex (Q := fun x => x = .ok (.v (.obj 0)) [ndOb (knW r)]) [.v (bkD2 b), .un, .un, .un, .un, .un, .un, .un] rfl ?_
  unfold b_ways_of
  generalize st_ways_of_3 = f3 at *
  refine sqR (s' := ⟨[.v (bkD2 b), .v (.obj 0), .un, .un, .un, .un, .un, .un], [ndOb []]⟩) (by
    unfold st_ways_of_1
    clear h3 hf h
    generalize bkD2 b = bd at *
    simp (disch := (first | assumption | with_reducible rfl | decide +kernel | exact Or.inl (by decide +kernel) | exact Or.inr (by decide +kernel) | omega | (simp only [List.length_cons, List.length_nil, List.length_append, List.length_map, List.length_replicate, List.length_range] <;> omega) | rfl)) only [evEqs, List.getElem?_cons_zero, List.getElem?_cons_succ, List.getElem?_nil, List.set_cons_zero, List.set_cons_succ, List.map_cons, List.map_nil, List.length_cons, List.length_nil, List.length_append, List.cons_append, List.nil_append, List.length_map, List.length_singleton, Nat.reduceBEq, Nat.reduceAdd, Nat.reduceSub, Nat.reduceMul, Nat.reduceEqDiff, Nat.reduceLeDiff, Nat.reduceLT, if_false, if_true, ite_true, ite_false, ↓reduceIte, Bool.not_true, Bool.not_false, Bool.false_eq_true, decide_true, decide_false, eq_self, and_true, true_and, and_self, Nat.zero_le, Nat.zero_add, Option.bind_some, Option.bind_none, Nat.lt_irrefl, Int.reduceToNat, Int.reducePow, Int.reduceNeg, Int.reduceMul, Int.reduceAdd, Int.reduceSub, Int.reduceLT, Int.reduceLE, Int.reduceEq, beq_self_eq_true, wipeE, MP.at0, MP.at1, MP.at2, MP.atLit]) ?_
  refine sqR (s' := whS b [] (firsts b) .un .un .un .un .un) (by
    unfold st_ways_of_2 whS
    have e0 : knW [] = [] := rfl
    rw [e0]
    clear h3 h
    generalize (firsts b).map wyD = fl at *
    generalize bkD2 b = bd at *
    generalize ndOb [] = nb at *
    simp (disch := (first | assumption | with_reducible rfl | decide +kernel | exact Or.inl (by decide +kernel) | exact Or.inr (by decide +kernel) | omega | (simp only [List.length_cons, List.length_nil, List.length_append, List.length_map, List.length_replicate, List.length_range] <;> omega) | rfl)) only [evEqs, List.getElem?_cons_zero, List.getElem?_cons_succ, List.getElem?_nil, List.set_cons_zero, List.set_cons_succ, List.map_cons, List.map_nil, List.length_cons, List.length_nil, List.length_append, List.cons_append, List.nil_append, List.length_map, List.length_singleton, Nat.reduceBEq, Nat.reduceAdd, Nat.reduceSub, Nat.reduceMul, Nat.reduceEqDiff, Nat.reduceLeDiff, Nat.reduceLT, if_false, if_true, ite_true, ite_false, ↓reduceIte, Bool.not_true, Bool.not_false, Bool.false_eq_true, decide_true, decide_false, eq_self, and_true, true_and, and_self, Nat.zero_le, Nat.zero_add, Option.bind_some, Option.bind_none, Nat.lt_irrefl, Int.reduceToNat, Int.reducePow, Int.reduceNeg, Int.reduceMul, Int.reduceAdd, Int.reduceSub, Int.reduceLT, Int.reduceLE, Int.reduceEq, beq_self_eq_true, wipeE, MP.at0, MP.at1, MP.at2, MP.atLit, hf]) ?_
  refine sqR h3 ?_
  unfold st_ways_of_4 whS
  clear h3 h hf
  generalize knW r = kn at *
  generalize bkD2 b = bd at *
  simp (disch := (first | assumption | with_reducible rfl | decide +kernel | exact Or.inl (by decide +kernel) | exact Or.inr (by decide +kernel) | omega | (simp only [List.length_cons, List.length_nil, List.length_append, List.length_map, List.length_replicate, List.length_range] <;> omega) | rfl)) only [evEqs, List.getElem?_cons_zero, List.getElem?_cons_succ, List.getElem?_nil, List.set_cons_zero, List.set_cons_succ, List.map_cons, List.map_nil, List.length_cons, List.length_nil, List.length_append, List.cons_append, List.nil_append, List.length_map, List.length_singleton, Nat.reduceBEq, Nat.reduceAdd, Nat.reduceSub, Nat.reduceMul, Nat.reduceEqDiff, Nat.reduceLeDiff, Nat.reduceLT, if_false, if_true, ite_true, ite_false, ↓reduceIte, Bool.not_true, Bool.not_false, Bool.false_eq_true, decide_true, decide_false, eq_self, and_true, true_and, and_self, Nat.zero_le, Nat.zero_add, Option.bind_some, Option.bind_none, Nat.lt_irrefl, Int.reduceToNat, Int.reducePow, Int.reduceNeg, Int.reduceMul, Int.reduceAdd, Int.reduceSub, Int.reduceLT, Int.reduceLE, Int.reduceEq, beq_self_eq_true, wipeE, MP.at0, MP.at1, MP.at2, MP.atLit]

/-- a rest with its price comes from two words, or from a kept rest with at least its price -/
def Src (b : List Wd) (k : List Way) (y : Way) : Prop := (∃ x ∈ firsts b, x.rest = y.rest ∧ x.price = y.price) ∨ ∃ r p, r ≠ [] ∧ Kp k r p ∧ ∃ w ∈ b, stepR r p w = some (y.rest, y.price)
theorem Src.up {b : List Wd} {k k' : List Way} (h : ∀ r p, Kp k r p → Kp k' r p) {y : Way} (s : Src b k y) : Src b k' y := by
  rcases s with s | ⟨r, p, h1, h2, h3⟩
  · exact .inl s
  · exact .inr ⟨r, p, h1, h r p h2, h3⟩
structure SR (b : List Wd) (k l : List Way) : Prop where
  nd : (k.map Way.rest).Nodup
  ok : ∀ y ∈ k, Src b k y
  okl : ∀ y ∈ l, Src b k y
theorem SR.step {b : List Wd} {k later ahead : List Way} {y : Way} (h : SR b k (y :: ahead ++ later)) : SR b (acc b (k, later) y).1 (ahead ++ (acc b (k, later) y).2) := by
  unfold acc
  dsimp only
  by_cases c : better k y = true
  · rw [if_pos c]
    dsimp only
    have hy := h.okl y (by simp)
    have up : ∀ r p, Kp k r p → Kp (kput k y) r p := fun r p g => Kp.put h.nd c g
    refine ⟨kput_nd h.nd, fun z hz => ?_, fun z hz => ?_⟩
    · rcases mem_kput hz with rfl | ⟨hz, _⟩
      · exact hy.up up
      · exact (h.ok z hz).up up
    · rcases List.mem_append.mp hz with hz | hz
      · exact (h.okl z (by simp [hz])).up up
      · by_cases c0 : 0 < y.rest.length
        · rw [if_pos c0] at hz
          rcases List.mem_append.mp hz with hz | hz
          · exact (h.okl z (by simp [hz])).up up
          · obtain ⟨w, hw, hx⟩ := List.mem_flatMap.mp hz
            exact .inr ⟨y.rest, y.price, List.length_pos_iff.mp c0, ⟨y, kput_mem, rfl, Nat.le_refl _⟩, w, hw, next_step hx⟩
        · rw [if_neg c0] at hz
          exact (h.okl z (by simp [hz])).up up
  · rw [if_neg c]
    exact ⟨h.nd, h.ok, fun z hz => h.okl z (by rw [List.cons_append]; exact List.mem_cons_of_mem _ hz)⟩
theorem SR.fold {b : List Wd} : ∀ (ahead : List Way) (k later : List Way), SR b k (ahead ++ later) → SR b (ahead.foldl (acc b) (k, later)).1 (ahead.foldl (acc b) (k, later)).2
  | [], k, later, h => h
  | y :: ahead, k, later, h => by
    have h2 := h.step
    rw [List.foldl_cons]
    exact SR.fold ahead _ _ h2
theorem SR.end {b : List Wd} {n : Nat} {k ahead r : List Way} (h : WR b n k ahead r) : SR b k ahead → SR b r [] := by
  induction h with
  | stop k => exact id
  | @go n k ahead r h1 h2 ih =>
    intro h
    refine ih (SR.fold ahead k [] ?_)
    rw [List.append_nil]
    exact h
theorem SR.first (b : List Wd) : SR b [] (firsts b) := ⟨List.nodup_nil, (fun y h => by cases h), fun y h => .inl ⟨y, h, rfl, rfl⟩⟩
theorem kp_of {k : List Way} (hn : (k.map Way.rest).Nodup) {y : Way} (hy : y ∈ k) {p : Nat} (h : Kp k y.rest p) : y.price ≤ p := by
  obtain ⟨z, hz, e1, e2⟩ := h
  have := nd_inj hn hz hy e1
  subst this
  exact e2
/-- a cheaper way is followed by a cheaper one -/
theorem step_mono {r r' : List (List Int)} {p q p' : Nat} {w : Wd} (h : stepR r p w = some (r', p')) (hq : q ≤ p) : ∃ q', stepR r q w = some (r', q') ∧ q' + p = p' + q := by
  unfold stepR at h ⊢
  by_cases c1 : pre w.2 r = true
  · rw [if_pos c1] at h ⊢
    cases h
    exact ⟨q, rfl, by omega⟩
  · rw [if_neg c1] at h ⊢
    by_cases c2 : pre r w.2 = true
    · rw [if_pos c2] at h ⊢
      cases h
      obtain ⟨c, hc⟩ := (pre_iff _ _).mp c2
      have : r.length ≤ w.2.length := by rw [hc, List.length_append]; omega
      exact ⟨_, rfl, by omega⟩
    · rw [if_neg c2] at h; cases h
/-- all that the law asks of the rests told -/
structure RS (b : List Wd) (k : List Way) : Prop where
  nd : (k.map Way.rest).Nodup
  cl : Cl b k
  src : ∀ y ∈ k, (∃ x ∈ firsts b, x.rest = y.rest ∧ x.price = y.price) ∨ ∃ z ∈ k, z.rest ≠ [] ∧ ∃ w ∈ b, stepR z.rest z.price w = some (y.rest, y.price)
theorem wr_rs {b : List Wd} {n : Nat} {r : List Way} (h : WR b n [] (firsts b) r) : RS b r := by
  have c := CI.end h (CI.first b)
  have s := SR.end h (SR.first b)
  refine ⟨c.nd, c.cl, fun y hy => ?_⟩
  rcases s.ok y hy with s | ⟨r0, p0, h1, ⟨z, hz, e1, e2⟩, w, hw, h3⟩
  · exact .inl s
  · subst e1
    obtain ⟨q', g1, g2⟩ := step_mono h3 e2
    have := kp_of c.nd hy (c.cl.nxt z hz h1 w hw _ _ g1)
    have ep : q' = y.price := by omega
    rw [ep] at g1
    exact .inr ⟨z, hz, h1, w, hw, g1⟩
def rpD (y : Way) : D := .tup [stD2 y.rest, .int (y.price : Nat)]
theorem ints_can : ∀ l : List Int, PyData.canLayAll0 (pys (l.map D.int)) = true
  | [] => by rw [List.map_nil, pys, PyData.canLayAll0]
  | a :: l => by
    rw [List.map_cons, pys, PyData.canLayAll0, ints_can l, D.py, PyData.canLay0]; rfl
theorem stk_can (s : List Int) : (stD s).py.canLay0 = true := by
  unfold stD
  rw [D.py, PyData.canLay0, ints_can]
theorem stks_can : ∀ l : List (List Int), PyData.canLayAll0 (pys (l.map stD)) = true
  | [] => by rw [List.map_nil, pys, PyData.canLayAll0]
  | a :: l => by
    rw [List.map_cons, pys, PyData.canLayAll0, stks_can l, stk_can]; rfl
theorem stD2_can (l : List (List Int)) : (stD2 l).py.canLay0 = true := by
  unfold stD2
  rw [D.py, PyData.canLay0, stks_can]
theorem ints_alike : ∀ a b : List Int, PySem.W.alikeAll (pys (a.map D.int)) (pys (b.map D.int)) = true
  | [], _ => by rw [List.map_nil, pys, PySem.W.alikeAll]
  | _ :: _, [] => by rw [List.map_nil, List.map_cons, pys, pys, PySem.W.alikeAll]
  | x :: a, y :: b => by
    rw [List.map_cons, List.map_cons, pys, pys, PySem.W.alikeAll, ints_alike a b, D.py, D.py, PySem.W.alike]; rfl
theorem stk_alike (s t : List Int) : PySem.W.alike (stD s).py (stD t).py = true := by
  unfold stD
  rw [D.py, D.py, PySem.W.alike, ints_alike]
theorem stks_alike : ∀ a b : List (List Int), PySem.W.alikeAll (pys (a.map stD)) (pys (b.map stD)) = true
  | [], _ => by rw [List.map_nil, pys, PySem.W.alikeAll]
  | _ :: _, [] => by rw [List.map_nil, List.map_cons, pys, pys, PySem.W.alikeAll]
  | x :: a, y :: b => by
    rw [List.map_cons, List.map_cons, pys, pys, PySem.W.alikeAll, stks_alike a b, stk_alike]; rfl
theorem stD2_alike (a b : List (List Int)) : PySem.W.alike (stD2 a).py (stD2 b).py = true := by
  unfold stD2
  rw [D.py, D.py, PySem.W.alike, stks_alike]
theorem ints_dep : ∀ l : List Int, PyData.depthAll (pys (l.map D.int)) = 0
  | [] => by rw [List.map_nil, pys, PyData.depthAll]
  | a :: l => by
    rw [List.map_cons, pys, PyData.depthAll, ints_dep l, D.py, PyData.depth]; rfl
theorem stks_dep : ∀ l : List (List Int), PyData.depthAll (pys (l.map stD)) ≤ 1
  | [] => by rw [List.map_nil, pys, PyData.depthAll]; omega
  | a :: l => by
    have ih := stks_dep l
    have e : (stD a).py.depth = 1 := by
      unfold stD
      rw [D.py, PyData.depth, ints_dep]
    rw [List.map_cons, pys, PyData.depthAll, e]
    omega
theorem stD2_dep (l : List (List Int)) : (stD2 l).py.depth ≤ 2 := by
  unfold stD2
  rw [D.py, PyData.depth]
  have := stks_dep l
  omega
theorem rp_py (y : Way) : (rpD y).py = .tuple [(stD2 y.rest).py, .int (y.price : Nat)] := by
  unfold rpD
  rw [D.py, pys, pys, pys, D.py]
theorem int_alike (i j : Int) : PySem.W.alike (.int i) (.int j) = true := by rw [PySem.W.alike]
theorem rp_ok (k : List Way) : SrtOk (k.map rpD) := by
  refine ⟨fun d hd => ?_, fun d hd e he => ?_⟩
  · obtain ⟨y, _, rfl⟩ := List.mem_map.mp hd
    refine ⟨?_, ?_, rfl⟩
    · rw [rp_py, PyData.canLay0, PyData.canLayAll0, PyData.canLayAll0, PyData.canLayAll0, stD2_can, PyData.canLay0]; rfl
    · rw [rp_py, PyData.depth, PyData.depthAll, PyData.depthAll, PyData.depthAll, PyData.depth]
      have := stD2_dep y.rest
      omega
  · obtain ⟨y, _, rfl⟩ := List.mem_map.mp hd
    obtain ⟨z, _, rfl⟩ := List.mem_map.mp he
    rw [rp_py, rp_py, PySem.W.alike, PySem.W.alikeAll, PySem.W.alikeAll, PySem.W.alikeAll, stD2_alike, int_alike]; rfl
/-- the ways, sorted -/
def srtW (k : List Way) : List Way := k.mergeSort fun a b => PySem.W.dataLe false D.py (rpD a) (rpD b)
theorem srtW_D (k : List Way) : sortD (k.map rpD) = (srtW k).map rpD := by
  unfold sortD srtW
  have h := PySem.W.sort_maps (r := fun a b => PySem.W.dataLe false D.py (rpD a) (rpD b)) (s := PySem.W.dataLe false D.py) rpD (l := k) fun a _ b _ => rfl
  exact h.symm
theorem srtW_perm (k : List Way) : (srtW k).Perm k := List.mergeSort_perm ..
theorem cn1 {t : Tg} {vs : List Nat} {tt : Sta → PR Bool} {te : Sta → PR D} {env : List Slot} {st : List Ob} {kvs : List (D × D)} (hl : kvs.length ≤ 16777216) : xCN1 t vs tt te ⟨env, st⟩ kvs = (compL t tt te ⟨wipeE env vs, st⟩ (kvs.map (·.1))).bind fun r => .ok ⟨.fr, .list r⟩ := if_pos hl
theorem kat_mem {k : List Way} (hn : (k.map Way.rest).Nodup) {y : Way} (hy : y ∈ k) : kat k y.rest = some y := by
  cases h : kat k y.rest with
  | none => exact absurd rfl (kat_none h y hy)
  | some z =>
    obtain ⟨h1, h2⟩ := kat_some h
    rw [nd_inj hn h1 hy h2]
theorem m_rests {b : List Wd} (hg : GBk b) {n : Nat} {r : List Way} (h : WR b n [] (firsts b) r) (hn : n ≤ 73300) (hnd : (r.map Way.rest).Nodup) (hl : r.length ≤ 1000) :
    sem_rests [bkD2 b] [] = .ok (.own (.list ((srtW r).map rpD))) [ndOb (knW r)] := by
  have hw := m_ways hg h hn
  have hc : compL (.nm 2) pYes (pD (pTup (pCons (pD (pVar 2)) (pCons (pD (p2 gIx (pNdGet (pVar 1) (pVar 2)) (pC (.int 0)))) (pNil))))) ⟨[.v (bkD2 b), .v (.obj 0), .un], [ndOb (knW r)]⟩ ((knW r).map (·.1)) = .ok (r.map rpD) := by
    have e : (knW r).map (·.1) = r.map fun y => stD2 y.rest := by unfold knW; rw [List.map_map]; rfl
    rw [e]
    refine compA (fun y => stD2 y.rest) rpD r fun y hy => ⟨_, b_nm .., ?_⟩
    have hky := kyR_ok y.rest
    have hv := kw_val (r := y.rest) (k := r) (fun _ _ => trivial) (fun _ _ _ _ => trivial)
    rw [kat_mem hnd hy, Option.map_some] at hv
    have i0 : gIx (wvD y) (.int 0) = some ⟨.sh, .int (y.price : Nat)⟩ := rfl
    unfold rpD
    clear hw e
    generalize ((y.price : Nat) : Int) = p at *
    generalize wvD y = wy at *
    generalize knW r = kn at *
    generalize kyR y.rest = ky at *
    generalize stD2 y.rest = sd at *
    generalize bkD2 b = bd at *
    simp (disch := (first | assumption | with_reducible rfl | decide +kernel | exact Or.inl (by decide +kernel) | exact Or.inr (by decide +kernel) | omega | (simp only [List.length_cons, List.length_nil, List.length_append, List.length_map, List.length_replicate, List.length_range] <;> omega) | rfl)) only [evEqs, List.getElem?_cons_zero, List.getElem?_cons_succ, List.getElem?_nil, List.set_cons_zero, List.set_cons_succ, List.map_cons, List.map_nil, List.length_cons, List.length_nil, List.length_append, List.cons_append, List.nil_append, List.length_map, List.length_singleton, Nat.reduceBEq, Nat.reduceAdd, Nat.reduceSub, Nat.reduceMul, Nat.reduceEqDiff, Nat.reduceLeDiff, Nat.reduceLT, if_false, if_true, ite_true, ite_false, ↓reduceIte, Bool.not_true, Bool.not_false, Bool.false_eq_true, decide_true, decide_false, eq_self, and_true, true_and, and_self, Nat.zero_le, Nat.zero_add, Option.bind_some, Option.bind_none, Nat.lt_irrefl, Int.reduceToNat, Int.reducePow, Int.reduceNeg, Int.reduceMul, Int.reduceAdd, Int.reduceSub, Int.reduceLT, Int.reduceLE, Int.reduceEq, beq_self_eq_true, wipeE, MP.at0, MP.at1, MP.at2, MP.atLit, hky, hv, i0]
  have hs : gSortD [.list (r.map rpD)] = some ⟨.fr, .list ((srtW r).map rpD)⟩ := by
    rw [g_sortD (rp_ok r), srtW_D]
  have hk : (knW r).length ≤ 1000 := by rw [kw_len]; omega
  unfold sem_rests
  refine run_ex (Q := fun x => x = .ok (.own (.list ((srtW r).map rpD))) [ndOb (knW r)]) [.v (bkD2 b), .un, .un] rfl ?_
  unfold b_rests st_rests_1 st_rests_2
  generalize (srtW r).map rpD = out at *
  generalize r.map rpD = rd at *
  generalize knW r = kn at *
  generalize bkD2 b = bd at *
  simp (disch := (first | assumption | with_reducible rfl | decide +kernel | exact Or.inl (by decide +kernel) | exact Or.inr (by decide +kernel) | omega | (simp only [List.length_cons, List.length_nil, List.length_append, List.length_map, List.length_replicate, List.length_range] <;> omega) | rfl)) only [evEqs, List.getElem?_cons_zero, List.getElem?_cons_succ, List.getElem?_nil, List.set_cons_zero, List.set_cons_succ, List.map_cons, List.map_nil, List.length_cons, List.length_nil, List.length_append, List.cons_append, List.nil_append, List.length_map, List.length_singleton, Nat.reduceBEq, Nat.reduceAdd, Nat.reduceSub, Nat.reduceMul, Nat.reduceEqDiff, Nat.reduceLeDiff, Nat.reduceLT, if_false, if_true, ite_true, ite_false, ↓reduceIte, Bool.not_true, Bool.not_false, Bool.false_eq_true, decide_true, decide_false, eq_self, and_true, true_and, and_self, Nat.zero_le, Nat.zero_add, Option.bind_some, Option.bind_none, Nat.lt_irrefl, Int.reduceToNat, Int.reducePow, Int.reduceNeg, Int.reduceMul, Int.reduceAdd, Int.reduceSub, Int.reduceLT, Int.reduceLE, Int.reduceEq, beq_self_eq_true, wipeE, MP.at0, MP.at1, MP.at2, MP.atLit, hw, hc, cn1, hs, bind_okL]

def tfD : Option Way → D
  | none => .none
  | some y => .tup [.list (y.lo.map nmD), .list (y.sh.map nmD)]
theorem nms_noObj : ∀ l : List Wd, noObjs (l.map nmD) = true
  | [] => rfl
  | a :: l => by
    rw [List.map_cons]
    show (true && noObjs (l.map nmD)) = true
    rw [nms_noObj l]; rfl
theorem tf_noObj (o : Option Way) : (tfD o).noObj = true := by
  cases o with
  | none => rfl
  | some y =>
    show (noObjs (y.lo.map nmD) && (noObjs (y.sh.map nmD) && true)) = true
    rw [nms_noObj, nms_noObj]; rfl
theorem m_twofold {b : List Wd} (hg : GBk b) {n : Nat} {r : List Way} (h : WR b n [] (firsts b) r) (hn : n ≤ 73300) : sem_twofold [bkD2 b] [] = .ok (.v (tfD (kat r []))) [ndOb (knW r)] := by
  have hw := m_ways hg h hn
  have hky : keyN (D.tup []) = some (kyR []) := kyR_ok []
  have hv := kw_val (r := []) (k := r) (fun _ _ => trivial) (fun _ _ _ _ => trivial)
  unfold sem_twofold
  refine run_ex (Q := fun x => x = .ok (.v (tfD (kat r []))) [ndOb (knW r)]) [.v (bkD2 b), .un, .un, .un, .un] rfl ?_
  unfold b_twofold
  refine sqR (s' := ⟨[.v (bkD2 b), .v (.obj 0), .un, .un, .un], [ndOb (knW r)]⟩) (by
    unfold st_twofold_1
    clear hv hky h
    generalize knW r = kn at *
    generalize bkD2 b = bd at *
    simp (disch := (first | assumption | with_reducible rfl | decide +kernel | exact Or.inl (by decide +kernel) | exact Or.inr (by decide +kernel) | omega | (simp only [List.length_cons, List.length_nil, List.length_append, List.length_map, List.length_replicate, List.length_range] <;> omega) | rfl)) only [evEqs, List.getElem?_cons_zero, List.getElem?_cons_succ, List.getElem?_nil, List.set_cons_zero, List.set_cons_succ, List.map_cons, List.map_nil, List.length_cons, List.length_nil, List.length_append, List.cons_append, List.nil_append, List.length_map, List.length_singleton, Nat.reduceBEq, Nat.reduceAdd, Nat.reduceSub, Nat.reduceMul, Nat.reduceEqDiff, Nat.reduceLeDiff, Nat.reduceLT, if_false, if_true, ite_true, ite_false, ↓reduceIte, Bool.not_true, Bool.not_false, Bool.false_eq_true, decide_true, decide_false, eq_self, and_true, true_and, and_self, Nat.zero_le, Nat.zero_add, Option.bind_some, Option.bind_none, Nat.lt_irrefl, Int.reduceToNat, Int.reducePow, Int.reduceNeg, Int.reduceMul, Int.reduceAdd, Int.reduceSub, Int.reduceLT, Int.reduceLE, Int.reduceEq, beq_self_eq_true, wipeE, MP.at0, MP.at1, MP.at2, MP.atLit, hw]) ?_
  clear hw h
  unfold st_twofold_2 st_twofold_3 st_twofold_4
  cases hk : kat r [] with
  | none =>
    rw [hk, Option.map_none] at hv
    have hbn : (false != true) = true := rfl
    show (sSeq _ _ _).fr = .ok (.v .none) _
    generalize kyR [] = ky at *
    clear hk
    generalize knW r = kn at *
    generalize bkD2 b = bd at *
    simp (disch := (first | assumption | with_reducible rfl | decide +kernel | exact Or.inl (by decide +kernel) | exact Or.inr (by decide +kernel) | omega | (simp only [List.length_cons, List.length_nil, List.length_append, List.length_map, List.length_replicate, List.length_range] <;> omega) | rfl)) only [evEqs, List.getElem?_cons_zero, List.getElem?_cons_succ, List.getElem?_nil, List.set_cons_zero, List.set_cons_succ, List.map_cons, List.map_nil, List.length_cons, List.length_nil, List.length_append, List.cons_append, List.nil_append, List.length_map, List.length_singleton, Nat.reduceBEq, Nat.reduceAdd, Nat.reduceSub, Nat.reduceMul, Nat.reduceEqDiff, Nat.reduceLeDiff, Nat.reduceLT, if_false, if_true, ite_true, ite_false, ↓reduceIte, Bool.not_true, Bool.not_false, Bool.false_eq_true, decide_true, decide_false, eq_self, and_true, true_and, and_self, Nat.zero_le, Nat.zero_add, Option.bind_some, Option.bind_none, Nat.lt_irrefl, Int.reduceToNat, Int.reducePow, Int.reduceNeg, Int.reduceMul, Int.reduceAdd, Int.reduceSub, Int.reduceLT, Int.reduceLE, Int.reduceEq, beq_self_eq_true, wipeE, MP.at0, MP.at1, MP.at2, MP.atLit, hky, hv, Option.isSome_none, hbn]
  | some y =>
    rw [hk, Option.map_some] at hv
    have hbn : (true != true) = false := rfl
    show (sSeq _ _ _).fr = .ok (.v (.tup [.list (y.lo.map nmD), .list (y.sh.map nmD)])) _
    have hwv : wvD y = .tup [.int (y.price : Nat), .list (y.lo.map nmD), .list (y.sh.map nmD)] := rfl
    rw [hwv] at hv
    clear hk hwv
    generalize kyR [] = ky at *
    generalize knW r = kn at *
    generalize bkD2 b = bd at *
    generalize y.sh.map nmD = sl at *
    generalize y.lo.map nmD = ll at *
    generalize ((y.price : Nat) : Int) = pl at *
    simp (disch := (first | assumption | with_reducible rfl | decide +kernel | exact Or.inl (by decide +kernel) | exact Or.inr (by decide +kernel) | omega | (simp only [List.length_cons, List.length_nil, List.length_append, List.length_map, List.length_replicate, List.length_range] <;> omega) | rfl)) only [evEqs, List.getElem?_cons_zero, List.getElem?_cons_succ, List.getElem?_nil, List.set_cons_zero, List.set_cons_succ, List.map_cons, List.map_nil, List.length_cons, List.length_nil, List.length_append, List.cons_append, List.nil_append, List.length_map, List.length_singleton, Nat.reduceBEq, Nat.reduceAdd, Nat.reduceSub, Nat.reduceMul, Nat.reduceEqDiff, Nat.reduceLeDiff, Nat.reduceLT, if_false, if_true, ite_true, ite_false, ↓reduceIte, Bool.not_true, Bool.not_false, Bool.false_eq_true, decide_true, decide_false, eq_self, and_true, true_and, and_self, Nat.zero_le, Nat.zero_add, Option.bind_some, Option.bind_none, Nat.lt_irrefl, Int.reduceToNat, Int.reducePow, Int.reduceNeg, Int.reduceMul, Int.reduceAdd, Int.reduceSub, Int.reduceLT, Int.reduceLE, Int.reduceEq, beq_self_eq_true, wipeE, MP.at0, MP.at1, MP.at2, MP.atLit, hky, hv, Option.isSome_some, hbn]

theorem st_cat (a b : List (List Int)) (h : a.length + b.length ≤ 16777216) : gPlus (stD2 a) (stD2 b) = some ⟨.sh, stD2 (a ++ b)⟩ := by
  unfold stD2
  rw [g_catT (by rw [List.length_map, List.length_map]; exact h), List.map_append]
theorem nm_eq (w o : Wd) : gEq (.str (sw o.1)) (.str (sw w.1)) = some ⟨.sh, .bool (decide (o.1 = w.1))⟩ := by
  show some (sh (.bool (sw o.1 == sw w.1))) = _
  by_cases h : o.1 = w.1
  · rw [h, decide_eq_true rfl, beq_self_eq_true]
  · rw [decide_eq_false h, beq_eq_false_iff_ne.mpr fun e => h (sw_inj e)]
/-- the strokes of all words of that name -/
def pck (w : Wd) (b : List Wd) : List (List Int) := b.flatMap fun o => if o.1 = w.1 then o.2 else []
theorem pck_one {w : Wd} : ∀ {b : List Wd}, (b.map (·.1)).Nodup → w ∈ b → pck w b = w.2
  | [], _, h => by cases h
  | o :: b, hn, h => by
    rw [List.map_cons, List.nodup_cons] at hn
    unfold pck
    rw [List.flatMap_cons]
    rcases List.mem_cons.mp h with rfl | h
    · have e : pck w b = [] := by
        unfold pck
        rw [List.flatMap_eq_nil_iff]
        intro o ho
        rw [if_neg fun e => hn.1 (List.mem_map.mpr ⟨o, ho, e⟩)]
      unfold pck at e
      rw [if_pos rfl, e, List.append_nil]
    · have hne : o.1 ≠ w.1 := fun e => hn.1 (List.mem_map.mpr ⟨w, h, e.symm⟩)
      have ih := pck_one hn.2 h
      unfold pck at ih
      rw [if_neg hne, List.nil_append, ih]
theorem m_lw_turn (w o : Wd) (bk ws : Slot) (ss : List (List Int)) (h : ss.length ≤ 100000) (ho : o.2.length ≤ 6) :
    lp_l_written_1 ⟨[bk, ws, .v (stD2 ss), .v (nmD w), .v (nmD o), .v (stD2 o.2)], []⟩ = .nx ⟨[bk, ws, .v (stD2 (ss ++ if o.1 = w.1 then o.2 else [])), .v (nmD w), .v (nmD o), .v (stD2 o.2)], []⟩ := by
  have he := nm_eq w o
  have hc := st_cat ss o.2 (by omega)
  unfold lp_l_written_1 nmD
  by_cases q : o.1 = w.1
  · rw [decide_eq_true q] at he
    rw [if_pos q]
    generalize stD2 (ss ++ o.2) = sc at *
    generalize stD2 ss = sd at *
    generalize stD2 o.2 = od at *
    generalize sw o.1 = on at *
    generalize sw w.1 = wn at *
    simp (disch := (first | assumption | with_reducible rfl | decide +kernel | exact Or.inl (by decide +kernel) | exact Or.inr (by decide +kernel) | omega | (simp only [List.length_cons, List.length_nil, List.length_append, List.length_map, List.length_replicate, List.length_range] <;> omega) | rfl)) only [evEqs, List.getElem?_cons_zero, List.getElem?_cons_succ, List.getElem?_nil, List.set_cons_zero, List.set_cons_succ, List.map_cons, List.map_nil, List.length_cons, List.length_nil, List.length_append, List.cons_append, List.nil_append, List.length_map, List.length_singleton, Nat.reduceBEq, Nat.reduceAdd, Nat.reduceSub, Nat.reduceMul, Nat.reduceEqDiff, Nat.reduceLeDiff, Nat.reduceLT, if_false, if_true, ite_true, ite_false, ↓reduceIte, Bool.not_true, Bool.not_false, Bool.false_eq_true, decide_true, decide_false, eq_self, and_true, true_and, and_self, Nat.zero_le, Nat.zero_add, Option.bind_some, Option.bind_none, Nat.lt_irrefl, Int.reduceToNat, Int.reducePow, Int.reduceNeg, Int.reduceMul, Int.reduceAdd, Int.reduceSub, Int.reduceLT, Int.reduceLE, Int.reduceEq, beq_self_eq_true, wipeE, MP.at0, MP.at1, MP.at2, MP.atLit, he, hc]
  · rw [decide_eq_false q] at he
    rw [if_neg q, List.append_nil]
    generalize stD2 ss = sd at *
    generalize stD2 o.2 = od at *
    generalize sw o.1 = on at *
    generalize sw w.1 = wn at *
    simp (disch := (first | assumption | with_reducible rfl | decide +kernel | exact Or.inl (by decide +kernel) | exact Or.inr (by decide +kernel) | omega | (simp only [List.length_cons, List.length_nil, List.length_append, List.length_map, List.length_replicate, List.length_range] <;> omega) | rfl)) only [evEqs, List.getElem?_cons_zero, List.getElem?_cons_succ, List.getElem?_nil, List.set_cons_zero, List.set_cons_succ, List.map_cons, List.map_nil, List.length_cons, List.length_nil, List.length_append, List.cons_append, List.nil_append, List.length_map, List.length_singleton, Nat.reduceBEq, Nat.reduceAdd, Nat.reduceSub, Nat.reduceMul, Nat.reduceEqDiff, Nat.reduceLeDiff, Nat.reduceLT, if_false, if_true, ite_true, ite_false, ↓reduceIte, Bool.not_true, Bool.not_false, Bool.false_eq_true, decide_true, decide_false, eq_self, and_true, true_and, and_self, Nat.zero_le, Nat.zero_add, Option.bind_some, Option.bind_none, Nat.lt_irrefl, Int.reduceToNat, Int.reducePow, Int.reduceNeg, Int.reduceMul, Int.reduceAdd, Int.reduceSub, Int.reduceLT, Int.reduceLE, Int.reduceEq, beq_self_eq_true, wipeE, MP.at0, MP.at1, MP.at2, MP.atLit, he]
theorem m_lw_in (w : Wd) (bk ws : Slot) : ∀ (b : List Wd) (ss : List (List Int)) (x4 x5 : Slot), (∀ o ∈ b, o.2.length ≤ 6) → ss.length + 6 * b.length ≤ 100000 → ∃ y4 y5,
    loopL (.tp [4, 5]) lp_l_written_1 (b.map wdD) ⟨[bk, ws, .v (stD2 ss), .v (nmD w), x4, x5], []⟩ = .nx ⟨[bk, ws, .v (stD2 (ss ++ pck w b)), .v (nmD w), y4, y5], []⟩
  | [], ss, x4, x5, _, _ => ⟨x4, x5, by unfold pck; rw [List.flatMap_nil, List.append_nil]; rfl⟩
  | o :: b, ss, x4, x5, hb, hl => by
    rw [List.length_cons] at hl
    have ho := hb o (List.mem_cons_self ..)
    have ht := m_lw_turn w o bk ws ss (by omega) ho
    have hi : (if o.1 = w.1 then o.2 else []).length ≤ 6 := by split; exact ho; exact Nat.zero_le _
    obtain ⟨y4, y5, hr⟩ := m_lw_in w bk ws b (ss ++ if o.1 = w.1 then o.2 else []) (.v (nmD o)) (.v (stD2 o.2)) (fun z hz => hb z (List.mem_cons_of_mem _ hz)) (by rw [List.length_append]; omega)
    refine ⟨y4, y5, ?_⟩
    have e1 : wdD o = .tup [nmD o, stD2 o.2] := rfl
    unfold pck at hr ⊢
    rw [List.map_cons, e1, loop_one (b_tp2 ..) ht, hr, List.flatMap_cons, List.append_assoc]
theorem m_lw_out {b : List Wd} (hg : GBk b) (wsl : Slot) : ∀ (ws : List Wd) (ss : List (List Int)) (x3 x4 x5 : Slot), (∀ w ∈ ws, w ∈ b) → ss.length + 6 * ws.length ≤ 90000 → ∃ y3 y4 y5,
    loopL (.nm 3) lp_l_written_2 (ws.map nmD) ⟨[.v (bkD2 b), wsl, .v (stD2 ss), x3, x4, x5], []⟩ = .nx ⟨[.v (bkD2 b), wsl, .v (stD2 (ss ++ wst ws)), y3, y4, y5], []⟩
  | [], ss, x3, x4, x5, _, _ => ⟨x3, x4, x5, by unfold wst; rw [List.flatMap_nil, List.append_nil]; rfl⟩
  | w :: ws, ss, x3, x4, x5, hw, hl => by
    rw [List.length_cons] at hl
    have hwb := hw w (List.mem_cons_self ..)
    have h6 := hg.l3 w hwb
    have hb20 := hg.len.2
    obtain ⟨y4, y5, hin⟩ := m_lw_in w (.v (bkD2 b)) wsl b ss x4 x5 hg.l3 (by omega)
    rw [pck_one hg.nm hwb] at hin
    obtain ⟨z3, z4, z5, hr⟩ := m_lw_out hg wsl ws (ss ++ w.2) (.v (nmD w)) y4 y5 (fun x hx => hw x (List.mem_cons_of_mem _ hx)) (by rw [List.length_append]; omega)
    refine ⟨z3, z4, z5, ?_⟩
    have ht : lp_l_written_2 ⟨[.v (bkD2 b), wsl, .v (stD2 ss), .v (nmD w), x4, x5], []⟩ = .nx ⟨[.v (bkD2 b), wsl, .v (stD2 (ss ++ w.2)), .v (nmD w), y4, y5], []⟩ := by
      have hbl : (b.map wdD).length ≤ 20 := by rw [List.length_map]; exact hb20
      unfold lp_l_written_2
      unfold bkD2 at *
      clear hr
      generalize b.map wdD = bl at *
      generalize stD2 (ss ++ w.2) = sc at *
      generalize stD2 ss = sd at *
      generalize nmD w = nw at *
      simp (disch := (first | assumption | with_reducible rfl | decide +kernel | exact Or.inl (by decide +kernel) | exact Or.inr (by decide +kernel) | omega | (simp only [List.length_cons, List.length_nil, List.length_append, List.length_map, List.length_replicate, List.length_range] <;> omega) | rfl)) only [evEqs, List.getElem?_cons_zero, List.getElem?_cons_succ, List.getElem?_nil, List.set_cons_zero, List.set_cons_succ, List.map_cons, List.map_nil, List.length_cons, List.length_nil, List.length_append, List.cons_append, List.nil_append, List.length_map, List.length_singleton, Nat.reduceBEq, Nat.reduceAdd, Nat.reduceSub, Nat.reduceMul, Nat.reduceEqDiff, Nat.reduceLeDiff, Nat.reduceLT, if_false, if_true, ite_true, ite_false, ↓reduceIte, Bool.not_true, Bool.not_false, Bool.false_eq_true, decide_true, decide_false, eq_self, and_true, true_and, and_self, Nat.zero_le, Nat.zero_add, Option.bind_some, Option.bind_none, Nat.lt_irrefl, Int.reduceToNat, Int.reducePow, Int.reduceNeg, Int.reduceMul, Int.reduceAdd, Int.reduceSub, Int.reduceLT, Int.reduceLE, Int.reduceEq, beq_self_eq_true, wipeE, MP.at0, MP.at1, MP.at2, MP.atLit, hin]
    rw [List.map_cons, loop_one (b_nm ..) ht, hr, wst_cons, List.append_assoc]
theorem m_lwritten {b : List Wd} (hg : GBk b) {ws : List Wd} (hw : ∀ w ∈ ws, w ∈ b) (hl : ws.length ≤ 1000) : sem_l_written [bkD2 b, .list (ws.map nmD)] [] = .ok (.v (stD2 (wst ws))) [] := by
  obtain ⟨y3, y4, y5, h⟩ := m_lw_out hg (.v (.list (ws.map nmD))) ws [] .un .un .un hw (by simp; omega)
  rw [List.nil_append] at h
  have hwl : (ws.map nmD).length ≤ 1000 := by rw [List.length_map]; exact hl
  have e0 : stD2 [] = .tup [] := rfl
  rw [e0] at h
  unfold sem_l_written
  refine run_ex (Q := fun r => r = .ok _ []) [.v (bkD2 b), .v (.list (ws.map nmD)), .un, .un, .un, .un] rfl ?_
  unfold b_l_written st_l_written_1 st_l_written_2 st_l_written_3
  generalize bkD2 b = bd at *
  generalize stD2 (wst ws) = sd at *
  generalize ws.map nmD = wd at *
  simp (disch := (first | assumption | with_reducible rfl | decide +kernel | exact Or.inl (by decide +kernel) | exact Or.inr (by decide +kernel) | omega | (simp only [List.length_cons, List.length_nil, List.length_append, List.length_map, List.length_replicate, List.length_range] <;> omega) | rfl)) only [evEqs, List.getElem?_cons_zero, List.getElem?_cons_succ, List.getElem?_nil, List.set_cons_zero, List.set_cons_succ, List.map_cons, List.map_nil, List.length_cons, List.length_nil, List.length_append, List.cons_append, List.nil_append, List.length_map, List.length_singleton, Nat.reduceBEq, Nat.reduceAdd, Nat.reduceSub, Nat.reduceMul, Nat.reduceEqDiff, Nat.reduceLeDiff, Nat.reduceLT, if_false, if_true, ite_true, ite_false, ↓reduceIte, Bool.not_true, Bool.not_false, Bool.false_eq_true, decide_true, decide_false, eq_self, and_true, true_and, and_self, Nat.zero_le, Nat.zero_add, Option.bind_some, Option.bind_none, Nat.lt_irrefl, Int.reduceToNat, Int.reducePow, Int.reduceNeg, Int.reduceMul, Int.reduceAdd, Int.reduceSub, Int.reduceLT, Int.reduceLE, Int.reduceEq, beq_self_eq_true, wipeE, MP.at0, MP.at1, MP.at2, MP.atLit, h]
def knK (b : List Wd) : List (Key × D) := b.map fun w => (.inr (sw w.1), stD2 w.2)
theorem kn_pairs : ∀ b : List Wd, pairsK (b.map wdD) = some (knK b)
  | [] => rfl
  | w :: b => by
    rw [List.map_cons, pairsK, kn_pairs b]
    rfl
theorem kn_put (done : List Wd) (w : Wd) (h : ∀ v ∈ done, v.1 ≠ w.1) : putD (knK done) (.inr (sw w.1)) (stD2 w.2) = knK (done ++ [w]) := by
  unfold putD
  have : ((knK done).any fun kv => decide (kv.1 = .inr (sw w.1))) = false := by
    rw [List.any_eq_false]
    intro p hp
    obtain ⟨v, hv, rfl⟩ := List.mem_map.mp hp
    have hne := h v hv
    intro e
    have e := of_decide_eq_true e
    injection e with e
    exact hne (sw_inj e)
  rw [this, if_neg (by simp)]
  unfold knK
  rw [List.map_append]; rfl
theorem kn_merge : ∀ (todo done : List Wd), ((done ++ todo).map (·.1)).Nodup → mergeD (knK done) (knK todo) = knK (done ++ todo)
  | [], done, _ => by rw [List.append_nil]; rfl
  | w :: todo, done, h => by
    have e : done ++ w :: todo = (done ++ [w]) ++ todo := by rw [List.append_assoc]; rfl
    have ih := kn_merge todo (done ++ [w]) (by rw [← e]; exact h)
    rw [e, ← ih]
    show mergeD (putD (knK done) (.inr (sw w.1)) (stD2 w.2)) (knK todo) = _
    rw [kn_put]
    intro v hv ev
    rw [List.map_append, List.map_cons] at h
    exact (List.nodup_append.mp h).2.2 v.1 (List.mem_map.mpr ⟨v, hv, rfl⟩) w.1 (List.mem_cons_self ..) ev
theorem kn_val : ∀ {b : List Wd}, (b.map (·.1)).Nodup → ∀ w ∈ b, valD (knK b) (.inr (sw w.1)) = some (stD2 w.2)
  | [], _, w, h => by cases h
  | v :: b, hn, w, h => by
    rw [List.map_cons, List.nodup_cons] at hn
    have ih := kn_val hn.2
    unfold valD knK at *
    rw [List.map_cons, List.find?_cons]
    dsimp only
    by_cases c : v.1 = w.1
    · rw [decide_eq_true (by rw [c])]
      rcases List.mem_cons.mp h with rfl | h
      · rfl
      · exact absurd (List.mem_map.mpr ⟨w, h, c.symm⟩) hn.1
    · rw [decide_eq_false (by intro e; injection e with e; exact c (sw_inj e))]
      rcases List.mem_cons.mp h with rfl | h
      · exact absurd rfl c
      · exact ih w h
def kwS (b : List Wd) (wd : Slot) (ss : List (List Int)) (x4 : Slot) : Sta := ⟨[.v (.btp (b.map wdD)), wd, .v (.dic (knK b)), .v (stD2 ss), x4], []⟩
theorem m_wr_turn {b : List Wd} (hg : GBk b) (wd : Slot) (ss : List (List Int)) (hs : ss.length ≤ 100000) {w : Wd} (hw : w ∈ b) : lp_written_1 (kwS b wd ss (.v (nmD w))) = .nx (kwS b wd (ss ++ w.2) (.v (nmD w))) := by
  have hv := kn_val hg.nm w hw
  have h6 := hg.l3 w hw
  have hc := st_cat ss w.2 (by omega)
  have hk : keyD (nmD w) = some (.inr (sw w.1)) := rfl
  have hn : (some (stD2 w.2)).isSome = true := rfl
  unfold lp_written_1 kwS
  generalize stD2 (ss ++ w.2) = sc at *
  generalize stD2 ss = sd at *
  generalize stD2 w.2 = wd at *
  generalize knK b = kn at *
  generalize nmD w = nw at *
  generalize b.map wdD = bl at *
  simp (disch := (first | assumption | with_reducible rfl | decide +kernel | exact Or.inl (by decide +kernel) | exact Or.inr (by decide +kernel) | omega | (simp only [List.length_cons, List.length_nil, List.length_append, List.length_map, List.length_replicate, List.length_range] <;> omega) | rfl)) only [evEqs, List.getElem?_cons_zero, List.getElem?_cons_succ, List.getElem?_nil, List.set_cons_zero, List.set_cons_succ, List.map_cons, List.map_nil, List.length_cons, List.length_nil, List.length_append, List.cons_append, List.nil_append, List.length_map, List.length_singleton, Nat.reduceBEq, Nat.reduceAdd, Nat.reduceSub, Nat.reduceMul, Nat.reduceEqDiff, Nat.reduceLeDiff, Nat.reduceLT, if_false, if_true, ite_true, ite_false, ↓reduceIte, Bool.not_true, Bool.not_false, Bool.false_eq_true, decide_true, decide_false, eq_self, and_true, true_and, and_self, Nat.zero_le, Nat.zero_add, Option.bind_some, Option.bind_none, Nat.lt_irrefl, Int.reduceToNat, Int.reducePow, Int.reduceNeg, Int.reduceMul, Int.reduceAdd, Int.reduceSub, Int.reduceLT, Int.reduceLE, Int.reduceEq, beq_self_eq_true, wipeE, MP.at0, MP.at1, MP.at2, MP.atLit, hk, hv, hn, hc, Option.map_some]
theorem m_wr_loopA {b : List Wd} (hg : GBk b) (wd : Slot) (post : List D) : ∀ (ws : List Wd) (ss : List (List Int)) (x4 : Slot), (∀ w ∈ ws, w ∈ b) → ss.length + 6 * ws.length ≤ 90000 → ∃ y4,
    loopL (.nm 4) lp_written_1 (ws.map nmD ++ post) (kwS b wd ss x4) = loopL (.nm 4) lp_written_1 post (kwS b wd (ss ++ wst ws) y4)
  | [], ss, x4, _, _ => ⟨x4, by unfold wst; rw [List.flatMap_nil, List.append_nil]; rfl⟩
  | w :: ws, ss, x4, hw, hl => by
    rw [List.length_cons] at hl
    have hwb := hw w (List.mem_cons_self ..)
    have h6 := hg.l3 w hwb
    have ht := m_wr_turn hg wd ss (by omega) hwb
    obtain ⟨y4, hr⟩ := m_wr_loopA hg wd post ws (ss ++ w.2) (.v (nmD w)) (fun x hx => hw x (List.mem_cons_of_mem _ hx)) (by rw [List.length_append]; omega)
    refine ⟨y4, ?_⟩
    rw [List.map_cons, List.cons_append, loop_one (env := (kwS b wd ss (.v (nmD w))).env) rfl ht, hr, wst_cons, List.append_assoc]
theorem m_wr_loop {b : List Wd} (hg : GBk b) (wd : Slot) (ws : List Wd) (ss : List (List Int)) (x4 : Slot) (hw : ∀ w ∈ ws, w ∈ b) (hl : ss.length + 6 * ws.length ≤ 90000) : ∃ y4,
    loopL (.nm 4) lp_written_1 (ws.map nmD) (kwS b wd ss x4) = .nx (kwS b wd (ss ++ wst ws) y4) := by
  obtain ⟨y4, h⟩ := m_wr_loopA hg wd [] ws ss x4 hw hl
  rw [List.append_nil] at h
  exact ⟨y4, h⟩
theorem wr_pre {b : List Wd} (hg : GBk b) : gDictB [.btp (b.map wdD)] = some ⟨.fr, .dic (knK b)⟩ := by
  rw [g_dictB (kn_pairs b)]
  have := kn_merge b [] hg.nm
  rw [List.nil_append] at this
  have e : mergeD [] (knK b) = knK b := this
  rw [e]
theorem m_written {b : List Wd} (hg : GBk b) {ws : List Wd} (hw : ∀ w ∈ ws, w ∈ b) (hl : ws.length ≤ 1000) : sem_written [.btp (b.map wdD), .list (ws.map nmD)] [] = .ok (.v (stD2 (wst ws))) [] := by
  obtain ⟨y4, h⟩ := m_wr_loop hg (.v (.list (ws.map nmD))) ws [] .un hw (by simp; omega)
  rw [List.nil_append] at h
  have hwl : (ws.map nmD).length ≤ 1000 := by rw [List.length_map]; exact hl
  have e0 : stD2 [] = .tup [] := rfl
  have hd := wr_pre hg
  unfold kwS at h
  rw [e0] at h
  unfold sem_written
  refine run_ex (Q := fun r => r = .ok _ []) [.v (.btp (b.map wdD)), .v (.list (ws.map nmD)), .un, .un, .un] rfl ?_
  unfold b_written st_written_1 st_written_2 st_written_3 st_written_4
  generalize stD2 (wst ws) = sd at *
  generalize knK b = kn at *
  generalize b.map wdD = bl at *
  generalize ws.map nmD = wd at *
  simp (disch := (first | assumption | with_reducible rfl | decide +kernel | exact Or.inl (by decide +kernel) | exact Or.inr (by decide +kernel) | omega | (simp only [List.length_cons, List.length_nil, List.length_append, List.length_map, List.length_replicate, List.length_range] <;> omega) | rfl)) only [evEqs, List.getElem?_cons_zero, List.getElem?_cons_succ, List.getElem?_nil, List.set_cons_zero, List.set_cons_succ, List.map_cons, List.map_nil, List.length_cons, List.length_nil, List.length_append, List.cons_append, List.nil_append, List.length_map, List.length_singleton, Nat.reduceBEq, Nat.reduceAdd, Nat.reduceSub, Nat.reduceMul, Nat.reduceEqDiff, Nat.reduceLeDiff, Nat.reduceLT, if_false, if_true, ite_true, ite_false, ↓reduceIte, Bool.not_true, Bool.not_false, Bool.false_eq_true, decide_true, decide_false, eq_self, and_true, true_and, and_self, Nat.zero_le, Nat.zero_add, Option.bind_some, Option.bind_none, Nat.lt_irrefl, Int.reduceToNat, Int.reducePow, Int.reduceNeg, Int.reduceMul, Int.reduceAdd, Int.reduceSub, Int.reduceLT, Int.reduceLE, Int.reduceEq, beq_self_eq_true, wipeE, MP.at0, MP.at1, MP.at2, MP.atLit, hd, h]
abbrev Rk := List (List Wd) × List (Option Nat)
def slc (ss : List (List Int)) (a l : Nat) : List (List Int) := (ss.drop a).take l
def rsT (ss : List (List Int)) (a : Nat) (w : Wd) (q : Rk) : Rk :=
  if slc ss a w.2.length = w.2 ∧ q.2[a + w.2.length]? = some none then (q.1 ++ [q.1.getD ((q.2.getD a none).getD 0) [] ++ [w]], q.2.set (a + w.2.length) (some q.1.length)) else q
def rsB (ss : List (List Int)) (a : Nat) (b : List Wd) (q : Rk) : Rk := b.foldl (fun q w => rsT ss a w q) q
def rsA (b : List Wd) (ss : List (List Int)) (a : Nat) (q : Rk) : Rk := if q.2.getD a none = none then q else rsB ss a b q
def rsN (b : List Wd) (ss : List (List Int)) (l : List Nat) (q : Rk) : Rk := l.foldl (fun q a => rsA b ss a q) q
def rs0 (n : Nat) : Rk := ([[]], (List.replicate (n + 1) none).set 0 (some 0))
structure RI (b : List Wd) (ss : List (List Int)) (q : Rk) : Prop where
  len : q.2.length = ss.length + 1
  few : q.1.length ≤ ss.length + 1
  cnt : q.1.length + (q.2.countP fun o => o.isNone) = ss.length + 1
  ix : ∀ e j, q.2[e]? = some (some j) → j < q.1.length ∧ (∀ w ∈ q.1.getD j [], w ∈ b) ∧ wst (q.1.getD j []) = ss.take e
  zero : ∃ j, q.2[0]? = some (some j)
theorem slc_len {ss : List (List Int)} {a l : Nat} {p : List (List Int)} (h : slc ss a l = p) (hl : p.length = l) (h0 : 0 < l) : a + l ≤ ss.length := by
  have := congrArg List.length h
  unfold slc at this
  rw [List.length_take, List.length_drop] at this
  omega
theorem countP_set {α : Type} (p : α → Bool) : ∀ (l : List α) (i : Nat) (x y : α), l[i]? = some x → p x = true → p y = false → (l.set i y).countP p + 1 = l.countP p
  | [], i, x, y, h, _, _ => by simp at h
  | z :: l, 0, x, y, h, hx, hy => by
    cases h
    rw [List.set_cons_zero, List.countP_cons_of_pos hx, List.countP_cons_of_neg (by rw [hy]; exact Bool.false_ne_true)]
  | z :: l, i + 1, x, y, h, hx, hy => by
    have ih := countP_set p l i x y (by simpa using h) hx hy
    rw [List.set_cons_succ, List.countP_cons, List.countP_cons]
    omega
theorem RI.step {b : List Wd} {ss : List (List Int)} {q : Rk} (h : RI b ss q) {a j : Nat} (ha : q.2[a]? = some (some j)) {w : Wd} (hw : w ∈ b) (hne : w.2 ≠ []) : RI b ss (rsT ss a w q) := by
  unfold rsT
  by_cases c : slc ss a w.2.length = w.2 ∧ q.2[a + w.2.length]? = some none
  · rw [if_pos c]
    obtain ⟨c1, c2⟩ := c
    have hgd : (q.2.getD a none).getD 0 = j := by rw [List.getD_eq_getElem?_getD, ha]; rfl
    rw [hgd]
    obtain ⟨j1, j2, j3⟩ := h.ix a j ha
    have hlt : a + w.2.length < q.2.length := (List.getElem?_eq_some_iff.mp c2).1
    have hcn := countP_set (fun o : Option Nat => o.isNone) q.2 (a + w.2.length) none (some q.1.length) c2 rfl rfl
    have hc := h.cnt
    refine ⟨by show (q.2.set _ _).length = _; rw [List.length_set]; exact h.len, by show (q.1 ++ _).length ≤ _; rw [List.length_append, List.length_singleton]; omega, ?_, fun e j' he => ?_, ?_⟩
    · show (q.1 ++ [_]).length + ((q.2.set _ _).countP fun o => o.isNone) = _
      rw [List.length_append, List.length_singleton]
      omega
    · have he : (q.2.set (a + w.2.length) (some q.1.length))[e]? = some (some j') := he
      show j' < (q.1 ++ [q.1.getD j [] ++ [w]]).length ∧ (∀ w' ∈ (q.1 ++ [q.1.getD j [] ++ [w]]).getD j' [], w' ∈ b) ∧ wst ((q.1 ++ [q.1.getD j [] ++ [w]]).getD j' []) = ss.take e
      rw [List.getElem?_set] at he
      by_cases ce : a + w.2.length = e
      · rw [if_pos ce, if_pos hlt] at he
        cases he
        have hg : (q.1 ++ [q.1.getD j [] ++ [w]]).getD q.1.length [] = q.1.getD j [] ++ [w] := by
          rw [List.getD_eq_getElem?_getD, List.getElem?_append_right (Nat.le_refl _), Nat.sub_self]; rfl
        rw [hg]
        refine ⟨by rw [List.length_append, List.length_singleton]; omega, fun w' hw' => ?_, ?_⟩
        · rcases List.mem_append.mp hw' with hw' | hw'
          · exact j2 w' hw'
          · rw [List.mem_singleton.mp hw']; exact hw
        · rw [wst_app, wst_one, j3, ← ce, List.take_add]
          unfold slc at c1
          rw [c1]
      · rw [if_neg ce] at he
        obtain ⟨k1, k2, k3⟩ := h.ix e j' he
        have hg : (q.1 ++ [q.1.getD j [] ++ [w]]).getD j' [] = q.1.getD j' [] := by
          simp only [List.getD_eq_getElem?_getD, List.getElem?_append_left k1]
        rw [hg]
        exact ⟨by rw [List.length_append, List.length_singleton]; omega, k2, k3⟩
    · obtain ⟨j0, h0⟩ := h.zero
      refine ⟨j0, ?_⟩
      show (q.2.set (a + w.2.length) (some q.1.length))[0]? = _
      have : a + w.2.length ≠ 0 := by have := List.length_pos_iff.mpr hne; omega
      rw [List.getElem?_set_ne this]
      exact h0
  · rw [if_neg c]; exact h
theorem rsT_low {ss : List (List Int)} {a : Nat} {w : Wd} (q : Rk) (hne : w.2 ≠ []) {e : Nat} (he : e ≤ a) : (rsT ss a w q).2[e]? = q.2[e]? := by
  unfold rsT
  split
  · show (q.2.set _ _)[e]? = _
    have := List.length_pos_iff.mpr hne
    rw [List.getElem?_set_ne (by omega)]
  · rfl
theorem rsT_mono {ss : List (List Int)} {a : Nat} {w : Wd} {q : Rk} {e : Nat} (h : ∃ j, q.2[e]? = some (some j)) : ∃ j, (rsT ss a w q).2[e]? = some (some j) := by
  unfold rsT
  obtain ⟨j, hj⟩ := h
  by_cases c : slc ss a w.2.length = w.2 ∧ q.2[a + w.2.length]? = some none
  · rw [if_pos c]
    by_cases ce : a + w.2.length = e
    · rw [ce, hj] at c
      cases c.2
    · exact ⟨j, by show (q.2.set _ _)[e]? = _; rw [List.getElem?_set_ne ce]; exact hj⟩
  · rw [if_neg c]; exact ⟨j, hj⟩
theorem rsT_hit {b : List Wd} {ss : List (List Int)} {a : Nat} {w : Wd} {q : Rk} (h : RI b ss q) (hne : w.2 ≠ []) (c : slc ss a w.2.length = w.2) : ∃ j, (rsT ss a w q).2[a + w.2.length]? = some (some j) := by
  have hle := slc_len c rfl (List.length_pos_iff.mpr hne)
  have hlt : a + w.2.length < q.2.length := by rw [h.len]; omega
  cases ho : q.2[a + w.2.length] with
  | none =>
    have ho : q.2[a + w.2.length]? = some none := by rw [List.getElem?_eq_getElem hlt, ho]
    unfold rsT
    rw [if_pos ⟨c, ho⟩]
    exact ⟨q.1.length, by show (q.2.set _ _)[_]? = _; rw [List.getElem?_set_self hlt]⟩
  | some j => exact rsT_mono ⟨j, by rw [List.getElem?_eq_getElem hlt, ho]⟩
theorem rsB_ok {ss : List (List Int)} {a : Nat} {b : List Wd} (hne : ∀ w ∈ b, w.2 ≠ []) : ∀ (c : List Wd) (q : Rk), (∀ w ∈ c, w ∈ b) → RI b ss q → (∃ j, q.2[a]? = some (some j)) →
    RI b ss (rsB ss a c q) ∧ (∀ e : Nat, e ≤ a → (rsB ss a c q).2[e]? = q.2[e]?) ∧ (∀ e : Nat, (∃ j : Nat, q.2[e]? = some (some j)) → ∃ j : Nat, (rsB ss a c q).2[e]? = some (some j)) ∧ ∀ w ∈ c, slc ss a w.2.length = w.2 → ∃ j : Nat, (rsB ss a c q).2[a + w.2.length]? = some (some j)
  | [], q, _, h, _ => ⟨h, fun _ _ => rfl, fun _ h => h, fun w hw => by cases hw⟩
  | w :: c, q, hc, h, ⟨j, hj⟩ => by
    have hwb := hc w (List.mem_cons_self ..)
    have hn := hne w hwb
    have h1 := h.step hj hwb hn
    have hj1 : (rsT ss a w q).2[a]? = some (some j) := by rw [rsT_low q hn (Nat.le_refl _)]; exact hj
    obtain ⟨g1, g2, g3, g4⟩ := rsB_ok hne c (rsT ss a w q) (fun x hx => hc x (List.mem_cons_of_mem _ hx)) h1 ⟨j, hj1⟩
    refine ⟨g1, fun e he => ?_, fun e he => g3 e (rsT_mono he), fun x hx hs => ?_⟩
    · show (rsB ss a c (rsT ss a w q)).2[e]? = _
      rw [g2 e he, rsT_low q hn he]
    · rcases List.mem_cons.mp hx with rfl | hx
      · exact g3 _ (rsT_hit h hn hs)
      · exact g4 x hx hs
/-- closed below k -/
def RD (b : List Wd) (ss : List (List Int)) (q : Rk) (k : Nat) : Prop := ∀ a, a < k → (∃ j, q.2[a]? = some (some j)) → ∀ w ∈ b, slc ss a w.2.length = w.2 → ∃ j, q.2[a + w.2.length]? = some (some j)
theorem rsA_ok {b : List Wd} (hne : ∀ w ∈ b, w.2 ≠ []) {ss : List (List Int)} {q : Rk} (h : RI b ss q) {a : Nat} (ha : a ≤ ss.length) (hd : RD b ss q a) : RI b ss (rsA b ss a q) ∧ RD b ss (rsA b ss a q) (a + 1) := by
  have hlt : a < q.2.length := by rw [h.len]; omega
  unfold rsA
  cases ho : q.2.getD a none with
  | none =>
    rw [if_pos rfl]
    refine ⟨h, fun a' ha' hj w hw hs => ?_⟩
    by_cases e : a' = a
    · subst e
      obtain ⟨j, hj⟩ := hj
      rw [List.getD_eq_getElem?_getD, hj] at ho
      cases ho
    · exact hd a' (by omega) hj w hw hs
  | some j =>
    rw [if_neg (by simp)]
    have hj : q.2[a]? = some (some j) := by
      rw [List.getD_eq_getElem?_getD, List.getElem?_eq_getElem hlt] at ho
      rw [List.getElem?_eq_getElem hlt]
      exact congrArg some ho
    obtain ⟨g1, g2, g3, g4⟩ := rsB_ok hne b q (fun w hw => hw) h ⟨j, hj⟩
    refine ⟨g1, fun a' ha' hj' w hw hs => ?_⟩
    by_cases e : a' = a
    · subst e
      exact g4 w hw hs
    · rw [g2 a' (by omega)] at hj'
      exact g3 _ (hd a' (by omega) hj' w hw hs)
theorem rsN_ok {b : List Wd} (hne : ∀ w ∈ b, w.2 ≠ []) {ss : List (List Int)} : ∀ n, n ≤ ss.length → RI b ss (rsN b ss (List.range n) (rs0 ss.length)) ∧ RD b ss (rsN b ss (List.range n) (rs0 ss.length)) n
  | 0, _ => by
    refine ⟨⟨by show ((List.replicate _ none).set 0 _).length = _; rw [List.length_set, List.length_replicate], by show [([] : List Wd)].length ≤ _; simp, ?_, fun e j he => ?_, 0, ?_⟩, fun a ha => by omega⟩
    · show 1 + (((List.replicate (ss.length + 1) none).set 0 (some 0)).countP fun o : Option Nat => o.isNone) = _
      have h := countP_set (fun o : Option Nat => o.isNone) (List.replicate (ss.length + 1) none) 0 none (some 0) (by simp) rfl rfl
      have h2 : (List.replicate (ss.length + 1) (none : Option Nat)).countP (fun o => o.isNone) = ss.length + 1 := by
        rw [List.countP_replicate]; rfl
      omega
    · have he : ((List.replicate (ss.length + 1) none).set 0 (some 0))[e]? = some (some j) := he
      rw [List.getElem?_set] at he
      by_cases c : 0 = e
      · rw [if_pos c, if_pos (by simp)] at he
        cases he
        subst c
        exact ⟨Nat.one_pos, (fun w hw => by cases hw), rfl⟩
      · rw [if_neg c, List.getElem?_replicate] at he
        split at he <;> cases he
    · show ((List.replicate (ss.length + 1) none).set 0 (some 0))[0]? = _
      rw [List.getElem?_set_self (by simp)]
  | n + 1, hn => by
    obtain ⟨h1, h2⟩ := rsN_ok hne (ss := ss) n (by omega)
    have e : rsN b ss (List.range (n + 1)) (rs0 ss.length) = rsA b ss n (rsN b ss (List.range n) (rs0 ss.length)) := by
      unfold rsN
      rw [List.range_succ, List.foldl_append]
      rfl
    rw [e]
    exact rsA_ok (a := n) hne h1 (by omega) h2
/-- whatever is written so far has its place -/
theorem rd_all {b : List Wd} (hne : ∀ w ∈ b, w.2 ≠ []) {ss : List (List Int)} {q : Rk} (h : RI b ss q) (hd : RD b ss q ss.length) : ∀ (n : Nat) (row : List Wd), row.length = n → (∀ w ∈ row, w ∈ b) → ∀ e, e ≤ ss.length → wst row = ss.take e → ∃ j, q.2[e]? = some (some j)
  | 0, row, hr, _, e, he, hw => by
    have : row = [] := List.length_eq_zero_iff.mp hr
    subst this
    have hw : [] = ss.take e := hw
    have h0 : e = 0 := by
      have := congrArg List.length hw
      rw [List.length_take] at this
      simp at this
      omega
    rw [h0]
    exact h.zero
  | n + 1, row, hr, hb, e, he, hw => by
    have hne0 : row ≠ [] := fun z => by rw [z] at hr; simp at hr
    obtain ⟨row', w, rfl⟩ : ∃ r' w, row = r' ++ [w] := ⟨row.dropLast, row.getLast hne0, (List.dropLast_concat_getLast hne0).symm⟩
    rw [List.length_append, List.length_singleton] at hr
    have hwb := hb w (by simp)
    have hwp := List.length_pos_iff.mpr (hne w hwb)
    rw [wst_app, wst_one] at hw
    have hl : (wst row').length + w.2.length = e := by
      have := congrArg List.length hw
      rw [List.length_append, List.length_take] at this
      omega
    have h1 : wst row' = ss.take (wst row').length := by
      have := congrArg (List.take (wst row').length) hw
      rw [List.take_left, List.take_take, Nat.min_eq_left (by omega)] at this
      exact this
    have h2 : slc ss (wst row').length w.2.length = w.2 := by
      rw [← hl, List.take_add] at hw
      unfold slc
      conv at hw => lhs; rw [h1]
      exact (List.append_cancel_left hw).symm
    obtain ⟨j, hj⟩ := rd_all hne h hd n row' (by omega) (fun x hx => hb x (by simp [hx])) (wst row').length (by omega) h1
    have := hd (wst row').length (by omega) ⟨j, hj⟩ w hwb h2
    rw [hl] at this
    exact this
/-- some words are written so -/
def Wrt (b : List Wd) (ss : List (List Int)) : Prop := ∃ row : List Wd, (∀ w ∈ row, w ∈ b) ∧ wst row = ss
/-- what read_strokes tells -/
theorem rs_end {b : List Wd} (hne : ∀ w ∈ b, w.2 ≠ []) (ss : List (List Int)) :
    (∃ j row, (rsN b ss (List.range ss.length) (rs0 ss.length)).2[ss.length]? = some (some j) ∧ (rsN b ss (List.range ss.length) (rs0 ss.length)).1[j]? = some row ∧ (∀ w ∈ row, w ∈ b) ∧ wst row = ss) ∨
    ((rsN b ss (List.range ss.length) (rs0 ss.length)).2[ss.length]? = some none ∧ ¬ Wrt b ss) := by
  obtain ⟨h1, h2⟩ := rsN_ok hne (ss := ss) ss.length (Nat.le_refl _)
  generalize rsN b ss (List.range ss.length) (rs0 ss.length) = q at *
  have hlt : ss.length < q.2.length := by rw [h1.len]; omega
  cases ho : q.2[ss.length] with
  | some j =>
    have hj : q.2[ss.length]? = some (some j) := by rw [List.getElem?_eq_getElem hlt, ho]
    obtain ⟨j1, j2, j3⟩ := h1.ix _ j hj
    have hg : q.1.getD j [] = q.1[j] := by rw [List.getD_eq_getElem?_getD, List.getElem?_eq_getElem j1]; rfl
    rw [hg] at j2 j3
    exact .inl ⟨j, q.1[j], hj, List.getElem?_eq_getElem j1, j2, by rw [j3, List.take_length]⟩
  | none =>
    have hj : q.2[ss.length]? = some none := by rw [List.getElem?_eq_getElem hlt, ho]
    refine .inr ⟨hj, fun ⟨row, r1, r2⟩ => ?_⟩
    obtain ⟨j, e⟩ := rd_all hne h1 h2 row.length row rfl r1 ss.length (Nat.le_refl _) (by rw [r2, List.take_length])
    rw [hj] at e
    cases e

def plD : Option Nat → D
  | none => .none
  | some j => .obj j
def bxR (row : List Wd) : Ob := ⟨boxC, [(0, .own (.list (row.map nmD)))]⟩
def rdS (b : List Wd) (ss : List (List Int)) (q : Rk) (x3 x4 x5 x6 : Slot) : Sta := ⟨[.v (bkD2 b), .v (stD2 ss), .own (.list (q.2.map plD)), x3, x4, x5, x6], q.1.map bxR⟩
theorem ixN_nat {n i : Nat} (h : i < n) : L2.ixN n (i : Int) = some i := by
  unfold L2.ixN
  rw [if_pos (by omega), if_pos (by omega), Int.toNat_natCast]
theorem pl_ix {P : List (Option Nat)} {e : Nat} {o : Option Nat} (h : P[e]? = some o) : gIx (.list (P.map plD)) (.int (e : Int)) = some ⟨.sh, plD o⟩ := by
  rw [g_ixL, atN, List.getElem?_map, h]; rfl
theorem cond_yes {b : List Wd} {ss : List (List Int)} {a j : Nat} {w : Wd} {q : Rk} (ha : q.2[a]? = some (some j)) (hj : j < q.1.length) (c : slc ss a w.2.length = w.2) (hn : q.2[a + w.2.length]? = some none) (hr : (q.1.getD j []).length ≤ 100000) (x6 : Slot) :
    sLPutF (.nm 2) (pVar 6) (fBox (p2 gPlus (pDer (p2 gIx (pVar 2) (pVar 3))) (pLst (pCons (pD (pVar 4)) (pNil))))) (rdS b ss q (.v (.int (a : Int))) (.v (nmD w)) (.v (stD2 w.2)) (.v (.int ((a + w.2.length : Nat) : Int)))) =
      .nx (rdS b ss (q.1 ++ [q.1.getD j [] ++ [w]], q.2.set (a + w.2.length) (some q.1.length)) (.v (.int (a : Int))) (.v (nmD w)) (.v (stD2 w.2)) (.v (.int ((a + w.2.length : Nat) : Int)))) := by
  have h1 := pl_ix ha
  have e1 : plD (some j) = .obj j := rfl
  rw [e1] at h1
  have hlt : a + w.2.length < q.2.length := (List.getElem?_eq_some_iff.mp hn).1
  have hob : owO boxC 0 (q.1.map bxR)[j]? = some (.list ((q.1.getD j []).map nmD)) := by
    rw [List.getElem?_map, List.getElem?_eq_getElem hj, List.getD_eq_getElem?_getD, List.getElem?_eq_getElem hj]
    rfl
  have hcat : gPlus (.list ((q.1.getD j []).map nmD)) (.list [nmD w]) = some ⟨.fr, .list ((q.1.getD j []).map nmD ++ [nmD w])⟩ := g_catL (by rw [List.length_map, List.length_singleton]; omega)
  have hN : L2.ixN (q.2.map plD).length ((a + w.2.length : Nat) : Int) = some (a + w.2.length) := ixN_nat (by rw [List.length_map]; exact hlt)
  have hset : (q.2.set (a + w.2.length) (some q.1.length)).map plD = (q.2.map plD).set (a + w.2.length) (.obj q.1.length) := by rw [List.map_set]; rfl
  have hst : (q.1 ++ [q.1.getD j [] ++ [w]]).map bxR = q.1.map bxR ++ [⟨boxC, [(0, .own (.list ((q.1.getD j []).map nmD ++ [nmD w])))]⟩] := by
    rw [List.map_append, List.map_singleton]
    unfold bxR
    rw [List.map_append, List.map_singleton]
  have hl : (q.1.map bxR).length = q.1.length := List.length_map ..
  unfold rdS
  rw [hset, hst]
  clear hset hst ha hn c hlt hr
  generalize (q.1.getD j []).map nmD ++ [nmD w] = nr at *
  generalize (q.1.getD j []).map nmD = row at *
  generalize q.1.map bxR = st at *
  generalize q.1.length = sl at *
  generalize q.2.map plD = P at *
  generalize a + w.2.length = e at *
  generalize ((e : Nat) : Int) = ei at *
  generalize ((a : Nat) : Int) = ai at *
  generalize nmD w = nw at *
  generalize stD2 w.2 = wd at *
  generalize stD2 ss = sd at *
  generalize bkD2 b = bd at *
  simp (disch := (first | assumption | with_reducible rfl | decide +kernel | exact Or.inl (by decide +kernel) | exact Or.inr (by decide +kernel) | omega | (simp only [List.length_cons, List.length_nil, List.length_append, List.length_map, List.length_replicate, List.length_range] <;> omega) | rfl)) only [evEqs, List.getElem?_cons_zero, List.getElem?_cons_succ, List.getElem?_nil, List.set_cons_zero, List.set_cons_succ, List.map_cons, List.map_nil, List.length_cons, List.length_nil, List.length_append, List.cons_append, List.nil_append, List.length_map, List.length_singleton, Nat.reduceBEq, Nat.reduceAdd, Nat.reduceSub, Nat.reduceMul, Nat.reduceEqDiff, Nat.reduceLeDiff, Nat.reduceLT, if_false, if_true, ite_true, ite_false, ↓reduceIte, Bool.not_true, Bool.not_false, Bool.false_eq_true, decide_true, decide_false, eq_self, and_true, true_and, and_self, Nat.zero_le, Nat.zero_add, Option.bind_some, Option.bind_none, Nat.lt_irrefl, Int.reduceToNat, Int.reducePow, Int.reduceNeg, Int.reduceMul, Int.reduceAdd, Int.reduceSub, Int.reduceLT, Int.reduceLE, Int.reduceEq, beq_self_eq_true, wipeE, MP.at0, MP.at1, MP.at2, MP.atLit, h1, hob, hcat, hN, hl]
theorem m_rs_turn {b : List Wd} {ss : List (List Int)} {a j : Nat} {w : Wd} {q : Rk} (h : RI b ss q) (ha : q.2[a]? = some (some j)) (hne : w.2 ≠ []) (hr : ∀ row ∈ q.1, row.length ≤ 100000) (x6 : Slot) :
    lp_read_strokes_1 (rdS b ss q (.v (.int (a : Int))) (.v (nmD w)) (.v (stD2 w.2)) x6) = .nx (rdS b ss (rsT ss a w q) (.v (.int (a : Int))) (.v (nmD w)) (.v (stD2 w.2)) (.v (.int ((a + w.2.length : Nat) : Int)))) := by
  obtain ⟨hj, _, _⟩ := h.ix a j ha
  have hwl : (w.2.map stD).length = w.2.length := List.length_map ..
  have hadd : (a : Int) + ((w.2.length : Nat) : Int) = ((a + w.2.length : Nat) : Int) := by omega
  have hcut : cutD (ss.map stD) (some (a : Int)) (some ((a + w.2.length : Nat) : Int)) = (slc ss a w.2.length).map stD := by
    rw [cut_eq _ (by omega) (by omega), Int.toNat_natCast, Int.toNat_natCast, Nat.add_sub_cancel_left]
    unfold slc
    rw [List.map_take, List.map_drop]
  have he := eq_stD2 (a := slc ss a w.2.length) (b := w.2) (fun _ _ => trivial) (fun _ _ => trivial)
  unfold lp_read_strokes_1
  have s1 : sSetV 6 (pD (p2 gPlus (pVar 3) (pCall gLen (pCons (pVar 5) (pNil))))) (rdS b ss q (.v (.int (a : Int))) (.v (nmD w)) (.v (stD2 w.2)) x6) = .nx (rdS b ss q (.v (.int (a : Int))) (.v (nmD w)) (.v (stD2 w.2)) (.v (.int ((a + w.2.length : Nat) : Int)))) := by
    unfold rdS
    unfold stD2
    clear he hcut
    generalize q.1.map bxR = st at *
    generalize q.2.map plD = P at *
    generalize w.2.map stD = wd at *
    generalize nmD w = nw at *
    generalize D.tup (ss.map stD) = sd at *
    generalize bkD2 b = bd at *
    generalize ((a + w.2.length : Nat) : Int) = ei at *
    simp (disch := (first | assumption | with_reducible rfl | decide +kernel | exact Or.inl (by decide +kernel) | exact Or.inr (by decide +kernel) | omega | (simp only [List.length_cons, List.length_nil, List.length_append, List.length_map, List.length_replicate, List.length_range] <;> omega) | rfl)) only [evEqs, List.getElem?_cons_zero, List.getElem?_cons_succ, List.getElem?_nil, List.set_cons_zero, List.set_cons_succ, List.map_cons, List.map_nil, List.length_cons, List.length_nil, List.length_append, List.cons_append, List.nil_append, List.length_map, List.length_singleton, Nat.reduceBEq, Nat.reduceAdd, Nat.reduceSub, Nat.reduceMul, Nat.reduceEqDiff, Nat.reduceLeDiff, Nat.reduceLT, if_false, if_true, ite_true, ite_false, ↓reduceIte, Bool.not_true, Bool.not_false, Bool.false_eq_true, decide_true, decide_false, eq_self, and_true, true_and, and_self, Nat.zero_le, Nat.zero_add, Option.bind_some, Option.bind_none, Nat.lt_irrefl, Int.reduceToNat, Int.reducePow, Int.reduceNeg, Int.reduceMul, Int.reduceAdd, Int.reduceSub, Int.reduceLT, Int.reduceLE, Int.reduceEq, beq_self_eq_true, wipeE, MP.at0, MP.at1, MP.at2, MP.atLit, hwl, hadd]
  by_cases c : slc ss a w.2.length = w.2 ∧ q.2[a + w.2.length]? = some none
  · have hgd : (q.2.getD a none).getD 0 = j := by rw [List.getD_eq_getElem?_getD, ha]; rfl
    have hrow : (q.1.getD j []).length ≤ 100000 := by
      rw [List.getD_eq_getElem?_getD, List.getElem?_eq_getElem hj]
      exact hr _ (List.getElem_mem hj)
    have hy := cond_yes (b := b) ha hj c.1 c.2 hrow x6
    have et : rsT ss a w q = (q.1 ++ [q.1.getD j [] ++ [w]], q.2.set (a + w.2.length) (some q.1.length)) := by
      unfold rsT
      rw [if_pos c, hgd]
    rw [et]
    have h2 := pl_ix c.2
    have e2 : plD none = .none := rfl
    rw [e2] at h2
    rw [decide_eq_true c.1] at he
    generalize sLPutF (.nm 2) (pVar 6) (fBox (p2 gPlus (pDer (p2 gIx (pVar 2) (pVar 3))) (pLst (pCons (pD (pVar 4)) (pNil))))) = put at *
    generalize rdS b ss (q.1 ++ [q.1.getD j [] ++ [w]], q.2.set (a + w.2.length) (some q.1.length)) (.v (.int (a : Int))) (.v (nmD w)) (.v (stD2 w.2)) (.v (.int ((a + w.2.length : Nat) : Int))) = res at *
    unfold sSeq
    rw [s1]
    clear s1 hadd et
    dsimp only
    unfold rdS at *
    unfold stD2 at *
    generalize q.1.map bxR = st at *
    generalize q.2.map plD = P at *
    generalize (slc ss a w.2.length).map stD = sc at *
    generalize w.2.map stD = wd at *
    generalize nmD w = nw at *
    generalize ss.map stD = sd at *
    generalize bkD2 b = bd at *
    generalize ((a + w.2.length : Nat) : Int) = ei at *
    generalize ((a : Nat) : Int) = ai at *
    simp (disch := (first | assumption | with_reducible rfl | decide +kernel | exact Or.inl (by decide +kernel) | exact Or.inr (by decide +kernel) | omega | (simp only [List.length_cons, List.length_nil, List.length_append, List.length_map, List.length_replicate, List.length_range] <;> omega) | rfl)) only [evEqs, List.getElem?_cons_zero, List.getElem?_cons_succ, List.getElem?_nil, List.set_cons_zero, List.set_cons_succ, List.map_cons, List.map_nil, List.length_cons, List.length_nil, List.length_append, List.cons_append, List.nil_append, List.length_map, List.length_singleton, Nat.reduceBEq, Nat.reduceAdd, Nat.reduceSub, Nat.reduceMul, Nat.reduceEqDiff, Nat.reduceLeDiff, Nat.reduceLT, if_false, if_true, ite_true, ite_false, ↓reduceIte, Bool.not_true, Bool.not_false, Bool.false_eq_true, decide_true, decide_false, eq_self, and_true, true_and, and_self, Nat.zero_le, Nat.zero_add, Option.bind_some, Option.bind_none, Nat.lt_irrefl, Int.reduceToNat, Int.reducePow, Int.reduceNeg, Int.reduceMul, Int.reduceAdd, Int.reduceSub, Int.reduceLT, Int.reduceLE, Int.reduceEq, beq_self_eq_true, wipeE, MP.at0, MP.at1, MP.at2, MP.atLit, hcut, he, h2, hy]
  · have et : rsT ss a w q = q := by unfold rsT; rw [if_neg c]
    rw [et]
    unfold sSeq
    rw [s1]
    clear s1 hadd et
    dsimp only
    by_cases c1 : slc ss a w.2.length = w.2
    · have hle := slc_len c1 rfl (List.length_pos_iff.mpr hne)
      have hlt : a + w.2.length < q.2.length := by rw [h.len]; omega
      cases ho : q.2[a + w.2.length] with
      | none => exact absurd ⟨c1, by rw [List.getElem?_eq_getElem hlt, ho]⟩ c
      | some j' =>
        have h2 := pl_ix (show q.2[a + w.2.length]? = some (some j') by rw [List.getElem?_eq_getElem hlt, ho])
        have e2 : plD (some j') = .obj j' := rfl
        rw [e2] at h2
        rw [decide_eq_true c1] at he
        have hnn : D.isNone (.obj j') = false := rfl
        clear ho hlt hle c1 c
        generalize sLPutF (.nm 2) (pVar 6) (fBox (p2 gPlus (pDer (p2 gIx (pVar 2) (pVar 3))) (pLst (pCons (pD (pVar 4)) (pNil))))) = put at *
        unfold rdS at *
        unfold stD2 at *
        generalize q.1.map bxR = st at *
        generalize q.2.map plD = P at *
        generalize (slc ss a w.2.length).map stD = sc at *
        generalize w.2.map stD = wd at *
        generalize nmD w = nw at *
        generalize ss.map stD = sd at *
        generalize bkD2 b = bd at *
        generalize ((a + w.2.length : Nat) : Int) = ei at *
        generalize ((a : Nat) : Int) = ai at *
        simp (disch := (first | assumption | with_reducible rfl | decide +kernel | exact Or.inl (by decide +kernel) | exact Or.inr (by decide +kernel) | omega | (simp only [List.length_cons, List.length_nil, List.length_append, List.length_map, List.length_replicate, List.length_range] <;> omega) | rfl)) only [evEqs, List.getElem?_cons_zero, List.getElem?_cons_succ, List.getElem?_nil, List.set_cons_zero, List.set_cons_succ, List.map_cons, List.map_nil, List.length_cons, List.length_nil, List.length_append, List.cons_append, List.nil_append, List.length_map, List.length_singleton, Nat.reduceBEq, Nat.reduceAdd, Nat.reduceSub, Nat.reduceMul, Nat.reduceEqDiff, Nat.reduceLeDiff, Nat.reduceLT, if_false, if_true, ite_true, ite_false, ↓reduceIte, Bool.not_true, Bool.not_false, Bool.false_eq_true, decide_true, decide_false, eq_self, and_true, true_and, and_self, Nat.zero_le, Nat.zero_add, Option.bind_some, Option.bind_none, Nat.lt_irrefl, Int.reduceToNat, Int.reducePow, Int.reduceNeg, Int.reduceMul, Int.reduceAdd, Int.reduceSub, Int.reduceLT, Int.reduceLE, Int.reduceEq, beq_self_eq_true, wipeE, MP.at0, MP.at1, MP.at2, MP.atLit, hcut, he, h2, hnn]
    · rw [decide_eq_false c1] at he
      generalize sLPutF (.nm 2) (pVar 6) (fBox (p2 gPlus (pDer (p2 gIx (pVar 2) (pVar 3))) (pLst (pCons (pD (pVar 4)) (pNil))))) = put at *
      clear c1 c
      unfold rdS at *
      unfold stD2 at *
      generalize q.1.map bxR = st at *
      generalize q.2.map plD = P at *
      generalize (slc ss a w.2.length).map stD = sc at *
      generalize w.2.map stD = wd at *
      generalize nmD w = nw at *
      generalize ss.map stD = sd at *
      generalize bkD2 b = bd at *
      generalize ((a + w.2.length : Nat) : Int) = ei at *
      generalize ((a : Nat) : Int) = ai at *
      simp (disch := (first | assumption | with_reducible rfl | decide +kernel | exact Or.inl (by decide +kernel) | exact Or.inr (by decide +kernel) | omega | (simp only [List.length_cons, List.length_nil, List.length_append, List.length_map, List.length_replicate, List.length_range] <;> omega) | rfl)) only [evEqs, List.getElem?_cons_zero, List.getElem?_cons_succ, List.getElem?_nil, List.set_cons_zero, List.set_cons_succ, List.map_cons, List.map_nil, List.length_cons, List.length_nil, List.length_append, List.cons_append, List.nil_append, List.length_map, List.length_singleton, Nat.reduceBEq, Nat.reduceAdd, Nat.reduceSub, Nat.reduceMul, Nat.reduceEqDiff, Nat.reduceLeDiff, Nat.reduceLT, if_false, if_true, ite_true, ite_false, ↓reduceIte, Bool.not_true, Bool.not_false, Bool.false_eq_true, decide_true, decide_false, eq_self, and_true, true_and, and_self, Nat.zero_le, Nat.zero_add, Option.bind_some, Option.bind_none, Nat.lt_irrefl, Int.reduceToNat, Int.reducePow, Int.reduceNeg, Int.reduceMul, Int.reduceAdd, Int.reduceSub, Int.reduceLT, Int.reduceLE, Int.reduceEq, beq_self_eq_true, wipeE, MP.at0, MP.at1, MP.at2, MP.atLit, hcut, he]
/-- rows are no longer than what they write -/
theorem row_le {b : List Wd} (hne : ∀ w ∈ b, w.2 ≠ []) : ∀ row : List Wd, (∀ w ∈ row, w ∈ b) → row.length ≤ (wst row).length
  | [], _ => Nat.le_refl _
  | w :: row, h => by
    have ih := row_le hne row fun x hx => h x (List.mem_cons_of_mem _ hx)
    have := List.length_pos_iff.mpr (hne w (h w (List.mem_cons_self ..)))
    rw [wst_cons, List.length_append, List.length_cons]
    omega
def RL (q : Rk) (n : Nat) : Prop := ∀ row ∈ q.1, row.length ≤ n
theorem RL.step {ss : List (List Int)} {a : Nat} {w : Wd} {q : Rk} {n : Nat} (h : RL q n) : RL (rsT ss a w q) (n + 1) := by
  unfold rsT
  split
  · intro row hrow
    have hrow : row ∈ q.1 ++ [q.1.getD ((q.2.getD a none).getD 0) [] ++ [w]] := hrow
    rcases List.mem_append.mp hrow with hrow | hrow
    · have := h row hrow; omega
    · rw [List.mem_singleton.mp hrow, List.length_append, List.length_singleton]
      have : (q.1.getD ((q.2.getD a none).getD 0) []).length ≤ n := by
        by_cases c : (q.2.getD a none).getD 0 < q.1.length
        · rw [List.getD_eq_getElem?_getD, List.getElem?_eq_getElem c]
          exact h _ (List.getElem_mem c)
        · rw [List.getD_eq_getElem?_getD, List.getElem?_eq_none (by omega)]
          exact Nat.zero_le _
      omega
  · intro row hrow; have := h row hrow; omega
theorem m_rs_in {b : List Wd} (hne : ∀ w ∈ b, w.2 ≠ []) {ss : List (List Int)} {a : Nat} : ∀ (c : List Wd) (q : Rk) (n : Nat) (x4 x5 x6 : Slot), (∀ w ∈ c, w ∈ b) → RI b ss q → (∃ j, q.2[a]? = some (some j)) → RL q n → n + c.length ≤ 90000 → ∃ y4 y5 y6,
    loopL (.tp [4, 5]) lp_read_strokes_1 (c.map wdD) (rdS b ss q (.v (.int (a : Int))) x4 x5 x6) = .nx (rdS b ss (rsB ss a c q) (.v (.int (a : Int))) y4 y5 y6) ∧ RL (rsB ss a c q) (n + c.length)
  | [], q, n, x4, x5, x6, _, _, _, hl, _ => ⟨x4, x5, x6, rfl, hl⟩
  | w :: c, q, n, x4, x5, x6, hc, h, ⟨j, hj⟩, hl, hn => by
    rw [List.length_cons] at hn
    have hwb := hc w (List.mem_cons_self ..)
    have ht := m_rs_turn h hj (hne w hwb) (fun row hr => by have := hl row hr; omega) x6
    have hj1 : (rsT ss a w q).2[a]? = some (some j) := by rw [rsT_low q (hne w hwb) (Nat.le_refl _)]; exact hj
    obtain ⟨y4, y5, y6, hr, hL⟩ := m_rs_in hne c (rsT ss a w q) (n + 1) (.v (nmD w)) (.v (stD2 w.2)) (.v (.int ((a + w.2.length : Nat) : Int))) (fun x hx => hc x (List.mem_cons_of_mem _ hx)) (h.step hj hwb (hne w hwb)) ⟨j, hj1⟩ hl.step (by omega)
    refine ⟨y4, y5, y6, ?_, by rw [List.length_cons, Nat.add_comm c.length 1, ← Nat.add_assoc]; exact hL⟩
    have e1 : wdD w = .tup [nmD w, stD2 w.2] := rfl
    unfold rdS at ht hr ⊢
    rw [List.map_cons, e1, loop_one (b_tp2 ..) ht]
    exact hr
theorem loop_cont {t : Tg} {g : Sta → Fl} {d : D} {ds : List D} {s s' : Sta} {env : List Slot} (h1 : t.bind d s.env = some env) (h2 : g { s with env := env } = .cont s') : loopL t g (d :: ds) s = loopL t g ds s' := by
  rw [loopL, h1]
  simp only [h2]
theorem m_rs_at {b : List Wd} (hg : GBk b) {ss : List (List Int)} {a : Nat} {q : Rk} (h : RI b ss q) (ha : a ≤ ss.length) {n : Nat} (hl : RL q n) (hn : n ≤ 80000) (x4 x5 x6 : Slot) : ∃ y4 y5 y6, RL (rsA b ss a q) (n + 20) ∧
    (lp_read_strokes_2 (rdS b ss q (.v (.int (a : Int))) x4 x5 x6) = .nx (rdS b ss (rsA b ss a q) (.v (.int (a : Int))) y4 y5 y6) ∨ lp_read_strokes_2 (rdS b ss q (.v (.int (a : Int))) x4 x5 x6) = .cont (rdS b ss (rsA b ss a q) (.v (.int (a : Int))) y4 y5 y6)) := by
  have hlt : a < q.2.length := by rw [h.len]; omega
  have hb20 := hg.len.2
  have hbl : (b.map wdD).length ≤ 20 := by rw [List.length_map]; exact hb20
  unfold rsA
  cases ho : q.2[a] with
  | none =>
    have hgd : q.2.getD a none = none := by rw [List.getD_eq_getElem?_getD, List.getElem?_eq_getElem hlt, ho]; rfl
    have h1 := pl_ix (show q.2[a]? = some none by rw [List.getElem?_eq_getElem hlt, ho])
    have e1 : plD none = .none := rfl
    rw [e1] at h1
    rw [if_pos hgd]
    refine ⟨x4, x5, x6, fun row hr => by have := hl row hr; omega, .inr ?_⟩
    clear ho hgd
    unfold lp_read_strokes_2 rdS
    generalize q.1.map bxR = st at *
    generalize q.2.map plD = P at *
    generalize stD2 ss = sd at *
    generalize bkD2 b = bd at *
    generalize ((a : Nat) : Int) = ai at *
    simp (disch := (first | assumption | with_reducible rfl | decide +kernel | exact Or.inl (by decide +kernel) | exact Or.inr (by decide +kernel) | omega | (simp only [List.length_cons, List.length_nil, List.length_append, List.length_map, List.length_replicate, List.length_range] <;> omega) | rfl)) only [evEqs, List.getElem?_cons_zero, List.getElem?_cons_succ, List.getElem?_nil, List.set_cons_zero, List.set_cons_succ, List.map_cons, List.map_nil, List.length_cons, List.length_nil, List.length_append, List.cons_append, List.nil_append, List.length_map, List.length_singleton, Nat.reduceBEq, Nat.reduceAdd, Nat.reduceSub, Nat.reduceMul, Nat.reduceEqDiff, Nat.reduceLeDiff, Nat.reduceLT, if_false, if_true, ite_true, ite_false, ↓reduceIte, Bool.not_true, Bool.not_false, Bool.false_eq_true, decide_true, decide_false, eq_self, and_true, true_and, and_self, Nat.zero_le, Nat.zero_add, Option.bind_some, Option.bind_none, Nat.lt_irrefl, Int.reduceToNat, Int.reducePow, Int.reduceNeg, Int.reduceMul, Int.reduceAdd, Int.reduceSub, Int.reduceLT, Int.reduceLE, Int.reduceEq, beq_self_eq_true, wipeE, MP.at0, MP.at1, MP.at2, MP.atLit, h1]
  | some j =>
    have hj : q.2[a]? = some (some j) := by rw [List.getElem?_eq_getElem hlt, ho]
    have hgd : q.2.getD a none ≠ none := by rw [List.getD_eq_getElem?_getD, hj]; simp
    have h1 := pl_ix hj
    have e1 : plD (some j) = .obj j := rfl
    rw [e1] at h1
    rw [if_neg hgd]
    have hnn : D.isNone (.obj j) = false := rfl
    obtain ⟨y4, y5, y6, hr, hL⟩ := m_rs_in hg.ne (ss := ss) (a := a) b q n x4 x5 x6 (fun w hw => hw) h ⟨j, hj⟩ hl (by omega)
    refine ⟨y4, y5, y6, fun row hr => by have := hL row hr; omega, .inl ?_⟩
    clear ho hgd hL
    unfold lp_read_strokes_2
    generalize rsB ss a b q = q' at *
    unfold rdS bkD2 at *
    generalize q'.1.map bxR = st' at *
    generalize q'.2.map plD = P' at *
    generalize q.1.map bxR = st at *
    generalize q.2.map plD = P at *
    generalize stD2 ss = sd at *
    generalize b.map wdD = bl at *
    generalize ((a : Nat) : Int) = ai at *
    simp (disch := (first | assumption | with_reducible rfl | decide +kernel | exact Or.inl (by decide +kernel) | exact Or.inr (by decide +kernel) | omega | (simp only [List.length_cons, List.length_nil, List.length_append, List.length_map, List.length_replicate, List.length_range] <;> omega) | rfl)) only [evEqs, List.getElem?_cons_zero, List.getElem?_cons_succ, List.getElem?_nil, List.set_cons_zero, List.set_cons_succ, List.map_cons, List.map_nil, List.length_cons, List.length_nil, List.length_append, List.cons_append, List.nil_append, List.length_map, List.length_singleton, Nat.reduceBEq, Nat.reduceAdd, Nat.reduceSub, Nat.reduceMul, Nat.reduceEqDiff, Nat.reduceLeDiff, Nat.reduceLT, if_false, if_true, ite_true, ite_false, ↓reduceIte, Bool.not_true, Bool.not_false, Bool.false_eq_true, decide_true, decide_false, eq_self, and_true, true_and, and_self, Nat.zero_le, Nat.zero_add, Option.bind_some, Option.bind_none, Nat.lt_irrefl, Int.reduceToNat, Int.reducePow, Int.reduceNeg, Int.reduceMul, Int.reduceAdd, Int.reduceSub, Int.reduceLT, Int.reduceLE, Int.reduceEq, beq_self_eq_true, wipeE, MP.at0, MP.at1, MP.at2, MP.atLit, h1, hnn, hr]
theorem m_rs_out {b : List Wd} (hg : GBk b) {ss : List (List Int)} : ∀ (l : List Nat) (q : Rk) (n : Nat) (x3 x4 x5 x6 : Slot), (∀ a ∈ l, a ≤ ss.length) → RI b ss q → (∀ (pre : List Nat) (a : Nat), True) → RL q n → n + 20 * l.length ≤ 70000 →
    (∀ k a, l[k]? = some a → RI b ss (rsN b ss (l.take k) q)) → ∃ y3 y4 y5 y6,
    loopL (.nm 3) lp_read_strokes_2 (l.map fun a : Nat => D.int (a : Int)) (rdS b ss q x3 x4 x5 x6) = .nx (rdS b ss (rsN b ss l q) y3 y4 y5 y6)
  | [], q, n, x3, x4, x5, x6, _, _, _, _, _, _ => ⟨x3, x4, x5, x6, rfl⟩
  | a :: l, q, n, x3, x4, x5, x6, ha, h, ht, hl, hn, hI => by
    rw [List.length_cons] at hn
    obtain ⟨y4, y5, y6, hL, hr⟩ := m_rs_at hg h (ha a (List.mem_cons_self ..)) hl (by omega) x4 x5 x6
    have hstep : ∃ y3 y4 y5 y6, loopL (.nm 3) lp_read_strokes_2 (l.map fun a : Nat => D.int (a : Int)) (rdS b ss (rsA b ss a q) (.v (.int (a : Int))) (y4 : Slot) (y5 : Slot) (y6 : Slot)) = .nx (rdS b ss (rsN b ss (a :: l) q) y3 y4 y5 y6) → True := ⟨x3, y4, y5, y6, fun _ => trivial⟩
    cases l with
    | nil =>
      refine ⟨.v (.int (a : Int)), y4, y5, y6, ?_⟩
      rw [List.map_singleton]
      rcases hr with hr | hr
      · unfold rdS at hr ⊢
        rw [loop_one (b_nm ..) hr]; rfl
      · unfold rdS at hr ⊢
        rw [loop_cont (b_nm ..) hr]; rfl
    | cons a2 l =>
      have h1 : RI b ss (rsA b ss a q) := hI 1 a2 rfl
      obtain ⟨z3, z4, z5, z6, hz⟩ := m_rs_out hg (a2 :: l) (rsA b ss a q) (n + 20) (.v (.int (a : Int))) y4 y5 y6 (fun x hx => ha x (List.mem_cons_of_mem _ hx)) h1 ht hL (by omega) (fun k a' hk => hI (k + 1) a' hk)
      refine ⟨z3, z4, z5, z6, ?_⟩
      rw [List.map_cons]
      rcases hr with hr | hr
      · unfold rdS at hr hz ⊢
        rw [loop_one (b_nm ..) hr]
        exact hz
      · unfold rdS at hr hz ⊢
        rw [loop_cont (b_nm ..) hr]
        exact hz
theorem rep_times (d : D) (n : Nat) (h : n ≤ 1000) : gTimes (.list [d]) (.int (n : Int)) = some ⟨.fr, .list (List.replicate n d)⟩ := by
  have h0 : gMul (.list [d]) (.int (n : Int)) = none := rfl
  have h2 : ((n : Int)).toNat = n := by omega
  unfold gTimes
  rw [h0, Option.none_or]
  unfold gRepL
  simp only []
  rw [h2, if_pos ⟨by omega, by rw [List.length_singleton]; omega, by omega⟩]
  congr 3
  clear h0 h2 h
  induction n with
  | zero => rfl
  | succ n ih => rw [List.replicate_succ, List.flatten_cons, ih, List.replicate_succ]; rfl
/-- what it tells -/
theorem m_read {b : List Wd} (hg : GBk b) {ss : List (List Int)} (hl : ss.length ≤ 900) : (∃ row st, (∀ w ∈ row, w ∈ b) ∧ wst row = ss ∧ sem_read_strokes [bkD2 b, stD2 ss] [] = .ok (.own (.list (row.map nmD))) st) ∨
    (¬ Wrt b ss ∧ ∃ st, sem_read_strokes [bkD2 b, stD2 ss] [] = .ok (.v .none) st) := by
  have hI : ∀ k a, (List.range ss.length)[k]? = some a → RI b ss (rsN b ss ((List.range ss.length).take k) (rs0 ss.length)) := by
    intro k a hk
    have hlt : k < ss.length := by
      have := (List.getElem?_eq_some_iff.mp hk).1
      rw [List.length_range] at this
      exact this
    rw [List.take_range, Nat.min_eq_left (by omega)]
    exact (rsN_ok hg.ne k (by omega)).1
  have h0 := (rsN_ok hg.ne (ss := ss) 0 (Nat.zero_le _)).1
  have h0 : RI b ss (rs0 ss.length) := h0
  obtain ⟨y3, y4, y5, y6, hloop⟩ := m_rs_out hg (List.range ss.length) (rs0 ss.length) 0 .un .un .un .un (fun a ha => Nat.le_of_lt (List.mem_range.mp ha)) h0 (fun _ _ => trivial) (fun row hr => by
    have hr : row ∈ [([] : List Wd)] := hr
    rw [List.mem_singleton.mp hr]; exact Nat.le_refl _) (by rw [List.length_range]; omega) hI
  have hend := rs_end hg.ne (b := b) ss
  rw [← rng_0] at hloop
  have hsl : (ss.map stD).length = ss.length := List.length_map ..
  have hrep : gTimes (.list [.none]) (.int ((ss.length : Nat) + 1 : Int)) = some ⟨.fr, .list (List.replicate (ss.length + 1) .none)⟩ := by
    have e : ((ss.length : Nat) : Int) + 1 = ((ss.length + 1 : Nat) : Int) := by omega
    rw [e]
    exact rep_times .none (ss.length + 1) (by omega)
  have hP0 : (List.replicate (ss.length + 1) D.none).set 0 (.obj 0) = ((rs0 ss.length).2).map plD := by
    unfold rs0
    rw [List.map_set, List.map_replicate]
    rfl
  have hN0 : L2.ixN (List.replicate (ss.length + 1) D.none).length 0 = some 0 := by
    have := ixN_nat (n := (List.replicate (ss.length + 1) D.none).length) (i := 0) (by simp)
    exact this
  have hst0 : (rs0 ss.length).1.map bxR = [⟨boxC, [(0, .own (.list []))]⟩] := rfl
  have hb1 : (ss.length : Int) < 4611686018427387904 := by omega
  have hrl : (rng 0 ((ss.length : Nat) : Int)).length ≤ 900 := by rw [rng_len]; exact hl
  generalize hq : rsN b ss (List.range ss.length) (rs0 ss.length) = q at *
  have run : ∀ (fr : Fr), (st_read_strokes_4 (rdS b ss q y3 y4 y5 y6)).fr = fr → sem_read_strokes [bkD2 b, stD2 ss] [] = fr := by
    intro fr hfr
    unfold sem_read_strokes
    refine run_ex (Q := fun r => r = fr) [.v (bkD2 b), .v (stD2 ss), .un, .un, .un, .un, .un] rfl ?_
    unfold b_read_strokes
    refine sqR (s' := ⟨[.v (bkD2 b), .v (stD2 ss), .own (.list (List.replicate (ss.length + 1) D.none)), .un, .un, .un, .un], []⟩) (by
      unfold st_read_strokes_1
      unfold stD2
      clear hfr hloop hend hI h0 hq hP0 hN0
      generalize List.replicate (ss.length + 1) D.none = rl at *
      generalize ss.map stD = sd at *
      generalize bkD2 b = bd at *
      simp (disch := (first | assumption | with_reducible rfl | decide +kernel | exact Or.inl (by decide +kernel) | exact Or.inr (by decide +kernel) | omega | (simp only [List.length_cons, List.length_nil, List.length_append, List.length_map, List.length_replicate, List.length_range] <;> omega) | rfl)) only [evEqs, List.getElem?_cons_zero, List.getElem?_cons_succ, List.getElem?_nil, List.set_cons_zero, List.set_cons_succ, List.map_cons, List.map_nil, List.length_cons, List.length_nil, List.length_append, List.cons_append, List.nil_append, List.length_map, List.length_singleton, Nat.reduceBEq, Nat.reduceAdd, Nat.reduceSub, Nat.reduceMul, Nat.reduceEqDiff, Nat.reduceLeDiff, Nat.reduceLT, if_false, if_true, ite_true, ite_false, ↓reduceIte, Bool.not_true, Bool.not_false, Bool.false_eq_true, decide_true, decide_false, eq_self, and_true, true_and, and_self, Nat.zero_le, Nat.zero_add, Option.bind_some, Option.bind_none, Nat.lt_irrefl, Int.reduceToNat, Int.reducePow, Int.reduceNeg, Int.reduceMul, Int.reduceAdd, Int.reduceSub, Int.reduceLT, Int.reduceLE, Int.reduceEq, beq_self_eq_true, wipeE, MP.at0, MP.at1, MP.at2, MP.atLit, hsl, hrep]) ?_
    refine sqR (s' := rdS b ss (rs0 ss.length) .un .un .un .un) (by
      unfold rdS
      rw [← hP0, hst0]
      unfold st_read_strokes_2
      clear hfr hloop hend hI h0 hq hP0 hrep
      generalize List.replicate (ss.length + 1) D.none = rl at *
      generalize stD2 ss = sd at *
      generalize bkD2 b = bd at *
      simp (disch := (first | assumption | with_reducible rfl | decide +kernel | exact Or.inl (by decide +kernel) | exact Or.inr (by decide +kernel) | omega | (simp only [List.length_cons, List.length_nil, List.length_append, List.length_map, List.length_replicate, List.length_range] <;> omega) | rfl)) only [evEqs, List.getElem?_cons_zero, List.getElem?_cons_succ, List.getElem?_nil, List.set_cons_zero, List.set_cons_succ, List.map_cons, List.map_nil, List.length_cons, List.length_nil, List.length_append, List.cons_append, List.nil_append, List.length_map, List.length_singleton, Nat.reduceBEq, Nat.reduceAdd, Nat.reduceSub, Nat.reduceMul, Nat.reduceEqDiff, Nat.reduceLeDiff, Nat.reduceLT, if_false, if_true, ite_true, ite_false, ↓reduceIte, Bool.not_true, Bool.not_false, Bool.false_eq_true, decide_true, decide_false, eq_self, and_true, true_and, and_self, Nat.zero_le, Nat.zero_add, Option.bind_some, Option.bind_none, Nat.lt_irrefl, Int.reduceToNat, Int.reducePow, Int.reduceNeg, Int.reduceMul, Int.reduceAdd, Int.reduceSub, Int.reduceLT, Int.reduceLE, Int.reduceEq, beq_self_eq_true, wipeE, MP.at0, MP.at1, MP.at2, MP.atLit, hN0]) ?_
    refine sqR (s' := rdS b ss q y3 y4 y5 y6) (by
      unfold st_read_strokes_3
      clear hfr hend hI h0 hq hP0 hrep hN0
      unfold rdS at *
      unfold stD2 at *
      generalize (rs0 ss.length).1.map bxR = s0 at *
      generalize (rs0 ss.length).2.map plD = p0 at *
      generalize q.1.map bxR = s1 at *
      generalize q.2.map plD = p1 at *
      generalize ss.map stD = sd at *
      generalize bkD2 b = bd at *
      simp (disch := (first | assumption | with_reducible rfl | decide +kernel | exact Or.inl (by decide +kernel) | exact Or.inr (by decide +kernel) | omega | (simp only [List.length_cons, List.length_nil, List.length_append, List.length_map, List.length_replicate, List.length_range] <;> omega) | rfl)) only [evEqs, List.getElem?_cons_zero, List.getElem?_cons_succ, List.getElem?_nil, List.set_cons_zero, List.set_cons_succ, List.map_cons, List.map_nil, List.length_cons, List.length_nil, List.length_append, List.cons_append, List.nil_append, List.length_map, List.length_singleton, Nat.reduceBEq, Nat.reduceAdd, Nat.reduceSub, Nat.reduceMul, Nat.reduceEqDiff, Nat.reduceLeDiff, Nat.reduceLT, if_false, if_true, ite_true, ite_false, ↓reduceIte, Bool.not_true, Bool.not_false, Bool.false_eq_true, decide_true, decide_false, eq_self, and_true, true_and, and_self, Nat.zero_le, Nat.zero_add, Option.bind_some, Option.bind_none, Nat.lt_irrefl, Int.reduceToNat, Int.reducePow, Int.reduceNeg, Int.reduceMul, Int.reduceAdd, Int.reduceSub, Int.reduceLT, Int.reduceLE, Int.reduceEq, beq_self_eq_true, wipeE, MP.at0, MP.at1, MP.at2, MP.atLit, hsl, hloop]) ?_
    exact hfr
  clear hloop hI h0 hP0 hrep hN0 hst0 hq
  rcases hend with ⟨j, row, e1, e2, r1, r2⟩ | ⟨e1, r2⟩
  · have hx := pl_ix e1
    have ej : plD (some j) = .obj j := rfl
    rw [ej] at hx
    have hob : owO boxC 0 (q.1.map bxR)[j]? = some (.list (row.map nmD)) := by
      rw [List.getElem?_map, e2]; rfl
    refine .inl ⟨row, putB 0 .un (q.1.map bxR) j (q.1.map bxR)[j]?, r1, r2, run _ ?_⟩
    clear run e1 e2
    unfold st_read_strokes_4 rdS
    unfold stD2
    generalize row.map nmD = rw' at *
    generalize hm : q.1.map bxR = st at *
    generalize q.2.map plD = P at *
    generalize ss.map stD = sd at *
    generalize bkD2 b = bd at *
    simp (disch := (first | assumption | with_reducible rfl | decide +kernel | exact Or.inl (by decide +kernel) | exact Or.inr (by decide +kernel) | omega | (simp only [List.length_cons, List.length_nil, List.length_append, List.length_map, List.length_replicate, List.length_range] <;> omega) | rfl)) only [evEqs, List.getElem?_cons_zero, List.getElem?_cons_succ, List.getElem?_nil, List.set_cons_zero, List.set_cons_succ, List.map_cons, List.map_nil, List.length_cons, List.length_nil, List.length_append, List.cons_append, List.nil_append, List.length_map, List.length_singleton, Nat.reduceBEq, Nat.reduceAdd, Nat.reduceSub, Nat.reduceMul, Nat.reduceEqDiff, Nat.reduceLeDiff, Nat.reduceLT, if_false, if_true, ite_true, ite_false, ↓reduceIte, Bool.not_true, Bool.not_false, Bool.false_eq_true, decide_true, decide_false, eq_self, and_true, true_and, and_self, Nat.zero_le, Nat.zero_add, Option.bind_some, Option.bind_none, Nat.lt_irrefl, Int.reduceToNat, Int.reducePow, Int.reduceNeg, Int.reduceMul, Int.reduceAdd, Int.reduceSub, Int.reduceLT, Int.reduceLE, Int.reduceEq, beq_self_eq_true, wipeE, MP.at0, MP.at1, MP.at2, MP.atLit, hsl, hx, hob]
  · have hx := pl_ix e1
    have ej : plD none = .none := rfl
    rw [ej] at hx
    refine .inr ⟨r2, q.1.map bxR, run _ ?_⟩
    clear run e1
    unfold st_read_strokes_4 rdS
    unfold stD2
    generalize q.1.map bxR = st at *
    generalize q.2.map plD = P at *
    generalize ss.map stD = sd at *
    generalize bkD2 b = bd at *
    simp (disch := (first | assumption | with_reducible rfl | decide +kernel | exact Or.inl (by decide +kernel) | exact Or.inr (by decide +kernel) | omega | (simp only [List.length_cons, List.length_nil, List.length_append, List.length_map, List.length_replicate, List.length_range] <;> omega) | rfl)) only [evEqs, List.getElem?_cons_zero, List.getElem?_cons_succ, List.getElem?_nil, List.set_cons_zero, List.set_cons_succ, List.map_cons, List.map_nil, List.length_cons, List.length_nil, List.length_append, List.cons_append, List.nil_append, List.length_map, List.length_singleton, Nat.reduceBEq, Nat.reduceAdd, Nat.reduceSub, Nat.reduceMul, Nat.reduceEqDiff, Nat.reduceLeDiff, Nat.reduceLT, if_false, if_true, ite_true, ite_false, ↓reduceIte, Bool.not_true, Bool.not_false, Bool.false_eq_true, decide_true, decide_false, eq_self, and_true, true_and, and_self, Nat.zero_le, Nat.zero_add, Option.bind_some, Option.bind_none, Nat.lt_irrefl, Int.reduceToNat, Int.reducePow, Int.reduceNeg, Int.reduceMul, Int.reduceAdd, Int.reduceSub, Int.reduceLT, Int.reduceLE, Int.reduceEq, beq_self_eq_true, wipeE, MP.at0, MP.at1, MP.at2, MP.atLit, hsl, hx]

theorem in_nms (w : Wd) (b : List Wd) : gIn (nmD w) (.list (b.map nmD)) = some ⟨.sh, .bool (decide (w.1 ∈ b.map (·.1)))⟩ := by
  have e : b.map nmD = ((b.map (·.1)).map sw).map D.str := by rw [List.map_map, List.map_map]; rfl
  rw [e]
  show gIn (.str (sw w.1)) _ = _
  rw [in_strs]
  have : decide (sw w.1 ∈ (b.map (·.1)).map sw) = decide (w.1 ∈ b.map (·.1)) := by
    refine decide_eq_decide.mpr ?_
    rw [List.mem_map]
    constructor
    · rintro ⟨x, h1, h2⟩
      exact sw_inj h2 ▸ h1
    · exact fun h => ⟨w.1, h, rfl⟩
  rw [this]
theorem isS (s : Str) : isiB "str" (.str s) = some true := by
  unfold isiB tyN
  rw [Option.bind_some, if_pos rfl]
theorem isT (ds : List D) : isiB "tuple" (.tup ds) = some true := by
  unfold isiB tyN
  rw [Option.bind_some, if_pos rfl]
theorem isL (ds : List D) : isiB "list" (.list ds) = some true := by
  unfold isiB tyN
  rw [Option.bind_some, if_pos rfl]
theorem all_true (n : Nat) : (List.replicate n true).all id = true := by
  rw [List.all_eq_true]
  intro x hx
  rw [(List.mem_replicate.mp hx).2]; rfl
theorem m_row {b : List Wd} (hg : GBk b) {row : List Wd} (hr : ∀ w ∈ row, w ∈ b) (hl : row.length ≤ 1000) : sem_l_row [.list (row.map nmD), bkD2 b] [] = .ok (.v (.bool true)) [] := by
  have hb20 : (b.map wdD).length ≤ 20 := by rw [List.length_map]; exact hg.len.2
  have hcl : (b.map nmD).length ≤ 20 := by rw [List.length_map]; exact hg.len.2
  have hc : compL (.nm 2) pYes (pD (pAndV (pIsi "str" (pVar 2)) (p2 gIn (pVar 2) (pComp (pSeqR (pVar 1)) (.tp [3, 4]) [3, 4] (pYes) (pD (pVar 3)))))) ⟨[.v (.list (row.map nmD)), .v (bkD2 b), .un, .un, .un], []⟩ (row.map nmD) = .ok ((List.replicate row.length true).map D.bool) := by
    have e : (List.replicate row.length true).map D.bool = row.map fun _ => D.bool true := by
      rw [List.map_replicate, List.map_const']
    rw [e]
    refine compA nmD (fun _ => D.bool true) row fun w hw => ⟨_, b_nm .., ?_⟩
    have hi := in_nms w b
    rw [decide_eq_true (List.mem_map.mpr ⟨w, hr w hw, rfl⟩)] at hi
    have hs : isiB "str" (nmD w) = some true := isS _
    have hin : compL (.tp [3, 4]) pYes (pD (pVar 3)) ⟨[.v (.list (row.map nmD)), .v (bkD2 b), .v (nmD w), .un, .un], []⟩ (b.map wdD) = .ok (b.map nmD) := by
      refine compA wdD nmD b fun o _ => ⟨_, b_tp2 .., ?_⟩
      unfold nmD
      generalize stD2 o.2 = od
      generalize row.map _ = rd
      generalize bkD2 b = bd
      simp (disch := (first | assumption | with_reducible rfl | decide +kernel | exact Or.inl (by decide +kernel) | exact Or.inr (by decide +kernel) | omega | (simp only [List.length_cons, List.length_nil, List.length_append, List.length_map, List.length_replicate, List.length_range] <;> omega) | rfl)) only [evEqs, List.getElem?_cons_zero, List.getElem?_cons_succ, List.getElem?_nil, List.set_cons_zero, List.set_cons_succ, List.map_cons, List.map_nil, List.length_cons, List.length_nil, List.length_append, List.cons_append, List.nil_append, List.length_map, List.length_singleton, Nat.reduceBEq, Nat.reduceAdd, Nat.reduceSub, Nat.reduceMul, Nat.reduceEqDiff, Nat.reduceLeDiff, Nat.reduceLT, if_false, if_true, ite_true, ite_false, ↓reduceIte, Bool.not_true, Bool.not_false, Bool.false_eq_true, decide_true, decide_false, eq_self, and_true, true_and, and_self, Nat.zero_le, Nat.zero_add, Option.bind_some, Option.bind_none, Nat.lt_irrefl, Int.reduceToNat, Int.reducePow, Int.reduceNeg, Int.reduceMul, Int.reduceAdd, Int.reduceSub, Int.reduceLT, Int.reduceLE, Int.reduceEq, beq_self_eq_true, wipeE, MP.at0, MP.at1, MP.at2, MP.atLit]
    unfold bkD2 at *
    generalize nmD w = nw at *
    generalize row.map nmD = rd at *
    generalize b.map nmD = bn at *
    generalize b.map wdD = bd at *
    simp (disch := (first | assumption | with_reducible rfl | decide +kernel | exact Or.inl (by decide +kernel) | exact Or.inr (by decide +kernel) | omega | (simp only [List.length_cons, List.length_nil, List.length_append, List.length_map, List.length_replicate, List.length_range] <;> omega) | rfl)) only [evEqs, List.getElem?_cons_zero, List.getElem?_cons_succ, List.getElem?_nil, List.set_cons_zero, List.set_cons_succ, List.map_cons, List.map_nil, List.length_cons, List.length_nil, List.length_append, List.cons_append, List.nil_append, List.length_map, List.length_singleton, Nat.reduceBEq, Nat.reduceAdd, Nat.reduceSub, Nat.reduceMul, Nat.reduceEqDiff, Nat.reduceLeDiff, Nat.reduceLT, if_false, if_true, ite_true, ite_false, ↓reduceIte, Bool.not_true, Bool.not_false, Bool.false_eq_true, decide_true, decide_false, eq_self, and_true, true_and, and_self, Nat.zero_le, Nat.zero_add, Option.bind_some, Option.bind_none, Nat.lt_irrefl, Int.reduceToNat, Int.reducePow, Int.reduceNeg, Int.reduceMul, Int.reduceAdd, Int.reduceSub, Int.reduceLT, Int.reduceLE, Int.reduceEq, beq_self_eq_true, wipeE, MP.at0, MP.at1, MP.at2, MP.atLit, hin, hi, hs]
  have hall := g_allB (List.replicate row.length true)
  rw [all_true] at hall
  have hrl : (row.map nmD).length ≤ 1000 := by rw [List.length_map]; exact hl
  have hbl : ((List.replicate row.length true).map D.bool).length ≤ 1000 := by rw [List.length_map, List.length_replicate]; exact hl
  have hil := isL (row.map nmD)
  unfold sem_l_row
  refine run_ex (Q := fun x => x = .ok _ []) [.v (.list (row.map nmD)), .v (bkD2 b), .un, .un, .un] rfl ?_
  unfold b_l_row st_l_row_1 st_l_row_2
  generalize (List.replicate row.length true).map D.bool = bs at *
  generalize row.map nmD = rd at *
  generalize bkD2 b = bd at *
  simp (disch := (first | assumption | with_reducible rfl | decide +kernel | exact Or.inl (by decide +kernel) | exact Or.inr (by decide +kernel) | omega | (simp only [List.length_cons, List.length_nil, List.length_append, List.length_map, List.length_replicate, List.length_range] <;> omega) | rfl)) only [evEqs, List.getElem?_cons_zero, List.getElem?_cons_succ, List.getElem?_nil, List.set_cons_zero, List.set_cons_succ, List.map_cons, List.map_nil, List.length_cons, List.length_nil, List.length_append, List.cons_append, List.nil_append, List.length_map, List.length_singleton, Nat.reduceBEq, Nat.reduceAdd, Nat.reduceSub, Nat.reduceMul, Nat.reduceEqDiff, Nat.reduceLeDiff, Nat.reduceLT, if_false, if_true, ite_true, ite_false, ↓reduceIte, Bool.not_true, Bool.not_false, Bool.false_eq_true, decide_true, decide_false, eq_self, and_true, true_and, and_self, Nat.zero_le, Nat.zero_add, Option.bind_some, Option.bind_none, Nat.lt_irrefl, Int.reduceToNat, Int.reducePow, Int.reduceNeg, Int.reduceMul, Int.reduceAdd, Int.reduceSub, Int.reduceLT, Int.reduceLE, Int.reduceEq, beq_self_eq_true, wipeE, MP.at0, MP.at1, MP.at2, MP.atLit, hil, hc, hall]
theorem ints_noObj : ∀ l : List Int, noObjs (l.map D.int) = true
  | [] => rfl
  | a :: l => by
    rw [List.map_cons]
    show (true && noObjs (l.map D.int)) = true
    rw [ints_noObj l]; rfl
theorem stks_noObj : ∀ l : List (List Int), noObjs (l.map stD) = true
  | [] => rfl
  | a :: l => by
    rw [List.map_cons]
    show (noObjs (a.map D.int) && noObjs (l.map stD)) = true
    rw [ints_noObj, stks_noObj l]; rfl
theorem bk_noObj : ∀ b : List Wd, noObjs (b.map wdD) = true
  | [] => rfl
  | w :: b => by
    rw [List.map_cons]
    show ((true && (noObjs (w.2.map stD) && true)) && noObjs (b.map wdD)) = true
    rw [stks_noObj, bk_noObj b]; rfl
theorem stk_cold (s : List Int) : coldD (stD s) = true := by
  unfold stD
  rw [coldD]
  exact cold_map (fun a => by rw [coldD]) s
theorem stks_cold (ss : List (List Int)) : coldD (stD2 ss) = true := by
  unfold stD2
  rw [coldD]
  exact cold_map stk_cold ss
theorem f_nd3 {env : List Slot} {st : List Ob} {k : RK} {ds : List D} {ps : List (NestedKey × D × D)} (h : prsOf ds = some ps) : xNdDictR ⟨env, st⟩ (.ok ⟨k, .list ds⟩) = .ok (.v (.obj st.length)) ⟨env, st ++ [ndOb (ndMerge [] ps)]⟩ := by
  show xNdDict ⟨env, st⟩ ((some ds).bind prsOf) = _
  rw [Option.bind_some, h]
  rfl
/-- the prices, as a dict -/
def kdP (k : List Way) : List (D × D) := k.map fun y => (stD2 y.rest, .int (y.price : Nat))
def triP (y : Way) : NestedKey × D × D := (kyR y.rest, stD2 y.rest, .int (y.price : Nat))
theorem kd_val {r : List (List Int)} : ∀ {k : List Way}, ndVal (kdP k) (kyR r) = (kat k r).map fun y => D.int (y.price : Nat)
  | [] => rfl
  | y :: k => by
    have ih := kd_val (r := r) (k := k)
    unfold ndVal kdP kat at *
    rw [List.map_cons, List.find?_cons, List.find?_cons]
    dsimp only
    have e := kyR_is (r := y.rest) (t := r) (fun _ _ => trivial) (fun _ _ => trivial)
    simp only [e]
    by_cases c : y.rest = r
    · rw [decide_eq_true c]; rfl
    · rw [decide_eq_false c]; exact ih
theorem kd_merge : ∀ (todo done : List Way), ((done ++ todo).map Way.rest).Nodup → ndMerge (kdP done) (todo.map triP) = kdP (done ++ todo)
  | [], done, _ => by rw [List.append_nil]; rfl
  | y :: todo, done, h => by
    have hk : kat done y.rest = none := by
      cases q : kat done y.rest with
      | none => rfl
      | some z =>
        obtain ⟨z1, z2⟩ := kat_some q
        rw [List.map_append, List.nodup_append] at h
        exact absurd z2 (h.2.2 _ (List.mem_map.mpr ⟨z, z1, rfl⟩) _ (List.mem_map.mpr ⟨y, List.mem_cons_self .., rfl⟩))
    have e : ndPut (kdP done) (stD2 y.rest) (.int (y.price : Nat)) (kyR y.rest) = kdP (done ++ [y]) := by
      unfold ndPut
      rw [kd_val, hk, if_neg (by simp)]
      unfold kdP
      rw [List.map_append]; rfl
    rw [List.map_cons]
    show ndMerge (ndPut (kdP done) (stD2 y.rest) (.int (y.price : Nat)) (kyR y.rest)) (todo.map triP) = _
    rw [e, kd_merge todo (done ++ [y]) (by rw [List.append_assoc]; exact h), List.append_assoc]
    rfl
theorem prs_rp : ∀ k : List Way, prsOf (k.map rpD) = some (k.map triP)
  | [] => rfl
  | y :: k => by
    have hp : prOf (rpD y) = some (triP y) := by
      show (keyN (stD2 y.rest)).map _ = _
      rw [kyR_ok]; rfl
    rw [List.map_cons, prsOf, hp, prs_rp k]
    rfl

theorem rps_noObj : ∀ k : List Way, noObjs (k.map rpD) = true
  | [] => rfl
  | y :: k => by
    rw [List.map_cons]
    show ((noObjs (y.rest.map stD) && (true && true)) && noObjs (k.map rpD)) = true
    rw [stks_noObj, rps_noObj k]; rfl
/-- its rows begin with words of unlike names -/
def Hd2 (y : Way) : Prop := ∃ a as c cs, y.lo = a :: as ∧ y.sh = c :: cs ∧ a.1 ≠ c.1
structure W2 (b : List Wd) (y : Way) : Prop where
  ok : WOk b y
  hd : Hd2 y
theorem firsts_2 (b : List Wd) : ∀ y ∈ firsts b, W2 b y := by
  intro y hy
  refine ⟨firsts_ok b y hy, ?_⟩
  obtain ⟨w, hw, hy⟩ := List.mem_flatMap.mp hy
  obtain ⟨o, ho, rfl⟩ := List.mem_map.mp hy
  obtain ⟨ho1, ho2⟩ := List.mem_filter.mp ho
  rw [Bool.and_eq_true] at ho2
  exact ⟨o, [], w, [], rfl, rfl, fun e => (of_decide_eq_true ho2.1) e.symm⟩
theorem nexts_2 {b : List Wd} {y : Way} (h : W2 b y) : ∀ z ∈ nexts b y, W2 b z := by
  intro z hz
  refine ⟨nexts_ok h.ok z hz, ?_⟩
  obtain ⟨a, as, c, cs, e1, e2, hne⟩ := h.hd
  obtain ⟨w, hw, hz⟩ := List.mem_flatMap.mp hz
  unfold nextW at hz
  by_cases c1 : pre w.2 y.rest = true
  · rw [if_pos c1] at hz
    rw [List.mem_singleton.mp hz]
    exact ⟨a, as, c, cs ++ [w], e1, by show y.sh ++ [w] = _; rw [e2]; rfl, hne⟩
  · rw [if_neg c1] at hz
    by_cases c2 : pre y.rest w.2 = true
    · rw [if_pos c2] at hz
      rw [List.mem_singleton.mp hz]
      exact ⟨c, cs ++ [w], a, as, by show y.sh ++ [w] = _; rw [e2]; rfl, e1, fun e => hne e.symm⟩
    · rw [if_neg c2] at hz; cases hz
def WA (b : List Wd) (k l : List Way) : Prop := (∀ y ∈ k, W2 b y) ∧ ∀ y ∈ l, W2 b y
theorem WA.step {b : List Wd} {k later ahead : List Way} {y : Way} (h : WA b k (y :: ahead ++ later)) : WA b (acc b (k, later) y).1 (ahead ++ (acc b (k, later) y).2) := by
  have hy := h.2 y (by simp)
  unfold acc
  dsimp only
  by_cases c : better k y = true
  · rw [if_pos c]
    dsimp only
    refine ⟨fun z hz => ?_, fun z hz => ?_⟩
    · rcases mem_kput hz with rfl | ⟨hz, _⟩
      · exact hy
      · exact h.1 z hz
    · rcases List.mem_append.mp hz with hz | hz
      · exact h.2 z (by simp [hz])
      · by_cases c0 : 0 < y.rest.length
        · rw [if_pos c0] at hz
          rcases List.mem_append.mp hz with hz | hz
          · exact h.2 z (by simp [hz])
          · exact nexts_2 hy z hz
        · rw [if_neg c0] at hz
          exact h.2 z (by simp [hz])
  · rw [if_neg c]
    exact ⟨h.1, fun z hz => h.2 z (by rw [List.cons_append]; exact List.mem_cons_of_mem _ hz)⟩
theorem WA.fold {b : List Wd} : ∀ (ahead : List Way) (k later : List Way), WA b k (ahead ++ later) → WA b (ahead.foldl (acc b) (k, later)).1 (ahead.foldl (acc b) (k, later)).2
  | [], k, later, h => h
  | y :: ahead, k, later, h => by
    have h2 := h.step
    rw [List.foldl_cons]
    exact WA.fold ahead _ _ h2
theorem WA.end {b : List Wd} {n : Nat} {k ahead r : List Way} (h : WR b n k ahead r) : WA b k ahead → WA b r [] := by
  induction h with
  | stop k => exact id
  | @go n k ahead r h1 h2 ih =>
    intro h
    refine ih (WA.fold ahead k [] ?_)
    rw [List.append_nil]
    exact h
theorem wr_2 {b : List Wd} {n : Nat} {r : List Way} (h : WR b n [] (firsts b) r) : ∀ y ∈ r, W2 b y := (WA.end h ⟨(fun y h => by cases h), firsts_2 b⟩).1
theorem kat_perm {k r : List Way} (hm : ∀ y, y ∈ k ↔ y ∈ r) (hn : (r.map Way.rest).Nodup) (s : List (List Int)) : kat k s = kat r s := by
  cases h : kat k s with
  | none =>
    cases h2 : kat r s with
    | none => rfl
    | some z =>
      obtain ⟨z1, z2⟩ := kat_some h2
      exact absurd z2 (kat_none h z ((hm z).mpr z1))
  | some z =>
    obtain ⟨z1, z2⟩ := kat_some h
    cases h2 : kat r s with
    | none => exact absurd z2 (kat_none h2 z ((hm z).mp z1))
    | some x =>
      obtain ⟨x1, x2⟩ := kat_some h2
      rw [nd_inj hn ((hm z).mp z1) x1 (z2.trans x2.symm)]
theorem wd_inj {b : List Wd} (hg : GBk b) : ∀ w ∈ b, ∀ v ∈ b, w.1 = v.1 → w = v := fun w hw v hv e => nd_inj hg.nm hw hv e
/-- of a book without a rest () unlike rows are written unlike -/
theorem clear_one {b : List Wd} (hg : GBk b) {n : Nat} {r : List Way} (h : WR b n [] (firsts b) r) (hk : kat r [] = none) {xs ys : List Wd} (hx : ∀ w ∈ xs, w ∈ b) (hy : ∀ w ∈ ys, w ∈ b) (e : wst xs = wst ys) : xs = ys := by
  by_cases c : xs = ys
  · exact c
  · obtain ⟨y, h1, h2, _⟩ := cl_two (wr_rs h).cl hg.ne (wd_inj hg) xs ys hx hy c e
    exact absurd h2 (kat_none hk y h1)
theorem names_one {b : List Wd} (hg : GBk b) : ∀ {xs ys : List Wd}, (∀ w ∈ xs, w ∈ b) → (∀ w ∈ ys, w ∈ b) → xs.map (·.1) = ys.map (·.1) → xs = ys
  | [], [], _, _, _ => rfl
  | [], _ :: _, _, _, h => by cases h
  | _ :: _, [], _, _, h => by cases h
  | x :: xs, y :: ys, hx, hy, h => by
    rw [List.map_cons, List.map_cons] at h
    injection h with h1 h2
    rw [wd_inj hg x (hx x (List.mem_cons_self ..)) y (hy y (List.mem_cons_self ..)) h1, names_one hg (fun w hw => hx w (List.mem_cons_of_mem _ hw)) (fun w hw => hy w (List.mem_cons_of_mem _ hw)) h2]
theorem strOk_sw (w : List Nat) (h : ∀ c ∈ w, c < 1114112) : PyData.strOk (sw w) = true := by
  show (w.toArray.all fun c => decide (c < 0x110000)) = true
  rw [List.all_toArray]
  exact List.all_eq_true.mpr fun c hc => decide_eq_true (h c hc)
def NmOk (ws : List Wd) : Prop := ∀ w ∈ ws, ∀ c ∈ w.1, c < 1114112
theorem nms_plain {ws : List Wd} (h : NmOk ws) : (D.list (ws.map nmD)).plain 9 = true := by
  show (ws.map nmD).all (D.plain 8) = true
  rw [List.all_map]
  exact List.all_eq_true.mpr fun w hw => strOk_sw w.1 (h w hw)
theorem nms_eqv : ∀ (a b : List Wd), PyData.eqvAll (pys (a.map nmD)) (pys (b.map nmD)) = decide (a.map (·.1) = b.map (·.1))
  | [], [] => rfl
  | [], _ :: _ => rfl
  | _ :: _, [] => rfl
  | p :: a, q :: b => by
    have e : PyData.eqv (nmD p).py (nmD q).py = decide (p.1 = q.1) := by
      show (sw p.1 == sw q.1) = decide (p.1 = q.1)
      by_cases h : p.1 = q.1
      · rw [h]; simp
      · rw [decide_eq_false h]; exact beq_eq_false_iff_ne.mpr fun e => h (sw_inj e)
    rw [List.map_cons, List.map_cons, List.map_cons, List.map_cons, pys, pys, PyData.eqvAll, e, nms_eqv a b]
    by_cases h1 : p.1 = q.1
    · by_cases h2 : a.map (·.1) = b.map (·.1)
      · rw [h1, h2]; simp
      · rw [decide_eq_false h2, Bool.and_false]; exact (decide_eq_false fun h => h2 (List.cons.inj h).2).symm
    · rw [decide_eq_false h1, Bool.false_and]; exact (decide_eq_false fun h => h1 (List.cons.inj h).1).symm
theorem eq_nms {a b : List Wd} (ha : NmOk a) (hb : NmOk b) : gEq (.list (a.map nmD)) (.list (b.map nmD)) = some ⟨.sh, .bool (decide (a.map (·.1) = b.map (·.1)))⟩ := by
  have h4 : PyData.eqv (D.list (a.map nmD)).py (D.list (b.map nmD)).py = decide (a.map (·.1) = b.map (·.1)) := by
    show PyData.eqv (.list (pys (a.map nmD))) (.list (pys (b.map nmD))) = _
    rw [PyData.eqv, nms_eqv]
  unfold gEq
  rw [eqB_gen (nms_plain ha) (nms_plain hb), h4]
  rfl
theorem ne_nms {a b : List Wd} (ha : NmOk a) (hb : NmOk b) : gNe (.list (a.map nmD)) (.list (b.map nmD)) = some ⟨.sh, .bool (!decide (a.map (·.1) = b.map (·.1)))⟩ := by
  have h := eq_nms ha hb
  unfold gEq at h
  unfold gNe
  revert h
  cases eqB (.list (a.map nmD)) (.list (b.map nmD)) with
  | none => intro h; cases h
  | some x => intro h; cases h; rfl
theorem nms_strs (ws : List Wd) : (ws.map nmD).all strD = true := by
  rw [List.all_map]
  exact List.all_eq_true.mpr fun w _ => rfl
theorem hd_strs {lo sh : List Wd} (h : ∃ a as c cs, lo = a :: as ∧ sh = c :: cs ∧ a.1 ≠ c.1) : strsEq (lo.map nmD) (sh.map nmD) = false := by
  obtain ⟨a, as, c, cs, rfl, rfl, hne⟩ := h
  rw [List.map_cons, List.map_cons]
  show (decide (sw a.1 = sw c.1) && strsEq (as.map nmD) (cs.map nmD)) = false
  rw [decide_eq_false fun e => hne (sw_inj e), Bool.false_and]
theorem hd_ne {lo sh : List Wd} (h : ∃ a as c cs, lo = a :: as ∧ sh = c :: cs ∧ a.1 ≠ c.1) : lo.map (·.1) ≠ sh.map (·.1) := by
  obtain ⟨a, as, c, cs, rfl, rfl, hne⟩ := h
  intro e
  rw [List.map_cons, List.map_cons] at e
  exact hne (List.cons.inj e).1

theorem TI.end {b : List Wd} (hg : GBk b) {n : Nat} {k ahead r : List Way} (h : WR b n k ahead r) : TI b k ahead → TI b r [] := by
  induction h with
  | stop k => exact id
  | @go n k ahead r h1 h2 ih =>
    intro h
    refine ih (TI.fold hg.len.2 hg.l3 hg.ne ahead k [] (by rw [List.append_nil]; exact h)).1
theorem m_l2 {b : List Wd} (hg : GBk b) (hno : NmOk b) {lo sh : List Wd} (hlo : ∀ w ∈ lo, w ∈ b) (hsh : ∀ w ∈ sh, w ∈ b) (hll : lo.length ≤ 900) (hsl : sh.length ≤ 900) (hd : ∃ a as c cs, lo = a :: as ∧ sh = c :: cs ∧ a.1 ≠ c.1) (he : wst lo = wst sh) {st : List Ob} {i j : Nat}
    (hi : owO boxC 0 st[i]? = some (.list (lo.map nmD))) (hj : owO boxC 0 st[j]? = some (.list (sh.map nmD))) :
    sem_l_twofold [bkD2 b, .tup [.obj i, .obj j], .int ((wst lo).length : Nat)] st = .ok (.v (.bool true)) st := by
  have hr1 := m_row hg hlo (by omega)
  have hr2 := m_row hg hsh (by omega)
  have hw1 := m_lwritten hg hlo (by omega)
  have hw2 := m_lwritten hg hsh (by omega)
  rw [← he] at hw2
  have heq := eq_nms (a := lo) (b := sh) (fun w hw => hno w (hlo w hw)) (fun w hw => hno w (hsh w hw))
  rw [decide_eq_false (hd_ne hd)] at heq
  have hes : gEq (stD2 (wst lo)) (stD2 (wst lo)) = some ⟨.sh, .bool true⟩ := g_eqR (stD2_plain (wst lo)) rfl
  have hit := isT [.obj i, .obj j]
  have hct : coldD (.bool true) = true := rfl
  have hc := stks_cold (wst lo)
  have hln : gLen [stD2 (wst lo)] = some ⟨.sh, .int ((wst lo).length : Nat)⟩ := by
    unfold stD2
    rw [g_lenT, List.length_map]
  have hx0 : gIx (.tup [.obj i, .obj j]) (.int 0) = some ⟨.sh, .obj i⟩ := rfl
  have hx1 : gIx (.tup [.obj i, .obj j]) (.int 1) = some ⟨.sh, .obj j⟩ := rfl
  unfold sem_l_twofold
  refine run_ex (Q := fun x => x = .ok _ st) [.v (bkD2 b), .v (.tup [.obj i, .obj j]), .v (.int ((wst lo).length : Nat)), .un] rfl ?_
  unfold b_l_twofold st_l_twofold_1 st_l_twofold_2 st_l_twofold_3 st_l_twofold_4
  clear he hd hlo hsh
  generalize (wst lo).length = n at *
  generalize stD2 (wst lo) = sd at *
  generalize bkD2 b = bd at *
  generalize lo.map nmD = l at *
  generalize sh.map nmD = r at *
  simp (disch := (first | assumption | with_reducible rfl | decide +kernel | exact Or.inl (by decide +kernel) | exact Or.inr (by decide +kernel) | omega | (simp only [List.length_cons, List.length_nil, List.length_append, List.length_map, List.length_replicate, List.length_range] <;> omega) | rfl)) only [evEqs, List.getElem?_cons_zero, List.getElem?_cons_succ, List.getElem?_nil, List.set_cons_zero, List.set_cons_succ, List.map_cons, List.map_nil, List.length_cons, List.length_nil, List.length_append, List.cons_append, List.nil_append, List.length_map, List.length_singleton, Nat.reduceBEq, Nat.reduceAdd, Nat.reduceSub, Nat.reduceMul, Nat.reduceEqDiff, Nat.reduceLeDiff, Nat.reduceLT, if_false, if_true, ite_true, ite_false, ↓reduceIte, Bool.not_true, Bool.not_false, Bool.false_eq_true, decide_true, decide_false, eq_self, and_true, true_and, and_self, Nat.zero_le, Nat.zero_add, Option.bind_some, Option.bind_none, Nat.lt_irrefl, Int.reduceToNat, Int.reducePow, Int.reduceNeg, Int.reduceMul, Int.reduceAdd, Int.reduceSub, Int.reduceLT, Int.reduceLE, Int.reduceEq, beq_self_eq_true, wipeE, MP.at0, MP.at1, MP.at2, MP.atLit, hit, hx0, hx1, hi, hj, hr1, hr2, hct, heq, hw1, hw2, hc, hes, hln]
theorem bapp1 {env : List Slot} {st : List Ob} {fo : Sta → PR RV} {f : Sta → PR D} {j : Nat} {k : RK} {l : List D} {d : D} (ho : fo ⟨env, st⟩ = .ok ⟨k, .obj j⟩) (hf : f ⟨env, st⟩ = .ok d) (hs : st[j]? = some ⟨boxC, [(0, .own (.list l))]⟩) (hl : l.length < 16777216) :
    sBApp fo f ⟨env, st⟩ = .nx ⟨env, st.set j ⟨boxC, [(0, .own (.list (l ++ [d])))]⟩⟩ := by
  unfold sBApp
  rw [ho, hf]
  have e : Pl.get (.ob j) ⟨env, st⟩ = some (.list l) := by
    show owO boxC 0 st[j]? = _
    rw [hs]; rfl
  show xAP0 (.ob j) ⟨env, st⟩ (.ok d) (Pl.get (.ob j) ⟨env, st⟩) = _
  rw [e]
  show (if l.length < 16777216 then Fl.nx (Pl.put (.ob j) (.own (.list (l ++ [d]))) ⟨env, st⟩) else .stuck) = _
  rw [if_pos hl]
  show Fl.nx ⟨env, putB 0 (.own (.list (l ++ [d]))) st j st[j]?⟩ = _
  rw [hs]
  rfl
theorem if_true' {t : Sta → PR Bool} {g1 g2 : Sta → Fl} {s : Sta} (h : t s = .ok true) : sIf t g1 g2 s = g1 s := by
  unfold sIf
  rw [h]
  rfl
theorem wd_cold (w : Wd) : coldD (wdD w) = true := by
  unfold wdD
  rw [coldD, coldDs, coldDs, coldDs, stks_cold, coldD]
  rfl
theorem bk_cold (b : List Wd) : coldDs [bkD2 b] = true := by
  unfold bkD2
  rw [coldDs, coldDs, coldD, cold_map wd_cold]
  rfl
theorem ask_turn {b : List Wd} (hg : GBk b) (hno : NmOk b) {n : Nat} {r : List Way} (h : WR b n [] (firsts b) r) (hn : n ≤ 73300) (t : Int) (x3 : Slot) (T : List Ob) : ∃ y3 T',
    lp_l_asked_1 ⟨[.v (bkD2 b), .v (.obj 0), .v (.int t), x3], ndOb (kdP (srtW r)) :: T⟩ = .nx ⟨[.v (bkD2 b), .v (.obj 0), .v (.int t), y3], ndOb (kdP (srtW r)) :: T'⟩ := by
  have htf := m_twofold hg h hn
  have hky : keyN (D.tup []) = some (kyR []) := kyR_ok []
  have hm : ∀ y, y ∈ srtW r ↔ y ∈ r := fun y => (srtW_perm r).mem_iff
  have hnd := (wr_rs h).nd
  have hv := kd_val (r := []) (k := srtW r)
  rw [kat_perm hm hnd] at hv
  have hcb := bk_cold b
  have hTI := TI.end hg h (TI.first hg.l3 hg.ne)
  have hrl := hTI.len hg.len.2
  have hnb : ∀ x : Bool, gNe (.bool x) (.bool x) = some ⟨.sh, .bool false⟩ := by intro x; cases x <;> rfl
  have hl1 : [bkD2 b].length = 1 := rfl
  cases hk : kat r [] with
  | none =>
    rw [hk, Option.map_none] at hv
    rw [hk] at htf
    have htf : sem_twofold [bkD2 b] [] = .ok (.v .none) [ndOb (knW r)] := htf
    refine ⟨.v .none, T, ?_⟩
    have hbn : (false != true) = true := rfl
    unfold lp_l_asked_1
    clear hk hnd hm h hTI
    generalize kdP (srtW r) = kd at *
    generalize kyR [] = ky at *
    generalize knW r = kn at *
    generalize bkD2 b = bd at *
    simp (disch := (first | assumption | with_reducible rfl | decide +kernel | exact Or.inl (by decide +kernel) | exact Or.inr (by decide +kernel) | omega | (simp only [List.length_cons, List.length_nil, List.length_append, List.length_map, List.length_replicate, List.length_range] <;> omega) | rfl)) only [evEqs, List.getElem?_cons_zero, List.getElem?_cons_succ, List.getElem?_nil, List.set_cons_zero, List.set_cons_succ, List.map_cons, List.map_nil, List.length_cons, List.length_nil, List.length_append, List.cons_append, List.nil_append, List.length_map, List.length_singleton, Nat.reduceBEq, Nat.reduceAdd, Nat.reduceSub, Nat.reduceMul, Nat.reduceEqDiff, Nat.reduceLeDiff, Nat.reduceLT, if_false, if_true, ite_true, ite_false, ↓reduceIte, Bool.not_true, Bool.not_false, Bool.false_eq_true, decide_true, decide_false, eq_self, and_true, true_and, and_self, Nat.zero_le, Nat.zero_add, Option.bind_some, Option.bind_none, Nat.lt_irrefl, Int.reduceToNat, Int.reducePow, Int.reduceNeg, Int.reduceMul, Int.reduceAdd, Int.reduceSub, Int.reduceLT, Int.reduceLE, Int.reduceEq, beq_self_eq_true, wipeE, MP.at0, MP.at1, MP.at2, MP.atLit, hcb, htf, hky, hv, Option.isSome_none, hbn, hnb]
  | some y =>
    rw [hk, Option.map_some] at hv
    rw [hk] at htf
    obtain ⟨hy, hyr⟩ := kat_some hk
    have h2 := wr_2 h y hy
    have hp := hTI.pr y hy
    have hpr := h2.ok.pr
    have heq := h2.ok.eq
    rw [hyr, List.append_nil] at heq
    have hlo := row_le hg.ne y.lo h2.ok.lo
    have hsh := row_le hg.ne y.sh h2.ok.sh
    rw [← heq] at hsh
    have hll : y.lo.length ≤ 900 := by omega
    have hsl : y.sh.length ≤ 900 := by omega
    have hst : (y.lo.map nmD).all strD = true ∧ (y.sh.map nmD).all strD = true ∧ strsEq (y.lo.map nmD) (y.sh.map nmD) = false := ⟨nms_strs _, nms_strs _, hd_strs h2.hd⟩
    have htf : sem_twofold [bkD2 b] [] = .ok (.v (.tup [.list (y.lo.map nmD), .list (y.sh.map nmD)])) [ndOb (knW r)] := htf
    have hA : (ndOb (kdP (srtW r)) :: (T ++ box2 (y.lo.map nmD) (y.sh.map nmD)))[T.length + 1]? = some ⟨boxC, [(0, .own (.list (y.lo.map nmD)))]⟩ := by
      rw [List.getElem?_cons_succ, List.getElem?_append_right (Nat.le_refl _), Nat.sub_self]; rfl
    have hB : (ndOb (kdP (srtW r)) :: (T ++ box2 (y.lo.map nmD) (y.sh.map nmD)))[T.length + 1 + 1]? = some ⟨boxC, [(0, .own (.list (y.sh.map nmD)))]⟩ := by
      rw [List.getElem?_cons_succ, List.getElem?_append_right (by omega), Nat.add_sub_cancel_left]; rfl
    have hA2 : owO boxC 0 (ndOb (kdP (srtW r)) :: (T ++ box2 (y.lo.map nmD) (y.sh.map nmD)))[T.length + 1]? = some (.list (y.lo.map nmD)) := by rw [hA]; rfl
    have hB2 : owO boxC 0 (ndOb (kdP (srtW r)) :: (T ++ box2 (y.lo.map nmD) (y.sh.map nmD)))[T.length + 1 + 1]? = some (.list (y.sh.map nmD)) := by rw [hB]; rfl
    have hl2 := m_l2 hg hno h2.ok.lo h2.ok.sh hll hsl h2.hd heq hA2 hB2
    rw [← hpr] at hl2
    obtain ⟨w0, hw0⟩ : ∃ w0, b[0]? = some w0 := ⟨_, List.getElem?_eq_getElem (by have := hg.len.1; omega)⟩
    obtain ⟨w1, hw1⟩ : ∃ w1, b[b.length - 1]? = some w1 := ⟨_, List.getElem?_eq_getElem (by have := hg.len.1; omega)⟩
    have i0 : gIx (bkD2 b) (.int 0) = some ⟨.sh, wdD w0⟩ := by
      unfold bkD2
      rw [g_ixT]
      have : atI (b.map wdD) 0 = (b.map wdD)[0]? := atN _ 0
      rw [this, List.getElem?_map, hw0]; rfl
    have j0 : gIx (wdD w0) (.int 0) = some ⟨.sh, nmD w0⟩ := rfl
    have i1 : gIx (bkD2 b) (.int (-1)) = some ⟨.sh, wdD w1⟩ := by
      unfold bkD2
      rw [g_ixT]
      have : atI (b.map wdD) (-1) = (b.map wdD)[(b.map wdD).length - 1]? := by
        have h1 := hg.len.1
        unfold atI L2.ixN
        rw [List.length_map]
        rw [if_neg (by omega), if_pos (by omega)]
        show (b.map wdD)[(-1 + (b.length : Int)).toNat]? = _
        congr 1
        omega
      rw [this, List.length_map, List.getElem?_map, hw1]; rfl
    have j1 : gIx (wdD w1) (.int 0) = some ⟨.sh, nmD w1⟩ := rfl
    have hn1 : gNeg (.int 1) = some ⟨.sh, .int (-1)⟩ := rfl
    have x0 : gIx (.tup [.obj (T.length + 1), .obj (T.length + 1 + 1)]) (.int 0) = some ⟨.sh, .obj (T.length + 1)⟩ := rfl
    have x1 : gIx (.tup [.obj (T.length + 1), .obj (T.length + 1 + 1)]) (.int 1) = some ⟨.sh, .obj (T.length + 1 + 1)⟩ := rfl
    have hbn : (true != true) = false := rfl
    have hLA : (y.lo.map nmD).length < 16777216 := by rw [List.length_map]; omega
    have hLB : (y.sh.map nmD).length < 16777216 := by rw [List.length_map]; omega
    refine ⟨.v (.tup [.obj (T.length + 1), .obj (T.length + 1 + 1)]), ((T ++ box2 (y.lo.map nmD) (y.sh.map nmD)).set T.length ⟨boxC, [(0, .own (.list (y.lo.map nmD ++ [nmD w0])))]⟩).set (T.length + 1) ⟨boxC, [(0, .own (.list (y.sh.map nmD ++ [nmD w1])))]⟩, ?_⟩
    unfold lp_l_asked_1
    clear hk hnd hm h hTI hw0 hw1 hy heq hpr h2 hlo hsh
    generalize nmD w0 = n0 at *
    generalize nmD w1 = n1 at *
    generalize wdD w0 = d0 at *
    generalize wdD w1 = d1 at *
    generalize kdP (srtW r) = kd at *
    generalize kyR [] = ky at *
    generalize knW r = kn at *
    generalize bkD2 b = bd at *
    generalize y.lo.map nmD = lo at *
    generalize y.sh.map nmD = sh at *
    refine sqX (s' := ⟨[.v bd, .v (.obj 0), .v (.int t), .v (.tup [.obj (T.length + 1), .obj (T.length + 1 + 1)])], ndOb kd :: (T ++ box2 lo sh)⟩) (by
      clear hA hB hA2 hB2 hl2
      generalize ndOb kd = nk at *
      simp (disch := (first | assumption | with_reducible rfl | decide +kernel | exact Or.inl (by decide +kernel) | exact Or.inr (by decide +kernel) | omega | (simp only [List.length_cons, List.length_nil, List.length_append, List.length_map, List.length_replicate, List.length_range] <;> omega) | rfl)) only [evEqs, List.getElem?_cons_zero, List.getElem?_cons_succ, List.getElem?_nil, List.set_cons_zero, List.set_cons_succ, List.map_cons, List.map_nil, List.length_cons, List.length_nil, List.length_append, List.cons_append, List.nil_append, List.length_map, List.length_singleton, Nat.reduceBEq, Nat.reduceAdd, Nat.reduceSub, Nat.reduceMul, Nat.reduceEqDiff, Nat.reduceLeDiff, Nat.reduceLT, if_false, if_true, ite_true, ite_false, ↓reduceIte, Bool.not_true, Bool.not_false, Bool.false_eq_true, decide_true, decide_false, eq_self, and_true, true_and, and_self, Nat.zero_le, Nat.zero_add, Option.bind_some, Option.bind_none, Nat.lt_irrefl, Int.reduceToNat, Int.reducePow, Int.reduceNeg, Int.reduceMul, Int.reduceAdd, Int.reduceSub, Int.reduceLT, Int.reduceLE, Int.reduceEq, beq_self_eq_true, wipeE, MP.at0, MP.at1, MP.at2, MP.atLit, hcb, htf, hst]) ?_
    refine sqX (s' := ⟨[.v bd, .v (.obj 0), .v (.int t), .v (.tup [.obj (T.length + 1), .obj (T.length + 1 + 1)])], ndOb kd :: (T ++ box2 lo sh)⟩) (by
      clear hA hB hA2 hB2 hl2 htf
      generalize box2 lo sh = bx at *
      simp (disch := (first | assumption | with_reducible rfl | decide +kernel | exact Or.inl (by decide +kernel) | exact Or.inr (by decide +kernel) | omega | (simp only [List.length_cons, List.length_nil, List.length_append, List.length_map, List.length_replicate, List.length_range] <;> omega) | rfl)) only [evEqs, List.getElem?_cons_zero, List.getElem?_cons_succ, List.getElem?_nil, List.set_cons_zero, List.set_cons_succ, List.map_cons, List.map_nil, List.length_cons, List.length_nil, List.length_append, List.cons_append, List.nil_append, List.length_map, List.length_singleton, Nat.reduceBEq, Nat.reduceAdd, Nat.reduceSub, Nat.reduceMul, Nat.reduceEqDiff, Nat.reduceLeDiff, Nat.reduceLT, if_false, if_true, ite_true, ite_false, ↓reduceIte, Bool.not_true, Bool.not_false, Bool.false_eq_true, decide_true, decide_false, eq_self, and_true, true_and, and_self, Nat.zero_le, Nat.zero_add, Option.bind_some, Option.bind_none, Nat.lt_irrefl, Int.reduceToNat, Int.reducePow, Int.reduceNeg, Int.reduceMul, Int.reduceAdd, Int.reduceSub, Int.reduceLT, Int.reduceLE, Int.reduceEq, beq_self_eq_true, wipeE, MP.at0, MP.at1, MP.at2, MP.atLit, hky, hv, Option.isSome_some, hbn, hnb]) ?_
    refine (if_true' (by
      clear hA hB hA2 hB2 hl2 htf
      generalize box2 lo sh = bx at *
      generalize ndOb kd = nk at *
      simp (disch := (first | assumption | with_reducible rfl | decide +kernel | exact Or.inl (by decide +kernel) | exact Or.inr (by decide +kernel) | omega | (simp only [List.length_cons, List.length_nil, List.length_append, List.length_map, List.length_replicate, List.length_range] <;> omega) | rfl)) only [evEqs, List.getElem?_cons_zero, List.getElem?_cons_succ, List.getElem?_nil, List.set_cons_zero, List.set_cons_succ, List.map_cons, List.map_nil, List.length_cons, List.length_nil, List.length_append, List.cons_append, List.nil_append, List.length_map, List.length_singleton, Nat.reduceBEq, Nat.reduceAdd, Nat.reduceSub, Nat.reduceMul, Nat.reduceEqDiff, Nat.reduceLeDiff, Nat.reduceLT, if_false, if_true, ite_true, ite_false, ↓reduceIte, Bool.not_true, Bool.not_false, Bool.false_eq_true, decide_true, decide_false, eq_self, and_true, true_and, and_self, Nat.zero_le, Nat.zero_add, Option.bind_some, Option.bind_none, Nat.lt_irrefl, Int.reduceToNat, Int.reducePow, Int.reduceNeg, Int.reduceMul, Int.reduceAdd, Int.reduceSub, Int.reduceLT, Int.reduceLE, Int.reduceEq, beq_self_eq_true, wipeE, MP.at0, MP.at1, MP.at2, MP.atLit])).trans ?_
    refine sqX (s' := ⟨[.v bd, .v (.obj 0), .v (.int t), .v (.tup [.obj (T.length + 1), .obj (T.length + 1 + 1)])], ndOb kd :: (T ++ box2 lo sh)⟩) (by
      clear hA hB hA2 hB2 htf
      generalize box2 lo sh = bx at *
      simp (disch := (first | assumption | with_reducible rfl | decide +kernel | exact Or.inl (by decide +kernel) | exact Or.inr (by decide +kernel) | omega | (simp only [List.length_cons, List.length_nil, List.length_append, List.length_map, List.length_replicate, List.length_range] <;> omega) | rfl)) only [evEqs, List.getElem?_cons_zero, List.getElem?_cons_succ, List.getElem?_nil, List.set_cons_zero, List.set_cons_succ, List.map_cons, List.map_nil, List.length_cons, List.length_nil, List.length_append, List.cons_append, List.nil_append, List.length_map, List.length_singleton, Nat.reduceBEq, Nat.reduceAdd, Nat.reduceSub, Nat.reduceMul, Nat.reduceEqDiff, Nat.reduceLeDiff, Nat.reduceLT, if_false, if_true, ite_true, ite_false, ↓reduceIte, Bool.not_true, Bool.not_false, Bool.false_eq_true, decide_true, decide_false, eq_self, and_true, true_and, and_self, Nat.zero_le, Nat.zero_add, Option.bind_some, Option.bind_none, Nat.lt_irrefl, Int.reduceToNat, Int.reducePow, Int.reduceNeg, Int.reduceMul, Int.reduceAdd, Int.reduceSub, Int.reduceLT, Int.reduceLE, Int.reduceEq, beq_self_eq_true, wipeE, MP.at0, MP.at1, MP.at2, MP.atLit, hky, hv, hl2]) ?_
    refine sqX (bapp1 (k := .sh) (j := T.length + 1) (l := lo) (d := n0) (by
      clear hA hB hA2 hB2 htf hl2
      generalize box2 lo sh = bx at *
      generalize ndOb kd = nk at *
      simp (disch := (first | assumption | with_reducible rfl | decide +kernel | exact Or.inl (by decide +kernel) | exact Or.inr (by decide +kernel) | omega | (simp only [List.length_cons, List.length_nil, List.length_append, List.length_map, List.length_replicate, List.length_range] <;> omega) | rfl)) only [evEqs, List.getElem?_cons_zero, List.getElem?_cons_succ, List.getElem?_nil, List.set_cons_zero, List.set_cons_succ, List.map_cons, List.map_nil, List.length_cons, List.length_nil, List.length_append, List.cons_append, List.nil_append, List.length_map, List.length_singleton, Nat.reduceBEq, Nat.reduceAdd, Nat.reduceSub, Nat.reduceMul, Nat.reduceEqDiff, Nat.reduceLeDiff, Nat.reduceLT, if_false, if_true, ite_true, ite_false, ↓reduceIte, Bool.not_true, Bool.not_false, Bool.false_eq_true, decide_true, decide_false, eq_self, and_true, true_and, and_self, Nat.zero_le, Nat.zero_add, Option.bind_some, Option.bind_none, Nat.lt_irrefl, Int.reduceToNat, Int.reducePow, Int.reduceNeg, Int.reduceMul, Int.reduceAdd, Int.reduceSub, Int.reduceLT, Int.reduceLE, Int.reduceEq, beq_self_eq_true, wipeE, MP.at0, MP.at1, MP.at2, MP.atLit, x0]) (by
      clear hA hB hA2 hB2 htf hl2
      generalize box2 lo sh = bx at *
      generalize ndOb kd = nk at *
      simp (disch := (first | assumption | with_reducible rfl | decide +kernel | exact Or.inl (by decide +kernel) | exact Or.inr (by decide +kernel) | omega | (simp only [List.length_cons, List.length_nil, List.length_append, List.length_map, List.length_replicate, List.length_range] <;> omega) | rfl)) only [evEqs, List.getElem?_cons_zero, List.getElem?_cons_succ, List.getElem?_nil, List.set_cons_zero, List.set_cons_succ, List.map_cons, List.map_nil, List.length_cons, List.length_nil, List.length_append, List.cons_append, List.nil_append, List.length_map, List.length_singleton, Nat.reduceBEq, Nat.reduceAdd, Nat.reduceSub, Nat.reduceMul, Nat.reduceEqDiff, Nat.reduceLeDiff, Nat.reduceLT, if_false, if_true, ite_true, ite_false, ↓reduceIte, Bool.not_true, Bool.not_false, Bool.false_eq_true, decide_true, decide_false, eq_self, and_true, true_and, and_self, Nat.zero_le, Nat.zero_add, Option.bind_some, Option.bind_none, Nat.lt_irrefl, Int.reduceToNat, Int.reducePow, Int.reduceNeg, Int.reduceMul, Int.reduceAdd, Int.reduceSub, Int.reduceLT, Int.reduceLE, Int.reduceEq, beq_self_eq_true, wipeE, MP.at0, MP.at1, MP.at2, MP.atLit, i0, j0]) hA hLA) ?_
    refine (bapp1 (k := .sh) (j := T.length + 1 + 1) (l := sh) (d := n1) (by
      clear hA hB hA2 hB2 htf hl2
      generalize box2 lo sh = bx at *
      generalize ndOb kd = nk at *
      simp (disch := (first | assumption | with_reducible rfl | decide +kernel | exact Or.inl (by decide +kernel) | exact Or.inr (by decide +kernel) | omega | (simp only [List.length_cons, List.length_nil, List.length_append, List.length_map, List.length_replicate, List.length_range] <;> omega) | rfl)) only [evEqs, List.getElem?_cons_zero, List.getElem?_cons_succ, List.getElem?_nil, List.set_cons_zero, List.set_cons_succ, List.map_cons, List.map_nil, List.length_cons, List.length_nil, List.length_append, List.cons_append, List.nil_append, List.length_map, List.length_singleton, Nat.reduceBEq, Nat.reduceAdd, Nat.reduceSub, Nat.reduceMul, Nat.reduceEqDiff, Nat.reduceLeDiff, Nat.reduceLT, if_false, if_true, ite_true, ite_false, ↓reduceIte, Bool.not_true, Bool.not_false, Bool.false_eq_true, decide_true, decide_false, eq_self, and_true, true_and, and_self, Nat.zero_le, Nat.zero_add, Option.bind_some, Option.bind_none, Nat.lt_irrefl, Int.reduceToNat, Int.reducePow, Int.reduceNeg, Int.reduceMul, Int.reduceAdd, Int.reduceSub, Int.reduceLT, Int.reduceLE, Int.reduceEq, beq_self_eq_true, wipeE, MP.at0, MP.at1, MP.at2, MP.atLit, x1]) (by
      clear hA hB hA2 hB2 htf hl2
      generalize box2 lo sh = bx at *
      generalize ndOb kd = nk at *
      simp (disch := (first | assumption | with_reducible rfl | decide +kernel | exact Or.inl (by decide +kernel) | exact Or.inr (by decide +kernel) | omega | (simp only [List.length_cons, List.length_nil, List.length_append, List.length_map, List.length_replicate, List.length_range] <;> omega) | rfl)) only [evEqs, List.getElem?_cons_zero, List.getElem?_cons_succ, List.getElem?_nil, List.set_cons_zero, List.set_cons_succ, List.map_cons, List.map_nil, List.length_cons, List.length_nil, List.length_append, List.cons_append, List.nil_append, List.length_map, List.length_singleton, Nat.reduceBEq, Nat.reduceAdd, Nat.reduceSub, Nat.reduceMul, Nat.reduceEqDiff, Nat.reduceLeDiff, Nat.reduceLT, if_false, if_true, ite_true, ite_false, ↓reduceIte, Bool.not_true, Bool.not_false, Bool.false_eq_true, decide_true, decide_false, eq_self, and_true, true_and, and_self, Nat.zero_le, Nat.zero_add, Option.bind_some, Option.bind_none, Nat.lt_irrefl, Int.reduceToNat, Int.reducePow, Int.reduceNeg, Int.reduceMul, Int.reduceAdd, Int.reduceSub, Int.reduceLT, Int.reduceLE, Int.reduceEq, beq_self_eq_true, wipeE, MP.at0, MP.at1, MP.at2, MP.atLit, i1, j1, hn1]) (by
      rw [List.getElem?_set_ne (by omega)]
      exact hB) hLB).trans ?_
    rfl
theorem m_asked {b : List Wd} (hg : GBk b) (hno : NmOk b) {n : Nat} {r : List Way} (h : WR b n [] (firsts b) r) (hn : n ≤ 73300) : ∃ st, sem_l_asked [bkD2 b] [] = .ok (.v (.bool true)) st := by
  have hTI := TI.end hg h (TI.first hg.l3 hg.ne)
  have hrl := hTI.len hg.len.2
  have hre := m_rests hg h hn (wr_rs h).nd (by omega)
  have hRn : ((srtW r).map Way.rest).Nodup := ((srtW_perm r).map Way.rest).nodup_iff.mpr (wr_rs h).nd
  have hob : noObjs [bkD2 b] = true := by
    show (noObjs (b.map wdD) && true) = true
    rw [bk_noObj]; rfl
  have hnoF : (D.list ((srtW r).map rpD)).noObj = true := rps_noObj (srtW r)
  have hnd3 : ∀ (env : List Slot) (st : List Ob) (k : RK), xNdDictR ⟨env, st⟩ (.ok ⟨k, .list ((srtW r).map rpD)⟩) = .ok (.v (.obj st.length)) ⟨env, st ++ [ndOb (kdP (srtW r))]⟩ := by
    intro env st k
    rw [f_nd3 (prs_rp (srtW r))]
    have e : ndMerge [] ((srtW r).map triP) = kdP (srtW r) := by
      have := kd_merge (srtW r) [] hRn
      rw [List.nil_append] at this
      exact this
    rw [e]
  have e1 : st_l_asked_1 ⟨[.v (bkD2 b), .un, .un, .un], []⟩ = .nx ⟨[.v (bkD2 b), .v (.obj 0), .un, .un], [ndOb (kdP (srtW r))]⟩ := by
    unfold st_l_asked_1
    clear hTI hRn h
    generalize kdP (srtW r) = kd at *
    generalize (srtW r).map rpD = F at *
    generalize knW r = kn at *
    generalize bkD2 b = bd at *
    simp (disch := (first | assumption | with_reducible rfl | decide +kernel | exact Or.inl (by decide +kernel) | exact Or.inr (by decide +kernel) | omega | (simp only [List.length_cons, List.length_nil, List.length_append, List.length_map, List.length_replicate, List.length_range] <;> omega) | rfl)) only [evEqs, List.getElem?_cons_zero, List.getElem?_cons_succ, List.getElem?_nil, List.set_cons_zero, List.set_cons_succ, List.map_cons, List.map_nil, List.length_cons, List.length_nil, List.length_append, List.cons_append, List.nil_append, List.length_map, List.length_singleton, Nat.reduceBEq, Nat.reduceAdd, Nat.reduceSub, Nat.reduceMul, Nat.reduceEqDiff, Nat.reduceLeDiff, Nat.reduceLT, if_false, if_true, ite_true, ite_false, ↓reduceIte, Bool.not_true, Bool.not_false, Bool.false_eq_true, decide_true, decide_false, eq_self, and_true, true_and, and_self, Nat.zero_le, Nat.zero_add, Option.bind_some, Option.bind_none, Nat.lt_irrefl, Int.reduceToNat, Int.reducePow, Int.reduceNeg, Int.reduceMul, Int.reduceAdd, Int.reduceSub, Int.reduceLT, Int.reduceLE, Int.reduceEq, beq_self_eq_true, wipeE, MP.at0, MP.at1, MP.at2, MP.atLit, f_ndDict, hob, hre, hnoF, hnd3]
  obtain ⟨y3, T1, t1⟩ := ask_turn hg hno h hn 0 .un []
  obtain ⟨z3, T2, t2⟩ := ask_turn hg hno h hn 1 y3 T1
  have hrg : gRng1 [.int 2] = some [.int 0, .int 1] := by rw [g_rng1 (by omega)]; rfl
  have hloop : loopL (.nm 2) lp_l_asked_1 [.int 0, .int 1] ⟨[.v (bkD2 b), .v (.obj 0), .un, .un], [ndOb (kdP (srtW r))]⟩ = .nx ⟨[.v (bkD2 b), .v (.obj 0), .v (.int 1), z3], ndOb (kdP (srtW r)) :: T2⟩ := by
    rw [loop_one (b_nm ..) t1, loop_one (b_nm ..) t2]
    rfl
  refine ⟨ndOb (kdP (srtW r)) :: T2, ?_⟩
  unfold sem_l_asked
  refine run_ex (Q := fun x => x = .ok (.v (.bool true)) (ndOb (kdP (srtW r)) :: T2)) [.v (bkD2 b), .un, .un, .un] rfl ?_
  unfold b_l_asked
  refine sqR e1 ?_
  unfold st_l_asked_2 st_l_asked_3
  clear e1 hnd3 hTI hRn t1 t2 hre
  generalize ndOb (kdP (srtW r)) = nk at *
  generalize bkD2 b = bd at *
  simp (disch := (first | assumption | with_reducible rfl | decide +kernel | exact Or.inl (by decide +kernel) | exact Or.inr (by decide +kernel) | omega | (simp only [List.length_cons, List.length_nil, List.length_append, List.length_map, List.length_replicate, List.length_range] <;> omega) | rfl)) only [evEqs, List.getElem?_cons_zero, List.getElem?_cons_succ, List.getElem?_nil, List.set_cons_zero, List.set_cons_succ, List.map_cons, List.map_nil, List.length_cons, List.length_nil, List.length_append, List.cons_append, List.nil_append, List.length_map, List.length_singleton, Nat.reduceBEq, Nat.reduceAdd, Nat.reduceSub, Nat.reduceMul, Nat.reduceEqDiff, Nat.reduceLeDiff, Nat.reduceLT, if_false, if_true, ite_true, ite_false, ↓reduceIte, Bool.not_true, Bool.not_false, Bool.false_eq_true, decide_true, decide_false, eq_self, and_true, true_and, and_self, Nat.zero_le, Nat.zero_add, Option.bind_some, Option.bind_none, Nat.lt_irrefl, Int.reduceToNat, Int.reducePow, Int.reduceNeg, Int.reduceMul, Int.reduceAdd, Int.reduceSub, Int.reduceLT, Int.reduceLE, Int.reduceEq, beq_self_eq_true, wipeE, MP.at0, MP.at1, MP.at2, MP.atLit, hrg, hloop]

def pickW (b : List Wd) (c : Int) : Wd := b.getD (c % ((b.length : Nat) : Int)).toNat ([], [])
theorem pick_ok {b : List Wd} (hb : 1 ≤ b.length) (c : Int) : pickW b c ∈ b ∧ gIx (.tup (b.map wdD)) (.int (c % (((b.map wdD).length : Nat) : Int))) = some ⟨.sh, wdD (pickW b c)⟩ := by
  have h1 := Int.emod_nonneg c (b := (b.length : Int)) (by omega)
  have h2 := Int.emod_lt_of_pos c (b := (b.length : Int)) (by omega)
  obtain ⟨i, hi⟩ := Int.eq_ofNat_of_zero_le h1
  have hil : i < b.length := by omega
  have e : pickW b c = b[i] := by
    unfold pickW
    rw [hi, Int.toNat_natCast, List.getD_eq_getElem?_getD, List.getElem?_eq_getElem hil]; rfl
  refine ⟨by rw [e]; exact List.getElem_mem hil, ?_⟩
  rw [List.length_map, g_ixT, hi, atN, List.getElem?_map, List.getElem?_eq_getElem hil, e]
  rfl
theorem m_dr_turn {b : List Wd} (hg : GBk b) (by' : Int) (h1 : 0 < by') (h2 : by' ≤ 100000) (x1 x6 x7 : Slot) (c : Int) (ws : List Wd) (hw : ∀ w ∈ ws, w ∈ b) (hl : (wst ws).length ≤ 190) : ∃ (ws' : List Wd) (y6 y7 : Slot),
    lp_l_drawn_1 ⟨[.v (bkD2 b), x1, .v (.int by'), .own (.list (ws.map nmD)), .v (.int ((wst ws).length : Nat)), .v (.int c), x6, x7], []⟩ = .nx ⟨[.v (bkD2 b), x1, .v (.int by'), .own (.list (ws'.map nmD)), .v (.int ((wst ws').length : Nat)), .v (.int c), y6, y7], []⟩ ∧ (∀ w ∈ ws', w ∈ b) ∧ (wst ws').length ≤ 190 := by
  obtain ⟨wc, hwc⟩ : ∃ x, sem_l_wide [.int c, .int by'] [] = .ok (.v (.int x)) [] := ⟨_, m_wide c by' (by omega)⟩
  have hdv : gDiv (.int wc) (.int by') = some ⟨.sh, .int (wc / by')⟩ := g_div ⟨h1, by omega⟩
  obtain ⟨hwb, hix⟩ := pick_ok hg.len.1 (wc / by')
  have h6 := hg.l3 _ hwb
  have hwd : wdD (pickW b (wc / by')) = .tup [nmD (pickW b (wc / by')), stD2 (pickW b (wc / by')).2] := rfl
  rw [hwd] at hix
  clear hwd
  generalize pickW b (wc / by') = w at *
  have hwl : (w.2.map stD).length = w.2.length := List.length_map ..
  have hadd : ((wst ws).length : Int) + (w.2.length : Nat) = ((wst ws).length + w.2.length : Nat) := by omega
  have hbl : 0 < (((b.map wdD).length : Nat) : Int) := by rw [List.length_map]; have := hg.len.1; omega
  have hws : (ws.map nmD).length ≤ 190 := by
    have := row_le hg.ne ws hw
    rw [List.length_map]; omega
  by_cases hc : (wst ws).length + w.2.length ≤ 190
  · refine ⟨ws ++ [w], .v (nmD w), .v (stD2 w.2), ?_, fun x hx => ?_, ?_⟩
    · have hc' : ((((wst ws).length + w.2.length : Nat) : Int) ≤ 190) = True := eq_true (by omega)
      have e1 : (ws ++ [w]).map nmD = ws.map nmD ++ [nmD w] := by rw [List.map_append]; rfl
      have e2 : (wst (ws ++ [w])).length = (wst ws).length + w.2.length := by rw [wst_app, wst_one, List.length_append]
      rw [e1, e2]
      unfold lp_l_drawn_1
      clear e1 e2 hc hl h6 hwb hw hg
      unfold bkD2 stD2 at *
      generalize ((wst ws).length + w.2.length : Nat) = k2 at *
      generalize (wst ws).length = k1 at *
      generalize ws.map nmD = wl at *
      generalize nmD w = nw at *
      generalize w.2.map stD = sd at *
      generalize b.map wdD = bl at *
      simp (disch := (first | assumption | with_reducible rfl | decide +kernel | exact Or.inl (by decide +kernel) | exact Or.inr (by decide +kernel) | omega | (simp only [List.length_cons, List.length_nil, List.length_append, List.length_map, List.length_replicate, List.length_range] <;> omega) | rfl)) only [evEqs, List.getElem?_cons_zero, List.getElem?_cons_succ, List.getElem?_nil, List.set_cons_zero, List.set_cons_succ, List.map_cons, List.map_nil, List.length_cons, List.length_nil, List.length_append, List.cons_append, List.nil_append, List.length_map, List.length_singleton, Nat.reduceBEq, Nat.reduceAdd, Nat.reduceSub, Nat.reduceMul, Nat.reduceEqDiff, Nat.reduceLeDiff, Nat.reduceLT, if_false, if_true, ite_true, ite_false, ↓reduceIte, Bool.not_true, Bool.not_false, Bool.false_eq_true, decide_true, decide_false, eq_self, and_true, true_and, and_self, Nat.zero_le, Nat.zero_add, Option.bind_some, Option.bind_none, Nat.lt_irrefl, Int.reduceToNat, Int.reducePow, Int.reduceNeg, Int.reduceMul, Int.reduceAdd, Int.reduceSub, Int.reduceLT, Int.reduceLE, Int.reduceEq, beq_self_eq_true, wipeE, MP.at0, MP.at1, MP.at2, MP.atLit, hwc, hdv, hix, hwl, hadd, hc']
    · rcases List.mem_append.mp hx with hx | hx
      · exact hw x hx
      · rw [List.mem_singleton.mp hx]; exact hwb
    · rw [wst_app, wst_one, List.length_append]; exact hc
  · refine ⟨ws, .v (nmD w), .v (stD2 w.2), ?_, hw, hl⟩
    have hc' : ((((wst ws).length + w.2.length : Nat) : Int) ≤ 190) = False := eq_false (by omega)
    unfold lp_l_drawn_1
    clear hc hl h6 hwb hw hg
    unfold bkD2 stD2 at *
    generalize ((wst ws).length + w.2.length : Nat) = k2 at *
    generalize (wst ws).length = k1 at *
    generalize ws.map nmD = wl at *
    generalize nmD w = nw at *
    generalize w.2.map stD = sd at *
    generalize b.map wdD = bl at *
    simp (disch := (first | assumption | with_reducible rfl | decide +kernel | exact Or.inl (by decide +kernel) | exact Or.inr (by decide +kernel) | omega | (simp only [List.length_cons, List.length_nil, List.length_append, List.length_map, List.length_replicate, List.length_range] <;> omega) | rfl)) only [evEqs, List.getElem?_cons_zero, List.getElem?_cons_succ, List.getElem?_nil, List.set_cons_zero, List.set_cons_succ, List.map_cons, List.map_nil, List.length_cons, List.length_nil, List.length_append, List.cons_append, List.nil_append, List.length_map, List.length_singleton, Nat.reduceBEq, Nat.reduceAdd, Nat.reduceSub, Nat.reduceMul, Nat.reduceEqDiff, Nat.reduceLeDiff, Nat.reduceLT, if_false, if_true, ite_true, ite_false, ↓reduceIte, Bool.not_true, Bool.not_false, Bool.false_eq_true, decide_true, decide_false, eq_self, and_true, true_and, and_self, Nat.zero_le, Nat.zero_add, Option.bind_some, Option.bind_none, Nat.lt_irrefl, Int.reduceToNat, Int.reducePow, Int.reduceNeg, Int.reduceMul, Int.reduceAdd, Int.reduceSub, Int.reduceLT, Int.reduceLE, Int.reduceEq, beq_self_eq_true, wipeE, MP.at0, MP.at1, MP.at2, MP.atLit, hwc, hdv, hix, hwl, hadd, hc']
theorem m_dr_loop {b : List Wd} (hg : GBk b) (by' : Int) (h1 : 0 < by') (h2 : by' ≤ 100000) (x1 : Slot) : ∀ (cs : List Int) (ws : List Wd) (x5 x6 x7 : Slot), (∀ w ∈ ws, w ∈ b) → (wst ws).length ≤ 190 → ∃ (ws' : List Wd) (y5 y6 y7 : Slot),
    loopL (.nm 5) lp_l_drawn_1 (zs cs) ⟨[.v (bkD2 b), x1, .v (.int by'), .own (.list (ws.map nmD)), .v (.int ((wst ws).length : Nat)), x5, x6, x7], []⟩ = .nx ⟨[.v (bkD2 b), x1, .v (.int by'), .own (.list (ws'.map nmD)), .v (.int ((wst ws').length : Nat)), y5, y6, y7], []⟩ ∧ (∀ w ∈ ws', w ∈ b) ∧ (wst ws').length ≤ 190
  | [], ws, x5, x6, x7, hw, hl => ⟨ws, x5, x6, x7, rfl, hw, hl⟩
  | c :: cs, ws, x5, x6, x7, hw, hl => by
    obtain ⟨w1, y6, y7, ht, hw1, hl1⟩ := m_dr_turn hg by' h1 h2 x1 x6 x7 c ws hw hl
    obtain ⟨w2, z5, z6, z7, hr, hw2, hl2⟩ := m_dr_loop hg by' h1 h2 x1 cs w1 (.v (.int c)) y6 y7 hw1 hl1
    refine ⟨w2, z5, z6, z7, ?_, hw2, hl2⟩
    have e : zs (c :: cs) = .int c :: zs cs := rfl
    rw [e, loop_one (b_nm ..) ht]
    exact hr
theorem m_drawn {b : List Wd} (hg : GBk b) (by' : Int) (h1 : 0 < by') (h2 : by' ≤ 100000) (cs : List Int) (hcs : cs.length ≤ 1000) : ∃ ws : List Wd, (∀ w ∈ ws, w ∈ b) ∧ (wst ws).length ≤ 190 ∧ sem_l_drawn [bkD2 b, .list (zs cs), .int by'] [] = .ok (.own (.list (ws.map nmD))) [] := by
  obtain ⟨ws, y5, y6, y7, hloop, hw, hl⟩ := m_dr_loop hg by' h1 h2 (.v (.list (zs cs))) cs [] .un .un .un (fun w hw => by cases hw) (Nat.zero_le _)
  refine ⟨ws, hw, hl, ?_⟩
  have hz : (zs cs).length ≤ 1000 := by rw [zs_len]; exact hcs
  have e0 : (((wst []).length : Nat) : Int) = 0 := rfl
  rw [e0, List.map_nil] at hloop
  unfold sem_l_drawn
  refine run_ex (Q := fun x => x = .ok _ []) [.v (bkD2 b), .v (.list (zs cs)), .v (.int by'), .un, .un, .un, .un, .un] rfl ?_
  unfold b_l_drawn st_l_drawn_1 st_l_drawn_2 st_l_drawn_3 st_l_drawn_4
  generalize ws.map nmD = wl at *
  generalize (wst ws).length = n at *
  generalize zs cs = z at *
  generalize bkD2 b = bd at *
  simp (disch := (first | assumption | with_reducible rfl | decide +kernel | exact Or.inl (by decide +kernel) | exact Or.inr (by decide +kernel) | omega | (simp only [List.length_cons, List.length_nil, List.length_append, List.length_map, List.length_replicate, List.length_range] <;> omega) | rfl)) only [evEqs, List.getElem?_cons_zero, List.getElem?_cons_succ, List.getElem?_nil, List.set_cons_zero, List.set_cons_succ, List.map_cons, List.map_nil, List.length_cons, List.length_nil, List.length_append, List.cons_append, List.nil_append, List.length_map, List.length_singleton, Nat.reduceBEq, Nat.reduceAdd, Nat.reduceSub, Nat.reduceMul, Nat.reduceEqDiff, Nat.reduceLeDiff, Nat.reduceLT, if_false, if_true, ite_true, ite_false, ↓reduceIte, Bool.not_true, Bool.not_false, Bool.false_eq_true, decide_true, decide_false, eq_self, and_true, true_and, and_self, Nat.zero_le, Nat.zero_add, Option.bind_some, Option.bind_none, Nat.lt_irrefl, Int.reduceToNat, Int.reducePow, Int.reduceNeg, Int.reduceMul, Int.reduceAdd, Int.reduceSub, Int.reduceLT, Int.reduceLE, Int.reduceEq, beq_self_eq_true, wipeE, MP.at0, MP.at1, MP.at2, MP.atLit, hloop]
theorem bk_eq (b : Bk) : bkD b = b.map wdD := rfl
theorem gbk_of {b : Bk} (g : Gd b) : GBk b := ⟨⟨g.len1, g.len20⟩, fun w hw => (g.st w hw).2.1, fun w hw e => by have := (g.st w hw).1; rw [e] at this; simp at this, fun _ _ _ _ => trivial, g.nd, fun w hw s hs => ((g.st w hw).2.2 s hs).2⟩
/-- the words' strokes from behind, the first word told last -/
def rvB (b : List Wd) : List Wd := (b.drop 1 ++ b.take 1).map fun w => (w.1, w.2.reverse)
theorem rv_mem {b : List Wd} {w : Wd} (h : w ∈ rvB b) : ∃ v ∈ b, w = (v.1, v.2.reverse) := by
  obtain ⟨v, hv, rfl⟩ := List.mem_map.mp h
  rcases List.mem_append.mp hv with hv | hv
  · exact ⟨v, List.mem_of_mem_drop hv, rfl⟩
  · exact ⟨v, List.mem_of_mem_take hv, rfl⟩
theorem gbk_rv {b : List Wd} (g : GBk b) : GBk (rvB b) := by
  have hl : (rvB b).length = b.length := by
    unfold rvB
    rw [List.length_map, List.length_append, List.length_drop, List.length_take]
    have := g.len.1
    omega
  refine ⟨by rw [hl]; exact g.len, fun w hw => ?_, fun w hw => ?_, fun _ _ _ _ => trivial, ?_, fun w hw s hs => ?_⟩
  · obtain ⟨v, hv, rfl⟩ := rv_mem hw
    show v.2.reverse.length ≤ 6
    rw [List.length_reverse]
    exact g.l3 v hv
  · obtain ⟨v, hv, rfl⟩ := rv_mem hw
    show v.2.reverse ≠ []
    intro e
    exact g.ne v hv (List.reverse_eq_nil_iff.mp e)
  · unfold rvB
    rw [List.map_map]
    have e : ((b.drop 1 ++ b.take 1).map ((·.1) ∘ fun w : Wd => (w.1, w.2.reverse))) = (b.drop 1 ++ b.take 1).map (·.1) := List.map_congr_left fun w _ => rfl
    rw [e]
    have hp : (b.drop 1 ++ b.take 1).Perm b := by
      have := List.perm_append_comm (l₁ := b.drop 1) (l₂ := b.take 1)
      rw [List.take_append_drop] at this
      exact this
    exact (hp.map _).nodup_iff.mpr g.nm
  · obtain ⟨v, hv, rfl⟩ := rv_mem hw
    exact g.sl v hv s (List.mem_reverse.mp hs)
theorem nm_rv {b : List Wd} (g : NmOk b) : NmOk (rvB b) := by
  intro w hw c hc
  obtain ⟨v, hv, rfl⟩ := rv_mem hw
  exact g v hv c hc
/-- one row read and written -/
theorem lw_turn {b : List Wd} (hg : GBk b) (hno : NmOk b) (q : Bool) (hq : q = true → ∀ xs ys : List Wd, (∀ w ∈ xs, w ∈ b) → (∀ w ∈ ys, w ∈ b) → wst xs = wst ys → xs = ys) (x0 x2 x6 x7 x8 : Slot) {one ws : List Wd} (ho : ∀ w ∈ one, w ∈ b) (hw : ∀ w ∈ ws, w ∈ b) (hol : (wst one).length ≤ 190) (hwl : (wst ws).length ≤ 190) : ∃ y6 y7,
    lp_law_1 ⟨[x0, .v (.btp (b.map wdD)), x2, .v (.bool q), .v (.list (one.map nmD)), .v (.list (ws.map nmD)), x6, x7, x8], []⟩ = .nx ⟨[x0, .v (.btp (b.map wdD)), x2, .v (.bool q), .v (.list (one.map nmD)), .v (.list (ws.map nmD)), y6, y7, x8], []⟩ := by
  have l1 := row_le hg.ne one ho
  have l2 := row_le hg.ne ws hw
  have hwr := m_written hg hw (by omega)
  have hwo := m_written hg ho (by omega)
  have hlw := m_lwritten hg hw (by omega)
  have hneS := g_neR (stD2_plain (wst ws)) (b := stD2 (wst ws)) rfl
  have hob : noObjs [bkD2 b, stD2 (wst ws)] = true := by
    show (noObjs (b.map wdD) && (noObjs ((wst ws).map stD) && true)) = true
    rw [bk_noObj, stks_noObj]; rfl
  rcases m_read hg (ss := wst ws) (by omega) with ⟨row, st, r1, r2, hrd⟩ | ⟨r1, _⟩
  · have l3 := row_le hg.ne row r1
    rw [r2] at l3
    have hrow := m_row hg r1 (by omega)
    have hlr := m_lwritten hg r1 (by omega)
    rw [r2] at hlr
    have hnr : (D.list (row.map nmD)).noObj = true := nms_noObj row
    cases q with
    | true =>
      have erow : row = ws := hq rfl row ws r1 hw r2
      subst erow
      have hneW := ne_nms (a := row) (b := row) (fun w hx => hno w (hw w hx)) (fun w hx => hno w (hw w hx))
      rw [decide_eq_true rfl] at hneW
      have heqW := eq_nms (a := row) (b := one) (fun w hx => hno w (hw w hx)) (fun w hx => hno w (ho w hx))
      have heqS := eq_stD2 (a := wst row) (b := wst one) (fun _ _ => trivial) (fun _ _ => trivial)
      have hd : decide (row.map (·.1) = one.map (·.1)) = decide (wst row = wst one) := by
        refine decide_eq_decide.mpr ⟨fun e => by rw [names_one hg hw ho e], fun e => by rw [hq rfl row one hw ho e]⟩
      rw [hd] at heqW
      have hnb : ∀ x : Bool, gNe (.bool x) (.bool x) = some ⟨.sh, .bool false⟩ := by intro x; cases x <;> rfl
      refine ⟨.v (stD2 (wst row)), .v (.list (row.map nmD)), ?_⟩
      unfold lp_law_1
      clear hd r1 r2 hw ho hq hol hwl l1 l2 l3
      unfold bkD2 at *
      generalize decide (wst row = wst one) = dc at *
      generalize stD2 (wst row) = sd at *
      generalize stD2 (wst one) = so at *
      generalize row.map nmD = rd at *
      generalize one.map nmD = od at *
      generalize b.map wdD = bl at *
      simp (disch := (first | assumption | with_reducible rfl | decide +kernel | exact Or.inl (by decide +kernel) | exact Or.inr (by decide +kernel) | omega | (simp only [List.length_cons, List.length_nil, List.length_append, List.length_map, List.length_replicate, List.length_range] <;> omega) | rfl)) only [evEqs, List.getElem?_cons_zero, List.getElem?_cons_succ, List.getElem?_nil, List.set_cons_zero, List.set_cons_succ, List.map_cons, List.map_nil, List.length_cons, List.length_nil, List.length_append, List.cons_append, List.nil_append, List.length_map, List.length_singleton, Nat.reduceBEq, Nat.reduceAdd, Nat.reduceSub, Nat.reduceMul, Nat.reduceEqDiff, Nat.reduceLeDiff, Nat.reduceLT, if_false, if_true, ite_true, ite_false, ↓reduceIte, Bool.not_true, Bool.not_false, Bool.false_eq_true, decide_true, decide_false, eq_self, and_true, true_and, and_self, Nat.zero_le, Nat.zero_add, Option.bind_some, Option.bind_none, Nat.lt_irrefl, Int.reduceToNat, Int.reducePow, Int.reduceNeg, Int.reduceMul, Int.reduceAdd, Int.reduceSub, Int.reduceLT, Int.reduceLE, Int.reduceEq, beq_self_eq_true, wipeE, MP.at0, MP.at1, MP.at2, MP.atLit, hwr, hlw, hneS, hob, hrd, hnr, hrow, hneW, hwo, heqW, heqS, hnb]
    | false =>
      refine ⟨.v (stD2 (wst ws)), .v (.list (row.map nmD)), ?_⟩
      unfold lp_law_1
      clear r1 r2 hw ho hq hol hwl l1 l2 l3 hwo
      unfold bkD2 at *
      generalize stD2 (wst ws) = sd at *
      generalize row.map nmD = rd at *
      generalize one.map nmD = od at *
      generalize ws.map nmD = wd at *
      generalize b.map wdD = bl at *
      simp (disch := (first | assumption | with_reducible rfl | decide +kernel | exact Or.inl (by decide +kernel) | exact Or.inr (by decide +kernel) | omega | (simp only [List.length_cons, List.length_nil, List.length_append, List.length_map, List.length_replicate, List.length_range] <;> omega) | rfl)) only [evEqs, List.getElem?_cons_zero, List.getElem?_cons_succ, List.getElem?_nil, List.set_cons_zero, List.set_cons_succ, List.map_cons, List.map_nil, List.length_cons, List.length_nil, List.length_append, List.cons_append, List.nil_append, List.length_map, List.length_singleton, Nat.reduceBEq, Nat.reduceAdd, Nat.reduceSub, Nat.reduceMul, Nat.reduceEqDiff, Nat.reduceLeDiff, Nat.reduceLT, if_false, if_true, ite_true, ite_false, ↓reduceIte, Bool.not_true, Bool.not_false, Bool.false_eq_true, decide_true, decide_false, eq_self, and_true, true_and, and_self, Nat.zero_le, Nat.zero_add, Option.bind_some, Option.bind_none, Nat.lt_irrefl, Int.reduceToNat, Int.reducePow, Int.reduceNeg, Int.reduceMul, Int.reduceAdd, Int.reduceSub, Int.reduceLT, Int.reduceLE, Int.reduceEq, beq_self_eq_true, wipeE, MP.at0, MP.at1, MP.at2, MP.atLit, hwr, hlw, hneS, hob, hrd, hnr, hrow, hlr]
  · exact absurd ⟨ws, hw, rfl⟩ r1
theorem wst_take {b : List Wd} (ws : List Wd) (n : Nat) : (wst (ws.take n)).length ≤ (wst ws).length := by
  conv => rhs; rw [← List.take_append_drop n ws, wst_app, List.length_append]
  omega
theorem m_law (ns : List Int) (h : ns.length ≤ 63) : ∃ st, sem_law [.lk (zs ns)] [] = .ok (.v (.bool true)) st := by
  obtain ⟨b, gd, eb⟩ := m_book ns
  rw [bk_eq] at eb
  have g := gbk_of gd
  have hno : NmOk b := fun w hw c hc => by have := (gd.low w hw).2.2 c hc; omega
  have g2 := gbk_rv g
  have hno2 := nm_rv hno
  obtain ⟨n, r, hn, hw⟩ := wr_all g.len.2 g.l3 g.ne
  obtain ⟨n2, r2, hn2, hw2⟩ := wr_all g2.len.2 g2.l3 g2.ne
  obtain ⟨st1, c1⟩ := m_asked g hno hw hn
  obtain ⟨st2, c2⟩ := m_asked g2 hno2 hw2 hn2
  have htf := m_twofold g hw hn
  have hIs : gIs (tfD (kat r [])) .none = some ⟨.sh, .bool (kat r []).isNone⟩ := by cases kat r [] <;> rfl
  have htn := tf_noObj (kat r [])
  have hob : noObjs [bkD2 b] = true := by
    show (noObjs (b.map wdD) && true) = true
    rw [bk_noObj]; rfl
  have hob2 : noObjs [bkD2 (rvB b)] = true := by
    show (noObjs ((rvB b).map wdD) && true) = true
    rw [bk_noObj]; rfl
  have hq : (kat r []).isNone = true → ∀ xs ys : List Wd, (∀ w ∈ xs, w ∈ b) → (∀ w ∈ ys, w ∈ b) → wst xs = wst ys → xs = ys := fun hk xs ys hx hy e => clear_one g hw (Option.isNone_iff_eq_none.mp hk) hx hy e
  -- the second book
  have e2 : st_law_2 ⟨[.v (.lk (zs ns)), .v (.btp (b.map wdD)), .un, .un, .un, .un, .un, .un, .un], []⟩ = .nx ⟨[.v (.lk (zs ns)), .v (.btp (b.map wdD)), .v (bkD2 (rvB b)), .un, .un, .un, .un, .un, .un], []⟩ := by
    have hlo := cut_lo (b.map wdD) (l := 1) (by omega)
    have hhi := cut_hi (b.map wdD) (h := 1) (by omega)
    have h1 : (1 : Int).toNat = 1 := rfl
    rw [h1, ← List.map_drop] at hlo
    rw [h1, ← List.map_take] at hhi
    have hcat : gPlus (.tup ((b.drop 1).map wdD)) (.tup ((b.take 1).map wdD)) = some ⟨.sh, .tup ((b.drop 1 ++ b.take 1).map wdD)⟩ := by
      rw [g_catT (by rw [List.length_map, List.length_map, List.length_drop, List.length_take]; have := g.len.2; omega), List.map_append]
    have hcl : ((b.drop 1 ++ b.take 1).map wdD).length ≤ 20 := by rw [List.length_map, List.length_append, List.length_drop, List.length_take]; have := g.len; omega
    have hrv : bkD2 (rvB b) = .tup ((b.drop 1 ++ b.take 1).map fun w => D.tup [.str (sw w.1), stD2 w.2.reverse]) := by
      unfold bkD2 rvB
      rw [List.map_map]
      rfl
    have hc : compL (.tp [8, 6]) pYes (pD (pTup (pCons (pD (pVar 8)) (pCons (pD (p1 gRevT (pVar 6))) (pNil))))) ⟨[.v (.lk (zs ns)), .v (.btp (b.map wdD)), .un, .un, .un, .un, .un, .un, .un], []⟩ ((b.drop 1 ++ b.take 1).map wdD) = .ok ((b.drop 1 ++ b.take 1).map fun w => D.tup [.str (sw w.1), stD2 w.2.reverse]) := by
      refine compA wdD (fun w => D.tup [.str (sw w.1), stD2 w.2.reverse]) _ fun w _ => ⟨_, b_tp2 .., ?_⟩
      have hr : gRevT (stD2 w.2) = some ⟨.sh, stD2 w.2.reverse⟩ := by
        unfold stD2
        rw [g_revT, List.map_reverse]
      generalize stD2 w.2.reverse = rs at *
      generalize stD2 w.2 = ss at *
      generalize sw w.1 = wn at *
      clear hcat hlo hhi hrv
      generalize b.map wdD = bl at *
      generalize zs ns = z at *
      simp (disch := (first | assumption | with_reducible rfl | decide +kernel | exact Or.inl (by decide +kernel) | exact Or.inr (by decide +kernel) | omega | (simp only [List.length_cons, List.length_nil, List.length_append, List.length_map, List.length_replicate, List.length_range] <;> omega) | rfl)) only [evEqs, List.getElem?_cons_zero, List.getElem?_cons_succ, List.getElem?_nil, List.set_cons_zero, List.set_cons_succ, List.map_cons, List.map_nil, List.length_cons, List.length_nil, List.length_append, List.cons_append, List.nil_append, List.length_map, List.length_singleton, Nat.reduceBEq, Nat.reduceAdd, Nat.reduceSub, Nat.reduceMul, Nat.reduceEqDiff, Nat.reduceLeDiff, Nat.reduceLT, if_false, if_true, ite_true, ite_false, ↓reduceIte, Bool.not_true, Bool.not_false, Bool.false_eq_true, decide_true, decide_false, eq_self, and_true, true_and, and_self, Nat.zero_le, Nat.zero_add, Option.bind_some, Option.bind_none, Nat.lt_irrefl, Int.reduceToNat, Int.reducePow, Int.reduceNeg, Int.reduceMul, Int.reduceAdd, Int.reduceSub, Int.reduceLT, Int.reduceLE, Int.reduceEq, beq_self_eq_true, wipeE, MP.at0, MP.at1, MP.at2, MP.atLit, hr]
    rw [hrv]
    clear hrv c1 c2 hw hw2 eb hob hob2 htf hIs htn hq
    unfold st_law_2
    generalize ((b.drop 1 ++ b.take 1).map fun w => D.tup [.str (sw w.1), stD2 w.2.reverse]) = out at *
    generalize (b.drop 1 ++ b.take 1).map wdD = od at *
    generalize (b.drop 1).map wdD = dd at *
    generalize (b.take 1).map wdD = td at *
    generalize b.map wdD = bl at *
    generalize zs ns = z at *
    simp (disch := (first | assumption | with_reducible rfl | decide +kernel | exact Or.inl (by decide +kernel) | exact Or.inr (by decide +kernel) | omega | (simp only [List.length_cons, List.length_nil, List.length_append, List.length_map, List.length_replicate, List.length_range] <;> omega) | rfl)) only [evEqs, List.getElem?_cons_zero, List.getElem?_cons_succ, List.getElem?_nil, List.set_cons_zero, List.set_cons_succ, List.map_cons, List.map_nil, List.length_cons, List.length_nil, List.length_append, List.cons_append, List.nil_append, List.length_map, List.length_singleton, Nat.reduceBEq, Nat.reduceAdd, Nat.reduceSub, Nat.reduceMul, Nat.reduceEqDiff, Nat.reduceLeDiff, Nat.reduceLT, if_false, if_true, ite_true, ite_false, ↓reduceIte, Bool.not_true, Bool.not_false, Bool.false_eq_true, decide_true, decide_false, eq_self, and_true, true_and, and_self, Nat.zero_le, Nat.zero_add, Option.bind_some, Option.bind_none, Nat.lt_irrefl, Int.reduceToNat, Int.reducePow, Int.reduceNeg, Int.reduceMul, Int.reduceAdd, Int.reduceSub, Int.reduceLT, Int.reduceLE, Int.reduceEq, beq_self_eq_true, wipeE, MP.at0, MP.at1, MP.at2, MP.atLit, hlo, hhi, hcat, hc]
  -- the rows
  have hcut1 : cutD (zs ns) (some 14) (some 63) = zs ((ns.drop 14).take 49) := by
    rw [cut_eq _ (by omega) (by omega)]
    unfold zs
    rw [List.map_take, List.map_drop]
    rfl
  have hcut2 : cutD (zs ns) (some 40) (some 63) = zs ((ns.drop 40).take 23) := by
    rw [cut_eq _ (by omega) (by omega)]
    unfold zs
    rw [List.map_take, List.map_drop]
    rfl
  obtain ⟨one, ho, hol, d1⟩ := m_drawn g 1 (by omega) (by omega) ((ns.drop 14).take 49) (by rw [List.length_take]; omega)
  obtain ⟨oth, ht, htl, d2⟩ := m_drawn g 7 (by omega) (by omega) ((ns.drop 40).take 23) (by rw [List.length_take]; omega)
  have l1 := row_le g.ne one ho
  have l2 := row_le g.ne oth ht
  have hk1 : cutD (one.map nmD) none (some (((oth.map nmD).length : Nat) : Int)) = (one.take oth.length).map nmD := by
    rw [cut_hi _ (by omega), Int.toNat_natCast, List.length_map, List.map_take]
  have hk2 : cutD (oth.map nmD) none (some 3) = (oth.take 3).map nmD := by
    rw [cut_hi _ (by omega), List.map_take]; rfl
  generalize hqq : (kat r []).isNone = q at *
  have hloop : ∃ s6 s7, loopL (.nm 5) lp_law_1 [.list (one.map nmD), .list (oth.map nmD), .list ((one.take oth.length).map nmD), .list ((oth.take 3).map nmD)] ⟨[.v (.lk (zs ns)), .v (.btp (b.map wdD)), .v (.list (oth.map nmD)), .v (.bool q), .v (.list (one.map nmD)), .un, .un, .un, .un], []⟩ =
      .nx ⟨[.v (.lk (zs ns)), .v (.btp (b.map wdD)), .v (.list (oth.map nmD)), .v (.bool q), .v (.list (one.map nmD)), .v (.list ((oth.take 3).map nmD)), s6, s7, .un], []⟩ := by
    have k3 : ∀ w ∈ one.take oth.length, w ∈ b := fun w hw => ho w (List.mem_of_mem_take hw)
    have k4 : ∀ w ∈ oth.take 3, w ∈ b := fun w hw => ht w (List.mem_of_mem_take hw)
    have m3 := wst_take (b := b) one oth.length
    have m4 := wst_take (b := b) oth 3
    obtain ⟨a6, a7, t1⟩ := lw_turn g hno q hq (.v (.lk (zs ns))) (.v (.list (oth.map nmD))) .un .un .un ho ho hol hol
    obtain ⟨b6, b7, t2⟩ := lw_turn g hno q hq (.v (.lk (zs ns))) (.v (.list (oth.map nmD))) a6 a7 .un ho ht hol htl
    obtain ⟨c6, c7, t3⟩ := lw_turn g hno q hq (.v (.lk (zs ns))) (.v (.list (oth.map nmD))) b6 b7 .un ho k3 hol (by omega)
    obtain ⟨d6, d7, t4⟩ := lw_turn g hno q hq (.v (.lk (zs ns))) (.v (.list (oth.map nmD))) c6 c7 .un ho k4 hol (by omega)
    refine ⟨d6, d7, ?_⟩
    rw [loop_one (b_nm ..) t1, loop_one (b_nm ..) t2, loop_one (b_nm ..) t3, loop_one (b_nm ..) t4]
    rfl
  obtain ⟨s6, s7, hloop⟩ := hloop
  have hl1 : (one.map nmD).length ≤ 190 := by rw [List.length_map]; omega
  have hl2 : (oth.map nmD).length ≤ 190 := by rw [List.length_map]; omega
  have hzl1 : (zs ((ns.drop 14).take 49)).length ≤ 49 := by rw [zs_len, List.length_take]; omega
  have hzl2 : (zs ((ns.drop 40).take 23)).length ≤ 23 := by rw [zs_len, List.length_take]; omega
  refine ⟨[], ?_⟩
  clear hw hw2 gd hq hqq
  generalize tfD (kat r []) = tf at *
  generalize zs ((ns.drop 14).take 49) = z1 at *
  generalize zs ((ns.drop 40).take 23) = z2 at *
  generalize (one.take oth.length).map nmD = one' at *
  generalize (oth.take 3).map nmD = oth' at *
  generalize one.map nmD = oneD at *
  generalize oth.map nmD = othD at *
  generalize knW r = kw at *
  generalize bkD2 (rvB b) = bd2 at *
  unfold bkD2 at *
  generalize b.map wdD = bl at *
  unfold sem_law
  refine run_ex (Q := fun x => x = .ok (.v (.bool true)) []) [.v (.lk (zs ns)), .un, .un, .un, .un, .un, .un, .un, .un] rfl ?_
  generalize zs ns = z at *
  unfold b_law
  refine sqR (s' := ⟨[.v (.lk z), .v (.btp bl), .un, .un, .un, .un, .un, .un, .un], []⟩) (by
    unfold st_law_1
    clear e2 hloop
    simp (disch := (first | assumption | with_reducible rfl | decide +kernel | exact Or.inl (by decide +kernel) | exact Or.inr (by decide +kernel) | omega | (simp only [List.length_cons, List.length_nil, List.length_append, List.length_map, List.length_replicate, List.length_range] <;> omega) | rfl)) only [evEqs, List.getElem?_cons_zero, List.getElem?_cons_succ, List.getElem?_nil, List.set_cons_zero, List.set_cons_succ, List.map_cons, List.map_nil, List.length_cons, List.length_nil, List.length_append, List.cons_append, List.nil_append, List.length_map, List.length_singleton, Nat.reduceBEq, Nat.reduceAdd, Nat.reduceSub, Nat.reduceMul, Nat.reduceEqDiff, Nat.reduceLeDiff, Nat.reduceLT, if_false, if_true, ite_true, ite_false, ↓reduceIte, Bool.not_true, Bool.not_false, Bool.false_eq_true, decide_true, decide_false, eq_self, and_true, true_and, and_self, Nat.zero_le, Nat.zero_add, Option.bind_some, Option.bind_none, Nat.lt_irrefl, Int.reduceToNat, Int.reducePow, Int.reduceNeg, Int.reduceMul, Int.reduceAdd, Int.reduceSub, Int.reduceLT, Int.reduceLE, Int.reduceEq, beq_self_eq_true, wipeE, MP.at0, MP.at1, MP.at2, MP.atLit, eb]) ?_
  refine sqR e2 ?_
  clear e2 eb
  refine sqR (s' := ⟨[.v (.lk z), .v (.btp bl), .v bd2, .un, .un, .un, .un, .un, .un], []⟩) (by
    unfold st_law_3
    clear hloop
    simp (disch := (first | assumption | with_reducible rfl | decide +kernel | exact Or.inl (by decide +kernel) | exact Or.inr (by decide +kernel) | omega | (simp only [List.length_cons, List.length_nil, List.length_append, List.length_map, List.length_replicate, List.length_range] <;> omega) | rfl)) only [evEqs, List.getElem?_cons_zero, List.getElem?_cons_succ, List.getElem?_nil, List.set_cons_zero, List.set_cons_succ, List.map_cons, List.map_nil, List.length_cons, List.length_nil, List.length_append, List.cons_append, List.nil_append, List.length_map, List.length_singleton, Nat.reduceBEq, Nat.reduceAdd, Nat.reduceSub, Nat.reduceMul, Nat.reduceEqDiff, Nat.reduceLeDiff, Nat.reduceLT, if_false, if_true, ite_true, ite_false, ↓reduceIte, Bool.not_true, Bool.not_false, Bool.false_eq_true, decide_true, decide_false, eq_self, and_true, true_and, and_self, Nat.zero_le, Nat.zero_add, Option.bind_some, Option.bind_none, Nat.lt_irrefl, Int.reduceToNat, Int.reducePow, Int.reduceNeg, Int.reduceMul, Int.reduceAdd, Int.reduceSub, Int.reduceLT, Int.reduceLE, Int.reduceEq, beq_self_eq_true, wipeE, MP.at0, MP.at1, MP.at2, MP.atLit, hob, hob2, c1, c2]) ?_
  refine sqR (s' := ⟨[.v (.lk z), .v (.btp bl), .v bd2, .v (.bool q), .un, .un, .un, .un, .un], []⟩) (by
    unfold st_law_4
    clear hloop
    simp (disch := (first | assumption | with_reducible rfl | decide +kernel | exact Or.inl (by decide +kernel) | exact Or.inr (by decide +kernel) | omega | (simp only [List.length_cons, List.length_nil, List.length_append, List.length_map, List.length_replicate, List.length_range] <;> omega) | rfl)) only [evEqs, List.getElem?_cons_zero, List.getElem?_cons_succ, List.getElem?_nil, List.set_cons_zero, List.set_cons_succ, List.map_cons, List.map_nil, List.length_cons, List.length_nil, List.length_append, List.cons_append, List.nil_append, List.length_map, List.length_singleton, Nat.reduceBEq, Nat.reduceAdd, Nat.reduceSub, Nat.reduceMul, Nat.reduceEqDiff, Nat.reduceLeDiff, Nat.reduceLT, if_false, if_true, ite_true, ite_false, ↓reduceIte, Bool.not_true, Bool.not_false, Bool.false_eq_true, decide_true, decide_false, eq_self, and_true, true_and, and_self, Nat.zero_le, Nat.zero_add, Option.bind_some, Option.bind_none, Nat.lt_irrefl, Int.reduceToNat, Int.reducePow, Int.reduceNeg, Int.reduceMul, Int.reduceAdd, Int.reduceSub, Int.reduceLT, Int.reduceLE, Int.reduceEq, beq_self_eq_true, wipeE, MP.at0, MP.at1, MP.at2, MP.atLit, hob, htf, htn, hIs]) ?_
  refine sqR (s' := ⟨[.v (.lk z), .v (.btp bl), .v bd2, .v (.bool q), .v (.list oneD), .un, .un, .un, .un], []⟩) (by
    unfold st_law_5
    clear hloop
    simp (disch := (first | assumption | with_reducible rfl | decide +kernel | exact Or.inl (by decide +kernel) | exact Or.inr (by decide +kernel) | omega | (simp only [List.length_cons, List.length_nil, List.length_append, List.length_map, List.length_replicate, List.length_range] <;> omega) | rfl)) only [evEqs, List.getElem?_cons_zero, List.getElem?_cons_succ, List.getElem?_nil, List.set_cons_zero, List.set_cons_succ, List.map_cons, List.map_nil, List.length_cons, List.length_nil, List.length_append, List.cons_append, List.nil_append, List.length_map, List.length_singleton, Nat.reduceBEq, Nat.reduceAdd, Nat.reduceSub, Nat.reduceMul, Nat.reduceEqDiff, Nat.reduceLeDiff, Nat.reduceLT, if_false, if_true, ite_true, ite_false, ↓reduceIte, Bool.not_true, Bool.not_false, Bool.false_eq_true, decide_true, decide_false, eq_self, and_true, true_and, and_self, Nat.zero_le, Nat.zero_add, Option.bind_some, Option.bind_none, Nat.lt_irrefl, Int.reduceToNat, Int.reducePow, Int.reduceNeg, Int.reduceMul, Int.reduceAdd, Int.reduceSub, Int.reduceLT, Int.reduceLE, Int.reduceEq, beq_self_eq_true, wipeE, MP.at0, MP.at1, MP.at2, MP.atLit, hcut1, d1]) ?_
  refine sqR (s' := ⟨[.v (.lk z), .v (.btp bl), .v (.list othD), .v (.bool q), .v (.list oneD), .un, .un, .un, .un], []⟩) (by
    unfold st_law_6
    clear hloop
    simp (disch := (first | assumption | with_reducible rfl | decide +kernel | exact Or.inl (by decide +kernel) | exact Or.inr (by decide +kernel) | omega | (simp only [List.length_cons, List.length_nil, List.length_append, List.length_map, List.length_replicate, List.length_range] <;> omega) | rfl)) only [evEqs, List.getElem?_cons_zero, List.getElem?_cons_succ, List.getElem?_nil, List.set_cons_zero, List.set_cons_succ, List.map_cons, List.map_nil, List.length_cons, List.length_nil, List.length_append, List.cons_append, List.nil_append, List.length_map, List.length_singleton, Nat.reduceBEq, Nat.reduceAdd, Nat.reduceSub, Nat.reduceMul, Nat.reduceEqDiff, Nat.reduceLeDiff, Nat.reduceLT, if_false, if_true, ite_true, ite_false, ↓reduceIte, Bool.not_true, Bool.not_false, Bool.false_eq_true, decide_true, decide_false, eq_self, and_true, true_and, and_self, Nat.zero_le, Nat.zero_add, Option.bind_some, Option.bind_none, Nat.lt_irrefl, Int.reduceToNat, Int.reducePow, Int.reduceNeg, Int.reduceMul, Int.reduceAdd, Int.reduceSub, Int.reduceLT, Int.reduceLE, Int.reduceEq, beq_self_eq_true, wipeE, MP.at0, MP.at1, MP.at2, MP.atLit, hcut2, d2]) ?_
  unfold st_law_7 st_law_8
  simp (disch := (first | assumption | with_reducible rfl | decide +kernel | exact Or.inl (by decide +kernel) | exact Or.inr (by decide +kernel) | omega | (simp only [List.length_cons, List.length_nil, List.length_append, List.length_map, List.length_replicate, List.length_range] <;> omega) | rfl)) only [evEqs, List.getElem?_cons_zero, List.getElem?_cons_succ, List.getElem?_nil, List.set_cons_zero, List.set_cons_succ, List.map_cons, List.map_nil, List.length_cons, List.length_nil, List.length_append, List.cons_append, List.nil_append, List.length_map, List.length_singleton, Nat.reduceBEq, Nat.reduceAdd, Nat.reduceSub, Nat.reduceMul, Nat.reduceEqDiff, Nat.reduceLeDiff, Nat.reduceLT, if_false, if_true, ite_true, ite_false, ↓reduceIte, Bool.not_true, Bool.not_false, Bool.false_eq_true, decide_true, decide_false, eq_self, and_true, true_and, and_self, Nat.zero_le, Nat.zero_add, Option.bind_some, Option.bind_none, Nat.lt_irrefl, Int.reduceToNat, Int.reducePow, Int.reduceNeg, Int.reduceMul, Int.reduceAdd, Int.reduceSub, Int.reduceLT, Int.reduceLE, Int.reduceEq, beq_self_eq_true, wipeE, MP.at0, MP.at1, MP.at2, MP.atLit, hk1, hk2, hloop]

end L_k64

namespace L_k64
open PySem PySem.Spec PyProof.Rows L2 MP
theorem all_mk {l : PySem.W.OpenLaw} {w : World} {K : PySem.W.Frag} {h : Heap} {mg : Str → Option Value} {fa f0 f1 f2 f3 f4 f5 f6 f7 f8 f9 f10 f11 f12 f13 f14 f15 f16 f17 f18 f19 f20 f21 f22 f23 C_NoWord C_BedError fI_NoWord : Addr} (X : K.In h) (G : h.Ns mainGlobals mg) (hfa : mg "law" = some (.ref fa))
    {fdI_NoWord fd0 fd1 fd2 fd3 fd4 fd5 fd6 fd7 fd8 fd9 fd10 fd11 fd12 fd13 fd14 fd15 fd16 fd17 fd18 fd19 fd20 fd21 fd22 fd23 : FuncData}
    (aC_NoWord : PySem.W.nsIn K mainGlobals "NoWord" = some (some (.ref C_NoWord)))
    (aC_BedError : PySem.W.nsIn K mainGlobals "BedError" = some (some (.ref C_BedError)))
    (xrd_BedError : PySem.W.readsIn K C_BedError (.type "type") = true)
    (xsg_BedError : PySem.W.specialIn K (.ref C_BedError) "__getattribute__" = some (some (.builtin "type.__getattribute__")))
    (xfc_BedError : PySem.W.findCls K (.ref C_BedError) (.type "type") "__init__" = some (.val (.builtin "ValueError.__init__")))
    (xic_NoWord : PySem.W.isClsIn K C_NoWord = true)
    (xga_NoWord : PySem.W.findIn K (.ref C_NoWord) "__getattribute__" = some (some (.builtin "BaseException.__getattribute__")))
    (xgg_NoWord : PySem.W.findIn K (.ref C_NoWord) "__getattr__" = some none)
    (xsb_NoWord : PySem.W.subIn K (.ref C_NoWord) (.type "BaseException") = some true)
    (xac_NoWord : PySem.W.findIn K (.ref C_NoWord) "__class__" = some (some (.builtin "object.__class__")))
    (xmr_NoWord : PySem.W.mroIn K C_NoWord (.type "object") = some true)
    (xhd_NoWord : PySem.W.hasDictIn K C_NoWord = true)
    (xty_NoWord : PySem.W.typeIn K (.ref C_NoWord) = some (.type "type"))
    (xkc_NoWord : PySem.W.keepIn K (.ref C_NoWord) = true)
    (xn_NoWord_word : PySem.W.findIn K (.ref C_NoWord) "word" = some none)
    (oe_NoWord : OexC K C_NoWord)
    (xia_NoWord : PySem.W.findIn K (.ref C_NoWord) "__init__" = some (some (.ref fI_NoWord)))
    (xit_NoWord : PySem.W.typeIn K (.ref fI_NoWord) = some (.type "function"))
    (FI_NoWord : Fun K "__init__" "NoWord.__init__" s_NoWord___init__ fI_NoWord fdI_NoWord)
    (xgn : PySem.W.specialIn K (.builtin "object.__class__") "__get__" = some (some (.builtin "getset_descriptor.__get__")))
    (xtk : PySem.W.takesIn K (.builtin "object.__class__") = some true)
    (a0 : PySem.W.nsIn K mainGlobals "_law_cell" = some (some (.ref f0)))
    (F0 : Fun K "_law_cell" "_law_cell" s_l_cell f0 fd0)
    (a1 : PySem.W.nsIn K mainGlobals "_law_stirred" = some (some (.ref f1)))
    (F1 : Fun K "_law_stirred" "_law_stirred" s_l_stirred f1 fd1)
    (a2 : PySem.W.nsIn K mainGlobals "_law_wide" = some (some (.ref f2)))
    (F2 : Fun K "_law_wide" "_law_wide" s_l_wide f2 fd2)
    (a3 : PySem.W.nsIn K mainGlobals "_law_names" = some (some (.ref f3)))
    (F3 : Fun K "_law_names" "_law_names" s_l_names f3 fd3)
    (a4 : PySem.W.nsIn K mainGlobals "_law_name_of" = some (some (.ref f4)))
    (F4 : Fun K "_law_name_of" "_law_name_of" s_l_name_of f4 fd4)
    (a5 : PySem.W.nsIn K mainGlobals "_law_stroke_of" = some (some (.ref f5)))
    (F5 : Fun K "_law_stroke_of" "_law_stroke_of" s_l_stroke_of f5 fd5)
    (a6 : PySem.W.nsIn K mainGlobals "_law_read_book" = some (some (.ref f6)))
    (F6 : Fun K "_law_read_book" "_law_read_book" s_l_read_book f6 fd6)
    (a7 : PySem.W.nsIn K mainGlobals "_law_stream" = some (some (.ref f7)))
    (F7 : Fun K "_law_stream" "_law_stream" s_l_stream f7 fd7)
    (a8 : PySem.W.nsIn K mainGlobals "_law_stroke" = some (some (.ref f8)))
    (F8 : Fun K "_law_stroke" "_law_stroke" s_l_stroke f8 fd8)
    (a9 : PySem.W.nsIn K mainGlobals "_law_book" = some (some (.ref f9)))
    (F9 : Fun K "_law_book" "_law_book" s_l_book f9 fd9)
    (a10 : PySem.W.nsIn K mainGlobals "_law_drawn" = some (some (.ref f10)))
    (F10 : Fun K "_law_drawn" "_law_drawn" s_l_drawn f10 fd10)
    (a11 : PySem.W.nsIn K mainGlobals "begins" = some (some (.ref f11)))
    (F11 : Fun K "begins" "begins" s_begins f11 fd11)
    (a12 : PySem.W.nsIn K mainGlobals "first_ways" = some (some (.ref f12)))
    (F12 : Fun K "first_ways" "first_ways" s_first_ways f12 fd12)
    (a13 : PySem.W.nsIn K mainGlobals "next_ways" = some (some (.ref f13)))
    (F13 : Fun K "next_ways" "next_ways" s_next_ways f13 fd13)
    (a14 : PySem.W.nsIn K mainGlobals "ways_of" = some (some (.ref f14)))
    (F14 : Fun K "ways_of" "ways_of" s_ways_of f14 fd14)
    (a15 : PySem.W.nsIn K mainGlobals "twofold" = some (some (.ref f15)))
    (F15 : Fun K "twofold" "twofold" s_twofold f15 fd15)
    (a16 : PySem.W.nsIn K mainGlobals "written" = some (some (.ref f16)))
    (F16 : Fun K "written" "written" s_written f16 fd16)
    (a17 : PySem.W.nsIn K mainGlobals "read_strokes" = some (some (.ref f17)))
    (F17 : Fun K "read_strokes" "read_strokes" s_read_strokes f17 fd17)
    (a18 : PySem.W.nsIn K mainGlobals "rests" = some (some (.ref f18)))
    (F18 : Fun K "rests" "rests" s_rests f18 fd18)
    (a19 : PySem.W.nsIn K mainGlobals "_law_written" = some (some (.ref f19)))
    (F19 : Fun K "_law_written" "_law_written" s_l_written f19 fd19)
    (a20 : PySem.W.nsIn K mainGlobals "_law_row" = some (some (.ref f20)))
    (F20 : Fun K "_law_row" "_law_row" s_l_row f20 fd20)
    (a21 : PySem.W.nsIn K mainGlobals "_law_twofold" = some (some (.ref f21)))
    (F21 : Fun K "_law_twofold" "_law_twofold" s_l_twofold f21 fd21)
    (a22 : PySem.W.nsIn K mainGlobals "_law_asked" = some (some (.ref f22)))
    (F22 : Fun K "_law_asked" "_law_asked" s_l_asked f22 fd22)
    (a23 : PySem.W.nsIn K mainGlobals "law" = some (some (.ref f23)))
    (FL : FunD K "law" "law" (defArgs s_law) (defBody s_law) (defScope s_law) [] [] f23 fd23)
    (g_all : PySem.W.nsIn K mainGlobals "all" = some none)
    (g_dict : PySem.W.nsIn K mainGlobals "dict" = some none)
    (g_isinstance : PySem.W.nsIn K mainGlobals "isinstance" = some none)
    (g_len : PySem.W.nsIn K mainGlobals "len" = some none)
    (g_list : PySem.W.nsIn K mainGlobals "list" = some none)
    (g_max : PySem.W.nsIn K mainGlobals "max" = some none)
    (g_range : PySem.W.nsIn K mainGlobals "range" = some none)
    (g_sorted : PySem.W.nsIn K mainGlobals "sorted" = some none)
    (g_str : PySem.W.nsIn K mainGlobals "str" = some none)
    (g_tuple : PySem.W.nsIn K mainGlobals "tuple" = some none)
    : ∃ fd : FuncData, (∀ (s : Shared) (v : Value), BindsTo s fd ⟨[v], []⟩ [("_law_script", v)]) ∧ ∀ base : Heap, K.In base → base.Ns mainGlobals mg → FnOk l.prog w K mg base (L2.CX l.prog w) 6 fa fd ["_law_script"] (MP.spLaw K) := by
  have e := hfa.symm.trans (PySem.W.mg_of X G a23)
  cases e
  let ca : Nat → Addr := fun _ => fa
  have B : Gb w K mg := ⟨PySem.W.mg_none_of X G g_all, PySem.W.mg_none_of X G g_dict, PySem.W.mg_none_of X G g_isinstance, PySem.W.mg_none_of X G g_len, PySem.W.mg_none_of X G g_list, PySem.W.mg_none_of X G g_max, PySem.W.mg_none_of X G g_range, PySem.W.mg_none_of X G g_sorted, PySem.W.mg_none_of X G g_str, PySem.W.mg_none_of X G g_tuple⟩
  have b0 := F0.binds (ps := ["_law_script", "_law_k"]) fun _ _ _ _ _ _ us hl => match us, hl with | [_, _], _ => rfl
  have b1 := F1.binds (ps := ["_law_cell_here", "_law_salt"]) fun _ _ _ _ _ _ us hl => match us, hl with | [_, _], _ => rfl
  have b2 := F2.binds (ps := ["_law_cell_here", "_law_salt"]) fun _ _ _ _ _ _ us hl => match us, hl with | [_, _], _ => rfl
  have b3 := F3.binds (ps := ["_law_cell_here", "_law_many"]) fun _ _ _ _ _ _ us hl => match us, hl with | [_, _], _ => rfl
  have b4 := F4.binds (ps := ["_law_rest"]) fun _ _ _ _ _ _ us hl => match us, hl with | [_], _ => rfl
  have b5 := F5.binds (ps := ["_law_rest"]) fun _ _ _ _ _ _ us hl => match us, hl with | [_], _ => rfl
  have b6 := F6.binds (ps := ["_law_xs"]) fun _ _ _ _ _ _ us hl => match us, hl with | [_], _ => rfl
  have b7 := F7.binds (ps := ["_law_cell_here", "_law_many"]) fun _ _ _ _ _ _ us hl => match us, hl with | [_, _], _ => rfl
  have b8 := F8.binds (ps := ["_law_cell_here", "_law_wide_here"]) fun _ _ _ _ _ _ us hl => match us, hl with | [_, _], _ => rfl
  have b9 := F9.binds (ps := ["_law_script", "_law_at"]) fun _ _ _ _ _ _ us hl => match us, hl with | [_, _], _ => rfl
  have b10 := F10.binds (ps := ["_law_book_here", "_law_cells", "_law_by"]) fun _ _ _ _ _ _ us hl => match us, hl with | [_, _, _], _ => rfl
  have b11 := F11.binds (ps := ["one", "other"]) fun _ _ _ _ _ _ us hl => match us, hl with | [_, _], _ => rfl
  have b12 := F12.binds (ps := ["book"]) fun _ _ _ _ _ _ us hl => match us, hl with | [_], _ => rfl
  have b13 := F13.binds (ps := ["book", "rest", "way"]) fun _ _ _ _ _ _ us hl => match us, hl with | [_, _, _], _ => rfl
  have b14 := F14.binds (ps := ["book"]) fun _ _ _ _ _ _ us hl => match us, hl with | [_], _ => rfl
  have b15 := F15.binds (ps := ["book"]) fun _ _ _ _ _ _ us hl => match us, hl with | [_], _ => rfl
  have b16 := F16.binds (ps := ["book", "words"]) fun _ _ _ _ _ _ us hl => match us, hl with | [_, _], _ => rfl
  have b17 := F17.binds (ps := ["book", "strokes"]) fun _ _ _ _ _ _ us hl => match us, hl with | [_, _], _ => rfl
  have b18 := F18.binds (ps := ["book"]) fun _ _ _ _ _ _ us hl => match us, hl with | [_], _ => rfl
  have b19 := F19.binds (ps := ["_law_book_here", "_law_words"]) fun _ _ _ _ _ _ us hl => match us, hl with | [_, _], _ => rfl
  have b20 := F20.binds (ps := ["_law_found", "_law_book_here"]) fun _ _ _ _ _ _ us hl => match us, hl with | [_, _], _ => rfl
  have b21 := F21.binds (ps := ["_law_book_here", "_law_found", "_law_price"]) fun _ _ _ _ _ _ us hl => match us, hl with | [_, _, _], _ => rfl
  have b22 := F22.binds (ps := ["_law_book_here"]) fun _ _ _ _ _ _ us hl => match us, hl with | [_], _ => rfl
  have F23 := fun_of0 FL
  have bL := FunD.bindsA (ps := ["_law_script"]) FL fun _ _ _ _ _ _ us hl => match us, hl with | [_], _ => rfl
  refine ⟨fd23, fun s v => bL s [v] rfl, fun base _ _ => ?_⟩
  have o_NoWord : XcC K C_NoWord := ⟨xic_NoWord, xga_NoWord, xgg_NoWord, xsb_NoWord, xac_NoWord, xgn, xtk, xmr_NoWord, xhd_NoWord⟩
  have bb_BedError : BasC K mg "BedError" C_BedError := ⟨PySem.W.mg_of X G aC_BedError, xrd_BedError, xsg_BedError, xfc_BedError⟩
  have bI_NoWord := FI_NoWord.binds (ps := ["self", "word"]) fun _ _ _ _ _ _ us hl => match us, hl with | [_, _], _ => rfl
  have E : Xb l.prog w K mg base := ⟨⟨by decide, C_NoWord, fI_NoWord, _, _, aC_NoWord, PySem.W.mg_of X G aC_NoWord, oe_NoWord, xia_NoWord, xit_NoWord, okx_NoWord bb_BedError oe_NoWord xn_NoWord_word FI_NoWord, bI_NoWord⟩⟩
  have r0 : ∀ al, Callee l.prog w K mg base (tab w ca) "_law_cell" al 1 2 sem_l_cell := fun al => Callee.of (ok_l_cell al F0 B) (PySem.W.mg_of X G a0) F0.kp b0
  have r1 : ∀ al, Callee l.prog w K mg base (tab w ca) "_law_stirred" al 1 2 sem_l_stirred := fun al => Callee.of (ok_l_stirred al F1 B) (PySem.W.mg_of X G a1) F1.kp b1
  have r2 : ∀ al, Callee l.prog w K mg base (tab w ca) "_law_wide" al 2 2 sem_l_wide := fun al => Callee.of (ok_l_wide al F2 B r1) (PySem.W.mg_of X G a2) F2.kp b2
  have r3 : ∀ al, Callee l.prog w K mg base (tab w ca) "_law_names" al 1 2 sem_l_names := fun al => Callee.of (ok_l_names al F3 B) (PySem.W.mg_of X G a3) F3.kp b3
  have r4 : ∀ al, Callee l.prog w K mg base (tab w ca) "_law_name_of" al 1 1 sem_l_name_of := fun al => Callee.of (ok_l_name_of al F4 B) (PySem.W.mg_of X G a4) F4.kp b4
  have r5 : ∀ al, Callee l.prog w K mg base (tab w ca) "_law_stroke_of" al 1 1 sem_l_stroke_of := fun al => Callee.of (ok_l_stroke_of al F5 B) (PySem.W.mg_of X G a5) F5.kp b5
  have r6 : ∀ al, Callee l.prog w K mg base (tab w ca) "_law_read_book" al 2 1 sem_l_read_book := fun al => Callee.of (ok_l_read_book al F6 B r4 r5) (PySem.W.mg_of X G a6) F6.kp b6
  have r7 : ∀ al, Callee l.prog w K mg base (tab w ca) "_law_stream" al 2 2 sem_l_stream := fun al => Callee.of (ok_l_stream al F7 B r1) (PySem.W.mg_of X G a7) F7.kp b7
  have r8 : ∀ al, Callee l.prog w K mg base (tab w ca) "_law_stroke" al 1 2 sem_l_stroke := fun al => Callee.of (ok_l_stroke al F8 B) (PySem.W.mg_of X G a8) F8.kp b8
  have r9 : ∀ al, Callee l.prog w K mg base (tab w ca) "_law_book" al 3 2 sem_l_book := fun al => Callee.of (ok_l_book al F9 B r0 r6 r7 r2 r3 r8) (PySem.W.mg_of X G a9) F9.kp b9
  have r10 : ∀ al, Callee l.prog w K mg base (tab w ca) "_law_drawn" al 3 3 sem_l_drawn := fun al => Callee.of (ok_l_drawn al F10 B r2) (PySem.W.mg_of X G a10) F10.kp b10
  have r11 : ∀ al, Callee l.prog w K mg base (tab w ca) "begins" al 1 2 sem_begins := fun al => Callee.of (ok_begins al F11 B) (PySem.W.mg_of X G a11) F11.kp b11
  have r12 : ∀ al, Callee l.prog w K mg base (tab w ca) "first_ways" al 2 1 sem_first_ways := fun al => Callee.of (ok_first_ways al F12 B r11) (PySem.W.mg_of X G a12) F12.kp b12
  have r13 : ∀ al, Callee l.prog w K mg base (tab w ca) "next_ways" al 2 3 sem_next_ways := fun al => Callee.of (ok_next_ways al F13 B r11) (PySem.W.mg_of X G a13) F13.kp b13
  have r14 : Callee l.prog w K mg base (tab w ca) "ways_of" true 3 1 sem_ways_of := Callee.of (ok_ways_of F14 B r12 r13) (PySem.W.mg_of X G a14) F14.kp b14
  have r15 : Callee l.prog w K mg base (tab w ca) "twofold" true 4 1 sem_twofold := Callee.of (ok_twofold F15 B r14) (PySem.W.mg_of X G a15) F15.kp b15
  have r16 : ∀ al, Callee l.prog w K mg base (tab w ca) "written" al 3 2 sem_written := fun al => Callee.of (ok_written al F16 E B) (PySem.W.mg_of X G a16) F16.kp b16
  have r17 : Callee l.prog w K mg base (tab w ca) "read_strokes" true 1 2 sem_read_strokes := Callee.of (ok_read_strokes F17 B) (PySem.W.mg_of X G a17) F17.kp b17
  have r18 : Callee l.prog w K mg base (tab w ca) "rests" true 4 1 sem_rests := Callee.of (ok_rests F18 B r14) (PySem.W.mg_of X G a18) F18.kp b18
  have r19 : ∀ al, Callee l.prog w K mg base (tab w ca) "_law_written" al 1 2 sem_l_written := fun al => Callee.of (ok_l_written al F19 B) (PySem.W.mg_of X G a19) F19.kp b19
  have r20 : ∀ al, Callee l.prog w K mg base (tab w ca) "_law_row" al 1 2 sem_l_row := fun al => Callee.of (ok_l_row al F20 B) (PySem.W.mg_of X G a20) F20.kp b20
  have r21 : ∀ al, Callee l.prog w K mg base (tab w ca) "_law_twofold" al 2 3 sem_l_twofold := fun al => Callee.of (ok_l_twofold al F21 B r20 r19) (PySem.W.mg_of X G a21) F21.kp b21
  have r22 : Callee l.prog w K mg base (tab w ca) "_law_asked" true 5 1 sem_l_asked := Callee.of (ok_l_asked F22 B r18 r15 r21) (PySem.W.mg_of X G a22) F22.kp b22
  exact FnOk.imp (ok_law true F23 B r9 r22 r15 r10 r16 r19 r17 r20) (law_imp m_law)
open H_k64 (hFa hFn hTs hXs hEx)
theorem facts {l : PySem.W.OpenLaw} {w : World} {K : PySem.W.Frag} {h : Heap} {mg : Str → Option Value} {f : Addr} (X : K.In h) (G : h.Ns mainGlobals mg) (hfa : mg "law" = some (.ref f)) (c : He.SaysX hFa hFn hTs [] hEx w h K) : ∃ fd : FuncData, (∀ (s : Shared) (v : Value), BindsTo s fd ⟨[v], []⟩ [("_law_script", v)]) ∧ ∀ base : Heap, K.In base → base.Ns mainGlobals mg → FnOk l.prog w K mg base (L2.CX l.prog w) 6 f fd ["_law_script"] (MP.spLaw K) := by
  have hx : (hXs K).all id = true := c.more
  obtain ⟨fd0, F0⟩ := hd_fun c 0 (p := ("_law_cell", none)) (x := "_law_cell") (q := "_law_cell") (st := s_l_cell) rfl
  obtain ⟨fd1, F1⟩ := hd_fun c 1 (p := ("_law_stirred", none)) (x := "_law_stirred") (q := "_law_stirred") (st := s_l_stirred) rfl
  obtain ⟨fd2, F2⟩ := hd_fun c 2 (p := ("_law_wide", none)) (x := "_law_wide") (q := "_law_wide") (st := s_l_wide) rfl
  obtain ⟨fd3, F3⟩ := hd_fun c 3 (p := ("_law_names", none)) (x := "_law_names") (q := "_law_names") (st := s_l_names) rfl
  obtain ⟨fd4, F4⟩ := hd_fun c 4 (p := ("_law_name_of", none)) (x := "_law_name_of") (q := "_law_name_of") (st := s_l_name_of) rfl
  obtain ⟨fd5, F5⟩ := hd_fun c 5 (p := ("_law_stroke_of", none)) (x := "_law_stroke_of") (q := "_law_stroke_of") (st := s_l_stroke_of) rfl
  obtain ⟨fd6, F6⟩ := hd_fun c 6 (p := ("_law_read_book", none)) (x := "_law_read_book") (q := "_law_read_book") (st := s_l_read_book) rfl
  obtain ⟨fd7, F7⟩ := hd_fun c 7 (p := ("_law_stream", none)) (x := "_law_stream") (q := "_law_stream") (st := s_l_stream) rfl
  obtain ⟨fd8, F8⟩ := hd_fun c 8 (p := ("_law_stroke", none)) (x := "_law_stroke") (q := "_law_stroke") (st := s_l_stroke) rfl
  obtain ⟨fd9, F9⟩ := hd_fun c 9 (p := ("_law_book", none)) (x := "_law_book") (q := "_law_book") (st := s_l_book) rfl
  obtain ⟨fd10, F10⟩ := hd_fun c 10 (p := ("_law_drawn", none)) (x := "_law_drawn") (q := "_law_drawn") (st := s_l_drawn) rfl
  obtain ⟨fd11, F11⟩ := hd_fun c 11 (p := ("begins", none)) (x := "begins") (q := "begins") (st := s_begins) rfl
  obtain ⟨fd12, F12⟩ := hd_fun c 12 (p := ("first_ways", none)) (x := "first_ways") (q := "first_ways") (st := s_first_ways) rfl
  obtain ⟨fd13, F13⟩ := hd_fun c 13 (p := ("next_ways", none)) (x := "next_ways") (q := "next_ways") (st := s_next_ways) rfl
  obtain ⟨fd14, F14⟩ := hd_fun c 14 (p := ("ways_of", none)) (x := "ways_of") (q := "ways_of") (st := s_ways_of) rfl
  obtain ⟨fd15, F15⟩ := hd_fun c 15 (p := ("twofold", none)) (x := "twofold") (q := "twofold") (st := s_twofold) rfl
  obtain ⟨fd16, F16⟩ := hd_fun c 16 (p := ("written", none)) (x := "written") (q := "written") (st := s_written) rfl
  obtain ⟨fd17, F17⟩ := hd_fun c 17 (p := ("read_strokes", none)) (x := "read_strokes") (q := "read_strokes") (st := s_read_strokes) rfl
  obtain ⟨fd18, F18⟩ := hd_fun c 18 (p := ("rests", none)) (x := "rests") (q := "rests") (st := s_rests) rfl
  obtain ⟨fd19, F19⟩ := hd_fun c 19 (p := ("_law_written", none)) (x := "_law_written") (q := "_law_written") (st := s_l_written) rfl
  obtain ⟨fd20, F20⟩ := hd_fun c 20 (p := ("_law_row", none)) (x := "_law_row") (q := "_law_row") (st := s_l_row) rfl
  obtain ⟨fd21, F21⟩ := hd_fun c 21 (p := ("_law_twofold", none)) (x := "_law_twofold") (q := "_law_twofold") (st := s_l_twofold) rfl
  obtain ⟨fd22, F22⟩ := hd_fun c 22 (p := ("_law_asked", none)) (x := "_law_asked") (q := "_law_asked") (st := s_l_asked) rfl
  obtain ⟨fd23, FL⟩ := hd_funD c 23 (p := ("law", none)) (x := "law") (q := "law") (st := s_law) (dl := []) rfl
  obtain ⟨fdI_NoWord, FI_NoWord⟩ := hd_fun c 24 (p := ("NoWord", some "__init__")) (x := "__init__") (q := "NoWord.__init__") (st := s_NoWord___init__) rfl
  obtain ⟨xia_NoWord, _, _⟩ := hd_meth c 0 (x := "NoWord") (m := "__init__") rfl
  exact all_mk X G hfa (hd_glo c 1 rfl) (hd_glo c 2 rfl) (hd_all hx 5 rfl) (of_decide_eq_true (hd_all hx 6 rfl)) (fclsB_ok (hd_all hx 7 rfl)) (hd_all hx 8 rfl) (of_decide_eq_true (hd_all hx 9 rfl)) (of_decide_eq_true (hd_all hx 10 rfl)) (of_decide_eq_true (hd_all hx 2 rfl)) (of_decide_eq_true (hd_all hx 11 rfl)) (of_decide_eq_true (hd_all hx 12 rfl)) (hd_all hx 13 rfl) (of_decide_eq_true (hd_all hx 3 rfl)) (hd_all hx 4 rfl) (hd_noat c 3 rfl) (oexB_ok (hd_all hx 1 rfl) (of_decide_eq_true (hd_all hx 0 rfl)) (of_decide_eq_true (hd_all hx 2 rfl)) (of_decide_eq_true (hd_all hx 3 rfl)) (hd_all hx 4 rfl)) xia_NoWord (of_decide_eq_true (hd_all hx 14 rfl)) FI_NoWord (of_decide_eq_true (hd_all hx 15 rfl)) (of_decide_eq_true (hd_all hx 16 rfl)) (hd_glo c 4 rfl) F0 (hd_glo c 5 rfl) F1 (hd_glo c 6 rfl) F2 (hd_glo c 7 rfl) F3 (hd_glo c 8 rfl) F4 (hd_glo c 9 rfl) F5 (hd_glo c 10 rfl) F6 (hd_glo c 11 rfl) F7 (hd_glo c 12 rfl) F8 (hd_glo c 13 rfl) F9 (hd_glo c 14 rfl) F10 (hd_glo c 15 rfl) F11 (hd_glo c 16 rfl) F12 (hd_glo c 17 rfl) F13 (hd_glo c 18 rfl) F14 (hd_glo c 19 rfl) F15 (hd_glo c 20 rfl) F16 (hd_glo c 21 rfl) F17 (hd_glo c 22 rfl) F18 (hd_glo c 23 rfl) F19 (hd_glo c 24 rfl) F20 (hd_glo c 25 rfl) F21 (hd_glo c 26 rfl) F22 (hd_glo c 27 rfl) FL (hd_free c 28 rfl) (hd_free c 29 rfl) (hd_free c 30 rfl) (hd_free c 31 rfl) (hd_free c 32 rfl) (hd_free c 33 rfl) (hd_free c 34 rfl) (hd_free c 35 rfl) (hd_free c 36 rfl) (hd_free c 37 rfl)
end L_k64

open PySem PySem.W PyProof.Rows in
set_option maxRecDepth 100000 in
set_option maxHeartbeats 0 in
theorem PySem.Challenge.cw_chordbed_k64_whole_clear_or_twofold_holds : PySem.Challenge.rw_chordbed_k64_whole_clear_or_twofold.Holds := by
  w_on; o_law
  refine HandSHeadRun.head_any (r := OpenLaw.row PySem.Challenge.rw_chordbed_k64_whole_clear_or_twofold) (q := H_k64.hQ) (H := H_k64.hk) (ob := H_k64.hOb) (M := 8000) (loose := H_k64.hNm) (d := HandSHeadRun.topDef (OpenLaw.row PySem.Challenge.rw_chordbed_k64_whole_clear_or_twofold).prog 31) (kwd := []) H_k64.hOb_eq
    (by kernel_rfl) (fun s => by kernel_rfl) H_k64.run (by kernel_rfl) (by kernel_rfl) (by kernel_rfl) (by rfl) (by first | assumption | decide +kernel) (by decide +kernel) ⟨rfl, rfl, rfl, rfl, rfl, by decide +kernel⟩ ?hw ?hc
  case hw => w_witness2
  case hc =>
    refine MP.head_end (l := PySem.Challenge.rw_chordbed_k64_whole_clear_or_twofold) (k := 6) (x := "_law_script") rfl (by kernel_rfl) ⟨rfl, by decide, by decide⟩ ?F
    intro w mg fa h Y G hmg0
    obtain ⟨K, KX, c⟩ := Y
    have hmg : mg ("law" : PySem.Str) = some (.ref fa) := by
      have e : (HandSHeadRun.topDef (OpenLaw.row PySem.Challenge.rw_chordbed_k64_whole_clear_or_twofold).prog 31).name = ("law" : PySem.Str) := by kernel_rfl
      rw [← e]
      exact hmg0
    exact ⟨K, KX, L_k64.facts KX G hmg c⟩
