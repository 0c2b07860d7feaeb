import PyProof.Rows.All
import Wide.All
import OpenK.AllK
import Wide.FinOn
import HandS.ForMost
import HandS.Conv
import HandS.Wide
import HandS.TupAny
import HandS.Deep
import HandS.TupLe
import HandS.ForExc
import HandS.IsInst
import HandS.SortInts
import HandS.TupMul
import HandS.WideBits
import HandS.Zip
import HandS.Text
import HandS.ExcInit
import KE.KExcIs
import KE.KIsAll
import HandS.SetFor
import HandS.ExcIs
import KE.KRevSl
import HandS.FStr
import HandS.Dict
import HandS.Comp
import KE.GoesRaise
import KE.GoesComp
import HandS.Set
import HandS.Strs
import KE.SortData
import KE.DatumOrd
import PySem.Challenge.RW_chordbed_k03_readings_that_can_be
set_option Elab.async false
set_option maxRecDepth 100000
set_option linter.all false
set_option maxHeartbeats 1000000
/-! MP 1: values by content, states, what a state means on the abstract heap. -/
namespace MP
open PySem PySem.Spec PyProof.Rows L2

/-- a value by its content -/
inductive D where
  | none | bool (b : Bool) | int (i : Int) | str (x : Str) | list (xs : List D) | lk (xs : List D) | tup (xs : List D) | dic (kvs : List (Key × D)) | obj (n : Nat) | xv (c : Str) (fs : List (Str × D))
  deriving Inhabited

mutual
def D.py : D → PyData
  | .none => .none
  | .bool b => .bool b
  | .int i => .int i
  | .str x => .str x
  | .list xs => .list (pys xs)
  | .lk xs => .list (pys xs)
  | .tup xs => .tuple (pys xs)
  | .dic _ => .dict []
  | .obj _ => .dict []
  | .xv _ _ => .dict []
def pys : List D → List PyData
  | [] => []
  | x :: xs => x.py :: pys xs
end
theorem pys_map : ∀ xs : List D, pys xs = xs.map D.py
  | [] => by simp [pys]
  | x :: xs => by simp [pys, pys_map xs]

/-- at a: a caught exception of the class at C, its dict (none | at d) -/
def exv (a C : Addr) (d : Option Addr) : HO := .ext fun h => ∃ (oe : Obj) (vs : Array Value), h.get? a = some oe ∧ Zc (.ref C) d oe ∧ oe.data = .fields vs
/-- the class that a name of the top stands for -/
def NmC (K : PySem.W.Frag) (c : Str) (C : Addr) : Prop := PySem.W.nsIn K mainGlobals c = some (some (.ref C))
theorem NmC.eq {K : PySem.W.Frag} {c : Str} {C C' : Addr} (h : NmC K c C) (h' : NmC K c C') : C = C' := by
  have := h.symm.trans h'
  cases this
  rfl
/-! what stands at an address, by content -/
mutual
inductive DR (K : PySem.W.Frag) (m : List Addr) (H : Hp) : V → D → Prop
  | non : DR K m H .non .none
  | bl (b : Bool) : DR K m H (.bl b) (.bool b)
  | int (i : Int) : DR K m H (.int i) (.int i)
  | str (x : Str) : DR K m H (.str x) (.str x)
  | list {a : Addr} {xs : List V} {ds : List D} : H a = some (.lst xs) → DRs K m H xs ds → DR K m H (.ref a) (.list ds)
  | lk {a : Addr} {xs : List V} {ds : List D} : SqL K H a xs → DRs K m H xs ds → DR K m H (.ref a) (.lk ds)
  | tup {a : Addr} {xs : List V} {ds : List D} : SqT K H a xs → DRs K m H xs ds → DR K m H (.ref a) (.tup ds)
  | dic {a : Addr} {ks : List (Key × V)} {kvs : List (Key × D)} : H a = some (.dK ks) → DRk K m H ks kvs → DR K m H (.ref a) (.dic kvs)
  | obj {a : Addr} {n : Nat} : m[n]? = some a → DR K m H (.ref a) (.obj n)
  | xn {a C : Addr} {c : Str} : NmC K c C → H a = some (exv a C none) → DR K m H (.ref a) (.xv c [])
  | xf {a C dd : Addr} {c : Str} {vs : List (Str × V)} {fs : List (Str × D)} : NmC K c C → H a = some (exv a C (some dd)) → H dd = some (.xd vs) → DRf K m H vs fs → DR K m H (.ref a) (.xv c fs)
inductive DRs (K : PySem.W.Frag) (m : List Addr) (H : Hp) : List V → List D → Prop
  | nil : DRs K m H [] []
  | cons {v : V} {vs : List V} {d : D} {ds : List D} : DR K m H v d → DRs K m H vs ds → DRs K m H (v :: vs) (d :: ds)
inductive DRk (K : PySem.W.Frag) (m : List Addr) (H : Hp) : List (Key × V) → List (Key × D) → Prop
  | nil : DRk K m H [] []
  | cons {k : Key} {v : V} {vs : List (Key × V)} {d : D} {ds : List (Key × D)} : DR K m H v d → DRk K m H vs ds → DRk K m H ((k, v) :: vs) ((k, d) :: ds)
inductive DRf (K : PySem.W.Frag) (m : List Addr) (H : Hp) : List (Str × V) → List (Str × D) → Prop
  | nil : DRf K m H [] []
  | cons {k : Str} {v : V} {vs : List (Str × V)} {d : D} {ds : List (Str × D)} : DR K m H v d → DRf K m H vs ds → DRf K m H ((k, v) :: vs) ((k, d) :: ds)
end

theorem Same.seqT {K : PySem.W.Frag} {H H' : Hp} {a : Addr} {xs : List V} (e : Same H H') (h : SqT K H a xs) : SqT K H' a xs := by
  rcases h with (h | ⟨o, h⟩) | h
  · exact .inl (.inl (e _ _ h))
  · exact .inl (.inr ⟨o, e _ _ h⟩)
  · exact .inr h

def MLe (m m' : List Addr) : Prop := ∀ (n : Nat) (a : Addr), m[n]? = some a → m'[n]? = some a
theorem MLe.refl (m : List Addr) : MLe m m := fun _ _ h => h
theorem MLe.trans {m1 m2 m3 : List Addr} (a : MLe m1 m2) (b : MLe m2 m3) : MLe m1 m3 := fun n x h => b n x (a n x h)
theorem MLe.snoc (m : List Addr) (x : Addr) : MLe m (m ++ [x]) := fun n a h => by
  have hl : n < m.length := (List.getElem?_eq_some_iff.mp h).1
  rw [List.getElem?_append_left hl]
  exact h

section
variable {K : PySem.W.Frag} {m m' : List Addr} {H H' : Hp}
mutual
theorem DR.mono (hm : MLe m m') (hs : Same H H') : ∀ (d : D) (v : V), DR K m H v d → DR K m' H' v d
  | .none, _, h => by cases h; exact .non
  | .bool b, _, h => by cases h; exact .bl b
  | .int i, _, h => by cases h; exact .int i
  | .str x, _, h => by cases h; exact .str x
  | .list ds, _, h => by
    cases h with
    | list h1 h2 => exact .list (hs _ _ h1) (DRs.mono hm hs ds _ h2)
  | .lk ds, _, h => by
    cases h with
    | lk h1 h2 => exact .lk (hs.seq h1) (DRs.mono hm hs ds _ h2)
  | .tup ds, _, h => by
    cases h with
    | tup h1 h2 => exact .tup (Same.seqT hs h1) (DRs.mono hm hs ds _ h2)
  | .dic kvs, _, h => by
    cases h with
    | dic h1 h2 => exact .dic (hs _ _ h1) (DRk.mono hm hs kvs _ h2)
  | .obj n, _, h => by
    cases h with
    | obj h1 => exact .obj (hm _ _ h1)
  | .xv c fs, _, h => by
    cases h with
    | xn h1 h2 => exact .xn h1 (hs _ _ h2)
    | xf h1 h2 h3 h4 => exact .xf h1 (hs _ _ h2) (hs _ _ h3) (DRf.mono hm hs fs _ h4)
theorem DRs.mono (hm : MLe m m') (hs : Same H H') : ∀ (ds : List D) (vs : List V), DRs K m H vs ds → DRs K m' H' vs ds
  | [], _, h => by cases h; exact .nil
  | d :: ds, _, h => by
    cases h with
    | cons h1 h2 => exact .cons (DR.mono hm hs d _ h1) (DRs.mono hm hs ds _ h2)
theorem DRk.mono (hm : MLe m m') (hs : Same H H') : ∀ (ds : List (Key × D)) (vs : List (Key × V)), DRk K m H vs ds → DRk K m' H' vs ds
  | [], _, h => by cases h; exact .nil
  | (k, d) :: ds, _, h => by
    cases h with
    | cons h1 h2 => exact .cons (DR.mono hm hs d _ h1) (DRk.mono hm hs ds _ h2)
theorem DRf.mono (hm : MLe m m') (hs : Same H H') : ∀ (ds : List (Str × D)) (vs : List (Str × V)), DRf K m H vs ds → DRf K m' H' vs ds
  | [], _, h => by cases h; exact .nil
  | (k, d) :: ds, _, h => by
    cases h with
    | cons h1 h2 => exact .cons (DR.mono hm hs d _ h1) (DRf.mono hm hs ds _ h2)
end
theorem DR.up {v : V} {d : D} (h : DR K m H v d) (hs : Same H H') : DR K m H' v d := DR.mono (MLe.refl m) hs d v h
theorem DRs.up {v : List V} {d : List D} (h : DRs K m H v d) (hs : Same H H') : DRs K m H' v d := DRs.mono (MLe.refl m) hs d v h
theorem DRk.up {v : List (Key × V)} {d : List (Key × D)} (h : DRk K m H v d) (hs : Same H H') : DRk K m H' v d := DRk.mono (MLe.refl m) hs d v h
theorem DRs.length : ∀ {vs : List V} {ds : List D}, DRs K m H vs ds → vs.length = ds.length
  | _, _, .nil => rfl
  | _, _, .cons _ t => by simp [DRs.length t]
theorem DRs.get : ∀ {vs : List V} {ds : List D} {i : Nat} {d : D}, DRs K m H vs ds → ds[i]? = some d → ∃ v, vs[i]? = some v ∧ DR K m H v d
  | _, _, _, _, .nil, e => by simp at e
  | _, _, 0, _, .cons r _, e => by simp at e; subst e; exact ⟨_, rfl, r⟩
  | _, _, i + 1, d, .cons _ t, e => by
    obtain ⟨v, h1, h2⟩ := DRs.get (i := i) (d := d) t (by simpa using e)
    exact ⟨v, by simpa using h1, h2⟩
theorem DRs.get' {vs : List V} {ds : List D} {i : Nat} {v : V} (h : DRs K m H vs ds) (e : vs[i]? = some v) : ∃ d, ds[i]? = some d ∧ DR K m H v d := by
  have hl := h.length
  have hi := (List.getElem?_eq_some_iff.mp e).1
  have hd : ds[i]? = some (ds[i]'(by omega)) := by simp
  obtain ⟨v', h1, h2⟩ := h.get hd
  rw [e] at h1
  cases h1
  exact ⟨_, hd, h2⟩
theorem DRs.append : ∀ {xs ys : List V} {us ws : List D}, DRs K m H xs us → DRs K m H ys ws → DRs K m H (xs ++ ys) (us ++ ws)
  | _, _, _, _, .nil, s => s
  | _, _, _, _, .cons r t, s => .cons r (DRs.append t s)
theorem DRs.set {x : V} {u : D} (r : DR K m H x u) : ∀ {xs : List V} {us : List D} (i : Nat), DRs K m H xs us → DRs K m H (xs.set i x) (us.set i u)
  | _, _, _, .nil => .nil
  | _, _, 0, .cons _ t => .cons r t
  | _, _, i + 1, .cons q t => .cons q (DRs.set r i t)
theorem DRs.take : ∀ {xs : List V} {us : List D} (n : Nat), DRs K m H xs us → DRs K m H (xs.take n) (us.take n)
  | _, _, 0, _ => .nil
  | _, _, _ + 1, .nil => .nil
  | _, _, n + 1, .cons r t => .cons r (DRs.take n t)
theorem DRs.drop : ∀ {xs : List V} {us : List D} (n : Nat), DRs K m H xs us → DRs K m H (xs.drop n) (us.drop n)
  | _, _, 0, r => r
  | _, _, _ + 1, .nil => .nil
  | _, _, n + 1, .cons _ t => DRs.drop n t
theorem DRs.eraseIdx : ∀ {xs : List V} {us : List D} (i : Nat), DRs K m H xs us → DRs K m H (xs.eraseIdx i) (us.eraseIdx i)
  | _, _, _, .nil => .nil
  | _, _, 0, .cons _ t => t
  | _, _, i + 1, .cons q t => .cons q (DRs.eraseIdx i t)
theorem DRs.reverse {xs : List V} {us : List D} (h : DRs K m H xs us) : DRs K m H xs.reverse us.reverse := by
  induction us generalizing xs with
  | nil => cases h; exact .nil
  | cons d ds ih =>
    cases h with
    | cons h1 h2 =>
      rw [List.reverse_cons, List.reverse_cons]
      exact (ih h2).append (.cons h1 .nil)
theorem DRs.ints : ∀ {ns : List Int}, DRs K m H (ns.map V.int) (ns.map D.int)
  | [] => .nil
  | _ :: _ => .cons (.int _) DRs.ints
theorem DRs.ints_of : ∀ {vs : List V} {ns : List Int}, DRs K m H vs (ns.map D.int) → vs = ns.map V.int
  | _, [], h => by cases h; rfl
  | _, n :: ns, h => by
    cases h with
    | cons h1 h2 =>
      cases h1
      rw [DRs.ints_of h2]
      rfl
end

/-! slots, objects, states -/
/-- what a name holds: nothing, a value that nobody changes, a list or dict of its own, one of its own that is put away for a while -/
inductive Slot where
  | un | v (d : D) | own (d : D) | hid (a : Addr)
structure Ob where
  cls : Nat
  fs : List (Nat × Slot)
structure Sta where
  env : List Slot
  st : List Ob
/-- the names of classes and attributes -/
structure Tab where
  ca : Nat → Addr
  nm : Nat → Str
  inj : ∀ i j, nm i = nm j → i = j

/-- an object of its own stands by content -/
inductive ObD (K : PySem.W.Frag) (m : List Addr) (M : Hp) : HO → D → Prop
  | lst {xs : List V} {ds : List D} : DRs K m M xs ds → ObD K m M (.lst xs) (.list ds)
  | dic {xs : List (Key × V)} {ds : List (Key × D)} : DRk K m M xs ds → ObD K m M (.dK xs) (.dic ds)
theorem ObD.mono {K : PySem.W.Frag} {m m' : List Addr} {M M' : Hp} {o : HO} {d : D} (h : ObD K m M o d) (hm : MLe m m') (hs : Same M M') : ObD K m' M' o d := by
  cases h with
  | lst h => exact .lst (DRs.mono hm hs _ _ h)
  | dic h => exact .dic (DRk.mono hm hs _ _ h)
theorem ObD.dr {K : PySem.W.Frag} {m : List Addr} {M H : Hp} {o : HO} {d : D} {a : Addr} (h : ObD K m M o d) (hs : Same M H) (e : H a = some o) : DR K m H (.ref a) d := by
  cases h with
  | lst h => exact .list e (h.up hs)
  | dic h => exact .dic e (h.up hs)

def SlotR (K : PySem.W.Frag) (m : List Addr) (M H : Hp) : Slot → Option V → List Addr → Prop
  | .un, _, fp => fp = []
  | .v d, x, fp => fp = [] ∧ ∃ y, x = some y ∧ DR K m M y d
  | .own d, x, fp => ∃ a o, fp = [a] ∧ x = some (.ref a) ∧ H a = some o ∧ ObD K m M o d
  | .hid a, x, fp => fp = [] ∧ x = some (.ref a)
def SlotsR (K : PySem.W.Frag) (m : List Addr) (M H : Hp) : List Slot → List (Option V) → List Addr → Prop
  | [], [], fp => fp = []
  | s :: ss, x :: xs, fp => ∃ f1 f2, fp = f1 ++ f2 ∧ SlotR K m M H s x f1 ∧ SlotsR K m M H ss xs f2
  | _, _, _ => False
def FsR (K : PySem.W.Frag) (nm : Nat → Str) (m : List Addr) (M H : Hp) : List (Nat × Slot) → List (Str × V) → List Addr → Prop
  | [], [], fp => fp = []
  | (i, s) :: ss, (x, v) :: xs, fp => ∃ f1 f2, fp = f1 ++ f2 ∧ x = nm i ∧ SlotR K m M H s (some v) f1 ∧ FsR K nm m M H ss xs f2
  | _, _, _ => False
def ObR (K : PySem.W.Frag) (T : Tab) (m : List Addr) (M H : Hp) (ob : Ob) (a : Addr) (fp : List Addr) : Prop :=
  ∃ dx fs f, fp = a :: f ∧ H a = some (.ins (T.ca ob.cls) dx fs) ∧ FsR K T.nm m M H ob.fs fs f
def StoreR (K : PySem.W.Frag) (T : Tab) (m : List Addr) (M H : Hp) : List Ob → List Addr → List Addr → Prop
  | [], _, fp => fp = []
  | ob :: obs, a :: as, fp => ∃ f1 f2, fp = f1 ++ f2 ∧ ObR K T m M H ob a f1 ∧ StoreR K T m M H obs as f2
  | _ :: _, [], _ => False

/-- THE RELATION: M the values that nobody changes any more; G what must stay; the rest of the heap is of no account -/
structure Rel (K : PySem.W.Frag) (T : Tab) (m : List Addr) (M G H : Hp) (s : Sta) (σ : L2.St) : Prop where
  mh : Same M H
  gh : Same G H
  fp : ∃ f1 f2, SlotsR K m M H s.env σ f1 ∧ StoreR K T m M H s.st m f2 ∧ (f1 ++ f2).Nodup ∧ ∀ a ∈ f1 ++ f2, M a = Option.none ∧ G a = Option.none

/-- the heap grew, the values that nobody changes with it -/
structure Grow (H M H' M' : Hp) : Prop where
  same : Same H H'
  mm : Same M M'
  mh : Same M' H'
  new : ∀ a o, M' a = some o → M a = some o ∨ H a = Option.none
theorem Grow.refl {H M : Hp} (h : Same M H) : Grow H M H M := ⟨Same.refl _, Same.refl _, h, fun _ _ h => .inl h⟩
theorem Grow.trans {H M H1 M1 H2 M2 : Hp} (a : Grow H M H1 M1) (b : Grow H1 M1 H2 M2) : Grow H M H2 M2 :=
  ⟨a.same.trans b.same, a.mm.trans b.mm, b.mh, fun x o h => (b.new x o h).elim (fun h => a.new x o h) fun h => .inr (a.same.free h)⟩
theorem Grow.keepNone {H M H' M' : Hp} (g : Grow H M H' M') {a : Addr} {o : HO} (h : H a = some o) (n : M a = Option.none) : M' a = Option.none := by
  cases q : M' a with
  | none => rfl
  | some u =>
    rcases g.new a u q with z | z
    · rw [n] at z; cases z
    · rw [h] at z; cases z
/-- a new object, not shared -/
theorem Same.upd {H : Hp} {p : Addr} {o : HO} (h : H p = Option.none) : Same H (upd H p o) := fun b u e => by
  rw [upd_ne (ne_of_none e h)]; exact e
theorem Grow.fresh {H M : Hp} {p : Addr} {o : HO} (mh : Same M H) (h : H p = Option.none) : Grow H M (upd H p o) M :=
  ⟨Same.upd h, Same.refl _, mh.trans (Same.upd h), fun _ _ h => .inl h⟩
/-- a new object, shared at once -/
theorem Grow.share {H M : Hp} {p : Addr} {o : HO} (mh : Same M H) (h : H p = Option.none) : Grow H M (upd H p o) (upd M p o) := by
  have hM : M p = Option.none := mh.free h
  refine ⟨Same.upd h, Same.upd hM, fun b u e => ?_, fun a u e => ?_⟩
  · by_cases hb : b = p
    · subst hb; rw [upd_same] at e ⊢; exact e
    · rw [upd_ne hb] at e ⊢; exact mh _ _ e
  · by_cases hb : a = p
    · subst hb; exact .inr h
    · rw [upd_ne hb] at e; exact .inl e
/-- an object that stands alone is shared from now on -/
theorem Grow.freeze {H0 M0 H M : Hp} {p : Addr} {o : HO} (g : Grow H0 M0 H M) (h0 : H0 p = Option.none) (h : H p = some o) (hM : M p = Option.none) : Grow H0 M0 H (upd M p o) := by
  refine ⟨g.same, g.mm.trans (Same.upd hM), fun b u e => ?_, fun a u e => ?_⟩
  · by_cases hb : b = p
    · subst hb; rw [upd_same] at e; rw [← e]; exact h
    · rw [upd_ne hb] at e; exact g.mh _ _ e
  · by_cases hb : a = p
    · subst hb; exact .inr h0
    · rw [upd_ne hb] at e; exact g.new _ _ e

section
variable {K : PySem.W.Frag} {T : Tab} {m m' : List Addr} {M M' G G' H H' : Hp}
theorem SlotR.mono {s : Slot} {x : Option V} {fp : List Addr} (h : SlotR K m M H s x fp) (hm : MLe m m') (mm : Same M M') (hh : ∀ a ∈ fp, H' a = H a) : SlotR K m' M' H' s x fp := by
  cases s with
  | un => exact h
  | v d =>
    obtain ⟨e, y, ex, r⟩ := h
    exact ⟨e, y, ex, DR.mono hm mm _ _ r⟩
  | own d =>
    obtain ⟨a, o, e, ex, ha, r⟩ := h
    exact ⟨a, o, e, ex, by rw [hh a (by rw [e]; simp)]; exact ha, r.mono hm mm⟩
  | hid a => exact h
theorem SlotsR.mono : ∀ {s : List Slot} {x : List (Option V)} {fp : List Addr}, SlotsR K m M H s x fp → MLe m m' → Same M M' → (∀ a ∈ fp, H' a = H a) → SlotsR K m' M' H' s x fp
  | [], [], _, h, _, _, _ => h
  | s :: ss, x :: xs, fp, h, hm, mm, hh => by
    obtain ⟨f1, f2, e, h1, h2⟩ := h
    subst e
    exact ⟨f1, f2, rfl, h1.mono hm mm fun a ha => hh a (List.mem_append_left _ ha), SlotsR.mono h2 hm mm fun a ha => hh a (List.mem_append_right _ ha)⟩
  | [], _ :: _, _, h, _, _, _ => h.elim
  | _ :: _, [], _, h, _, _, _ => h.elim
theorem FsR.mono {nm : Nat → Str} : ∀ {s : List (Nat × Slot)} {x : List (Str × V)} {fp : List Addr}, FsR K nm m M H s x fp → MLe m m' → Same M M' → (∀ a ∈ fp, H' a = H a) → FsR K nm m' M' H' s x fp
  | [], [], _, h, _, _, _ => h
  | (i, s) :: ss, (x, v) :: xs, fp, h, hm, mm, hh => by
    obtain ⟨f1, f2, e, e2, h1, h2⟩ := h
    subst e
    exact ⟨f1, f2, rfl, e2, h1.mono hm mm fun a ha => hh a (List.mem_append_left _ ha), FsR.mono h2 hm mm fun a ha => hh a (List.mem_append_right _ ha)⟩
  | [], _ :: _, _, h, _, _, _ => h.elim
  | _ :: _, [], _, h, _, _, _ => h.elim
theorem ObR.mono {ob : Ob} {a : Addr} {fp : List Addr} (h : ObR K T m M H ob a fp) (hm : MLe m m') (mm : Same M M') (hh : ∀ b ∈ fp, H' b = H b) : ObR K T m' M' H' ob a fp := by
  obtain ⟨dx, fs, f, e, h1, h2⟩ := h
  subst e
  exact ⟨dx, fs, f, rfl, by rw [hh a (by simp)]; exact h1, h2.mono hm mm fun b hb => hh b (List.mem_cons_of_mem _ hb)⟩
theorem StoreR.mono : ∀ {s : List Ob} {as as' : List Addr} {fp : List Addr}, StoreR K T m M H s as fp → MLe m m' → MLe as as' → Same M M' → (∀ a ∈ fp, H' a = H a) → StoreR K T m' M' H' s as' fp
  | [], _, _, _, h, _, _, _, _ => h
  | ob :: obs, a :: as, [], fp, h, hm, hl, mm, hh => by
    have := hl 0 a rfl
    simp at this
  | ob :: obs, a :: as, a' :: as', fp, h, hm, hl, mm, hh => by
    obtain ⟨f1, f2, e, h1, h2⟩ := h
    subst e
    have e0 : a' = a := by
      have := hl 0 a rfl
      simpa using this
    subst e0
    exact ⟨f1, f2, rfl, h1.mono hm mm fun a ha => hh a (List.mem_append_left _ ha), StoreR.mono h2 hm (fun n x hx => by have := hl (n + 1) x (by simpa using hx); simpa using this) mm fun a ha => hh a (List.mem_append_right _ ha)⟩
  | _ :: _, [], _, _, h, _, _, _, _ => h.elim

/-- everything in a footprint stands in the heap -/
theorem SlotR.here {s : Slot} {x : Option V} {fp : List Addr} (h : SlotR K m M H s x fp) : ∀ a ∈ fp, ∃ o, H a = some o := by
  cases s with
  | un => intro a ha; rw [show fp = [] from h] at ha; cases ha
  | v d => intro a ha; rw [h.1] at ha; cases ha
  | own d =>
    obtain ⟨b, o, e, _, hb, _⟩ := h
    intro a ha
    rw [e] at ha
    have : a = b := by simpa using ha
    subst this
    exact ⟨o, hb⟩
  | hid b => intro a ha; rw [h.1] at ha; cases ha
theorem SlotsR.here : ∀ {s : List Slot} {x : List (Option V)} {fp : List Addr}, SlotsR K m M H s x fp → ∀ a ∈ fp, ∃ o, H a = some o
  | [], [], _, h, a, ha => by rw [show _ = [] from h] at ha; cases ha
  | s :: ss, x :: xs, fp, h, a, ha => by
    obtain ⟨f1, f2, e, h1, h2⟩ := h
    rw [e] at ha
    rcases List.mem_append.mp ha with ha | ha
    · exact h1.here a ha
    · exact SlotsR.here h2 a ha
  | [], _ :: _, _, h, _, _ => h.elim
  | _ :: _, [], _, h, _, _ => h.elim
theorem FsR.here {nm : Nat → Str} : ∀ {s : List (Nat × Slot)} {x : List (Str × V)} {fp : List Addr}, FsR K nm m M H s x fp → ∀ a ∈ fp, ∃ o, H a = some o
  | [], [], _, h, a, ha => by rw [show _ = [] from h] at ha; cases ha
  | (i, s) :: ss, (x, v) :: xs, fp, h, a, ha => by
    obtain ⟨f1, f2, e, _, h1, h2⟩ := h
    rw [e] at ha
    rcases List.mem_append.mp ha with ha | ha
    · exact h1.here a ha
    · exact FsR.here h2 a ha
  | [], _ :: _, _, h, _, _ => h.elim
  | _ :: _, [], _, h, _, _ => h.elim
theorem StoreR.here : ∀ {s : List Ob} {as : List Addr} {fp : List Addr}, StoreR K T m M H s as fp → ∀ a ∈ fp, ∃ o, H a = some o
  | [], _, _, h, a, ha => by rw [show _ = [] from h] at ha; cases ha
  | ob :: obs, a' :: as, fp, h, a, ha => by
    obtain ⟨f1, f2, e, h1, h2⟩ := h
    rw [e] at ha
    rcases List.mem_append.mp ha with ha | ha
    · obtain ⟨dx, fs, f, e, h3, h4⟩ := h1
      rw [e] at ha
      rcases List.mem_cons.mp ha with rfl | ha
      · exact ⟨_, h3⟩
      · exact h4.here a ha
    · exact StoreR.here h2 a ha
  | _ :: _, [], _, h, _, _ => h.elim

theorem Rel.grow {s : Sta} {σ : L2.St} (R : Rel K T m M G H s σ) (g : Grow H M H' M') : Rel K T m M' G H' s σ := by
  obtain ⟨mh, gh, ⟨f1, f2, h1, h2, nd, dj⟩⟩ := R
  have same : ∀ a ∈ f1 ++ f2, H' a = H a := fun a ha => by
    have : ∃ o, H a = some o := by
      rcases List.mem_append.mp ha with ha | ha
      · exact h1.here a ha
      · exact h2.here a ha
    obtain ⟨o, e⟩ := this
    rw [e]
    exact g.same a o e
  have here : ∀ a ∈ f1 ++ f2, ∃ o, H a = some o := fun a ha => by
    rcases List.mem_append.mp ha with ha | ha
    · exact h1.here a ha
    · exact h2.here a ha
  refine ⟨g.mh, gh.trans g.same, ⟨f1, f2, h1.mono (MLe.refl _) g.mm fun a ha => same a (List.mem_append_left _ ha), h2.mono (MLe.refl _) (MLe.refl _) g.mm fun a ha => same a (List.mem_append_right _ ha), nd, fun a ha => ?_⟩⟩
  obtain ⟨o, e⟩ := here a ha
  exact ⟨g.keepNone e (dj a ha).1, (dj a ha).2⟩
theorem SlotsR.len : ∀ {s : List Slot} {x : List (Option V)} {fp : List Addr}, SlotsR K m M H s x fp → s.length = x.length
  | [], [], _, _ => rfl
  | s :: ss, x :: xs, fp, h => by
    obtain ⟨f1, f2, e, h1, h2⟩ := h
    simp [SlotsR.len h2]
  | [], _ :: _, _, h => h.elim
  | _ :: _, [], _, h => h.elim
/-- one slot, cut out -/
theorem SlotsR.split : ∀ {s : List Slot} {x : List (Option V)} {fp : List Addr} {i : Nat} {sl : Slot}, SlotsR K m M H s x fp → s[i]? = some sl →
    ∃ f0 f1 f2 y, fp = f0 ++ f1 ++ f2 ∧ x[i]? = some y ∧ SlotR K m M H sl y f1 ∧
      ∀ (m' : List Addr) (M' H' : Hp) (sl' : Slot) (y' : Option V) (f1' : List Addr), MLe m m' → Same M M' → (∀ a ∈ f0 ++ f2, H' a = H a) → SlotR K m' M' H' sl' y' f1' → SlotsR K m' M' H' (s.set i sl') (x.set i y') (f0 ++ f1' ++ f2)
  | [], _, _, _, _, _, e => by simp at e
  | s :: ss, [], _, _, _, h, _ => h.elim
  | s :: ss, x :: xs, fp, 0, sl, h, e => by
    obtain ⟨f1, f2, ef, h1, h2⟩ := h
    have e' : s = sl := by simpa using e
    subst e'
    refine ⟨[], f1, f2, x, by simp [ef], rfl, h1, fun m' M' H' sl' y' f1' hm hM hh hs => ?_⟩
    exact ⟨f1', f2, by simp, hs, h2.mono hm hM fun a ha => hh a (by simp [ha])⟩
  | s :: ss, x :: xs, fp, i + 1, sl, h, e => by
    obtain ⟨f1, f2, ef, h1, h2⟩ := h
    obtain ⟨g0, g1, g2, y, eg, ey, hy, k⟩ := SlotsR.split h2 (i := i) (sl := sl) (by simpa using e)
    refine ⟨f1 ++ g0, g1, g2, y, by simp [ef, eg, List.append_assoc], by simpa using ey, hy, fun m' M' H' sl' y' f1' hm hM hh hs => ?_⟩
    refine ⟨f1, g0 ++ f1' ++ g2, by simp [List.append_assoc], h1.mono hm hM fun a ha => hh a (by simp [ha]), ?_⟩
    exact k m' M' H' sl' y' f1' hm hM (fun a ha => hh a (by
      rcases List.mem_append.mp ha with ha | ha
      · simp [ha]
      · simp [ha])) hs
end
end MP

/-! MP 2: expressions that change nothing: what they are worth, and that the machine agrees. -/
namespace MP
open PySem PySem.Spec PyProof.Rows L2

/-- how a result stands: shared, new and nobody else's, somebody's own that is only looked at -/
inductive RK where
  | sh | fr | pk
structure RV where
  k : RK
  d : D
abbrev sh (d : D) : RV := ⟨.sh, d⟩
abbrev fr (d : D) : RV := ⟨.fr, d⟩
/-- an exception: its class, its fields -/
structure Ex where
  cls : Str
  fs : List (Str × D)
inductive PR (α : Type) where
  | ok (a : α) | exc (e : Ex) | stuck
def PR.bind {α β : Type} (x : PR α) (f : α → PR β) : PR β := match x with
  | .ok a => f a
  | .exc e => .exc e
  | .stuck => .stuck
def PR.of {α : Type} : Option α → PR α
  | some a => .ok a
  | none => .stuck

def RR (K : PySem.W.Frag) (m : List Addr) (M H0 H : Hp) (y : V) (r : RV) : Prop := match r.k with
  | .sh => DR K m M y r.d
  | .fr => ∃ a o, y = .ref a ∧ H a = some o ∧ ObD K m M o r.d ∧ M a = none ∧ H0 a = none
  | .pk => ∃ a o, y = .ref a ∧ H a = some o ∧ ObD K m M o r.d
/-- what an operation may read -/
def Arg (K : PySem.W.Frag) (m : List Addr) (M H : Hp) (y : V) (d : D) : Prop := DR K m M y d ∨ ∃ a o, y = .ref a ∧ H a = some o ∧ ObD K m M o d

section
variable {K : PySem.W.Frag} {m : List Addr} {M M' H0 H H' : Hp} {y : V} {r : RV} {d : D}
theorem RR.arg (h : RR K m M H0 H y r) : Arg K m M H y r.d := by
  obtain ⟨k, d⟩ := r
  cases k with
  | sh => exact .inl h
  | fr => obtain ⟨a, o, h1, h2, h3, _⟩ := h; exact .inr ⟨a, o, h1, h2, h3⟩
  | pk => obtain ⟨a, o, h1, h2, h3⟩ := h; exact .inr ⟨a, o, h1, h2, h3⟩
theorem RR.grow (h : RR K m M H0 H y r) (g : Grow H M H' M') : RR K m M' H0 H' y r := by
  obtain ⟨k, d⟩ := r
  cases k with
  | sh => exact DR.up h g.mm
  | fr => obtain ⟨a, o, h1, h2, h3, h4, h5⟩ := h; exact ⟨a, o, h1, g.same _ _ h2, h3.mono (MLe.refl _) g.mm, g.keepNone h2 h4, h5⟩
  | pk => obtain ⟨a, o, h1, h2, h3⟩ := h; exact ⟨a, o, h1, g.same _ _ h2, h3.mono (MLe.refl _) g.mm⟩
theorem RR.since (h : RR K m M H H' y r) (s : Same H0 H) : RR K m M H0 H' y r := by
  obtain ⟨k, d⟩ := r
  cases k with
  | sh => exact h
  | fr => obtain ⟨a, o, h1, h2, h3, h4, h5⟩ := h; exact ⟨a, o, h1, h2, h3, h4, s.free h5⟩
  | pk => exact h
theorem Arg.grow (h : Arg K m M H y d) (g : Grow H M H' M') : Arg K m M' H' y d := by
  rcases h with h | ⟨a, o, h1, h2, h3⟩
  · exact .inl (h.up g.mm)
  · exact .inr ⟨a, o, h1, g.same _ _ h2, h3.mono (MLe.refl _) g.mm⟩
theorem Arg.dr (h : Arg K m M H y d) (s : Same M H) : DR K m H y d := by
  rcases h with h | ⟨a, o, rfl, h2, h3⟩
  · exact h.up s
  · exact h3.dr s h2
theorem Arg.int {i : Int} (h : Arg K m M H y (.int i)) : y = .int i := by
  rcases h with h | ⟨a, o, rfl, h2, h3⟩
  · cases h; rfl
  · cases h3
theorem Arg.bl {i : Bool} (h : Arg K m M H y (.bool i)) : y = .bl i := by
  rcases h with h | ⟨a, o, rfl, h2, h3⟩
  · cases h; rfl
  · cases h3
theorem Arg.str {i : Str} (h : Arg K m M H y (.str i)) : y = .str i := by
  rcases h with h | ⟨a, o, rfl, h2, h3⟩
  · cases h; rfl
  · cases h3
theorem Arg.non (h : Arg K m M H y .none) : y = .non := by
  rcases h with h | ⟨a, o, rfl, h2, h3⟩
  · cases h; rfl
  · cases h3
theorem Arg.list {ds : List D} (h : Arg K m M H y (.list ds)) (s : Same M H) : ∃ a xs, y = .ref a ∧ H a = some (.lst xs) ∧ DRs K m M xs ds := by
  rcases h with h | ⟨a, o, rfl, h2, h3⟩
  · cases h with
    | list h1 h2 => exact ⟨_, _, rfl, s _ _ h1, h2⟩
  · cases h3 with
    | lst h3 => exact ⟨_, _, rfl, h2, h3⟩
theorem Arg.lk {ds : List D} (h : Arg K m M H y (.lk ds)) (s : Same M H) : ∃ a xs, y = .ref a ∧ SqL K H a xs ∧ DRs K m M xs ds := by
  rcases h with h | ⟨a, o, rfl, h2, h3⟩
  · cases h with
    | lk h1 h2 => exact ⟨_, _, rfl, s.seq h1, h2⟩
  · cases h3
theorem Arg.tup {ds : List D} (h : Arg K m M H y (.tup ds)) (s : Same M H) : ∃ a xs, y = .ref a ∧ SqT K H a xs ∧ DRs K m M xs ds ∧ DR K m M y (.tup ds) := by
  rcases h with h | ⟨a, o, rfl, h2, h3⟩
  · cases h with
    | tup h1 h2 => exact ⟨_, _, rfl, Same.seqT s h1, h2, .tup h1 h2⟩
  · cases h3
theorem Arg.dic {ds : List (Key × D)} (h : Arg K m M H y (.dic ds)) (s : Same M H) : ∃ a xs, y = .ref a ∧ H a = some (.dK xs) ∧ DRk K m M xs ds := by
  rcases h with h | ⟨a, o, rfl, h2, h3⟩
  · cases h with
    | dic h1 h2 => exact ⟨_, _, rfl, s _ _ h1, h2⟩
  · cases h3 with
    | dic h3 => exact ⟨_, _, rfl, h2, h3⟩
/-- a list or a tuple, its items -/
def seqOf : D → Option (List D)
  | .list ds => some ds
  | .lk ds => some ds
  | .tup ds => some ds
  | _ => none
theorem Arg.seq {d : D} {ds : List D} (h : Arg K m M H y d) (e : seqOf d = some ds) (s : Same M H) : ∃ a xs, y = .ref a ∧ (SqL K H a xs ∨ SqT K H a xs) ∧ DRs K m M xs ds := by
  cases d with
  | list ds' =>
    cases e
    obtain ⟨a, xs, h1, h2, h3⟩ := h.list s
    exact ⟨a, xs, h1, .inl (SqL.of h2), h3⟩
  | lk ds' =>
    cases e
    obtain ⟨a, xs, h1, h2, h3⟩ := h.lk s
    exact ⟨a, xs, h1, .inl h2, h3⟩
  | tup ds' =>
    cases e
    obtain ⟨a, xs, h1, h2, h3, _⟩ := h.tup s
    exact ⟨a, xs, h1, .inr h2, h3⟩
  | _ => cases e
/-! to data as the library's == reads it -/
mutual
theorem DR.dp : ∀ (d : D) (v : V), DR K m H v d → d.py.canLay0 = true → Dp K H v d.py
  | .none, _, h, _ => by cases h; rw [D.py]; exact .non
  | .bool b, _, h, _ => by cases h; rw [D.py]; exact .bl b
  | .int i, _, h, _ => by cases h; rw [D.py]; exact .int i
  | .str x, _, h, _ => by cases h; rw [D.py]; exact .str x
  | .list ds, _, h, c => by
    cases h with
    | list h1 h2 =>
      rw [D.py] at c ⊢
      rw [PyData.canLay0] at c
      exact .lst (SqL.of h1) (DRs.dp ds _ h2 c)
  | .lk ds, _, h, c => by
    cases h with
    | lk h1 h2 =>
      rw [D.py] at c ⊢
      rw [PyData.canLay0] at c
      exact .lst h1 (DRs.dp ds _ h2 c)
  | .tup ds, _, h, c => by
    cases h with
    | tup h1 h2 =>
      rw [D.py] at c ⊢
      rw [PyData.canLay0] at c
      exact .tup h1 (DRs.dp ds _ h2 c)
  | .dic kvs, _, h, c => by rw [D.py] at c; simp [PyData.canLay0] at c
  | .obj n, _, h, c => by rw [D.py] at c; simp [PyData.canLay0] at c
  | .xv _ _, _, h, c => by rw [D.py] at c; simp [PyData.canLay0] at c
theorem DRs.dp : ∀ (ds : List D) (vs : List V), DRs K m H vs ds → PyData.canLayAll0 (pys ds) = true → DpAll K H vs (pys ds)
  | [], _, h, _ => by cases h; rw [pys]; exact .nil
  | d :: ds, _, h, c => by
    cases h with
    | cons h1 h2 =>
      rw [pys] at c ⊢
      rw [PyData.canLayAll0, Bool.and_eq_true] at c
      exact .cons (DR.dp d _ h1 c.1) (DRs.dp ds _ h2 c.2)
end
end

/-! ### exceptions -/
/-- an exception by content -/
def ExR (K : PySem.W.Frag) (T : Tab) (m : List Addr) (M H : Hp) (e : Ex) (cls : Value) (d : Option Addr) : Prop :=
  ∃ C, NmC K e.cls C ∧ cls = .ref C ∧ ((e.fs = [] ∧ d = none) ∨ ∃ dd fs, d = some dd ∧ M dd = some (.xd fs) ∧ DRf K m M fs e.fs)

/-! ### readings by evaluation -/
section
variable (X : Cx) (T : Tab) (W : WX)
def tP (f : Sta → PR RV) : TE := fun σ H Q => ∃ s m M G, Rel X.K T m M G H s σ ∧ match f s with
  | .ok r => ∀ y H' M', Grow H M H' M' → RR X.K m M' H H' y r → Q y H'
  | .exc e => ∀ cls d H' M', Grow H M H' M' → ExR X.K T m M' H' e cls d → W cls d σ H'
  | .stuck => False
/-- shared -/
def tD (f : Sta → PR D) : TE := fun σ H Q => ∃ s m M G, Rel X.K T m M G H s σ ∧ match f s with
  | .ok d => ∀ y H' M', Grow H M H' M' → DR X.K m M' y d → Q y H'
  | .exc e => ∀ cls d H' M', Grow H M H' M' → ExR X.K T m M' H' e cls d → W cls d σ H'
  | .stuck => False
/-- a test -/
def tT (f : Sta → PR Bool) : TT := fun σ H Q => ∃ s m M G, Rel X.K T m M G H s σ ∧ match f s with
  | .ok b => ∀ H' M', Grow H M H' M' → Q b H'
  | .exc e => ∀ cls d H' M', Grow H M H' M' → ExR X.K T m M' H' e cls d → W cls d σ H'
  | .stuck => False
/-- arguments, all shared -/
def tAs (f : Sta → PR (List D)) : TA := fun σ H Q => ∃ s m M G, Rel X.K T m M G H s σ ∧ match f s with
  | .ok ds => ∀ ys H' M', Grow H M H' M' → DRs X.K m M' ys ds → Q ys H'
  | .exc e => ∀ cls d H' M', Grow H M H' M' → ExR X.K T m M' H' e cls d → W cls d σ H'
  | .stuck => False
/-- arguments, as they come -/
def tAr (f : Sta → PR (List RV)) : TA := fun σ H Q => ∃ s m M G, Rel X.K T m M G H s σ ∧ match f s with
  | .ok rs => ∀ ys H' M', Grow H M H' M' → Paired (RR X.K m M' H H') ys rs → Q ys H'
  | .exc e => ∀ cls d H' M', Grow H M H' M' → ExR X.K T m M' H' e cls d → W cls d σ H'
  | .stuck => False
abbrev PEv (e : Expr) (f : Sta → PR RV) : Prop := PE X e (tP X T W f)
abbrev PDv (e : Expr) (f : Sta → PR D) : Prop := PE X e (tD X T W f)
abbrev PTv (e : Expr) (f : Sta → PR Bool) : Prop := PT X e (tT X T W f)
abbrev PAs (es : List Expr) (f : Sta → PR (List D)) : Prop := PA X es (tAs X T W f)
abbrev PAr (es : List Expr) (f : Sta → PR (List RV)) : Prop := PA X es (tAr X T W f)
end

theorem PE.wk {X : Cx} {e : Expr} {t t' : TE} (h : PE X e t) (w : ∀ σ H Q, t' σ H Q → t σ H Q) : PE X e t' := ⟨fun pins s σ H Q I q => h.run pins s σ H Q I (w _ _ _ q)⟩
theorem PT.wk {X : Cx} {e : Expr} {t t' : TT} (h : PT X e t) (w : ∀ σ H Q, t' σ H Q → t σ H Q) : PT X e t' := ⟨fun pins s σ H Q I q => h.run pins s σ H Q I (w _ _ _ q)⟩
theorem PW.wk {X : Cx} {e : Expr} {t t' : TT} (h : PW X e t) (w : ∀ σ H Q, t' σ H Q → t σ H Q) : PW X e t' := ⟨fun wh pins s σ H Q I q => h.run wh pins s σ H Q I (w _ _ _ q)⟩
theorem PA.wk {X : Cx} {e : List Expr} {t t' : TA} (h : PA X e t) (w : ∀ σ H Q, t' σ H Q → t σ H Q) : PA X e t' := ⟨fun pos pins s σ H Q I q => h.run pos pins s σ H Q I (w _ _ _ q)⟩

section
variable {X : Cx} {T : Tab} {W : WX} {a b c e : Expr} {es : List Expr} {pos p : Pos} {fa fb fc : Sta → PR RV}

/-! ### a result is shared -/
def RV.shr (r : RV) : PR D := match r.k with
  | .sh => .ok r.d
  | .fr => .ok r.d
  | .pk => .stuck
def pD (f : Sta → PR RV) : Sta → PR D := fun s => (f s).bind RV.shr
theorem RR.share {K : PySem.W.Frag} {m : List Addr} {M0 M H0 H : Hp} {y : V} {r : RV} {d : D} (h : RR K m M H0 H y r) (g : Grow H0 M0 H M) (e : r.shr = .ok d) : ∃ M', Grow H0 M0 H M' ∧ Same M M' ∧ DR K m M' y d := by
  obtain ⟨k, d'⟩ := r
  cases k with
  | sh =>
    cases e
    exact ⟨M, g, Same.refl _, h⟩
  | fr =>
    cases e
    obtain ⟨a, o, rfl, h2, h3, h4, h5⟩ := h
    refine ⟨upd M a o, g.freeze h5 h2 h4, Same.upd h4, ?_⟩
    exact (h3.mono (MLe.refl _) (Same.upd h4)).dr (Same.refl _) upd_same
  | pk => cases e
theorem pd_of (h : PEv X T W e fa) : PDv X T W e (pD fa) := by
  refine PE.wk h ?_
  rintro σ H Q ⟨s, m, M, G, R, q⟩
  refine ⟨s, m, M, G, R, ?_⟩
  revert q
  unfold pD PR.bind
  cases fa s with
  | ok r =>
    intro q y H' M' g rr
    cases hr : r.shr with
    | ok d =>
      simp only [hr] at q
      obtain ⟨M2, g2, mm, dr⟩ := rr.share g hr
      exact q y H' M2 g2 dr
    | exc e => obtain ⟨k, d⟩ := r; cases k <;> cases hr
    | stuck => simp only [hr] at q
  | exc e => intro q; exact q
  | stuck => intro q; exact q
def pS (f : Sta → PR D) : Sta → PR RV := fun s => (f s).bind fun d => .ok (sh d)
theorem pe_of {f : Sta → PR D} (h : PDv X T W e f) : PEv X T W e (pS f) := by
  refine PE.wk h ?_
  rintro σ H Q ⟨s, m, M, G, R, q⟩
  refine ⟨s, m, M, G, R, ?_⟩
  revert q
  unfold pS PR.bind
  cases f s with
  | ok r => intro q y H' M' g rr; exact q y H' M' g rr
  | exc e => intro q; exact q
  | stuck => intro q; exact q

/-! ### names, constants -/
def Slot.look : Slot → Option RV
  | .un => none
  | .v d => some (sh d)
  | .own d => some ⟨.pk, d⟩
  | .hid _ => none
def pVar (i : Nat) : Sta → PR RV := fun s => PR.of (s.env[i]?.bind Slot.look)
theorem SlotsR.at {K : PySem.W.Frag} {m : List Addr} {M H : Hp} : ∀ {s : List Slot} {x : List (Option V)} {fp : List Addr} {i : Nat} {sl : Slot}, SlotsR K m M H s x fp → s[i]? = some sl → ∃ y f, x[i]? = some y ∧ SlotR K m M H sl y f ∧ ∀ a ∈ f, a ∈ fp
  | [], _, _, _, _, _, e => by simp at e
  | s :: ss, [], _, _, _, h, _ => h.elim
  | s :: ss, x :: xs, fp, 0, sl, h, e => by
    obtain ⟨f1, f2, ef, h1, h2⟩ := h
    have e' : s = sl := by simpa using e
    subst e'
    exact ⟨x, f1, rfl, h1, fun a ha => by rw [ef]; exact List.mem_append_left _ ha⟩
  | s :: ss, x :: xs, fp, i + 1, sl, h, e => by
    obtain ⟨f1, f2, ef, h1, h2⟩ := h
    obtain ⟨y, f, ey, hy, hf⟩ := SlotsR.at h2 (i := i) (sl := sl) (by simpa using e)
    exact ⟨y, f, by simpa using ey, hy, fun a ha => by rw [ef]; exact List.mem_append_right _ (hf a ha)⟩
theorem Rel.look {K : PySem.W.Frag} {m : List Addr} {M G H : Hp} {s : Sta} {σ : L2.St} {i : Nat} {r : RV} (R : Rel K T m M G H s σ) (e : s.env[i]?.bind Slot.look = some r) : ∃ y, σ[i]? = some (some y) ∧ RR K m M H H y r := by
  obtain ⟨mh, gh, ⟨f1, f2, h1, h2, nd, dj⟩⟩ := R
  cases hs : s.env[i]? with
  | none => rw [hs] at e; cases e
  | some sl =>
    rw [hs] at e
    obtain ⟨y, f, ey, hy, hf⟩ := h1.at hs
    cases sl with
    | un => cases e
    | v d =>
      cases e
      obtain ⟨_, y', rfl, r⟩ := hy
      exact ⟨y', ey, r⟩
    | own d =>
      cases e
      obtain ⟨a, o, _, rfl, h3, h4⟩ := hy
      exact ⟨_, ey, a, o, rfl, h3, h4⟩
    | hid a => cases e
theorem ev_var {i : Nat} {x : Str} (h : PE X (.Name x pos) (tVar i)) : PEv X T W (.Name x pos) (pVar i) := by
  refine PE.wk h ?_
  rintro σ H Q ⟨s, m, M, G, R, q⟩
  unfold pVar at q
  cases hl : s.env[i]?.bind Slot.look with
  | none => rw [hl] at q; exact q.elim
  | some r =>
    rw [hl] at q
    obtain ⟨y, ey, rr⟩ := R.look hl
    exact ⟨y, ey, q y H M (Grow.refl R.mh) rr⟩
def pC (d : D) : Sta → PR RV := fun _ => .ok (sh d)
theorem ev_const {v : V} {d : D} (h : PE X e (tC v)) (r : ∀ m M, DR X.K m M v d) : PEv X T W e (pC d) := by
  refine PE.wk h ?_
  rintro σ H Q ⟨s, m, M, G, R, q⟩
  exact q v H M (Grow.refl R.mh) (r m M)
theorem ev_int {i : Int} {j} : PEv X T W (.Constant (.int i) j pos) (pC (.int i)) := ev_const pe_int fun _ _ => .int i
theorem ev_bl {i : Bool} {j} : PEv X T W (.Constant (.bool i) j pos) (pC (.bool i)) := ev_const pe_bl fun _ _ => .bl i
theorem ev_non {j} : PEv X T W (.Constant .none j pos) (pC .none) := ev_const pe_non fun _ _ => .non
theorem ev_str {i : Str} {j} : PEv X T W (.Constant (.str i) j pos) (pC (.str i)) := ev_const pe_str fun _ _ => .str i

/-! ### two values -/
def p2 (g : D → D → Option RV) (fa fb : Sta → PR RV) : Sta → PR RV := fun s => (fa s).bind fun x => (fb s).bind fun y => .of (g x.d y.d)
def p1 (g : D → Option RV) (fa : Sta → PR RV) : Sta → PR RV := fun s => (fa s).bind fun x => .of (g x.d)
/-- a rule on two values keeps what g says -/
def R2Ok (K : PySem.W.Frag) (r : R2) (g : D → D → Option RV) : Prop := ∀ m M H x y d1 d2 res Q, Same M H → Arg K m M H x d1 → Arg K m M H y d2 → g d1 d2 = some res →
  (∀ z H' M', Grow H M H' M' → RR K m M' H H' z res → Q z H') → r x y H Q
def Op2Ok (X : Cx) (f : Value → Value → Sem Value) (g : D → D → Option RV) : Prop := ∃ r, OpR X f r ∧ R2Ok X.K r g
theorem tOp_of {r : R2} {g : D → D → Option RV} (hr : R2Ok X.K r g) {σ : L2.St} {H : Hp} {Q : VK} (h : tP X T W (p2 g fa fb) σ H Q) : tOp r (tP X T W fa) (tP X T W fb) σ H Q := by
  obtain ⟨s, m, M, G, R, q⟩ := h
  refine ⟨s, m, M, G, R, ?_⟩
  revert q
  unfold p2 PR.bind
  cases fa s with
  | ok r1 =>
    intro q y1 H1 M1 g1 rr1
    refine ⟨s, m, M1, G, R.grow g1, ?_⟩
    revert q
    cases fb s with
    | ok r2 =>
      intro q y2 H2 M2 g2 rr2
      cases hg : g r1.d r2.d with
      | none => simp only [hg, PR.of] at q
      | some res =>
        simp only [hg, PR.of] at q
        refine hr m M2 H2 y1 y2 _ _ res Q g2.mh ((rr1.grow g2).arg) rr2.arg hg fun z H' M' g3 rr3 => ?_
        exact q z H' M' (g1.trans (g2.trans g3)) (rr3.since (g1.same.trans g2.same))
    | exc e => intro q cls d H' M' g2 x; exact q cls d H' M' (g1.trans g2) x
    | stuck => intro q; exact q
  | exc e => intro q; exact q
  | stuck => intro q; exact q
theorem ev_bin {op : Operator} {g : D → D → Option RV} (ho : Op2Ok X (binaryOp op) g) (ha : PEv X T W a fa) (hb : PEv X T W b fb) : PEv X T W (.BinOp a op b pos) (p2 g fa fb) := by
  obtain ⟨r, h1, h2⟩ := ho
  exact PE.wk (pe_op h1 ha hb) fun σ H Q h => tOp_of h2 h
theorem ev_cmp {op : CmpOp} {g : D → D → Option RV} (ho : Op2Ok X (compareOp op) g) (ha : PEv X T W a fa) (hb : PEv X T W b fb) (hm : behindInMarks op b = false) : PEv X T W (.Compare a [op] [b] pos) (p2 g fa fb) := by
  obtain ⟨r, h1, h2⟩ := ho
  exact PE.wk (pe_cmpR h1 ha hb hm) fun σ H Q h => tOp_of h2 h
def UnOk (X : Cx) (f : Value → Sem Value) (g : D → Option RV) : Prop := ∃ r, UnR X f r ∧ ∀ m M H x d1 res Q, Same M H → Arg X.K m M H x d1 → g d1 = some res →
  (∀ z H' M', Grow H M H' M' → RR X.K m M' H H' z res → Q z H') → r x H Q
theorem ev_un {op : UnaryOp} {g : D → Option RV} (ho : UnOk X (unaryOp op) g) (ha : PEv X T W a fa) : PEv X T W (.UnaryOp op a pos) (p1 g fa) := by
  obtain ⟨r, h1, h2⟩ := ho
  refine PE.wk (pe_un h1 ha) ?_
  rintro σ H Q ⟨s, m, M, G, R, q⟩
  refine ⟨s, m, M, G, R, ?_⟩
  revert q
  unfold p1 PR.bind
  cases fa s with
  | ok r1 =>
    intro q y1 H1 M1 g1 rr1
    cases hg : g r1.d with
    | none => simp only [hg, PR.of] at q
    | some res =>
      simp only [hg, PR.of] at q
      exact h2 m M1 H1 y1 _ res Q g1.mh rr1.arg hg fun z H' M' g3 rr3 => q z H' M' (g1.trans g3) (rr3.since g1.same)
  | exc e => intro q; exact q
  | stuck => intro q; exact q

/-! ### which operations there are -/
theorem R2Ok.or {K : PySem.W.Frag} {r r' : R2} {g g' : D → D → Option RV} (h : R2Ok K r g) (h' : R2Ok K r' g') : R2Ok K (fun x y H Q => r x y H Q ∨ r' x y H Q) (fun a b => (g a b).or (g' a b)) := by
  intro m M H x y d1 d2 res Q s a1 a2 e k
  dsimp only at e
  cases hg : g d1 d2 with
  | some z =>
    rw [hg] at e
    have e' : z = res := Option.some.inj e
    subst e'
    exact .inl (h m M H x y d1 d2 z Q s a1 a2 hg k)
  | none =>
    rw [hg] at e
    exact .inr (h' m M H x y d1 d2 res Q s a1 a2 e k)
theorem Op2Ok.or {f : Value → Value → Sem Value} {g g' : D → D → Option RV} (h : Op2Ok X f g) (h' : Op2Ok X f g') : Op2Ok X f (fun a b => (g a b).or (g' a b)) := by
  obtain ⟨r, h1, h2⟩ := h
  obtain ⟨r', h1', h2'⟩ := h'
  exact ⟨_, h1.or h1', h2.or h2'⟩
/-- ints to a scalar -/
def gI (C : Int → Int → Bool) (g : Int → Int → D) : D → D → Option RV
  | .int i, .int j => if C i j = true then some (sh (g i j)) else none
  | _, _ => none
theorem ok_I {f : Value → Value → Sem Value} {C : Int → Int → Bool} {P : Int → Int → Prop} {gv : Int → Int → V} {g : Int → Int → D} (ho : OpR X f (rI P gv)) (hC : ∀ i j, C i j = true → P i j) (hg : ∀ i j m M, DR X.K m M (gv i j) (g i j)) : Op2Ok X f (gI C g) := by
  refine ⟨_, ho, fun m M H x y d1 d2 res Q s a1 a2 e k => ?_⟩
  cases d1 <;> try (cases e; done)
  cases d2 <;> try (cases e; done)
  rename_i i j
  dsimp only [gI] at e
  by_cases hc : C i j = true
  · rw [if_pos hc] at e
    cases e
    exact ⟨i, j, a1.int, a2.int, hC _ _ hc, k _ H M (Grow.refl s) (hg i j m M)⟩
  · rw [if_neg hc] at e
    cases e
def gI0 (g : Int → Int → D) : D → D → Option RV
  | .int i, .int j => some (sh (g i j))
  | _, _ => none
theorem ok_I0 {f : Value → Value → Sem Value} {gv : Int → Int → V} {g : Int → Int → D} (ho : OpR X f (rI0 gv)) (hg : ∀ i j m M, DR X.K m M (gv i j) (g i j)) : Op2Ok X f (gI0 g) := by
  refine ⟨_, ho, fun m M H x y d1 d2 res Q s a1 a2 e k => ?_⟩
  cases d1 <;> try (cases e; done)
  cases d2 <;> try (cases e; done)
  rename_i i j
  cases e
  exact ⟨i, j, a1.int, a2.int, k _ H M (Grow.refl s) (hg i j m M)⟩
def gAdd : D → D → Option RV := gI0 fun i j => .int (i + j)
def gSub : D → D → Option RV := gI0 fun i j => .int (i - j)
def small64b (i : Int) : Bool := decide (-(2 ^ 64) < i ∧ i < 2 ^ 64)
def gMul : D → D → Option RV := gI (fun i j => small64b i || small64b j) fun i j => .int (i * j)
def gDiv : D → D → Option RV := gI (fun _ j => decide (0 < j ∧ j < 2 ^ 200)) fun i j => .int (i / j)
def gMod : D → D → Option RV := gI (fun _ j => decide (0 < j)) fun i j => .int (i % j)
def gPow : D → D → Option RV := gI (fun i j => decide (0 ≤ j ∧ j ≤ 1000000 ∧ i.natAbs < 2 ^ 64)) fun i j => .int (i ^ j.toNat)
def gShl : D → D → Option RV := gI (fun i j => decide (0 ≤ j ∧ j ≤ 1000000 ∧ i.natAbs < 2 ^ 64)) fun i j => .int (i * 2 ^ j.toNat)
def gShr : D → D → Option RV := gI (fun _ j => decide (0 ≤ j)) fun i j => .int (i / 2 ^ j.toNat)
def gAnd : D → D → Option RV := gI0 fun i j => .int (Builtin.bitAnd i j)
def gOr : D → D → Option RV := gI0 fun i j => .int (Builtin.bitOr i j)
theorem ok_add : Op2Ok X (binaryOp .Add) gAdd := ok_I0 op_add fun _ _ _ _ => .int _
theorem ok_sub : Op2Ok X (binaryOp .Sub) gSub := ok_I0 op_sub fun _ _ _ _ => .int _
theorem ok_mul : Op2Ok X (binaryOp .Mult) gMul := ok_I op_mul (fun i j h => by
  rcases (Bool.or_eq_true _ _).mp h with h | h
  · exact .inl (of_decide_eq_true h)
  · exact .inr (of_decide_eq_true h)) fun _ _ _ _ => .int _
theorem ok_div : Op2Ok X (binaryOp .FloorDiv) gDiv := ok_I op_fdivW (fun i j h => by
  have h := of_decide_eq_true h
  refine wide_div h.1 (b := 200) ?_ (by decide) (by decide)
  have h1 := h.1
  have h2 := h.2
  have e : ((j.natAbs : Nat) : Int) = j := Int.natAbs_of_nonneg (by omega)
  have : ((j.natAbs : Nat) : Int) < ((2 ^ 200 : Nat) : Int) := by rw [e]; exact_mod_cast h2
  exact Int.ofNat_lt.mp this) fun _ _ _ _ => .int _
theorem ok_mod : Op2Ok X (binaryOp .Mod) gMod := ok_I op_mod (fun i j h => by simpa [CDiv, CPow] using h) fun _ _ _ _ => .int _
theorem ok_pow : Op2Ok X (binaryOp .Pow) gPow := ok_I op_pow (fun i j h => by simpa [CDiv, CPow] using h) fun _ _ _ _ => .int _
theorem ok_shl : Op2Ok X (binaryOp .LShift) gShl := ok_I op_shl (fun i j h => by simpa [CDiv, CPow] using h) fun _ _ _ _ => .int _
theorem ok_shr : Op2Ok X (binaryOp .RShift) gShr := ok_I op_shr (fun i j h => by simpa [CDiv, CPow] using h) fun _ _ _ _ => .int _
theorem ok_and : Op2Ok X (binaryOp .BitAnd) gAnd := ok_I0 op_and fun _ _ _ _ => .int _
theorem ok_or : Op2Ok X (binaryOp .BitOr) gOr := ok_I0 op_or fun _ _ _ _ => .int _
def gNeg : D → Option RV
  | .int i => some (sh (.int (-i)))
  | _ => none
theorem ok_neg : UnOk X (unaryOp .USub) gNeg := by
  refine ⟨_, un_neg, fun m M H x d1 res Q s a1 e k => ?_⟩
  cases d1 <;> try (cases e; done)
  rename_i i
  cases e
  exact ⟨i, a1.int, k _ H M (Grow.refl s) (.int _)⟩
def gLt : D → D → Option RV := gI0 fun i j => .bool (decide (i < j))
def gLe : D → D → Option RV := gI0 fun i j => .bool (decide (i ≤ j))
def gGt : D → D → Option RV := gI0 fun i j => .bool (decide (j < i))
def gGe : D → D → Option RV := gI0 fun i j => .bool (decide (j ≤ i))
theorem ok_lt : Op2Ok X (compareOp .Lt) gLt := ok_I0 op_lt fun _ _ _ _ => .bl _
theorem ok_le : Op2Ok X (compareOp .LtE) gLe := ok_I0 op_le fun _ _ _ _ => .bl _
theorem ok_gt : Op2Ok X (compareOp .Gt) gGt := ok_I0 op_gt fun _ _ _ _ => .bl _
theorem ok_ge : Op2Ok X (compareOp .GtE) gGe := ok_I0 op_ge fun _ _ _ _ => .bl _
/-- list + list -/
def gCatL : D → D → Option RV
  | .list xs, .list ys => if xs.length + ys.length ≤ 16777216 then some (fr (.list (xs ++ ys))) else none
  | _, _ => none
theorem le_line {n : Nat} (h : n ≤ 16777216) : n ≤ sizeLine := by rw [sizeLine_eq]; exact h
theorem ok_catL : Op2Ok X (binaryOp .Add) gCatL := by
  refine ⟨_, op_cat, fun m M H x y d1 d2 res Q s a1 a2 e k => ?_⟩
  cases d1 <;> try (cases e; done)
  cases d2 <;> try (cases e; done)
  rename_i xs ys
  dsimp only [gCatL] at e
  by_cases hl : xs.length + ys.length ≤ 16777216
  · rw [if_pos hl] at e
    cases e
    obtain ⟨a, us, rfl, h1, r1⟩ := a1.list s
    obtain ⟨b, ws, rfl, h2, r2⟩ := a2.list s
    refine ⟨a, b, us, ws, rfl, rfl, h1, h2, by rw [r1.length, r2.length]; exact le_line hl, fun p hp => ?_⟩
    exact k _ _ M (Grow.fresh s hp) ⟨p, _, rfl, upd_same, .lst (r1.append r2), s.free hp, hp⟩
  · rw [if_neg hl] at e
    cases e
/-- tuple + tuple -/
def gCatT : D → D → Option RV
  | .tup xs, .tup ys => if xs.length + ys.length ≤ 16777216 then some (sh (.tup (xs ++ ys))) else none
  | _, _ => none
def gCatS : D → D → Option RV
  | .str xs, .str ys => if xs.length + ys.length ≤ 16777216 then some (sh (.str (xs ++ ys))) else none
  | _, _ => none
theorem ok_catS : Op2Ok X (binaryOp .Add) gCatS := by
  refine ⟨_, op_add_str, fun m M H x y d1 d2 res Q s a1 a2 e k => ?_⟩
  cases d1 <;> try (cases e; done)
  cases d2 <;> try (cases e; done)
  rename_i xs ys
  dsimp only [gCatS] at e
  by_cases hl : xs.length + ys.length ≤ 16777216
  · rw [if_pos hl] at e
    cases e
    exact ⟨xs, ys, a1.str, a2.str, le_line hl, k _ H M (Grow.refl s) (.str _)⟩
  · rw [if_neg hl] at e
    cases e
/-- list * int -/
def gRepL : D → D → Option RV
  | .list xs, .int n => if n < 16777216 ∧ xs.length * n.toNat ≤ 16777216 ∧ -16777216 < n then some (fr (.list (List.replicate n.toNat xs).flatten)) else none
  | _, _ => none
theorem DRs.rep {K : PySem.W.Frag} {m : List Addr} {H : Hp} {xs : List V} {us : List D} (h : DRs K m H xs us) : ∀ k : Nat, DRs K m H (List.replicate k xs).flatten (List.replicate k us).flatten
  | 0 => .nil
  | k + 1 => by
    rw [List.replicate_succ, List.replicate_succ, List.flatten_cons, List.flatten_cons]
    exact h.append (DRs.rep h k)
theorem ok_repL : Op2Ok X (binaryOp .Mult) gRepL := by
  refine ⟨_, op_rep, fun m M H x y d1 d2 res Q s a1 a2 e k => ?_⟩
  cases d1 <;> try (cases e; done)
  cases d2 <;> try (cases e; done)
  rename_i xs n
  dsimp only [gRepL] at e
  by_cases hl : n < 16777216 ∧ xs.length * n.toNat ≤ 16777216 ∧ -16777216 < n
  · rw [if_pos hl] at e
    cases e
    obtain ⟨a, us, rfl, h1, r1⟩ := a1.list s
    refine ⟨a, n, us, rfl, a2.int, h1, by omega, by omega, by rw [r1.length]; exact le_line hl.2.1, fun p hp => ?_⟩
    exact k _ _ M (Grow.fresh s hp) ⟨p, _, rfl, upd_same, .lst (DRs.rep r1 _), s.free hp, hp⟩
  · rw [if_neg hl] at e
    cases e
theorem ok_catT : Op2Ok X (binaryOp .Add) gCatT := by
  refine ⟨_, op_catA, fun m M H x y d1 d2 res Q s a1 a2 e k => ?_⟩
  cases d1 <;> try (cases e; done)
  cases d2 <;> try (cases e; done)
  rename_i xs ys
  dsimp only [gCatT] at e
  by_cases hl : xs.length + ys.length ≤ 16777216
  · rw [if_pos hl] at e
    cases e
    obtain ⟨a, us, rfl, h1, r1, r1'⟩ := a1.tup s
    obtain ⟨b, ws, rfl, h2, r2, r2'⟩ := a2.tup s
    refine ⟨a, b, us, ws, rfl, rfl, h1, h2, by rw [r1.length, r2.length]; exact le_line hl, fun he => ?_, fun _ he => ?_, fun _ _ p hp => ?_⟩
    · subst he
      cases r1
      exact k _ H M (Grow.refl s) r2'
    · subst he
      cases r2
      exact k _ H M (Grow.refl s) (show DR X.K m M (.ref a) (.tup (xs ++ [])) from by rw [List.append_nil]; exact r1')
    · have gs := Grow.share (o := .tup (us ++ ws)) s hp
      exact k _ _ _ gs (.tup (SqT.of upd_same) ((r1.append r2).up gs.mm))
  · rw [if_neg hl] at e
    cases e
def gPlus : D → D → Option RV := fun a b => (gAdd a b).or ((gCatS a b).or ((gCatL a b).or (gCatT a b)))
theorem ok_plus : Op2Ok X (binaryOp .Add) gPlus := ok_add.or (ok_catS.or (ok_catL.or ok_catT))
def gTimes : D → D → Option RV := fun a b => (gMul a b).or (gRepL a b)
theorem ok_times : Op2Ok X (binaryOp .Mult) gTimes := ok_mul.or ok_repL
/-- == and != -/
def eqB (a b : D) : Option Bool := match a, b with
  | .int i, .int j => some (i == j)
  | .str x, .str y => some (x == y)
  | .bool x, .bool y => some (x == y)
  | a, b => if SeqAt.shaped a.py = true ∧ SeqAt.shaped b.py = true then some (PyData.eqv a.py b.py) else none
def gEq (a b : D) : Option RV := (eqB a b).map fun r => sh (.bool r)
def gNe (a b : D) : Option RV := (eqB a b).map fun r => sh (.bool (!r))
theorem eqB_cases {K : PySem.W.Frag} {m : List Addr} {M H : Hp} {x y : V} {d1 d2 : D} {r : Bool} (s : Same M H) (a1 : Arg K m M H x d1) (a2 : Arg K m M H y d2) (e : eqB d1 d2 = some r) :
    (scal x y = true ∧ decide (x = y) = r) ∨ ∃ d e, Dp K H x d ∧ Dp K H y e ∧ SeqAt.shaped d = true ∧ SeqAt.shaped e = true ∧ PyData.eqv d e = r := by
  have gen : (if SeqAt.shaped d1.py = true ∧ SeqAt.shaped d2.py = true then some (PyData.eqv d1.py d2.py) else none) = some r →
      ∃ d e, Dp K H x d ∧ Dp K H y e ∧ SeqAt.shaped d = true ∧ SeqAt.shaped e = true ∧ PyData.eqv d e = r := fun e => by
    by_cases hs : SeqAt.shaped d1.py = true ∧ SeqAt.shaped d2.py = true
    · rw [if_pos hs] at e
      exact ⟨_, _, DR.dp _ _ (a1.dr s) (SeqAt.canLay_of_shaped hs.1), DR.dp _ _ (a2.dr s) (SeqAt.canLay_of_shaped hs.2), hs.1, hs.2, Option.some.inj e⟩
    · rw [if_neg hs] at e
      cases e
  unfold eqB at e
  split at e
  · rw [a1.int, a2.int]
    exact .inl ⟨rfl, by rw [dec_int]; exact Option.some.inj e⟩
  · rw [a1.str, a2.str]
    exact .inl ⟨rfl, by rw [dec_str]; exact Option.some.inj e⟩
  · rw [a1.bl, a2.bl]
    exact .inl ⟨rfl, by rw [dec_bl]; exact Option.some.inj e⟩
  · exact .inr (gen e)
theorem ok_eq (hu : X.A.units + 64 < cLine) : Op2Ok X (compareOp .Eq) gEq := by
  refine ⟨_, op_eq.or (op_eqD hu), fun m M H x y d1 d2 res Q s a1 a2 e k => ?_⟩
  unfold gEq at e
  cases he : eqB d1 d2 with
  | none => rw [he] at e; cases e
  | some r =>
    rw [he] at e
    cases e
    rcases eqB_cases s a1 a2 he with ⟨h1, h2⟩ | ⟨d, e, h1, h2, h3, h4, h5⟩
    · exact .inl ⟨h1, by rw [h2]; exact k _ H M (Grow.refl s) (.bl _)⟩
    · exact .inr ⟨d, e, h1, h2, h3, h4, by rw [h5]; exact k _ H M (Grow.refl s) (.bl _)⟩
theorem ok_ne (hu : X.A.units + 64 < cLine) : Op2Ok X (compareOp .NotEq) gNe := by
  refine ⟨_, op_ne.or (op_neD hu), fun m M H x y d1 d2 res Q s a1 a2 e k => ?_⟩
  unfold gNe at e
  cases he : eqB d1 d2 with
  | none => rw [he] at e; cases e
  | some r =>
    rw [he] at e
    cases e
    rcases eqB_cases s a1 a2 he with ⟨h1, h2⟩ | ⟨d, e, h1, h2, h3, h4, h5⟩
    · exact .inl ⟨h1, by rw [h2]; exact k _ H M (Grow.refl s) (.bl _)⟩
    · exact .inr ⟨d, e, h1, h2, h3, h4, by rw [h5]; exact k _ H M (Grow.refl s) (.bl _)⟩
/-- is None -/
def D.isNone : D → Bool
  | .none => true
  | _ => false
def gIs : D → D → Option RV
  | d, .none => some (sh (.bool d.isNone))
  | _, _ => none
def gIsNot : D → D → Option RV
  | d, .none => some (sh (.bool (!d.isNone)))
  | _, _ => none
theorem Arg.isNon {K : PySem.W.Frag} {m : List Addr} {M H : Hp} {x : V} {d : D} (h : Arg K m M H x d) : decide (x = .non) = d.isNone := by
  rcases h with h | ⟨a, o, rfl, h2, h3⟩
  · cases h <;> rfl
  · cases h3 <;> rfl
theorem ok_is : Op2Ok X (compareOp .Is) gIs := by
  refine ⟨_, op_isN, fun m M H x y d1 d2 res Q s a1 a2 e k => ?_⟩
  cases d2 <;> try (cases e; done)
  cases e
  exact ⟨a2.non, by rw [a1.isNon]; exact k _ H M (Grow.refl s) (.bl _)⟩
theorem ok_isnot : Op2Ok X (compareOp .IsNot) gIsNot := by
  refine ⟨_, op_notN, fun m M H x y d1 d2 res Q s a1 a2 e k => ?_⟩
  cases d2 <;> try (cases e; done)
  cases e
  exact ⟨a2.non, by rw [a1.isNon]; exact k _ H M (Grow.refl s) (.bl _)⟩
end
end MP

/-! MP 3: tests, displays, subscripts, slices, built-in calls, what is walked, comprehensions. -/
namespace MP
open PySem PySem.Spec PyProof.Rows L2

section
variable {X : Cx} {T : Tab} {W : WX} {a b c e : Expr} {es : List Expr} {pos p : Pos} {fa fb fc : Sta → PR RV} {ta tb tc : Sta → PR Bool}

/-! ### tests -/
def RV.bool (r : RV) : PR Bool := match r.d with
  | .bool b => .ok b
  | _ => .stuck
def pB (f : Sta → PR RV) : Sta → PR Bool := fun s => (f s).bind RV.bool
theorem tB_of {σ : L2.St} {H : Hp} {Q : Bool → Hp → Prop} (h : tT X T W (pB fa) σ H Q) : tP X T W fa σ H (fun x H' => ∃ k, x = .bl k ∧ Q k H') := by
  obtain ⟨s, m, M, G, R, q⟩ := h
  refine ⟨s, m, M, G, R, ?_⟩
  revert q
  unfold pB PR.bind
  cases fa s with
  | ok r =>
    intro q y H' M' g rr
    obtain ⟨k, d⟩ := r
    cases d <;> try (exact q.elim)
    rename_i b
    exact ⟨b, rr.arg.bl, q H' M' g⟩
  | exc e => intro q; exact q
  | stuck => intro q; exact q
/-- a comparison as a test -/
theorem et_cmp {op : CmpOp} {g : D → D → Option RV} (ho : Op2Ok X (compareOp op) g) (ha : PEv X T W a fa) (hb : PEv X T W b fb) (hm : behindInMarks op b = false) : PTv X T W (.Compare a [op] [b] pos) (pB (p2 g fa fb)) := by
  obtain ⟨r, h1, h2⟩ := ho
  exact PT.wk (pt_cmpR h1 ha hb hm) fun σ H Q h => tOp_of h2 (tB_of h)
/-- a value that is a bool, as a test -/
theorem et_val (h : PEv X T W e fa) (he : ∀ whole, isTrue e X.env whole = (do let v ← whole; standAt e.pos; holding [v] (truthy v)) := by intro _; rfl) : PTv X T W e (pB fa) :=
  PT.wk (pt_val h he) fun σ H Q h => tB_of h
def pNot (f : Sta → PR Bool) : Sta → PR Bool := fun s => (f s).bind fun b => .ok (!b)
theorem et_not (h : PTv X T W a ta) : PTv X T W (.UnaryOp .Not a pos) (pNot ta) := by
  refine PT.wk (pt_not h) ?_
  rintro σ H Q ⟨s, m, M, G, R, q⟩
  refine ⟨s, m, M, G, R, ?_⟩
  revert q
  unfold pNot PR.bind
  cases ta s with
  | ok r => intro q; exact q
  | exc e => intro q; exact q
  | stuck => intro q; exact q
abbrev PWv (X : Cx) (T : Tab) (W : WX) (e : Expr) (f : Sta → PR Bool) : Prop := PW X e (tT X T W f)
def pAnd (f g : Sta → PR Bool) : Sta → PR Bool := fun s => (f s).bind fun b => if b then g s else .ok false
def pOr (f g : Sta → PR Bool) : Sta → PR Bool := fun s => (f s).bind fun b => if b then .ok true else g s
theorem ew_and1 (h : PTv X T W a ta) : PWv X T W (.BoolOp .And [a] pos) ta := pw_and1 h
theorem ew_or1 (h : PTv X T W a ta) : PWv X T W (.BoolOp .Or [a] pos) ta := pw_or1 h
theorem tT_seq {f g : Sta → PR Bool} {σ : L2.St} {H : Hp} {Q : Bool → Hp → Prop} {k : Sta → Bool → PR Bool} (h : tT X T W (fun s => (f s).bind fun b => k s b) σ H Q) :
    tT X T W f σ H fun b H1 => tT X T W (fun s => k s b) σ H1 Q := by
  obtain ⟨s, m, M, G, R, q⟩ := h
  refine ⟨s, m, M, G, R, ?_⟩
  revert q
  dsimp only
  unfold PR.bind
  cases f s with
  | ok b =>
    intro q H1 M1 g1
    refine ⟨s, m, M1, G, R.grow g1, ?_⟩
    revert q
    dsimp only
    cases k s b with
    | ok c => intro q H2 M2 g2; exact q H2 M2 (g1.trans g2)
    | exc e => intro q cls d H' M' g2 x; exact q cls d H' M' (g1.trans g2) x
    | stuck => intro q; exact q
  | exc e => intro q; exact q
  | stuck => intro q; exact q
theorem tT_ok {b : Bool} {σ : L2.St} {H : Hp} {Q : Bool → Hp → Prop} (h : tT X T W (fun _ => .ok b) σ H Q) : Q b H := by
  obtain ⟨s, m, M, G, R, q⟩ := h
  exact q H M (Grow.refl R.mh)
theorem ew_and {rest : List Expr} (ha : PTv X T W a ta) (hb : PWv X T W (.BoolOp .And (b :: rest) pos) tb) : PWv X T W (.BoolOp .And (a :: b :: rest) pos) (pAnd ta tb) := by
  refine PW.wk (pw_and ha hb) fun σ H Q h => ?_
  have h2 := tT_seq (f := ta) (g := tb) (k := fun s b => if b then tb s else .ok false) h
  obtain ⟨s, m, M, G, R, q⟩ := h2
  refine ⟨s, m, M, G, R, ?_⟩
  revert q
  cases ta s with
  | ok r =>
    intro q H1 M1 g1
    have q := q H1 M1 g1
    cases r with
    | true => exact q
    | false => exact tT_ok q
  | exc e => intro q; exact q
  | stuck => intro q; exact q
theorem ew_or {rest : List Expr} (ha : PTv X T W a ta) (hb : PWv X T W (.BoolOp .Or (b :: rest) pos) tb) : PWv X T W (.BoolOp .Or (a :: b :: rest) pos) (pOr ta tb) := by
  refine PW.wk (pw_or ha hb) fun σ H Q h => ?_
  have h2 := tT_seq (f := ta) (g := tb) (k := fun s b => if b then .ok true else tb s) h
  obtain ⟨s, m, M, G, R, q⟩ := h2
  refine ⟨s, m, M, G, R, ?_⟩
  revert q
  cases ta s with
  | ok r =>
    intro q H1 M1 g1
    have q := q H1 M1 g1
    cases r with
    | true => exact tT_ok q
    | false => exact q
  | exc e => intro q; exact q
  | stuck => intro q; exact q
theorem et_w (h : PWv X T W e ta) : PTv X T W e ta := PW.pt h

/-! ### and, or, not as values -/
def pAndV (f g : Sta → PR RV) : Sta → PR RV := fun s => (pB f s).bind fun b => if b then g s else .ok (sh (.bool false))
def pOrV (f g : Sta → PR RV) : Sta → PR RV := fun s => (pB f s).bind fun b => if b then .ok (sh (.bool true)) else g s
def pNotV (f : Sta → PR RV) : Sta → PR RV := fun s => (pB f s).bind fun b => .ok (sh (.bool (!b)))
theorem tV_seq {f : Sta → PR RV} {σ : L2.St} {H : Hp} {Q : VK} {k : Sta → Bool → PR RV} (h : tP X T W (fun s => (pB f s).bind fun b => k s b) σ H Q) :
    tP X T W f σ H fun x H1 => ∃ c, x = .bl c ∧ tP X T W (fun s => k s c) σ H1 Q := by
  refine tB_of ?_
  obtain ⟨s, m, M, G, R, q⟩ := h
  refine ⟨s, m, M, G, R, ?_⟩
  revert q
  dsimp only
  unfold PR.bind
  cases pB f s with
  | ok b =>
    intro q H1 M1 g1
    refine ⟨s, m, M1, G, R.grow g1, ?_⟩
    revert q
    dsimp only
    cases k s b with
    | ok c => intro q y H2 M2 g2 rr; exact q y H2 M2 (g1.trans g2) (rr.since g1.same)
    | exc e => intro q cls d H' M' g2 x; exact q cls d H' M' (g1.trans g2) x
    | stuck => intro q; exact q
  | exc e => intro q; exact q
  | stuck => intro q; exact q
theorem tP_ok {d : D} {v : V} {σ : L2.St} {H : Hp} {Q : VK} (h : tP X T W (fun _ => .ok (sh d)) σ H Q) (r : ∀ m M, DR X.K m M v d) : Q v H := by
  obtain ⟨s, m, M, G, R, q⟩ := h
  exact q v H M (Grow.refl R.mh) (r m M)
theorem ev_one {op : BoolOp} (h : PEv X T W a fa) : PEv X T W (.BoolOp op [a] pos) fa := pe_one h
theorem ev_and {rest : List Expr} (ha : PEv X T W a fa) (hb : PEv X T W (.BoolOp .And (b :: rest) pos) fb) : PEv X T W (.BoolOp .And (a :: b :: rest) pos) (pAndV fa fb) := by
  refine PE.wk (pe_and ha hb) fun σ H Q h => ?_
  have h2 := tV_seq (f := fa) (k := fun s b => if b then fb s else .ok (sh (.bool false))) h
  obtain ⟨s, m, M, G, R, q⟩ := h2
  refine ⟨s, m, M, G, R, ?_⟩
  revert q
  cases fa s with
  | ok r =>
    intro q y H1 M1 g1 rr
    obtain ⟨c, e1, q⟩ := q y H1 M1 g1 rr
    refine ⟨c, e1, ?_⟩
    cases c with
    | true => exact q
    | false => exact tP_ok q fun _ _ => .bl false
  | exc e => intro q; exact q
  | stuck => intro q; exact q
theorem ev_or {rest : List Expr} (ha : PEv X T W a fa) (hb : PEv X T W (.BoolOp .Or (b :: rest) pos) fb) : PEv X T W (.BoolOp .Or (a :: b :: rest) pos) (pOrV fa fb) := by
  refine PE.wk (pe_or ha hb) fun σ H Q h => ?_
  have h2 := tV_seq (f := fa) (k := fun s b => if b then .ok (sh (.bool true)) else fb s) h
  obtain ⟨s, m, M, G, R, q⟩ := h2
  refine ⟨s, m, M, G, R, ?_⟩
  revert q
  cases fa s with
  | ok r =>
    intro q y H1 M1 g1 rr
    obtain ⟨c, e1, q⟩ := q y H1 M1 g1 rr
    refine ⟨c, e1, ?_⟩
    cases c with
    | true => exact tP_ok q fun _ _ => .bl true
    | false => exact q
  | exc e => intro q; exact q
  | stuck => intro q; exact q
theorem ev_not (ha : PEv X T W a fa) : PEv X T W (.UnaryOp .Not a pos) (pNotV fa) := by
  refine PE.wk (pe_not ha) fun σ H Q h => ?_
  have h2 := tV_seq (f := fa) (k := fun s b => .ok (sh (.bool (!b)))) h
  obtain ⟨s, m, M, G, R, q⟩ := h2
  refine ⟨s, m, M, G, R, ?_⟩
  revert q
  cases fa s with
  | ok r =>
    intro q y H1 M1 g1 rr
    obtain ⟨c, e1, q⟩ := q y H1 M1 g1 rr
    exact ⟨c, e1, tP_ok q fun _ _ => .bl _⟩
  | exc e => intro q; exact q
  | stuck => intro q; exact q
/-- a if t else b -/
def pIf (t : Sta → PR Bool) (f g : Sta → PR RV) : Sta → PR RV := fun s => (t s).bind fun b => if b then f s else g s
theorem ev_if {t : Expr} (ht : PTv X T W t ta) (ha : PEv X T W a fa) (hb : PEv X T W b fb) : PEv X T W (.IfExp t a b pos) (pIf ta fa fb) := by
  refine PE.wk (pe_ifExp ht ha hb) ?_
  rintro σ H Q ⟨s, m, M, G, R, q⟩
  refine ⟨s, m, M, G, R, ?_⟩
  revert q
  unfold pIf PR.bind
  cases ta s with
  | ok r =>
    intro q H1 M1 g1
    have go : ∀ f : Sta → PR RV, (match f s with
        | .ok r => ∀ y H' M', Grow H M H' M' → RR X.K m M' H H' y r → Q y H'
        | .exc e => ∀ cls d H' M', Grow H M H' M' → ExR X.K T m M' H' e cls d → W cls d σ H'
        | .stuck => False) → tP X T W f σ H1 Q := fun f q => by
      refine ⟨s, m, M1, G, R.grow g1, ?_⟩
      revert q
      cases f s with
      | ok c => intro q y H2 M2 g2 rr; exact q y H2 M2 (g1.trans g2) (rr.since g1.same)
      | exc e => intro q cls d H' M' g2 x; exact q cls d H' M' (g1.trans g2) x
      | stuck => intro q; exact q
    cases r with
    | true => exact go fa q
    | false => exact go fb q
  | exc e => intro q; exact q
  | stuck => intro q; exact q
/-- a < b < c -/
def p3 (g g' : D → D → Option RV) (fa fb fc : Sta → PR RV) : Sta → PR RV := fun s => (fa s).bind fun x => (fb s).bind fun y => (PR.of (g x.d y.d)).bind fun r => (RV.bool r).bind fun k =>
  if k then (fc s).bind fun z => .of (g' y.d z.d) else .ok (sh (.bool false))
theorem ev_chain_r {r r' : R2} {g g' : D → D → Option RV} (h2 : R2Ok X.K r g) (h2' : R2Ok X.K r' g') {σ : L2.St} {H : Hp} {Q : VK} (h : tP X T W (p3 g g' fa fb fc) σ H Q) : tChain r r' (tP X T W fa) (tP X T W fb) (tP X T W fc) σ H Q := by
  obtain ⟨s, m, M, G, R, q⟩ := h
  refine ⟨s, m, M, G, R, ?_⟩
  revert q
  unfold p3 PR.bind
  cases fa s with
  | ok r1 =>
    intro q y1 H1 M1 g1 rr1
    refine ⟨s, m, M1, G, R.grow g1, ?_⟩
    revert q
    cases fb s with
    | ok r2 =>
      intro q y2 H2 M2 g2 rr2
      dsimp only at q
      cases hg : g r1.d r2.d with
      | none => simp only [hg, PR.of] at q
      | some res =>
        simp only [hg, PR.of] at q
        refine h2 m M2 H2 y1 y2 _ _ res _ g2.mh ((rr1.grow g2).arg) rr2.arg hg fun z H3 M3 g3 rr3 => ?_
        obtain ⟨k, d⟩ := res
        cases d <;> try (exact q.elim)
        rename_i kb
        refine ⟨kb, rr3.arg.bl, ?_⟩
        cases kb with
        | false =>
          rw [if_neg Bool.false_ne_true]
          exact q (.bl false) H3 M3 (g1.trans (g2.trans g3)) (.bl false)
        | true =>
          rw [if_pos rfl]
          refine ⟨s, m, M3, G, ((R.grow g1).grow g2).grow g3, ?_⟩
          simp only [RV.bool, if_true] at q
          revert q
          cases fc s with
          | ok r3 =>
            intro q y3 H4 M4 g4 rr4
            dsimp only at q
            cases hg' : g' r2.d r3.d with
            | none => simp only [hg', PR.of] at q
            | some res' =>
              simp only [hg', PR.of] at q
              refine h2' m M4 H4 y2 y3 _ _ res' Q g4.mh (((rr2.grow g3).grow g4).arg) rr4.arg hg' fun z H' M' g5 rr5 => ?_
              have gs := g1.trans (g2.trans (g3.trans g4))
              exact q z H' M' (gs.trans g5) (rr5.since gs.same)
          | exc e => intro q cls d H' M' g4 x; exact q cls d H' M' (g1.trans (g2.trans (g3.trans g4))) x
          | stuck => intro q; exact q
    | exc e => intro q cls d H' M' g2 x; exact q cls d H' M' (g1.trans g2) x
    | stuck => intro q; exact q
  | exc e => intro q; exact q
  | stuck => intro q; exact q
end

/-! ### argument lists -/
section
variable {X : Cx} {T : Tab} {W : WX} {a b c e : Expr} {es : List Expr} {pos p : Pos} {fa fb fc : Sta → PR RV}
def pNil {α : Type} : Sta → PR (List α) := fun _ => .ok []
def pCons {α : Type} (f : Sta → PR α) (fs : Sta → PR (List α)) : Sta → PR (List α) := fun s => (f s).bind fun x => (fs s).bind fun xs => .ok (x :: xs)
theorem as_nil : PAs X T W [] pNil := PA.wk pa_nil fun σ H Q ⟨s, m, M, G, R, q⟩ => q [] H M (Grow.refl R.mh) .nil
theorem ar_nil : PAr X T W [] pNil := PA.wk pa_nil fun σ H Q ⟨s, m, M, G, R, q⟩ => q [] H M (Grow.refl R.mh) .nil
theorem as_cons {f : Sta → PR D} {fs : Sta → PR (List D)} (ha : PDv X T W e f) (hr : PAs X T W es fs) (hs : starEach (e :: es) X.env = (false, eval e X.env) :: starEach es X.env := by rfl) : PAs X T W (e :: es) (pCons f fs) := by
  refine PA.wk (pa_cons ha hr hs) ?_
  rintro σ H Q ⟨s, m, M, G, R, q⟩
  refine ⟨s, m, M, G, R, ?_⟩
  revert q
  unfold pCons PR.bind
  cases f s with
  | ok x =>
    intro q y H1 M1 g1 r1
    refine ⟨s, m, M1, G, R.grow g1, ?_⟩
    revert q
    cases fs s with
    | ok xs => intro q ys H2 M2 g2 r2; exact q (y :: ys) H2 M2 (g1.trans g2) (.cons (r1.up g2.mm) r2)
    | exc e => intro q cls d H' M' g2 x; exact q cls d H' M' (g1.trans g2) x
    | stuck => intro q; exact q
  | exc e => intro q; exact q
  | stuck => intro q; exact q
theorem ar_cons {f : Sta → PR RV} {fs : Sta → PR (List RV)} (ha : PEv X T W e f) (hr : PAr X T W es fs) (hs : starEach (e :: es) X.env = (false, eval e X.env) :: starEach es X.env := by rfl) : PAr X T W (e :: es) (pCons f fs) := by
  refine PA.wk (pa_cons ha hr hs) ?_
  rintro σ H Q ⟨s, m, M, G, R, q⟩
  refine ⟨s, m, M, G, R, ?_⟩
  revert q
  unfold pCons PR.bind
  cases f s with
  | ok x =>
    intro q y H1 M1 g1 r1
    refine ⟨s, m, M1, G, R.grow g1, ?_⟩
    revert q
    cases fs s with
    | ok xs => intro q ys H2 M2 g2 r2; exact q (y :: ys) H2 M2 (g1.trans g2) (.cons (r1.grow g2) (Paired.mapP r2 fun _ _ z => z.since g1.same))
    | exc e => intro q cls d H' M' g2 x; exact q cls d H' M' (g1.trans g2) x
    | stuck => intro q; exact q
  | exc e => intro q; exact q
  | stuck => intro q; exact q

/-! ### displays -/
def pTup (fs : Sta → PR (List D)) : Sta → PR RV := fun s => (fs s).bind fun ds => if ds.length ≤ 1000 then .ok (sh (.tup ds)) else .stuck
def pLst (fs : Sta → PR (List D)) : Sta → PR RV := fun s => (fs s).bind fun ds => if ds.length ≤ 1000 then .ok (fr (.list ds)) else .stuck
theorem ev_tup {fs : Sta → PR (List D)} {x1} (h : PAs X T W es fs) : PEv X T W (.Tuple es x1 pos) (pTup fs) := by
  refine PE.wk (pe_tup h) ?_
  rintro σ H Q ⟨s, m, M, G, R, q⟩
  refine ⟨s, m, M, G, R, ?_⟩
  revert q
  unfold pTup PR.bind
  cases fs s with
  | ok ds =>
    intro q ys H1 M1 g1 r1
    dsimp only at q
    by_cases hl : ds.length ≤ 1000
    · rw [if_pos hl] at q
      refine ⟨by rw [r1.length]; exact le_line (by omega), fun p hp => ?_⟩
      have gs := Grow.share (o := .tup ys) g1.mh hp
      exact q _ _ _ (g1.trans gs) (.tup (SqT.of upd_same) (r1.up gs.mm))
    · rw [if_neg hl] at q
      exact q.elim
  | exc e => intro q; exact q
  | stuck => intro q; exact q
theorem ev_lst {fs : Sta → PR (List D)} (h : PAs X T W es fs) : PEv X T W (.List es pos) (pLst fs) := by
  refine PE.wk (pe_lst h) ?_
  rintro σ H Q ⟨s, m, M, G, R, q⟩
  refine ⟨s, m, M, G, R, ?_⟩
  revert q
  unfold pLst PR.bind
  cases fs s with
  | ok ds =>
    intro q ys H1 M1 g1 r1
    dsimp only at q
    by_cases hl : ds.length ≤ 1000
    · rw [if_pos hl] at q
      refine ⟨by rw [r1.length]; exact le_line (by omega), fun p hp => ?_⟩
      have gs := Grow.fresh (o := .lst ys) g1.mh hp
      exact q _ _ _ (g1.trans gs) ⟨p, _, rfl, upd_same, .lst r1, g1.mh.free hp, g1.same.free hp⟩
    · rw [if_neg hl] at q
      exact q.elim
  | exc e => intro q; exact q
  | stuck => intro q; exact q

/-! ### subscripts -/
def gIx : D → D → Option RV
  | .str z, .int i => if z.length ≤ 16777216 then (atI z.cps.toList i).map fun c => sh (.str ⟨#[c]⟩) else none
  | d, .int i => (seqOf d).bind fun ds => (atI ds i).map sh
  | _, _ => none
theorem DRs.atI {K : PySem.W.Frag} {m : List Addr} {H : Hp} {vs : List V} {ds : List D} {i : Int} {d : D} (h : DRs K m H vs ds) (e : L2.atI ds i = some d) : ∃ v, L2.atI vs i = some v ∧ DR K m H v d := by
  unfold L2.atI at e ⊢
  rw [h.length]
  cases hj : ixN ds.length i with
  | none => rw [hj] at e; cases e
  | some j =>
    rw [hj] at e
    exact h.get e
theorem ok_ix : R2Ok X.K (rIx X.K) gIx := by
  intro m M H x y d1 d2 res Q s a1 a2 e k
  have gen : ∀ (i : Int), d2 = .int i → ((seqOf d1).bind fun ds => (L2.atI ds i).map sh) = some res → rIx X.K x y H Q := fun i e2 e3 => by
    subst e2
    cases hs : seqOf d1 with
    | none => rw [hs] at e3; cases e3
    | some ds =>
      rw [hs] at e3
      cases ha : L2.atI ds i with
      | none => simp [ha] at e3
      | some d =>
        simp only [Option.bind_some, ha, Option.map_some, Option.some.injEq] at e3
        subst e3
        obtain ⟨a, xs, rfl, h1, r1⟩ := a1.seq hs s
        obtain ⟨v, hv, rv⟩ := r1.atI ha
        have q := k v H M (Grow.refl s) rv
        rcases h1 with h1 | h1
        · exact .inl ⟨a, xs, i, v, rfl, a2.int, h1, hv, q⟩
        · exact .inr (.inl ⟨a, xs, i, v, rfl, a2.int, h1, hv, q⟩)
  unfold gIx at e
  split at e
  · rename_i z i
    by_cases hl : z.length ≤ 16777216
    · rw [if_pos hl] at e
      cases hc : L2.atI z.cps.toList i with
      | none => rw [hc] at e; cases e
      | some c =>
        rw [hc] at e
        cases e
        exact .inr (.inr ⟨z, i, c, a1.str, a2.int, le_line hl, hc, k _ H M (Grow.refl s) (.str _)⟩)
    · rw [if_neg hl] at e
      cases e
  · exact gen _ rfl e
  · cases e
theorem ev_ix (ha : PEv X T W a fa) (hb : PEv X T W b fb) (hs : PlainIx b) : PEv X T W (.Subscript a b pos) (p2 gIx fa fb) :=
  PE.wk (pe_ix ix_seq ha hb hs) fun σ H Q h => tOp_of ok_ix h

/-! ### slices -/
def tO (X : Cx) (T : Tab) (W : WX) (f : Sta → PR (Option Int)) : TO := fun σ H Q => ∃ s m M G, Rel X.K T m M G H s σ ∧ match f s with
  | .ok o => ∀ H' M', Grow H M H' M' → Q o H'
  | .exc e => ∀ cls d H' M', Grow H M H' M' → ExR X.K T m M' H' e cls d → W cls d σ H'
  | .stuck => False
abbrev POv (X : Cx) (T : Tab) (W : WX) (e : Option Expr) (f : Sta → PR (Option Int)) : Prop := PO X e (tO X T W f)
theorem PO.wk {X : Cx} {e : Option Expr} {t t' : TO} (h : PO X e t) (w : ∀ σ H Q, t' σ H Q → t σ H Q) : PO X e t' := ⟨fun pins s σ H Q I q => h.run pins s σ H Q I (w _ _ _ q)⟩
def pNo : Sta → PR (Option Int) := fun _ => .ok none
def RV.int (r : RV) : PR Int := match r.d with
  | .int i => .ok i
  | _ => .stuck
def pSome (f : Sta → PR RV) : Sta → PR (Option Int) := fun s => (f s).bind fun r => (RV.int r).bind fun i => .ok (some i)
theorem eo_none : POv X T W none pNo := PO.wk po_none fun σ H Q ⟨s, m, M, G, R, q⟩ => q H M (Grow.refl R.mh)
theorem eo_some (h : PEv X T W e fa) : POv X T W (some e) (pSome fa) := by
  refine PO.wk (po_some h) ?_
  rintro σ H Q ⟨s, m, M, G, R, q⟩
  refine ⟨s, m, M, G, R, ?_⟩
  revert q
  unfold pSome PR.bind
  cases fa s with
  | ok r =>
    intro q y H1 M1 g1 rr
    obtain ⟨k, d⟩ := r
    cases d <;> try (exact q.elim)
    rename_i i
    exact ⟨i, rr.arg.int, q H1 M1 g1⟩
  | exc e => intro q; exact q
  | stuck => intro q; exact q
def cutD {α : Type} (xs : List α) (lo hi : Option Int) : List α := (xs.drop (HT.sIx xs.length 0 lo)).take (HT.sIx xs.length xs.length hi - HT.sIx xs.length 0 lo)
theorem cutV_eq (xs : List V) (lo hi : Option Int) : cutV xs lo hi = cutD xs lo hi := rfl
theorem DRs.cut {K : PySem.W.Frag} {m : List Addr} {H : Hp} {vs : List V} {ds : List D} (h : DRs K m H vs ds) (lo hi : Option Int) : DRs K m H (cutV vs lo hi) (cutD ds lo hi) := by
  unfold cutV cutD
  rw [h.length]
  exact (h.drop _).take _
theorem cutD_whole {α : Type} (xs : List α) (lo hi : Option Int) (h : HT.sIx xs.length 0 lo = 0 ∧ HT.sIx xs.length xs.length hi = xs.length) : cutD xs lo hi = xs := by
  unfold cutD
  rw [h.1, h.2]
  simp
def gSl : D → Option Int → Option Int → Option RV
  | .list ds, lo, hi => some (fr (.list (cutD ds lo hi)))
  | .lk ds, lo, hi => some (fr (.list (cutD ds lo hi)))
  | .tup ds, lo, hi => some (sh (.tup (cutD ds lo hi)))
  | .str z, lo, hi => if z.length ≤ 16777216 then some (sh (.str (cutS z lo hi))) else none
  | _, _, _ => none
def rSlice (K : PySem.W.Frag) : V → Option Int → Option Int → Hp → VK → Prop := fun x lo hi H Q => rSlL K x lo hi H Q ∨ (rSlA K x lo hi H Q ∨ rSlS x lo hi H Q)
theorem ok_sl {m : List Addr} {M H : Hp} {x : V} {d : D} {lo hi : Option Int} {res : RV} {Q : VK} (s : Same M H) (a1 : Arg X.K m M H x d) (e : gSl d lo hi = some res)
    (k : ∀ z H' M', Grow H M H' M' → RR X.K m M' H H' z res → Q z H') : rSlice X.K x lo hi H Q := by
  have lst : ∀ (a : Addr) (xs : List V) (ds : List D), x = .ref a → SqL X.K H a xs → DRs X.K m M xs ds → res = fr (.list (cutD ds lo hi)) → rSlice X.K x lo hi H Q := fun a xs ds e1 h1 r1 e2 => by
    subst e1 e2
    refine .inl ⟨a, xs, rfl, h1, fun p hp => ?_⟩
    exact k _ _ M (Grow.fresh s hp) ⟨p, _, rfl, upd_same, .lst (r1.cut lo hi), s.free hp, hp⟩
  cases d <;> try (cases e; done)
  · rename_i z
    dsimp only [gSl] at e
    by_cases hl : z.length ≤ 16777216
    · rw [if_pos hl] at e
      cases e
      exact .inr (.inr ⟨z, a1.str, le_line hl, k _ H M (Grow.refl s) (.str _)⟩)
    · rw [if_neg hl] at e
      cases e
  · rename_i ds
    cases e
    obtain ⟨a, xs, h0, h1, r1⟩ := a1.list s
    exact lst a xs ds h0 (SqL.of h1) r1 rfl
  · rename_i ds
    cases e
    obtain ⟨a, xs, h0, h1, r1⟩ := a1.lk s
    exact lst a xs ds h0 h1 r1 rfl
  · rename_i ds
    cases e
    obtain ⟨a, xs, rfl, h1, r1, r0⟩ := a1.tup s
    refine .inr (.inl ⟨a, xs, rfl, h1, fun hw => ?_, fun _ p hp => ?_⟩)
    · rw [r1.length] at hw
      exact k _ H M (Grow.refl s) (show DR X.K m M (.ref a) (.tup (cutD ds lo hi)) from by rw [cutD_whole ds lo hi hw]; exact r0)
    · have gs := Grow.share (o := .tup (cutV xs lo hi)) s hp
      exact k _ _ _ gs (.tup (SqT.of upd_same) ((r1.cut lo hi).up gs.mm))
def pSl (fa : Sta → PR RV) (lo hi : Sta → PR (Option Int)) : Sta → PR RV := fun s => (fa s).bind fun x => (lo s).bind fun l => (hi s).bind fun u => .of (gSl x.d l u)
theorem ev_sl {lo hi : Option Expr} {fl fh : Sta → PR (Option Int)} {p2 : Pos} (ha : PEv X T W e fa) (hl : POv X T W lo fl) (hh : POv X T W hi fh) : PEv X T W (.Subscript e (.Slice lo hi none p2) pos) (pSl fa fl fh) := by
  refine PE.wk (pe_slice (sl_list.or (sl_tupA.or sl_str)) ha hl hh) ?_
  rintro σ H Q ⟨s, m, M, G, R, q⟩
  refine ⟨s, m, M, G, R, ?_⟩
  revert q
  unfold pSl PR.bind
  cases fa s with
  | ok r1 =>
    intro q y1 H1 M1 g1 rr1
    refine ⟨s, m, M1, G, R.grow g1, ?_⟩
    revert q
    cases fl s with
    | ok l =>
      intro q H2 M2 g2
      refine ⟨s, m, M2, G, (R.grow g1).grow g2, ?_⟩
      revert q
      cases fh s with
      | ok u =>
        intro q H3 M3 g3
        dsimp only at q
        cases hg : gSl r1.d l u with
        | none => simp only [hg, PR.of] at q
        | some res =>
          simp only [hg, PR.of] at q
          have gs := g1.trans (g2.trans g3)
          exact ok_sl g3.mh ((rr1.grow g2).grow g3).arg hg fun z H' M' g4 rr4 => q z H' M' (gs.trans g4) (rr4.since gs.same)
      | exc e => intro q cls d H' M' g3 x; exact q cls d H' M' (g1.trans (g2.trans g3)) x
      | stuck => intro q; exact q
    | exc e => intro q cls d H' M' g2 x; exact q cls d H' M' (g1.trans g2) x
    | stuck => intro q; exact q
  | exc e => intro q; exact q
  | stuck => intro q; exact q

/-! ### built-in calls -/
def CallOk (X : Cx) (v : Value) (g : List D → Option RV) : Prop := ∃ r, CallR X v r ∧ ∀ m M H ys ds res Q, Same M H → Paired (Arg X.K m M H) ys ds → g ds = some res →
  (∀ z H' M', Grow H M H' M' → RR X.K m M' H H' z res → Q z H') → r ys H Q
theorem CallOk.or {v : Value} {g g' : List D → Option RV} (h : CallOk X v g) (h' : CallOk X v g') : CallOk X v (fun a => (g a).or (g' a)) := by
  obtain ⟨r, h1, h2⟩ := h
  obtain ⟨r', h1', h2'⟩ := h'
  refine ⟨_, h1.or h1', fun m M H ys ds res Q s a e k => ?_⟩
  dsimp only at e
  cases hg : g ds with
  | some z =>
    rw [hg] at e
    have e' : z = res := Option.some.inj e
    subst e'
    exact .inl (h2 m M H ys ds z Q s a hg k)
  | none =>
    rw [hg] at e
    exact .inr (h2' m M H ys ds res Q s a e k)
def pCall (g : List D → Option RV) (fs : Sta → PR (List RV)) : Sta → PR RV := fun s => (fs s).bind fun rs => .of (g (rs.map RV.d))
theorem args_of {K : PySem.W.Frag} {m : List Addr} {M H0 H : Hp} : ∀ {ys : List V} {rs : List RV}, Paired (RR K m M H0 H) ys rs → Paired (Arg K m M H) ys (rs.map RV.d)
  | _, _, .nil => .nil
  | _, _, .cons r t => .cons r.arg (args_of t)
theorem tCB_of {v : Value} {g : List D → Option RV} {fs : Sta → PR (List RV)} {r : List V → Hp → VK → Prop} (h2 : ∀ m M H ys ds res Q, Same M H → Paired (Arg X.K m M H) ys ds → g ds = some res →
    (∀ z H' M', Grow H M H' M' → RR X.K m M' H H' z res → Q z H') → r ys H Q) {σ : L2.St} {H : Hp} {Q : VK} (h : tP X T W (pCall g fs) σ H Q) : tCB r (tAr X T W fs) σ H Q := by
  obtain ⟨s, m, M, G, R, q⟩ := h
  refine ⟨s, m, M, G, R, ?_⟩
  revert q
  unfold pCall PR.bind
  cases fs s with
  | ok rs =>
    intro q ys H1 M1 g1 rr
    dsimp only at q
    cases hg : g (rs.map RV.d) with
    | none => simp only [hg, PR.of] at q
    | some res =>
      simp only [hg, PR.of] at q
      exact h2 m M1 H1 ys _ res Q g1.mh (args_of rr) hg fun z H' M' g2 rr2 => q z H' M' (g1.trans g2) (rr2.since g1.same)
  | exc e => intro q; exact q
  | stuck => intro q; exact q
theorem ev_callB {x : Str} {id : String} {g : List D → Option RV} {fs : Sta → PR (List RV)} (hc : CallOk X (.builtin id) g) (hg : Gl X x) (hm : X.mg x = none) (hv : bootBuiltins x = some (.builtin id)) (ha : PAr X T W (e :: es) fs)
    (hn : x ≠ "__name__" := by decide) (hdb : (x == ("__debug__" : Str)) = false := by decide)
    (he : starEach (e :: es) X.env = (false, eval e X.env) :: starEach es X.env := by rfl) (hpl : (backTo pos (starEach es X.env)).any (·.1) = false := by rfl) :
    PEv X T W (.Call (.Name x p) (e :: es) [] pos) (pCall g fs) := by
  obtain ⟨r, h1, h2⟩ := hc
  exact PE.wk (pe_callB h1 hg hm hv ha hn hdb he hpl) fun σ H Q h => tCB_of (v := .builtin id) h2 h
theorem ev_callTy {x : Str} {id : String} {g : List D → Option RV} {fs : Sta → PR (List RV)} (hc : CallOk X (.type id) g) (hg : Gl X x) (hm : X.mg x = none) (hv : bootBuiltins x = some (.type id)) (ha : PAr X T W (e :: es) fs)
    (hn : x ≠ "__name__" := by decide) (hdb : (x == ("__debug__" : Str)) = false := by decide)
    (he : starEach (e :: es) X.env = (false, eval e X.env) :: starEach es X.env := by rfl) (hpl : (backTo pos (starEach es X.env)).any (·.1) = false := by rfl) :
    PEv X T W (.Call (.Name x p) (e :: es) [] pos) (pCall g fs) := by
  obtain ⟨r, h1, h2⟩ := hc
  exact PE.wk (pe_callTy h1 hg hm hv ha hn hdb he hpl) fun σ H Q h => tCB_of (v := .type id) h2 h
def gLen : List D → Option RV
  | [.str z] => if z.length ≤ 16777216 then some (sh (.int z.length)) else none
  | [d] => (seqOf d).map fun ds => sh (.int ds.length)
  | _ => none
theorem ok_len : CallOk X (.builtin "len") gLen := by
  refine ⟨_, call_len_str.or call_len_seq, fun m M H ys ds res Q s a e k => ?_⟩
  unfold gLen at e
  split at e
  · rename_i z
    cases a with
    | cons a1 an =>
      cases an
      by_cases hl : z.length ≤ 16777216
      · rw [if_pos hl] at e
        cases e
        exact .inl ⟨z, by rw [a1.str], le_line hl, k _ H M (Grow.refl s) (.int _)⟩
      · rw [if_neg hl] at e
        cases e
  · rename_i d _
    cases a with
    | cons a1 an =>
      cases an
      cases hs : seqOf d with
      | none => rw [hs] at e; cases e
      | some ds =>
        rw [hs] at e
        cases e
        obtain ⟨p, xs, rfl, h1, r1⟩ := a1.seq hs s
        refine .inr ⟨p, xs, rfl, h1, ?_⟩
        rw [r1.length]
        exact k _ H M (Grow.refl s) (.int _)
  · cases e
def gMax : List D → Option RV
  | [.int i, .int j] => some (sh (.int (if j > i then j else i)))
  | _ => none
def gMin : List D → Option RV
  | [.int i, .int j] => some (sh (.int (if j < i then j else i)))
  | _ => none
theorem ok_max (hc : X.calm = true) : CallOk X (.builtin "max") gMax := by
  refine ⟨_, call_max2 hc, fun m M H ys ds res Q s a e k => ?_⟩
  unfold gMax at e
  split at e
  · cases e
    cases a with
    | cons a1 an => cases an with
      | cons a2 an =>
        cases an
        exact ⟨_, _, by rw [a1.int, a2.int], k _ H M (Grow.refl s) (.int _)⟩
  · cases e
theorem ok_min (hc : X.calm = true) : CallOk X (.builtin "min") gMin := by
  refine ⟨_, call_min2 hc, fun m M H ys ds res Q s a e k => ?_⟩
  unfold gMin at e
  split at e
  · cases e
    cases a with
    | cons a1 an => cases an with
      | cons a2 an =>
        cases an
        exact ⟨_, _, by rw [a1.int, a2.int], k _ H M (Grow.refl s) (.int _)⟩
  · cases e
def gList : List D → Option RV
  | [d] => (seqOf d).map fun ds => fr (.list ds)
  | _ => none
theorem ok_list : CallOk X (.type "list") gList := by
  refine ⟨_, call_list_of, fun m M H ys ds res Q s a e k => ?_⟩
  unfold gList at e
  split at e
  · rename_i d
    cases a with
    | cons a1 an =>
      cases an
      cases hs : seqOf d with
      | none => rw [hs] at e; cases e
      | some ds =>
        rw [hs] at e
        cases e
        obtain ⟨p, xs, rfl, h1, r1⟩ := a1.seq hs s
        refine ⟨p, xs, rfl, h1, fun l hl => ?_⟩
        exact k _ _ M (Grow.fresh s hl) ⟨l, _, rfl, upd_same, .lst r1, s.free hl, hl⟩
  · cases e
def gTuple : List D → Option RV
  | [d] => (seqOf d).map fun ds => sh (.tup ds)
  | _ => none
theorem ok_tuple : CallOk X (.type "tuple") gTuple := by
  refine ⟨_, call_tuple_of, fun m M H ys ds res Q s a e k => ?_⟩
  unfold gTuple at e
  split at e
  · rename_i d
    cases a with
    | cons a1 an =>
      cases an
      have lst : ∀ (p : Addr) (xs : List V) (ds : List D), SqL X.K H p xs → DRs X.K m M xs ds → res = sh (.tup ds) → ∀ l, H l = Option.none → Q (.ref l) (upd H l (.tup xs)) := fun p xs ds h1 r1 e2 l hl => by
        subst e2
        have gs := Grow.share (o := .tup xs) s hl
        exact k _ _ _ gs (.tup (SqT.of upd_same) (r1.up gs.mm))
      cases d <;> try (cases e; done)
      · rename_i ds
        cases e
        obtain ⟨p, xs, rfl, h1, r1⟩ := a1.list s
        exact ⟨p, xs, rfl, .inl ⟨SqL.of h1, lst p xs ds (SqL.of h1) r1 rfl⟩⟩
      · rename_i ds
        cases e
        obtain ⟨p, xs, rfl, h1, r1⟩ := a1.lk s
        exact ⟨p, xs, rfl, .inl ⟨h1, lst p xs ds h1 r1 rfl⟩⟩
      · rename_i ds
        cases e
        obtain ⟨p, xs, rfl, h1, r1, r0⟩ := a1.tup s
        exact ⟨p, xs, rfl, .inr ⟨h1, k _ H M (Grow.refl s) r0⟩⟩
  · cases e
end

/-! ### what is walked -/
/-- an iterator that yields what ds are, where M0 stands (and B, for a comprehension) -/
def ItOk (K : PySem.W.Frag) (m : List Addr) (J : It) (ds : List D) (M0 B : Hp) : Prop := ∀ (i : Nat) (M H : Hp), Same M0 M → Same M H → Same B H →
  (∀ d, ds[i]? = some d → J.go i H ∧ ∀ x H', J.yld i H x H' → ∃ M', Grow H M H' M' ∧ DR K m M' x d) ∧ (ds.length ≤ i → J.stop i H)
section
variable (X : Cx) (T : Tab) (W : WX)
def tI (f : Sta → PR (List D)) : TI := fun σ H R => ∃ s m M G, Rel X.K T m M G H s σ ∧ match f s with
  | .ok ds => ∀ J H' M', Grow H M H' M' → ItOk X.K m J ds M' (fun _ => Option.none) → R J H'
  | .exc e => ∀ cls d H' M', Grow H M H' M' → ExR X.K T m M' H' e cls d → W cls d σ H'
  | .stuck => False
def tIc (f : Sta → PR (List D)) : TI := fun σ H R => ∃ s m M G, Rel X.K T m M G H s σ ∧ match f s with
  | .ok ds => ∀ J H' M', Grow H M H' M' → ItOk X.K m J ds M' H' → R J H'
  | .exc e => ∀ cls d H' M', Grow H M H' M' → ExR X.K T m M' H' e cls d → W cls d σ H'
  | .stuck => False
abbrev PIv (tg iter : Expr) (f : Sta → PR (List D)) : Prop := PI X tg iter (tI X T W f)
abbrev PIc (tg iter : Expr) (f : Sta → PR (List D)) : Prop := PI X tg iter (tIc X T W f)
end
theorem PI.wk {X : Cx} {tg e : Expr} {t t' : TI} (h : PI X tg e t) (w : ∀ σ H Q, t' σ H Q → t σ H Q) : PI X tg e t' := ⟨fun pins s σ H Q I q => h.run pins s σ H Q I (w _ _ _ q)⟩
section
variable {X : Cx} {T : Tab} {W : WX} {a b c e tg iter : Expr} {es : List Expr} {pos p : Pos} {fa fb fc : Sta → PR RV}
theorem Same.none (H : Hp) : Same (fun _ => Option.none) H := fun _ _ h => nomatch h
theorem ic_of {f : Sta → PR (List D)} (h : PIv X T W tg iter f) : PIc X T W tg iter f := by
  refine PI.wk h ?_
  rintro σ H Q ⟨s, m, M, G, R, q⟩
  refine ⟨s, m, M, G, R, ?_⟩
  revert q
  cases f s with
  | ok ds => intro q J H' M' g ok; exact q J H' M' g fun i M H a b _ => ok i M H a b (Same.none _)
  | exc e => intro q; exact q
  | stuck => intro q; exact q
/-- a list or a tuple that is walked -/
def iSeq (K : PySem.W.Frag) (tl : TE) : TI := fun σ H R => tl σ H fun x H1 => ∃ a, x = .ref a ∧ (((∃ xs, SqL K H1 a xs) ∧ R (Itl K a) H1) ∨ ((∃ xs, SqT K H1 a xs) ∧ R (Itt K a) H1))
theorem pi_seq {l : Expr} {tl : TE} (hl : PE X l tl) : PI X tg l (iSeq X.K tl) := by
  refine ⟨fun pins s σ H R I h => ?_⟩
  refine thn (hl.run pins s σ H _ I h) fun v s1 ⟨x, H1, I1, r1, q1⟩ => ?_
  obtain ⟨a, e, q⟩ := q1
  subst e
  cases r1
  rcases q with ⟨⟨xs, hq⟩, q⟩ | ⟨⟨xs, hq⟩, q⟩
  · obtain ⟨its, rv, p, hz⟩ := I1.list hq
    refine wpAny_pyIter_list p.isList ?_
    refine ⟨s1.heap.objs.size, [s1.heap.objs.size], _, _, H1, rfl, I1.kept (t' := s1.toks) fun b o e => Heap.get?_push_of_some _ e, turn_list a _, ⟨_, Heap.get?_push_size _ rfl, rfl, rfl⟩, fun b hb => ?_, q⟩
    have e : b = s1.heap.objs.size := by simpa using hb
    subst e
    exact I1.fpOk (Nat.le_refl _) (I1.hok.fresh (Nat.le_refl _))
  · obtain ⟨its, rv, p, hz⟩ := I1.tuple hq
    refine wpAny_pyIter_tuple (show s1.heap.IsTuple a its.toArray from p) ?_
    refine ⟨s1.heap.objs.size, [s1.heap.objs.size], _, _, H1, rfl, I1.kept (t' := s1.toks) fun b o e => Heap.get?_push_of_some _ e, turn_tuple a _, ⟨_, Heap.get?_push_size _ rfl, rfl, rfl⟩, fun b hb => ?_, q⟩
    have e : b = s1.heap.objs.size := by simpa using hb
    subst e
    exact I1.fpOk (Nat.le_refl _) (I1.hok.fresh (Nat.le_refl _))
theorem itl_ok {K : PySem.W.Frag} {m : List Addr} {a' : Addr} {xs : List V} {ds : List D} {M0 B : Hp} (h : ∀ M H, Same M0 M → Same M H → Same B H → SqL K H a' xs) (r : DRs K m M0 xs ds) : ItOk K m (Itl K a') ds M0 B := by
  intro i M H s1 s2 s3
  refine ⟨fun d e => ?_, fun hl => ⟨xs, h M H s1 s2 s3, by rw [r.length]; exact hl⟩⟩
  obtain ⟨v, hv, rv⟩ := r.get e
  refine ⟨⟨xs, v, h M H s1 s2 s3, hv⟩, fun x H' y => ?_⟩
  obtain ⟨rfl, y⟩ := y
  have := y xs (h M H' s1 s2 s3)
  rw [hv] at this
  cases this
  exact ⟨M, Grow.refl s2, rv.up s1⟩
theorem itt_ok {K : PySem.W.Frag} {m : List Addr} {a' : Addr} {xs : List V} {ds : List D} {M0 B : Hp} (h : ∀ M H, Same M0 M → Same M H → Same B H → SqT K H a' xs) (r : DRs K m M0 xs ds) : ItOk K m (Itt K a') ds M0 B := by
  intro i M H s1 s2 s3
  refine ⟨fun d e => ?_, fun hl => ⟨xs, h M H s1 s2 s3, by rw [r.length]; exact hl⟩⟩
  obtain ⟨v, hv, rv⟩ := r.get e
  refine ⟨⟨xs, v, h M H s1 s2 s3, hv⟩, fun x H' y => ?_⟩
  obtain ⟨rfl, y⟩ := y
  have := y xs (h M H' s1 s2 s3)
  rw [hv] at this
  cases this
  exact ⟨M, Grow.refl s2, rv.up s1⟩
def pSeq (f : Sta → PR D) : Sta → PR (List D) := fun s => (f s).bind fun d => .of (seqOf d)
theorem iv_seq {f : Sta → PR D} (h : PDv X T W iter f) : PIv X T W tg iter (pSeq f) := by
  refine PI.wk (pi_seq h) ?_
  rintro σ H R ⟨s, m, M, G, Rl, q⟩
  refine ⟨s, m, M, G, Rl, ?_⟩
  revert q
  unfold pSeq PR.bind
  cases f s with
  | ok d =>
    intro q y H' M' g r
    dsimp only at q
    cases hs : seqOf d with
    | none => simp only [hs, PR.of] at q
    | some ds =>
      simp only [hs, PR.of] at q
      cases d <;> try (cases hs; done)
      · cases hs
        cases r with
        | list h1 h2 => exact ⟨_, rfl, .inl ⟨⟨_, SqL.of (g.mh _ _ h1)⟩, q _ H' M' g (itl_ok (fun M H a b _ => SqL.of (b _ _ (a _ _ h1))) h2)⟩⟩
      · cases hs
        cases r with
        | lk h1 h2 => exact ⟨_, rfl, .inl ⟨⟨_, g.mh.seq h1⟩, q _ H' M' g (itl_ok (fun M H a b _ => b.seq (a.seq h1)) h2)⟩⟩
      · cases hs
        cases r with
        | tup h1 h2 => exact ⟨_, rfl, .inr ⟨⟨_, Same.seqT g.mh h1⟩, q _ H' M' g (itt_ok (fun M H a b _ => Same.seqT b (Same.seqT a h1)) h2)⟩⟩
  | exc e => intro q; exact q
  | stuck => intro q; exact q
def pSeqR (f : Sta → PR RV) : Sta → PR (List D) := fun s => (f s).bind fun r => .of (seqOf r.d)
theorem ic_seq (h : PEv X T W iter fa) : PIc X T W tg iter (pSeqR fa) := by
  refine PI.wk (pi_seq h) ?_
  rintro σ H R ⟨s, m, M, G, Rl, q⟩
  refine ⟨s, m, M, G, Rl, ?_⟩
  revert q
  unfold pSeqR PR.bind
  cases fa s with
  | ok r =>
    intro q y H' M' g rr
    dsimp only at q
    cases hs : seqOf r.d with
    | none => simp only [hs, PR.of] at q
    | some ds =>
      simp only [hs, PR.of] at q
      obtain ⟨a, xs, rfl, h1, r1⟩ := rr.arg.seq hs g.mh
      rcases h1 with h1 | h1
      · exact ⟨a, rfl, .inl ⟨⟨_, h1⟩, q _ H' M' g (itl_ok (fun M H _ _ c => c.seq h1) r1)⟩⟩
      · exact ⟨a, rfl, .inr ⟨⟨_, h1⟩, q _ H' M' g (itt_ok (fun M H _ _ c => Same.seqT c h1) r1)⟩⟩
  | exc e => intro q; exact q
  | stuck => intro q; exact q
/-- range -/
def rng (i j : Int) : List D := (List.range (j - i).toNat).map fun k => D.int (i + (k : Nat))
theorem itr_ok {K : PySem.W.Frag} {m : List Addr} {i j : Int} {M0 B : Hp} : ItOk K m (Itr i (j - i).toNat) (rng i j) M0 B := by
  intro k M H s1 s2 s3
  have hl : (rng i j).length = (j - i).toNat := by simp [rng]
  refine ⟨fun d e => ?_, fun hk => by rw [hl] at hk; exact hk⟩
  have hk : k < (j - i).toNat := by rw [← hl]; exact (List.getElem?_eq_some_iff.mp e).1
  refine ⟨hk, fun x H' y => ?_⟩
  obtain ⟨rfl, rfl⟩ := y
  have : d = .int (i + (k : Nat)) := by
    rw [rng, List.getElem?_map, List.getElem?_range hk] at e
    exact (Option.some.inj e).symm
  subst this
  exact ⟨M, Grow.refl s2, .int _⟩
def big62 (i : Int) : Bool := decide (-(2 ^ 62) ≤ i ∧ i < 2 ^ 62)
def gRng1 : List D → Option (List D)
  | [.int j] => if big62 j then some (rng 0 j) else none
  | _ => none
def gRng2 : List D → Option (List D)
  | [.int i, .int j] => if big62 i && big62 j then some (rng i j) else none
  | _ => none
def pRng (g : List D → Option (List D)) (fs : Sta → PR (List RV)) : Sta → PR (List D) := fun s => (fs s).bind fun rs => .of (g (rs.map RV.d))
theorem iv_range1 {fs : Sta → PR (List RV)} (hg : Gl X "range") (hm : X.mg "range" = none) (ha : PAr X T W [a] fs) (hs : starEach [a] X.env = [(false, eval a X.env)] := by rfl) : PIv X T W tg (.Call (.Name "range" p) [a] [] pos) (pRng gRng1 fs) := by
  refine PI.wk (pi_range1 hg hm ha hs) ?_
  rintro σ H R ⟨s, m, M, G, Rl, q⟩
  refine ⟨s, m, M, G, Rl, ?_⟩
  revert q
  unfold pRng PR.bind
  cases fs s with
  | ok rs =>
    intro q ys H' M' g rr
    dsimp only at q
    cases hr : gRng1 (rs.map RV.d) with
    | none => simp only [hr, PR.of] at q
    | some ds =>
      simp only [hr, PR.of] at q
      have aa := args_of rr
      revert hr aa
      generalize rs.map RV.d = zs
      intro hr aa
      unfold gRng1 at hr
      split at hr
      · rename_i j
        cases aa with
        | cons a1 an =>
          cases an
          by_cases hb : big62 j = true
          · rw [if_pos hb] at hr
            cases hr
            have hb' := of_decide_eq_true hb
            refine ⟨j, by rw [a1.int], hb'.1, hb'.2, ?_⟩
            have := q (Itr 0 (j - 0).toNat) H' M' g itr_ok
            simpa using this
          · rw [if_neg hb] at hr
            cases hr
      · cases hr
  | exc e => intro q; exact q
  | stuck => intro q; exact q
theorem iv_range2 {fs : Sta → PR (List RV)} (hg : Gl X "range") (hm : X.mg "range" = none) (ha : PAr X T W [a, b] fs) (hs : starEach [a, b] X.env = [(false, eval a X.env), (false, eval b X.env)] := by rfl) (hs2 : starEach [b] X.env = [(false, eval b X.env)] := by rfl) :
    PIv X T W tg (.Call (.Name "range" p) [a, b] [] pos) (pRng gRng2 fs) := by
  refine PI.wk (pi_range2 hg hm ha hs hs2) ?_
  rintro σ H R ⟨s, m, M, G, Rl, q⟩
  refine ⟨s, m, M, G, Rl, ?_⟩
  revert q
  unfold pRng PR.bind
  cases fs s with
  | ok rs =>
    intro q ys H' M' g rr
    dsimp only at q
    cases hr : gRng2 (rs.map RV.d) with
    | none => simp only [hr, PR.of] at q
    | some ds =>
      simp only [hr, PR.of] at q
      have aa := args_of rr
      revert hr aa
      generalize rs.map RV.d = zs
      intro hr aa
      unfold gRng2 at hr
      split at hr
      · rename_i i j
        cases aa with
        | cons a1 an =>
          cases an with
          | cons a2 an =>
            cases an
            by_cases hb : (big62 i && big62 j) = true
            · rw [if_pos hb] at hr
              cases hr
              rw [Bool.and_eq_true] at hb
              have hb1 := of_decide_eq_true hb.1
              have hb2 := of_decide_eq_true hb.2
              exact ⟨i, j, by rw [a1.int, a2.int], ⟨hb1.1, hb1.2, hb2.1, hb2.2⟩, q (Itr i (j - i).toNat) H' M' g itr_ok⟩
            · rw [if_neg hb] at hr
              cases hr
      · cases hr
  | exc e => intro q; exact q
  | stuck => intro q; exact q
/-- enumerate(a list) -/
def enumD : Nat → List D → List D
  | _, [] => []
  | i, d :: ds => .tup [.int (i : Nat), d] :: enumD (i + 1) ds
theorem enumD_get : ∀ (ds : List D) (k i : Nat) (d : D), (enumD k ds)[i]? = some d → ∃ x, ds[i]? = some x ∧ d = .tup [.int ((k + i : Nat) : Int), x]
  | [], _, _, _, e => by simp [enumD] at e
  | x :: ds, k, 0, d, e => by
    simp [enumD] at e
    exact ⟨x, rfl, e.symm⟩
  | x :: ds, k, i + 1, d, e => by
    obtain ⟨y, h1, h2⟩ := enumD_get ds (k + 1) i d (by simpa [enumD] using e)
    exact ⟨y, by simpa using h1, by rw [h2]; have : k + 1 + i = k + (i + 1) := by omega
                                    rw [this]⟩
theorem enumD_length : ∀ (ds : List D) (k : Nat), (enumD k ds).length = ds.length
  | [], _ => rfl
  | _ :: ds, k => by simp [enumD, enumD_length ds]
theorem ite_ok {K : PySem.W.Frag} {m : List Addr} {a' : Addr} {xs : List V} {ds : List D} {M0 B : Hp} (h : ∀ M H, Same M0 M → Same M H → Same B H → SqL K H a' xs) (r : DRs K m M0 xs ds) : ItOk K m (Ite K a') (enumD 0 ds) M0 B := by
  intro i M H s1 s2 s3
  refine ⟨fun d e => ?_, fun hl => ⟨xs, h M H s1 s2 s3, by rw [r.length, ← enumD_length ds 0]; exact hl⟩⟩
  obtain ⟨x, hx, rfl⟩ := enumD_get ds 0 i d e
  obtain ⟨v, hv, rv⟩ := r.get hx
  refine ⟨⟨xs, v, h M H s1 s2 s3, hv⟩, fun y H' z => ?_⟩
  obtain ⟨T, x', rfl, hT, rfl, z⟩ := z
  have z := z xs (h M H s1 s2 s3)
  rw [hv] at z
  cases z
  have gs := Grow.share (o := .tup [.int (i : Nat), v]) s2 hT
  refine ⟨_, gs, .tup (SqT.of upd_same) (.cons ?_ (.cons ((rv.up s1).up gs.mm) .nil))⟩
  rw [Nat.zero_add]
  exact .int _
/-- a list alone -/
def lstOf : D → Option (List D)
  | .list ds => some ds
  | .lk ds => some ds
  | _ => none
theorem lstOf_seq {d : D} {ds : List D} (h : lstOf d = some ds) : seqOf d = some ds := by
  cases d <;> first | exact h | cases h
theorem Arg.lst {K : PySem.W.Frag} {m : List Addr} {M H : Hp} {y : V} {d : D} {ds : List D} (h : Arg K m M H y d) (e : lstOf d = some ds) (s : Same M H) : ∃ a xs, y = .ref a ∧ SqL K H a xs ∧ DRs K m M xs ds := by
  cases d with
  | list ds' =>
    cases e
    obtain ⟨a, xs, h1, h2, h3⟩ := h.list s
    exact ⟨a, xs, h1, SqL.of h2, h3⟩
  | lk ds' =>
    cases e
    exact h.lk s
  | _ => cases e
def gEnum : List D → Option (List D)
  | [d] => (lstOf d).map (enumD 0)
  | _ => none
def pEnum (fs : Sta → PR (List D)) : Sta → PR (List D) := fun s => (fs s).bind fun ds => .of (gEnum ds)
theorem iv_enum {elts : List Expr} {kk : Nat} {tpos : Pos} {fs : Sta → PR (List D)} (hg : Gl X "enumerate") (hm : X.mg "enumerate" = none) (ha : PAs X T W [e] fs) (hs : starEach [e] X.env = [(false, eval e X.env)] := by rfl) :
    PIv X T W (.Tuple elts kk tpos) (.Call (.Name "enumerate" p) [e] [] pos) (pEnum fs) := by
  refine PI.wk (pi_enum hg hm ha hs) ?_
  rintro σ H R ⟨s, m, M, G, Rl, q⟩
  refine ⟨s, m, M, G, Rl, ?_⟩
  revert q
  unfold pEnum PR.bind
  cases fs s with
  | ok ds =>
    intro q ys H' M' g rr
    dsimp only at q
    cases hr : gEnum ds with
    | none => simp only [hr, PR.of] at q
    | some es =>
      simp only [hr, PR.of] at q
      unfold gEnum at hr
      split at hr
      · rename_i d
        cases rr with
        | cons r1 rn =>
          cases rn
          cases d <;> try (cases hr; done)
          · cases hr
            cases r1 with
            | list h1 h2 => exact ⟨_, _, rfl, SqL.of (g.mh _ _ h1), q _ H' M' g (ite_ok (fun M H a b _ => SqL.of (b _ _ (a _ _ h1))) h2)⟩
          · cases hr
            cases r1 with
            | lk h1 h2 => exact ⟨_, _, rfl, g.mh.seq h1, q _ H' M' g (ite_ok (fun M H a b _ => b.seq (a.seq h1)) h2)⟩
      · cases hr
  | exc e => intro q; exact q
  | stuck => intro q; exact q
end
end MP

/-! MP 4: targets, comprehensions, in, isinstance. -/
namespace MP
open PySem PySem.Spec PyProof.Rows L2

/-! ### the relation: a slot stored -/
section
variable {K : PySem.W.Frag} {T : Tab} {m m' : List Addr} {M M' G H H' : Hp}
theorem Rel.setAny {s : Sta} {σ : L2.St} (R : Rel K T m M G H s σ) (i : Nat) {sl : Slot} {y : Option V} {f : List Addr} (h : SlotR K m M H sl y f) (nd : f.Nodup)
    (fresh : ∀ a ∈ f, (∀ f1 f2, SlotsR K m M H s.env σ f1 → StoreR K T m M H s.st m f2 → a ∉ f1 ++ f2) ∧ M a = Option.none ∧ G a = Option.none) : Rel K T m M G H { s with env := s.env.set i sl } (σ.set i y) := by
  obtain ⟨mh, gh, ⟨f1, f2, h1, h2, nd0, dj⟩⟩ := R
  cases hs : s.env[i]? with
  | none =>
    have hl : s.env.length ≤ i := List.getElem?_eq_none_iff.mp hs
    have e1 : s.env.set i sl = s.env := List.set_eq_of_length_le hl
    have e2 : σ.set i y = σ := List.set_eq_of_length_le (by rw [← h1.len]; exact hl)
    rw [e1, e2]
    exact ⟨mh, gh, ⟨f1, f2, h1, h2, nd0, dj⟩⟩
  | some sl0 =>
    obtain ⟨g0, g1, g2, y0, ef, ey, _, k⟩ := h1.split hs
    have k := k m M H sl y f (MLe.refl _) (Same.refl _) (fun _ _ => rfl) h
    have fr := fun a ha => (fresh a ha).1 f1 f2 h1 h2
    subst ef
    refine ⟨mh, gh, ⟨g0 ++ f ++ g2, f2, k, h2, ?_, fun a ha => ?_⟩⟩
    · have sub : ((g0 ++ g2) ++ f2).Sublist ((g0 ++ g1 ++ g2) ++ f2) := by
        refine List.Sublist.append ?_ (List.Sublist.refl _)
        rw [List.append_assoc]
        exact List.Sublist.append (List.Sublist.refl _) (List.sublist_append_right _ _)
      have nd1 := nd0.sublist sub
      have perm : List.Perm ((g0 ++ f ++ g2) ++ f2) (f ++ ((g0 ++ g2) ++ f2)) := by
        rw [List.append_assoc, List.append_assoc, List.append_assoc]
        exact List.perm_append_comm_assoc g0 f (g2 ++ f2)
      rw [perm.nodup_iff, List.nodup_append]
      refine ⟨nd, nd1, fun a ha b hb e => ?_⟩
      subst e
      exact fr a ha (sub.subset hb)
    · simp only [List.mem_append] at ha
      rcases ha with ((ha | ha) | ha) | ha
      · exact dj a (by simp [ha])
      · exact (fresh a ha).2
      · exact dj a (by simp [ha])
      · exact dj a (by simp [ha])
theorem Rel.setV {s : Sta} {σ : L2.St} (R : Rel K T m M G H s σ) (i : Nat) {d : D} {y : V} (h : DR K m M y d) : Rel K T m M G H { s with env := s.env.set i (.v d) } (σ.set i (some y)) :=
  R.setAny i (f := []) ⟨rfl, y, rfl, h⟩ List.nodup_nil fun a ha => nomatch ha
theorem Rel.setU {s : Sta} {σ : L2.St} (R : Rel K T m M G H s σ) (i : Nat) (y : Option V) : Rel K T m M G H { s with env := s.env.set i .un } (σ.set i y) :=
  R.setAny i (f := []) rfl List.nodup_nil fun a ha => nomatch ha
/-- an object of its own, new since H0 where the relation held already -/
theorem Rel.setOwn {H0 M0 : Hp} {s : Sta} {σ : L2.St} (R0 : Rel K T m M0 G H0 s σ) (g : Grow H0 M0 H M) (i : Nat) {d : D} {a : Addr} {o : HO} (ha : H a = some o) (h : ObD K m M o d) (hM : M a = Option.none) (h0 : H0 a = Option.none) :
    Rel K T m M G H { s with env := s.env.set i (.own d) } (σ.set i (some (.ref a))) := by
  refine (R0.grow g).setAny i (f := [a]) ⟨a, o, rfl, rfl, ha, h⟩ (by simp) fun b hb => ?_
  have e : b = a := by simpa using hb
  subst e
  refine ⟨fun f1 f2 h1 h2 hm => ?_, hM, R0.gh.free h0⟩
  obtain ⟨mh, gh, ⟨e1, e2, k1, k2, nd0, dj⟩⟩ := R0
  -- the footprint is the same at both times
  have fpS : ∀ {s : List Slot} {x : List (Option V)} {fa fb : List Addr}, SlotsR K m M H s x fa → SlotsR K m M0 H0 s x fb → fa = fb := by
    intro s
    induction s with
    | nil =>
      intro x fa fb p q
      cases x with
      | nil => rw [show fa = [] from p, show fb = [] from q]
      | cons _ _ => exact p.elim
    | cons s ss ih =>
      intro x fa fb p q
      cases x with
      | nil => exact p.elim
      | cons x xs =>
        obtain ⟨p1, p2, ep, p3, p4⟩ := p
        obtain ⟨q1, q2, eq, q3, q4⟩ := q
        have e1 := ih p4 q4
        have e2 : p1 = q1 := by
          cases s with
          | un => rw [show p1 = [] from p3, show q1 = [] from q3]
          | v d => rw [p3.1, q3.1]
          | own d =>
            obtain ⟨a, o, e, ex, _⟩ := p3
            obtain ⟨b, o', e', ex', _⟩ := q3
            rw [ex] at ex'
            cases ex'
            rw [e, e']
          | hid a => rw [p3.1, q3.1]
        rw [ep, eq, e1, e2]
  have fpF : ∀ {s : List (Nat × Slot)} {x x' : List (Str × V)} {fa fb : List Addr}, x = x' → FsR K T.nm m M H s x fa → FsR K T.nm m M0 H0 s x' fb → fa = fb := by
    intro s
    induction s with
    | nil =>
      intro x x' fa fb ex p q
      subst ex
      cases x with
      | nil => rw [show fa = [] from p, show fb = [] from q]
      | cons _ _ => exact p.elim
    | cons s ss ih =>
      intro x x' fa fb ex p q
      subst ex
      obtain ⟨i, s⟩ := s
      cases x with
      | nil => exact p.elim
      | cons x xs =>
        obtain ⟨x, v⟩ := x
        obtain ⟨p1, p2, ep, _, p3, p4⟩ := p
        obtain ⟨q1, q2, eq, _, q3, q4⟩ := q
        have e1 := ih rfl p4 q4
        have e2 : p1 = q1 := by
          cases s with
          | un => rw [show p1 = [] from p3, show q1 = [] from q3]
          | v d => rw [p3.1, q3.1]
          | own d =>
            obtain ⟨a, o, e, ex, _⟩ := p3
            obtain ⟨b, o', e', ex', _⟩ := q3
            rw [ex] at ex'
            cases ex'
            rw [e, e']
          | hid a => rw [p3.1, q3.1]
        rw [ep, eq, e1, e2]
  have fpT : ∀ {s : List Ob} {x : List Addr} {fa fb : List Addr}, StoreR K T m M H s x fa → StoreR K T m M0 H0 s x fb → fa = fb := by
    intro s
    induction s with
    | nil => intro x fa fb p q; rw [show fa = [] from p, show fb = [] from q]
    | cons s ss ih =>
      intro x fa fb p q
      cases x with
      | nil => exact p.elim
      | cons x xs =>
        obtain ⟨p1, p2, ep, ⟨dx, fs, f, e1, e2, e3⟩, p4⟩ := p
        obtain ⟨q1, q2, eq, ⟨dx', fs', f', e1', e2', e3'⟩, q4⟩ := q
        have e4 := ih p4 q4
        have e5 := g.same _ _ e2'
        rw [e2] at e5
        have e6 : fs = fs' := by
          injection e5 with e5
          injection e5
        have e7 := fpF e6 e3 e3'
        rw [ep, eq, e4, e1, e1', e7]
  have e1' := fpS h1 k1
  have e2' := fpT h2 k2
  subst e1' e2'
  have hh : ∃ o, H0 b = some o := by
    rcases List.mem_append.mp hm with q | q
    · exact k1.here b q
    · exact k2.here b q
  obtain ⟨o', q⟩ := hh
  rw [h0] at q
  cases q
end

/-! ### targets -/
inductive Tg where
  | nm (i : Nat) | tp (is : List Nat)
def gNames : List Nat → TGs
  | [] => gNil
  | i :: is => gCons (gName i) (gNames is)
def tgR (K : PySem.W.Frag) : Tg → TG
  | .nm i => gName i
  | .tp is => gTup K is.length (gNames is)
def setAll : List Nat → List D → List Slot → List Slot
  | i :: is, d :: ds, env => setAll is ds (env.set i (.v d))
  | _, _, env => env
def Tg.bind : Tg → D → List Slot → Option (List Slot)
  | .nm i, d, env => some (env.set i (.v d))
  | .tp is, .tup ds, env => if ds.length = is.length then some (setAll is ds env) else none
  | .tp _, _, _ => none
def Tg.ixs : Tg → List Nat
  | .nm i => [i]
  | .tp is => is
section
variable {X : Cx} {T : Tab} {m : List Addr} {M G H : Hp}
/-- what is outside of some places stays -/
def Off (vs : List Nat) (σ σ' : L2.St) : Prop := σ'.length = σ.length ∧ ∀ j, j ∉ vs → σ'[j]? = σ[j]?
theorem Off.refl (vs : List Nat) (σ : L2.St) : Off vs σ σ := ⟨rfl, fun _ _ => rfl⟩
theorem Off.set {vs : List Nat} {σ σ' : L2.St} (h : Off vs σ σ') {i : Nat} (hi : i ∈ vs) (y : Option V) : Off vs σ (σ'.set i y) :=
  ⟨by rw [List.length_set]; exact h.1, fun j hj => by rw [List.getElem?_set_ne (fun e => hj (by rw [← e]; exact hi))]; exact h.2 j hj⟩
theorem gNames_of {Q : L2.St → Hp → Prop} {vs : List Nat} {σ0 : L2.St} : ∀ (is : List Nat) (ds : List D) (ys : List V) (s : Sta) (σ : L2.St), DRs X.K m M ys ds → ds.length = is.length → Rel X.K T m M G H s σ → Off vs σ0 σ → (∀ i ∈ is, i ∈ vs) →
    (∀ σ', Rel X.K T m M G H { s with env := setAll is ds s.env } σ' → Off vs σ0 σ' → Q σ' H) → gNames is ys σ H Q
  | [], [], _, s, σ, r, _, R, o, _, k => by
    cases r
    exact ⟨rfl, k σ R o⟩
  | i :: is, d :: ds, _, s, σ, r, hl, R, o, hi, k => by
    cases r with
    | cons r1 r2 =>
      refine ⟨_, _, rfl, ?_⟩
      exact gNames_of is ds _ { s with env := s.env.set i (.v d) } _ r2 (by simpa using hl) (R.setV i r1) (o.set (hi i (by simp)) _) (fun j hj => hi j (by simp [hj])) k
  | [], _ :: _, _, _, _, _, hl, _, _, _, _ => by simp at hl
  | _ :: _, [], _, _, _, _, hl, _, _, _, _ => by simp at hl
theorem tgR_of {Q : L2.St → Hp → Prop} {vs : List Nat} {σ0 : L2.St} {t : Tg} {d : D} {y : V} {s : Sta} {σ : L2.St} {env : List Slot} (e : t.bind d s.env = some env) (r : DR X.K m M y d) (R : Rel X.K T m M G H s σ) (o : Off vs σ0 σ) (hi : ∀ i ∈ t.ixs, i ∈ vs)
    (k : ∀ σ', Rel X.K T m M G H { s with env := env } σ' → Off vs σ0 σ' → Q σ' H) : tgR X.K t y σ H Q := by
  cases t with
  | nm i =>
    cases e
    exact k _ (R.setV i r) (o.set (hi i (by simp [Tg.ixs])) _)
  | tp is =>
    cases d <;> try (cases e; done)
    rename_i ds
    dsimp only [Tg.bind] at e
    by_cases hl : ds.length = is.length
    · rw [if_pos hl] at e
      cases e
      cases r with
      | tup h1 h2 =>
        exact ⟨_, _, rfl, Same.seqT R.mh h1, by rw [h2.length]; exact hl, gNames_of is ds _ s σ h2 hl R o hi k⟩
    · rw [if_neg hl] at e
      cases e
theorem wipe_get (σ : L2.St) : ∀ (vs : List Nat) (j : Nat), (wipe σ vs)[j]? = if j ∈ vs then (if j < σ.length then some Option.none else Option.none) else σ[j]?
  | [], j => by simp [wipe]
  | v :: vs, j => by
    rw [wipe]
    by_cases hj : v = j
    · subst hj
      simp only [List.mem_cons, true_or, if_true]
      by_cases hl : v < σ.length
      · rw [List.getElem?_set_self (by rw [wipe_length]; exact hl), if_pos hl]
      · rw [List.getElem?_eq_none (by rw [List.length_set, wipe_length]; omega), if_neg hl]
    · rw [List.getElem?_set_ne hj, wipe_get σ vs j]
      have : (j ∈ v :: vs) ↔ j ∈ vs := by
        simp only [List.mem_cons]
        constructor
        · rintro (h | h)
          · exact absurd h.symm hj
          · exact h
        · exact .inr
      simp only [this]
theorem wipe_off {vs : List Nat} {σ σ' : L2.St} (h : Off vs σ σ') : wipe σ' vs = wipe σ vs := by
  apply List.ext_getElem?
  intro j
  rw [wipe_get, wipe_get, h.1]
  by_cases hj : j ∈ vs
  · rw [if_pos hj, if_pos hj]
  · rw [if_neg hj, if_neg hj]
    exact h.2 j hj
theorem Off.wipe (vs : List Nat) (σ : L2.St) : Off vs σ (L2.wipe σ vs) := ⟨wipe_length σ vs, fun j hj => by rw [wipe_get, if_neg hj]⟩
def wipeE (env : List Slot) : List Nat → List Slot
  | [] => env
  | v :: vs => (wipeE env vs).set v .un
theorem Rel.wipe {s : Sta} {σ : L2.St} (R : Rel X.K T m M G H s σ) : ∀ vs : List Nat, Rel X.K T m M G H { s with env := wipeE s.env vs } (L2.wipe σ vs)
  | [] => R
  | v :: vs => (Rel.wipe R vs).setU v Option.none
end

/-! ### comprehensions -/
def compL (t : Tg) (tt : Sta → PR Bool) (te : Sta → PR D) (s : Sta) : List D → PR (List D)
  | [] => .ok []
  | d :: ds => match t.bind d s.env with
    | none => .stuck
    | some env => match tt { s with env := env } with
      | .ok true => match te { s with env := env } with
        | .ok y => (compL t tt te s ds).bind fun r => .ok (y :: r)
        | _ => .stuck
      | .ok false => compL t tt te s ds
      | _ => .stuck
def pComp (f : Sta → PR (List D)) (t : Tg) (vs : List Nat) (tt : Sta → PR Bool) (te : Sta → PR D) : Sta → PR RV := fun s => (f s).bind fun ds =>
  if ds.length ≤ 16777216 then (compL t tt te { s with env := wipeE s.env vs } ds).bind fun r => .ok (fr (.list r)) else .stuck
abbrev W0 : WX := fun _ _ _ _ => False
abbrev PTsv (X : Cx) (T : Tab) (W : WX) (ifs : List Expr) (f : Sta → PR Bool) : Prop := PTs X ifs (tT X T W f)
def pYes : Sta → PR Bool := fun _ => .ok true
section
variable {X : Cx} {T : Tab} {W : WX}
theorem PTs.wk {X : Cx} {e : List Expr} {t t' : TT} (h : PTs X e t) (w : ∀ σ H Q, t' σ H Q → t σ H Q) : PTs X e t' := ⟨fun pins s σ H Q I q => h.run pins s σ H Q I (w _ _ _ q)⟩
theorem ets_nil : PTsv X T W [] pYes := PTs.wk pts_nil fun σ H Q ⟨s, m, M, G, R, q⟩ => q H M (Grow.refl R.mh)
theorem ets_one {c : Expr} {f : Sta → PR Bool} (h : PTv X T W c f) : PTsv X T W [c] f := pts_one h
/-- the reading of a comprehension -/
theorem tLc_of {f : Sta → PR (List D)} {t : Tg} {vs : List Nat} {tt : Sta → PR Bool} {te : Sta → PR D} (hv : ∀ i ∈ t.ixs, i ∈ vs) {σ : L2.St} {H : Hp} {Q : VK} (h : tP X T W (pComp f t vs tt te) σ H Q) :
    tLc (tIc X T W f) (tgR X.K t) (tT X T W0 tt) (tD X T W0 te) vs σ H Q := by
  obtain ⟨s, m, M, G, R, q⟩ := h
  refine ⟨s, m, M, G, R, ?_⟩
  revert q
  unfold pComp PR.bind
  cases f s with
  | ok ds =>
    intro q J H1 M1 g1 it
    dsimp only at q
    by_cases hl : ds.length ≤ 16777216
    · rw [if_pos hl] at q
      generalize hs0 : ({ s with env := wipeE s.env vs } : Sta) = s0 at q
      cases hc : compL t tt te s0 ds with
      | ok r =>
        simp only [hc] at q
        intro D hD
        have hM1D : M1 D = Option.none := g1.mh.free hD
        refine ⟨fun i μ Hc => μ = ds.length - i ∧ i ≤ ds.length ∧ ∃ Mi acc dacc rest, Grow H1 M1 Hc Mi ∧ Mi D = Option.none ∧ Hc D = some (.lst acc) ∧ DRs X.K m Mi acc dacc ∧ acc.length ≤ i ∧ compL t tt te s0 (ds.drop i) = .ok rest ∧ dacc ++ rest = r,
          ⟨ds.length, rfl, Nat.zero_le _, M1, [], [], r, Grow.fresh g1.mh hD, hM1D, upd_same, .nil, Nat.le_refl _, hc, rfl⟩, ?_⟩
        rintro i μ Hc ⟨rfl, hi, Mi, acc, dacc, rest, gc, hMD, hHD, rD, hal, hcr, he⟩
        have iti := it i Mi Hc gc.mm gc.mh gc.same
        by_cases hlt : i < ds.length
        · have hd : ds[i]? = some ds[i] := by simp [hlt]
          have hdrop : ds.drop i = ds[i] :: ds.drop (i + 1) := List.drop_eq_getElem_cons hlt
          generalize ds[i] = d at hd hdrop
          obtain ⟨go, yld⟩ := iti.1 d hd
          refine .inr ⟨go, fun H' => ∃ Mi acc dacc rest, Grow H1 M1 H' Mi ∧ Mi D = Option.none ∧ H' D = some (.lst acc) ∧ DRs X.K m Mi acc dacc ∧ acc.length ≤ i + 1 ∧ compL t tt te s0 (ds.drop (i + 1)) = .ok rest ∧ dacc ++ rest = r,
            fun H' hN => ⟨ds.length - (i + 1), by omega, rfl, hlt, hN⟩, fun x H' hy => ?_⟩
          obtain ⟨M', gy, rx⟩ := yld x H' hy
          rw [hdrop, compL] at hcr
          cases hb : t.bind d s0.env with
          | none => rw [hb] at hcr; cases hcr
          | some env =>
            simp only [hb] at hcr
            have R0 : Rel X.K T m M' G H' s0 (L2.wipe σ vs) := by
              rw [← hs0]
              exact ((R.wipe vs).grow g1).grow (gc.trans gy)
            refine tgR_of (T := T) (G := G) hb rx R0 (Off.refl vs _) hv fun σ2 R2 o2 => ?_
            refine ⟨by rw [wipe_off o2]; exact wipe_off (Off.wipe vs σ), ?_⟩
            refine ⟨_, m, M', G, R2, ?_⟩
            cases ht : tt { s0 with env := env } with
            | ok b =>
              simp only [ht] at hcr
              intro H3 M3 g3
              cases b with
              | false =>
                rw [if_neg Bool.false_ne_true]
                have gg := gc.trans (gy.trans g3)
                have h1 := (gy.trans g3).same _ _ hHD
                exact ⟨M3, acc, dacc, rest, gg, (gy.trans g3).keepNone hHD hMD, h1, rD.up (gy.trans g3).mm, Nat.le_succ_of_le hal, hcr, he⟩
              | true =>
                rw [if_pos rfl]
                refine ⟨_, m, M3, G, R2.grow g3, ?_⟩
                cases hte : te { s0 with env := env } with
                | ok y =>
                  simp only [hte, PR.bind] at hcr
                  intro yv H4 M4 g4 ry
                  have g34 := gy.trans (g3.trans g4)
                  have h4 := g34.same _ _ hHD
                  have hM4 := g34.keepNone hHD hMD
                  cases hr : compL t tt te s0 (ds.drop (i + 1)) with
                  | ok rest' =>
                    simp only [hr] at hcr
                    cases hcr
                    refine ⟨acc, h4, by rw [sizeLine_eq]; omega, M4, acc ++ [yv], dacc ++ [y], rest', ?_, hM4, upd_same, (rD.up g34.mm).append (.cons ry .nil), by simp; omega, rfl, by rw [← he]; simp⟩
                    have gg := gc.trans g34
                    refine ⟨fun b o e => ?_, gg.mm, fun b o e => ?_, gg.new⟩
                    · have hb : b ≠ D := fun z => by rw [z, hD] at e; cases e
                      rw [upd_ne hb]
                      exact gg.same _ _ e
                    · have hb : b ≠ D := fun z => by rw [z, hM4] at e; cases e
                      rw [upd_ne hb]
                      exact gg.mh _ _ e
                  | exc e => simp only [hr] at hcr; cases hcr
                  | stuck => simp only [hr] at hcr; cases hcr
                | exc e => simp only [hte] at hcr; cases hcr
                | stuck => simp only [hte] at hcr; cases hcr
            | exc e => simp only [ht] at hcr; cases hcr
            | stuck => simp only [ht] at hcr; cases hcr
        · have hie : i = ds.length := by omega
          subst hie
          refine .inl ⟨iti.2 (Nat.le_refl _), ?_⟩
          rw [List.drop_length, compL] at hcr
          cases hcr
          rw [List.append_nil] at he
          subst he
          exact q _ Hc Mi (g1.trans gc) ⟨D, _, rfl, hHD, .lst rD, hMD, g1.same.free hD⟩
      | exc e => simp only [hc] at q; exact absurd hc (by
          have : ∀ ds, compL t tt te s0 ds ≠ .exc e := by
            intro ds
            induction ds with
            | nil => intro z; cases z
            | cons d ds ih =>
              intro z
              rw [compL] at z
              split at z
              · cases z
              · split at z
                · split at z
                  · cases hq : compL t tt te s0 ds with
                    | ok _ => rw [hq] at z; cases z
                    | exc _ => rw [hq] at z; cases z; exact ih hq
                    | stuck => rw [hq] at z; cases z
                  · cases z
                · exact ih z
                · cases z
          exact this ds)
      | stuck => simp only [hc] at q
    · rw [if_neg hl] at q
      exact q.elim
  | exc e => intro q; exact q
  | stuck => intro q; exact q
variable {elt tg iter : Expr} {ifs : List Expr} {scope : Scope} {own : List (Str × Nat)} {pos : Pos} {f : Sta → PR (List D)} {t : Tg} {tt : Sta → PR Bool} {te : Sta → PR D}
theorem ev_lc (hc : X.calm = true) (hN : X.N.Nodup) (hi : PIc X T W tg iter f) (ok : BlkOk X.N X.env.scope scope own) (hv : ∀ i ∈ t.ixs, i ∈ own.map (·.2))
    (hg : ∀ (s : Shared) (H : Hp) (C : Addr) (cl : List (Str × Addr)) (fp : List Addr), PG (X.blk s H scope (compEnvC scope cl C X.env) fp) tg (tgR X.K t))
    (ht : ∀ (s : Shared) (H : Hp) (C : Addr) (cl : List (Str × Addr)) (fp : List Addr), PTsv (X.blk s H scope (compEnvC scope cl C X.env) fp) T W0 ifs tt)
    (he : ∀ (s : Shared) (H : Hp) (C : Addr) (cl : List (Str × Addr)) (fp : List Addr), PDv (X.blk s H scope (compEnvC scope cl C X.env) fp) T W0 elt te) (hs : ∀ x, foldedSetIterable iter X.env x = pure x := by intro _; rfl) :
    PEv X T W (.ListComp elt [⟨tg, iter, ifs, 0⟩] scope pos) (pComp f t (own.map (·.2)) tt te) :=
  PE.wk (pe_lc hc hN hi ok hg ht he hs) fun σ H Q h => tLc_of hv h
end

/-! ### in, not in -/
section
variable {X : Cx} {T : Tab} {W : WX}
def flatD : D → Bool
  | .none => true
  | .bool _ => true
  | .int _ => true
  | .str _ => true
  | _ => false
def eqF : D → D → Bool
  | .none, .none => true
  | .bool a, .bool b => a == b
  | .bool a, .int b => (if a then 1 else 0) == b
  | .int a, .bool b => a == (if b then 1 else 0)
  | .int a, .int b => a == b
  | .str a, .str b => a == b
  | _, _ => false
theorem DR.flat {K : PySem.W.Frag} {m : List Addr} {H : Hp} {v : V} {d : D} (h : DR K m H v d) (f : flatD d = true) : flatV v = true := by
  cases h <;> first | rfl | cases f
theorem DRs.flat {K : PySem.W.Frag} {m : List Addr} {H : Hp} : ∀ {vs : List V} {ds : List D}, DRs K m H vs ds → ds.all flatD = true → vs.all flatV = true
  | _, _, .nil, _ => rfl
  | _, _, .cons r t, f => by
    rw [List.all_cons, Bool.and_eq_true] at f ⊢
    exact ⟨r.flat f.1, DRs.flat t f.2⟩
theorem eqV_eqF {K : PySem.W.Frag} {m : List Addr} {H : Hp} {x y : V} {d e : D} (h : DR K m H x d) (h' : DR K m H y e) (f : flatD d = true) (f' : flatD e = true) : eqV x y = eqF d e := by
  cases h <;> first | exact absurd f Bool.false_ne_true | (cases h' <;> first | exact absurd f' Bool.false_ne_true | rfl)
theorem any_eqF {K : PySem.W.Frag} {m : List Addr} {H : Hp} {x : V} {d : D} (h : DR K m H x d) (f : flatD d = true) : ∀ {vs : List V} {ds : List D}, DRs K m H vs ds → ds.all flatD = true → vs.any (fun y => eqV y x) = ds.any fun z => eqF z d
  | _, _, .nil, _ => rfl
  | _, _, .cons r t, fs => by
    rw [List.all_cons, Bool.and_eq_true] at fs
    rw [List.any_cons, List.any_cons, any_eqF h f t fs.2, eqV_eqF r h fs.1 f]
def inB (d e : D) : Option Bool := match seqOf e with
  | some ds => if flatD d = true ∧ ds.all flatD = true then some (ds.any fun z => eqF z d)
    else if (lstOf e).isSome = true ∧ SeqAt.shaped d.py = true ∧ SeqAt.shaped (.list (pys ds)) = true then some ((pys ds).any fun z => PyData.eqv z d.py) else none
  | none => none
def gIn (d e : D) : Option RV := (inB d e).map fun b => sh (.bool b)
def gNin (d e : D) : Option RV := (inB d e).map fun b => sh (.bool (!b))
theorem inB_cases {K : PySem.W.Frag} {m : List Addr} {M H : Hp} {x y : V} {d e : D} {b : Bool} (s : Same M H) (a1 : Arg K m M H x d) (a2 : Arg K m M H y e) (h : inB d e = some b) :
    (∃ p xs, y = .ref p ∧ (SqL K H p xs ∨ SqT K H p xs) ∧ flatV x = true ∧ xs.all flatV = true ∧ inV x xs = b) ∨
    ∃ pd ds, Dp K H x pd ∧ Dp K H y (.list ds) ∧ SeqAt.shaped pd = true ∧ SeqAt.shaped (.list ds) = true ∧ (ds.any fun z => PyData.eqv z pd) = b := by
  unfold inB at h
  cases hs : seqOf e with
  | none => rw [hs] at h; cases h
  | some ds =>
    simp only [hs] at h
    by_cases hf : flatD d = true ∧ ds.all flatD = true
    · rw [if_pos hf] at h
      cases h
      obtain ⟨p, xs, rfl, h1, r1⟩ := a2.seq hs s
      have dr := a1.dr s
      exact .inl ⟨p, xs, rfl, h1, dr.flat hf.1, (r1.up s).flat hf.2, any_eqF dr hf.1 (r1.up s) hf.2⟩
    · rw [if_neg hf] at h
      by_cases hq : (lstOf e).isSome = true ∧ SeqAt.shaped d.py = true ∧ SeqAt.shaped (.list (pys ds)) = true
      · rw [if_pos hq] at h
        cases h
        obtain ⟨h1, h2, h3⟩ := hq
        refine .inr ⟨d.py, pys ds, DR.dp _ _ (a1.dr s) (SeqAt.canLay_of_shaped h2), ?_, h2, h3, rfl⟩
        have c := SeqAt.canLay_of_shaped h3
        have ee : e.py = .list (pys ds) := by
          cases e <;> try (cases h1; done)
          · cases hs; rw [D.py]
          · cases hs; rw [D.py]
        rw [← ee] at c ⊢
        exact DR.dp _ _ (a2.dr s) c
      · rw [if_neg hq] at h
        cases h
theorem ok_in (hu : X.A.units + 65 < cLine) : Op2Ok X (compareOp .In) gIn := by
  refine ⟨_, op_in_seq.or (op_inD hu), fun m M H x y d1 d2 res Q s a1 a2 e k => ?_⟩
  unfold gIn at e
  cases he : inB d1 d2 with
  | none => rw [he] at e; cases e
  | some b =>
    rw [he] at e
    cases e
    rcases inB_cases s a1 a2 he with ⟨p, xs, h1, h2, h3, h4, h5⟩ | ⟨pd, ds, h1, h2, h3, h4, h5⟩
    · exact .inl ⟨p, xs, h1, h2, h3, h4, by rw [h5]; exact k _ H M (Grow.refl s) (.bl _)⟩
    · exact .inr ⟨pd, ds, h1, h2, h3, h4, by rw [h5]; exact k _ H M (Grow.refl s) (.bl _)⟩
theorem ok_nin (hu : X.A.units + 65 < cLine) : Op2Ok X (compareOp .NotIn) gNin := by
  refine ⟨_, op_notIn_seq.or (op_notInD hu), fun m M H x y d1 d2 res Q s a1 a2 e k => ?_⟩
  unfold gNin at e
  cases he : inB d1 d2 with
  | none => rw [he] at e; cases e
  | some b =>
    rw [he] at e
    cases e
    rcases inB_cases s a1 a2 he with ⟨p, xs, h1, h2, h3, h4, h5⟩ | ⟨pd, ds, h1, h2, h3, h4, h5⟩
    · exact .inl ⟨p, xs, h1, h2, h3, h4, by simp only [h5, if_true]; exact k _ H M (Grow.refl s) (.bl _)⟩
    · exact .inr ⟨pd, ds, h1, h2, h3, h4, by rw [h5]; exact k _ H M (Grow.refl s) (.bl _)⟩

/-! ### isinstance of data -/
def tyN : D → Option String
  | .none => some "NoneType"
  | .bool _ => some "bool"
  | .int _ => some "int"
  | .str _ => some "str"
  | .list _ => some "list"
  | .lk _ => some "list"
  | .tup _ => some "tuple"
  | .dic _ => some "dict"
  | .obj _ => none
  | .xv _ _ => none
theorem Rd.tyL {K : PySem.W.Frag} {H : Hp} {a : Addr} {xs : List V} (h : SqL K H a xs) : TyX K H (.ref a) (.type "list") := by
  rcases h with (h | ⟨o, h⟩) | ⟨o, its, n, hk, hc, _⟩
  · exact .base (.lst h)
  · exact .base (.frz h)
  · exact .kList hk hc
theorem Rd.tyT {K : PySem.W.Frag} {H : Hp} {a : Addr} {xs : List V} (h : SqT K H a xs) : TyX K H (.ref a) (.type "tuple") := by
  rcases h with (h | ⟨o, h⟩) | ⟨o, its, n, hk, hc, _⟩
  · exact .base (.tup h)
  · exact .fTuple h
  · exact .kTuple hk hc
theorem DR.ty {K : PySem.W.Frag} {m : List Addr} {H : Hp} {v : V} {d : D} {n : String} (h : DR K m H v d) (e : tyN d = some n) : TyX K H v (.type n) := by
  cases h with
  | non => cases e; exact .base .non
  | bl b => cases e; exact .base (.bl b)
  | int b => cases e; exact .base (.int b)
  | str b => cases e; exact .base (.str b)
  | list h _ => cases e; exact .base (.lst h)
  | lk h _ => cases e; exact Rd.tyL h
  | tup h _ => cases e; exact Rd.tyT h
  | dic h _ => cases e; exact .base (.dK h)
  | obj h => cases e
  | xn _ _ => cases e
  | xf _ _ _ _ => cases e
def isiB (n : String) (d : D) : Option Bool := (tyN d).bind fun t =>
  if t = n then some true else if t = "bool" ∧ n = "int" then some true else
    if n ∈ ["int", "bool", "str", "list", "tuple"] ∧ t ∈ ["NoneType", "bool", "int", "str", "list", "tuple", "dict"] then some false else none
theorem isiB_ok {n t : String} {b : Bool} (hn : n ∈ ["int", "bool", "str", "list", "tuple"]) (ht : t ∈ ["NoneType", "bool", "int", "str", "list", "tuple", "dict"])
    (h : (if t = n then some true else if t = "bool" ∧ n = "int" then some true else
      if n ∈ ["int", "bool", "str", "list", "tuple"] ∧ t ∈ ["NoneType", "bool", "int", "str", "list", "tuple", "dict"] then some false else none) = some b) : kitB t n = some b := by
  have all : ∀ n ∈ ["int", "bool", "str", "list", "tuple"], ∀ t ∈ ["NoneType", "bool", "int", "str", "list", "tuple", "dict"],
      kitB t n = (if t = n then some true else if t = "bool" ∧ n = "int" then some true else
      if n ∈ ["int", "bool", "str", "list", "tuple"] ∧ t ∈ ["NoneType", "bool", "int", "str", "list", "tuple", "dict"] then some false else none) := by decide +kernel
  rw [all n hn t ht]
  exact h
theorem tyN_mem {d : D} {t : String} (h : tyN d = some t) : t ∈ ["NoneType", "bool", "int", "str", "list", "tuple", "dict"] := by
  cases d <;> first | (cases h; decide) | cases h
def pIsi (n : String) (f : Sta → PR RV) : Sta → PR RV := p1 (fun d => (isiB n d).map fun b => sh (.bool b)) f
theorem ev_isi {a : Expr} {x : Str} {n : String} {fa : Sta → PR RV} {p p' pos : Pos} (hn : n ∈ ["int", "bool", "str", "list", "tuple"]) (ha : PEv X T W a fa) (hg : Gl X "isinstance") (hm : X.mg "isinstance" = Option.none)
    (hgx : Gl X x) (hmx : X.mg x = Option.none) (hv : bootBuiltins x = some (.type n)) (hnx : x ≠ "__name__" := by decide) (hdx : (x == ("__debug__" : Str)) = false := by decide)
    (he1 : starEach [.Name x p'] X.env = (false, eval (.Name x p') X.env) :: starEach [] X.env := by rfl)
    (he : starEach [a, .Name x p'] X.env = (false, eval a X.env) :: starEach [.Name x p'] X.env := by rfl) (hpl : (backTo pos (starEach [.Name x p'] X.env)).any (·.1) = false := by rfl) :
    PEv X T W (.Call (.Name "isinstance" p) [a, .Name x p'] [] pos) (pIsi n fa) := by
  refine PE.wk (pe_callB call_isi hg hm (by decide +kernel) (pa_cons ha (pa_cons (pe_bltn (v := .ty n) hgx hmx hv rfl hnx hdx) pa_nil he1) he) (by decide) (by decide) he hpl) ?_
  rintro σ H Q ⟨s, m, M, G, R, q⟩
  refine ⟨s, m, M, G, R, ?_⟩
  revert q
  unfold pIsi p1 PR.bind
  cases fa s with
  | ok r =>
    intro q y H1 M1 g1 rr
    dsimp only at q
    cases hb : isiB n r.d with
    | none => simp only [hb, Option.map_none, PR.of] at q
    | some b =>
      simp only [hb, Option.map_some, PR.of] at q
      unfold isiB at hb
      cases ht : tyN r.d with
      | none => rw [ht] at hb; cases hb
      | some t =>
        rw [ht] at hb
        refine ⟨y, .ty n, .type t, .type n, b, rfl, .ty n, (rr.arg.dr g1.mh).ty ht, kit_ty (isiB_ok hn (tyN_mem ht) hb), q _ H1 M1 g1 (.bl b)⟩
  | exc e => intro q; exact q
  | stuck => intro q; exact q
end
end MP

/-! MP 5: statements. -/
namespace MP
open PySem PySem.Spec PyProof.Rows L2

/-- how a statement ends -/
inductive Fl where
  | nx (s : Sta) | ret (r : Slot) (s : Sta) | brk (s : Sta) | cont (s : Sta) | exc (e : Ex) (s : Sta) | stuck
/-- whether objects may be made: then the store and its places are as long -/
def AL (al : Bool) (m : List Addr) (s : Sta) : Prop := al = true → m.length = s.st.length
structure Ext (al : Bool) (G : Hp) (m : List Addr) (M : Hp) (m' : List Addr) (M' : Hp) : Prop where
  ml : MLe m m'
  nl : al = false → m' = m
  mm : Same M M'
  new : ∀ a o, M' a = some o → M a = some o ∨ G a = Option.none
theorem Ext.refl (al : Bool) (G : Hp) (m : List Addr) (M : Hp) : Ext al G m M m M := ⟨MLe.refl _, fun _ => rfl, Same.refl _, fun _ _ h => .inl h⟩
theorem Ext.trans {al : Bool} {G : Hp} {m m1 m2 : List Addr} {M M1 M2 : Hp} (a : Ext al G m M m1 M1) (b : Ext al G m1 M1 m2 M2) : Ext al G m M m2 M2 :=
  ⟨a.ml.trans b.ml, fun h => (b.nl h).trans (a.nl h), a.mm.trans b.mm, fun x o h => (b.new x o h).elim (fun h => a.new x o h) .inr⟩
theorem Ext.grow {al : Bool} {G : Hp} {m : List Addr} {H M H' M' : Hp} (g : Grow H M H' M') (gh : Same G H) : Ext al G m M m M' :=
  ⟨MLe.refl _, fun _ => rfl, g.mm, fun x o h => (g.new x o h).elim .inl fun h => .inr (gh.free h)⟩

section
variable (X : Cx) (T : Tab) (W : WX)
def FlP (al : Bool) (G : Hp) (m : List Addr) (M : Hp) (Dn : Ends) : Fl → Prop
  | .nx s' => ∀ σ' H' m' M', Ext al G m M m' M' → AL al m' s' → Rel X.K T m' M' G H' s' σ' → Dn.nx σ' H'
  | .brk s' => ∀ σ' H' m' M', Ext al G m M m' M' → AL al m' s' → Rel X.K T m' M' G H' s' σ' → Dn.bk σ' H'
  | .cont s' => ∀ σ' H' m' M', Ext al G m M m' M' → AL al m' s' → Rel X.K T m' M' G H' s' σ' → Dn.ct σ' H'
  | .ret r s' => ∀ y H' m' M', Ext al G m M m' M' → AL al m' s' → Rel X.K T m' M' G H' ⟨[r], s'.st⟩ [some y] → Dn.rt y H'
  | .exc e s' => ∀ cls d σ' H' m' M', Ext al G m M m' M' → AL al m' s' → Rel X.K T m' M' G H' s' σ' → ExR X.K T m' M' H' e cls d → W cls d σ' H'
  | .stuck => False
def tS (al : Bool) (g : Sta → Fl) : TS := fun Dn σ H => ∃ s m M G, Rel X.K T m M G H s σ ∧ AL al m s ∧ FlP X T W al G m M Dn (g s)
abbrev SEv (al : Bool) (st : List Stmt) (g : Sta → Fl) : Prop := PSs X st (tS X T W al g)
abbrev SE1 (al : Bool) (st : Stmt) (g : Sta → Fl) : Prop := PS X st (tS X T W al g)
end
theorem PS.wk {X : Cx} {e : Stmt} {t t' : TS} (h : PS X e t) (w : ∀ D σ H, t' D σ H → t D σ H) : PS X e t' := ⟨fun pins s σ H D I q => h.run pins s σ H D I (w _ _ _ q)⟩
theorem PSs.wk {X : Cx} {e : List Stmt} {t t' : TS} (h : PSs X e t) (w : ∀ D σ H, t' D σ H → t D σ H) : PSs X e t' := ⟨fun pins s σ H D I q => h.run pins s σ H D I (w _ _ _ q)⟩

section
variable {X : Cx} {T : Tab} {W : WX} {al : Bool} {G : Hp} {m m' : List Addr} {M M' : Hp} {Dn : Ends}
theorem FlP.ext {fl : Fl} (h : FlP X T W al G m M Dn fl) (e : Ext al G m M m' M') : FlP X T W al G m' M' Dn fl := by
  cases fl with
  | nx s => exact fun σ' H' m2 M2 e2 => h σ' H' m2 M2 (e.trans e2)
  | brk s => exact fun σ' H' m2 M2 e2 => h σ' H' m2 M2 (e.trans e2)
  | cont s => exact fun σ' H' m2 M2 e2 => h σ' H' m2 M2 (e.trans e2)
  | ret r s => exact fun y H' m2 M2 e2 => h y H' m2 M2 (e.trans e2)
  | exc x s => exact fun cls d σ' H' m2 M2 e2 => h cls d σ' H' m2 M2 (e.trans e2)
  | stuck => exact h
variable {st : Stmt} {rest : List Stmt} {e : Expr} {pos p : Pos} {g g1 g2 : Sta → Fl} {f : Sta → PR RV}
def sNil : Sta → Fl := .nx
def sSeq (g1 g2 : Sta → Fl) : Sta → Fl := fun s => match g1 s with
  | .nx s' => g2 s'
  | fl => fl
theorem ss_nil : SEv X T W al [] sNil := PSs.wk pss_nil fun D σ H ⟨s, m, M, G, R, a, q⟩ => q σ H m M (Ext.refl ..) a R
theorem ss_cons (h1 : SE1 X T W al st g1) (h2 : SEv X T W al rest g2) : SEv X T W al (st :: rest) (sSeq g1 g2) := by
  refine PSs.wk (pss_cons h1 h2) ?_
  rintro D σ H ⟨s, m, M, G, R, a, q⟩
  refine ⟨s, m, M, G, R, a, ?_⟩
  unfold sSeq at q
  cases hg : g1 s with
  | nx s' =>
    rw [hg] at q
    exact fun σ' H' m' M' e a' R' => ⟨s', m', M', G, R', a', FlP.ext q e⟩
  | brk s' => rw [hg] at q; exact q
  | cont s' => rw [hg] at q; exact q
  | ret r s' => rw [hg] at q; exact q
  | exc x s' => rw [hg] at q; exact q
  | stuck => rw [hg] at q; exact q
theorem ss_one (h1 : SE1 X T W al st g1) : SEv X T W al [st] g1 := PSs.wk (pss_one h1) fun D σ H h => h
theorem s_pass : SE1 X T W al (.Pass pos) sNil := PS.wk ps_pass fun D σ H ⟨s, m, M, G, R, a, q⟩ => q σ H m M (Ext.refl ..) a R
def sBrk : Sta → Fl := .brk
def sCont : Sta → Fl := .cont
theorem s_break : SE1 X T W al (.Break pos) sBrk := PS.wk ps_break fun D σ H ⟨s, m, M, G, R, a, q⟩ => q σ H m M (Ext.refl ..) a R
theorem s_cont : SE1 X T W al (.Continue pos) sCont := PS.wk ps_continue fun D σ H ⟨s, m, M, G, R, a, q⟩ => q σ H m M (Ext.refl ..) a R

/-- a result, then a statement's end -/
def PR.fl {α : Type} (x : PR α) (s : Sta) (k : α → Fl) : Fl := match x with
  | .ok a => k a
  | .exc e => .exc e s
  | .stuck => .stuck
theorem tD_fl {f : Sta → PR D} {k : Sta → D → Fl} {σ : L2.St} {H : Hp} {Q : VK} {s : Sta} (R : Rel X.K T m M G H s σ) (a : AL al m s) (q : FlP X T W al G m M Dn ((f s).fl s (k s)))
    (h : ∀ d y H' M', f s = .ok d → Grow H M H' M' → DR X.K m M' y d → FlP X T W al G m M' Dn (k s d) → Q y H') : tD X T W f σ H Q := by
  refine ⟨s, m, M, G, R, ?_⟩
  unfold PR.fl at q
  cases hf : f s with
  | ok d =>
    rw [hf] at q
    exact fun y H' M' g r => h d y H' M' hf g r (FlP.ext q (Ext.grow g R.gh))
  | exc x =>
    rw [hf] at q
    exact fun cls d H' M' g x => q cls d σ H' m M' (Ext.grow g R.gh) a (R.grow g) x
  | stuck => rw [hf] at q; exact q
theorem tP_fl {f : Sta → PR RV} {k : Sta → RV → Fl} {σ : L2.St} {H : Hp} {Q : VK} {s : Sta} (R : Rel X.K T m M G H s σ) (a : AL al m s) (q : FlP X T W al G m M Dn ((f s).fl s (k s)))
    (h : ∀ r y H' M', f s = .ok r → Grow H M H' M' → RR X.K m M' H H' y r → FlP X T W al G m M' Dn (k s r) → Q y H') : tP X T W f σ H Q := by
  refine ⟨s, m, M, G, R, ?_⟩
  unfold PR.fl at q
  cases hf : f s with
  | ok d =>
    rw [hf] at q
    exact fun y H' M' g r => h d y H' M' hf g r (FlP.ext q (Ext.grow g R.gh))
  | exc x =>
    rw [hf] at q
    exact fun cls d H' M' g x => q cls d σ H' m M' (Ext.grow g R.gh) a (R.grow g) x
  | stuck => rw [hf] at q; exact q
theorem tT_fl {f : Sta → PR Bool} {k : Sta → Bool → Fl} {σ : L2.St} {H : Hp} {Q : Bool → Hp → Prop} {s : Sta} (R : Rel X.K T m M G H s σ) (a : AL al m s) (q : FlP X T W al G m M Dn ((f s).fl s (k s)))
    (h : ∀ b H' M', f s = .ok b → Grow H M H' M' → FlP X T W al G m M' Dn (k s b) → Q b H') : tT X T W f σ H Q := by
  refine ⟨s, m, M, G, R, ?_⟩
  unfold PR.fl at q
  cases hf : f s with
  | ok d =>
    rw [hf] at q
    exact fun H' M' g => h d H' M' hf g (FlP.ext q (Ext.grow g R.gh))
  | exc x =>
    rw [hf] at q
    exact fun cls d H' M' g x => q cls d σ H' m M' (Ext.grow g R.gh) a (R.grow g) x
  | stuck => rw [hf] at q; exact q

/-- an expression whose value is dropped -/
def sExpr (f : Sta → PR RV) : Sta → Fl := fun s => (f s).fl s fun _ => .nx s
theorem s_expr (he : PEv X T W e f) (hs : swapsWith e none pos.line X.env = pure false := by rfl) : SE1 X T W al (.Expr e pos) (sExpr f) := by
  refine PS.wk (ps_expr he hs) ?_
  rintro D σ H ⟨s, m, M, G, R, a, q⟩
  refine tP_fl (k := fun s _ => .nx s) R a q fun r y H' M' _ g rr k => ?_
  exact k σ H' m M' (Ext.refl ..) a (R.grow g)
/-- name = value, shared -/
def sSetV (i : Nat) (f : Sta → PR D) : Sta → Fl := fun s => (f s).fl s fun d => .nx { s with env := s.env.set i (.v d) }
theorem s_setV {i : Nat} {x : Str} {f : Sta → PR D} {pos' : Pos} (hN : X.N.Nodup) (hi : X.N[i]? = some x) (hx : Loc X.env.scope x) (he : PDv X T W e f) (hs : swapsWith e (some (.Name x pos')) pos.line X.env = pure false := by rfl) (hf : X.fn x = true ∨ X.env.scope.names.lookup x = some .local := by first | exact .inl rfl | exact .inr rfl | assumption) :
    SE1 X T W al (.Assign [.Name x pos'] e pos) (sSetV i f) := by
  refine PS.wk (ps_set hN hi hx he hs hf) ?_
  rintro D σ H ⟨s, m, M, G, R, a, q⟩
  refine tD_fl (k := fun s d => .nx { s with env := s.env.set i (.v d) }) R a q fun d y H' M' _ g r k => ?_
  exact k _ H' m M' (Ext.refl ..) a ((R.grow g).setV i r)
/-- name = value, its own where it is new -/
def RV.slot (r : RV) : PR Slot := match r.k with
  | .sh => .ok (.v r.d)
  | .fr => .ok (.own r.d)
  | .pk => .stuck
def sSetO (i : Nat) (f : Sta → PR RV) : Sta → Fl := fun s => (f s).fl s fun r => (r.slot).fl s fun sl => .nx { s with env := s.env.set i sl }
theorem Rel.setRV {s : Sta} {σ : L2.St} {H H' : Hp} (R : Rel X.K T m M G H s σ) (g : Grow H M H' M') {y : V} {r : RV} (rr : RR X.K m M' H H' y r) {sl : Slot} (e : r.slot = .ok sl) (i : Nat) :
    Rel X.K T m M' G H' { s with env := s.env.set i sl } (σ.set i (some y)) := by
  obtain ⟨k, d⟩ := r
  cases k with
  | sh => cases e; exact (R.grow g).setV i rr
  | fr =>
    cases e
    obtain ⟨a, o, rfl, h2, h3, h4, h5⟩ := rr
    exact R.setOwn g i h2 h3 h4 h5
  | pk => cases e
theorem slot_ne {r : RV} {e : Ex} (h : r.slot = .exc e) : False := by obtain ⟨k, d⟩ := r; cases k <;> cases h
theorem setO_of {i : Nat} {D : Ends} {σ : L2.St} {H : Hp} (h : tS X T W al (sSetO i f) D σ H) : tAsg (tP X T W f) (gName i) D σ H := by
  obtain ⟨s, m, M, G, R, a, q⟩ := h
  refine tP_fl (k := fun s r => (r.slot).fl s fun sl => .nx { s with env := s.env.set i sl }) R a q fun r y H' M' _ g rr k => ?_
  unfold PR.fl at k
  cases hs : r.slot with
  | ok sl =>
    rw [hs] at k
    exact k _ H' m M' (Ext.refl ..) a (R.setRV g rr hs i)
  | exc e => exact (slot_ne hs).elim
  | stuck => rw [hs] at k; exact k.elim
theorem s_setO {i : Nat} {x : Str} {pos' : Pos} (hN : X.N.Nodup) (hi : X.N[i]? = some x) (hx : Loc X.env.scope x) (he : PEv X T W e f) (hs : swapsWith e (some (.Name x pos')) pos.line X.env = pure false := by rfl) (hf : X.fn x = true ∨ X.env.scope.names.lookup x = some .local := by first | exact .inl rfl | exact .inr rfl | assumption) :
    SE1 X T W al (.Assign [.Name x pos'] e pos) (sSetO i f) := PS.wk (ps_set hN hi hx he hs hf) fun D σ H h => setO_of h
/-- name = [..] -/
theorem s_setLc {i : Nat} {y : Str} {py spos : Pos} {elt tg iter : Expr} {ifs : List Expr} {scope : Scope} {own : List (Str × Nat)} {ff : Sta → PR (List D)} {t : Tg} {tt : Sta → PR Bool} {te : Sta → PR D} (hc : X.calm = true) (hN : X.N.Nodup) (hy : X.N[i]? = some y) (hyl : X.env.scope.names.lookup y = some .local)
    (hsw : swapsWith (.ListComp elt [⟨tg, iter, ifs, 0⟩] scope pos) (some (.Name y py)) spos.line X.env = pure true) (hi : PIc X T W tg iter ff) (ok : BlkOk X.N X.env.scope scope own) (hv : ∀ i ∈ t.ixs, i ∈ own.map (·.2))
    (hg : ∀ (s : Shared) (H : Hp) (C : Addr) (cl : List (Str × Addr)) (fp : List Addr), PG (X.blk s H scope (compEnvC scope cl C X.env) fp) tg (tgR X.K t))
    (ht : ∀ (s : Shared) (H : Hp) (C : Addr) (cl : List (Str × Addr)) (fp : List Addr), PTsv (X.blk s H scope (compEnvC scope cl C X.env) fp) T W0 ifs tt)
    (he : ∀ (s : Shared) (H : Hp) (C : Addr) (cl : List (Str × Addr)) (fp : List Addr), PDv (X.blk s H scope (compEnvC scope cl C X.env) fp) T W0 elt te) (hs : ∀ x, foldedSetIterable iter X.env x = pure x := by intro _; rfl) :
    SE1 X T W al (.Assign [.Name y py] (.ListComp elt [⟨tg, iter, ifs, 0⟩] scope pos) spos) (sSetO i (pComp ff t (own.map (·.2)) tt te)) := by
  refine PS.wk (ps_setLc (tt := tT X T W0 tt) (te := tD X T W0 te) hc hN hy hyl hsw hi ok hg ht he hs) fun D σ H h => ?_
  have h2 := setO_of h
  exact tLc_of hv h2
/-- a name's own list is shared from now on (nothing runs) -/
def frz (i : Nat) (s : Sta) : Sta := match s.env[i]? with
  | some (.own d) => { s with env := s.env.set i (.v d) }
  | _ => s
def sFrz (i : Nat) (g : Sta → Fl) : Sta → Fl := fun s => g (frz i s)
theorem Rel.frz {s : Sta} {σ : L2.St} {H : Hp} (R : Rel X.K T m M G H s σ) (i : Nat) : ∃ M', Ext al G m M m M' ∧ Rel X.K T m M' G H (MP.frz i s) σ := by
  unfold MP.frz
  obtain ⟨mh, gh, ⟨f1, f2, h1, h2, nd, dj⟩⟩ := R
  have same : ∃ M', Ext al G m M m M' ∧ Rel X.K T m M' G H s σ := ⟨M, Ext.refl .., mh, gh, f1, f2, h1, h2, nd, dj⟩
  split
  · rename_i d hs
    obtain ⟨g0, g1, g2, y, ef, ey, hy, k⟩ := h1.split hs
    obtain ⟨a, o, ef1, rfl, ha, hd⟩ := hy
    subst ef ef1
    have dja := dj a (by simp)
    have mm : Same M (upd M a o) := Same.upd dja.1
    refine ⟨upd M a o, ⟨MLe.refl _, fun _ => rfl, mm, fun b u e => ?_⟩, fun b u e => ?_, gh, ?_⟩
    · by_cases hb : b = a
      · subst hb; exact .inr dja.2
      · rw [upd_ne hb] at e; exact .inl e
    · by_cases hb : b = a
      · subst hb; rw [upd_same] at e; rw [← e]; exact ha
      · rw [upd_ne hb] at e; exact mh _ _ e
    · have eσ : σ = σ.set i (some (.ref a)) := by
        apply List.ext_getElem?
        intro j
        by_cases hj : i = j
        · subst hj
          rw [List.getElem?_set_self (by rw [← h1.len]; exact (List.getElem?_eq_some_iff.mp hs).1)]
          exact ey
        · rw [List.getElem?_set_ne hj]
      have k2 := k m (upd M a o) H (.v d) (some (.ref a)) [] (MLe.refl _) mm (fun _ _ => rfl) ⟨rfl, _, rfl, (hd.mono (MLe.refl _) mm).dr (Same.refl _) upd_same⟩
      rw [← eσ] at k2
      have sub : ((g0 ++ [] ++ g2) ++ f2).Sublist ((g0 ++ [a] ++ g2) ++ f2) := by simp
      refine ⟨g0 ++ [] ++ g2, f2, k2, h2.mono (MLe.refl _) (MLe.refl _) mm fun _ _ => rfl, nd.sublist sub, fun b hb => ?_⟩
      have hb' : b ∈ (g0 ++ [a] ++ g2) ++ f2 := sub.subset hb
      have hne : b ≠ a := by
        rintro rfl
        have perm : List.Perm ((g0 ++ [b] ++ g2) ++ f2) (b :: ((g0 ++ [] ++ g2) ++ f2)) := by
          simp only [List.append_nil, List.append_assoc, List.singleton_append]
          exact List.perm_middle
        have := perm.nodup_iff.mp nd
        exact (List.nodup_cons.mp this).1 hb
      rw [upd_ne hne]
      exact dj b hb'
  · exact same
theorem s_frz {i : Nat} (h : SE1 X T W al st g) : SE1 X T W al st (sFrz i g) := by
  refine PS.wk h ?_
  rintro D σ H ⟨s, m, M, G, R, a, q⟩
  obtain ⟨M', e, R'⟩ := R.frz (al := al) i
  refine ⟨_, m, M', G, R', fun h => ?_, FlP.ext q e⟩
  rw [a h]
  unfold frz
  split <;> rfl
/-- return -/
def sRet (f : Sta → PR RV) : Sta → Fl := fun s => (f s).fl s fun r => (r.slot).fl s fun sl => .ret sl s
def sRetN : Sta → Fl := fun s => .ret (.v .none) s
theorem Rel.only {s : Sta} {σ : L2.St} {H : Hp} (R : Rel X.K T m M G H s σ) {d : D} {y : V} (r : DR X.K m M y d) : Rel X.K T m M G H ⟨[.v d], s.st⟩ [some y] := by
  obtain ⟨mh, gh, ⟨f1, f2, h1, h2, nd, dj⟩⟩ := R
  exact ⟨mh, gh, [], f2, ⟨[], [], rfl, ⟨rfl, y, rfl, r⟩, rfl⟩, h2, (List.nodup_append.mp nd).2.1, fun a ha => dj a (by simpa using .inr ha)⟩
theorem Rel.onlyS {s : Sta} {σ : L2.St} {H : Hp} {i : Nat} {sl : Slot} {y : Option V} (R : Rel X.K T m M G H s σ) (hs : s.env[i]? = some sl) (hy : σ[i]? = some y) : Rel X.K T m M G H ⟨[sl], s.st⟩ [y] := by
  obtain ⟨mh, gh, ⟨f1, f2, h1, h2, nd, dj⟩⟩ := R
  obtain ⟨g0, g1, g2, y0, ef, ey, hy', k⟩ := h1.split hs
  rw [hy] at ey
  cases ey
  subst ef
  have sub : (g1 ++ f2).Sublist ((g0 ++ g1 ++ g2) ++ f2) := by
    refine List.Sublist.append ?_ (List.Sublist.refl _)
    exact (List.sublist_append_right g0 g1).trans (List.sublist_append_left _ _)
  exact ⟨mh, gh, g1, f2, ⟨g1, [], by simp, hy', rfl⟩, h2, nd.sublist sub, fun a ha => dj a (sub.subset ha)⟩
theorem s_ret (he : PEv X T W e f) : SE1 X T W al (.Return (some e) pos) (sRet f) := by
  refine PS.wk (ps_ret he) ?_
  rintro D σ H ⟨s, m, M, G, R, a, q⟩
  refine tP_fl (k := fun s r => (r.slot).fl s fun sl => .ret sl s) R a q fun r y H' M' _ g rr k => ?_
  unfold PR.fl at k
  cases hs : r.slot with
  | ok sl =>
    rw [hs] at k
    refine k y H' m M' (Ext.refl ..) a ?_
    have R1 : Rel X.K T m M G H ⟨[.un], s.st⟩ [Option.none] := by
      obtain ⟨mh, gh, ⟨f1, f2, h1, h2, nd, dj⟩⟩ := R
      exact ⟨mh, gh, [], f2, ⟨[], [], rfl, rfl, rfl⟩, h2, (List.nodup_append.mp nd).2.1, fun a ha => dj a (by simpa using .inr ha)⟩
    exact R1.setRV g rr hs 0
  | exc e => exact (slot_ne hs).elim
  | stuck => rw [hs] at k; exact k.elim
/-- return of a name's own list -/
def sRetS (i : Nat) : Sta → Fl := fun s => match s.env[i]? with
  | some (.own d) => .ret (.own d) s
  | some (.v d) => .ret (.v d) s
  | _ => .stuck
theorem s_retS {i : Nat} {x : Str} (h : PE X (.Name x p) (tVar i)) : SE1 X T W al (.Return (some (.Name x p)) pos) (sRetS i) := by
  refine PS.wk (ps_ret h) ?_
  rintro D σ H ⟨s, m, M, G, R, a, q⟩
  unfold sRetS at q
  have R0 := R
  obtain ⟨mh, gh, ⟨f1, f2, h1, h2, nd, dj⟩⟩ := R
  split at q
  · rename_i d hs
    obtain ⟨y, fy, ey, ⟨b, o, _, rfl, hb, hd⟩, _⟩ := h1.at hs
    exact ⟨_, ey, q _ H m M (Ext.refl ..) a (R0.onlyS hs ey)⟩
  · rename_i d hs
    obtain ⟨y, fy, ey, ⟨_, y', rfl, hd⟩, _⟩ := h1.at hs
    exact ⟨_, ey, q _ H m M (Ext.refl ..) a (R0.onlyS hs ey)⟩
  · exact q.elim
theorem s_retN : SE1 X T W al (.Return none pos) sRetN := by
  refine PS.wk ps_retN ?_
  rintro D σ H ⟨s, m, M, G, R, a, q⟩
  exact q .non H m M (Ext.refl ..) a (R.only .non)
/-- if -/
def sIf (t : Sta → PR Bool) (g1 g2 : Sta → Fl) : Sta → Fl := fun s => (t s).fl s fun b => if b then g1 s else g2 s
theorem s_if {c : Expr} {A B : List Stmt} {t : Sta → PR Bool} (hc : PTv X T W c t) (ha : SEv X T W al A g1) (hb : SEv X T W al B g2) : SE1 X T W al (.If c A B pos) (sIf t g1 g2) := by
  refine PS.wk (ps_if hc ha hb) ?_
  rintro D σ H ⟨s, m, M, G, R, a, q⟩
  refine tT_fl (k := fun s b => if b then g1 s else g2 s) R a q fun b H' M' _ g k => ?_
  cases b with
  | true => exact ⟨s, m, M', G, R.grow g, a, k⟩
  | false => exact ⟨s, m, M', G, R.grow g, a, k⟩
/-- several targets -/
def sTup (t : Tg) (f : Sta → PR D) : Sta → Fl := fun s => (f s).fl s fun d => match t.bind d s.env with
  | some env => .nx { s with env := env }
  | none => .stuck
theorem s_tup {tg : Expr} {t : Tg} {f : Sta → PR D} (he : PDv X T W e f) (hg : PG X tg (tgR X.K t)) (hs : swapsWithSole [tg] e pos.line X.env = pure false := by rfl) (hw : swappedStores [tg] e X.env = pure none := by rfl)
    (h1 : (assignEach [tg] X.env).map (·.2) = [assign tg X.env] := by rfl) : SE1 X T W al (.Assign [tg] e pos) (sTup t f) := by
  refine PS.wk (ps_asg he hg hs hw h1) ?_
  rintro D σ H ⟨s, m, M, G, R, a, q⟩
  refine tD_fl (k := fun s d => match t.bind d s.env with | some env => .nx { s with env := env } | none => .stuck) R a q fun d y H' M' _ g r k => ?_
  cases hb : t.bind d s.env with
  | none => rw [hb] at k; exact k.elim
  | some env =>
    rw [hb] at k
    exact tgR_of (T := T) (G := G) hb r (R.grow g) (Off.refl t.ixs σ) (fun _ h => h) fun σ' R' _ => k σ' H' m M' (Ext.refl ..) a R'

/-! ### loops -/
def loopL (t : Tg) (g : Sta → Fl) : List D → Sta → Fl
  | [], s => .nx s
  | d :: ds, s => match t.bind d s.env with
    | none => .stuck
    | some env => match g { s with env := env } with
      | .nx s' => loopL t g ds s'
      | .cont s' => loopL t g ds s'
      | .brk s' => .nx s'
      | fl => fl
def sFor (f : Sta → PR (List D)) (t : Tg) (g : Sta → Fl) : Sta → Fl := fun s => (f s).fl s fun ds => loopL t g ds s
theorem s_for {tg iter : Expr} {body : List Stmt} {ff : Sta → PR (List D)} {t : Tg} (hp : PassesOwn (model X.prog X.w) X.A X.env X.xe) (hc : X.calm = true) (hi : PIv X T W tg iter ff) (hg : PG X tg (tgR X.K t)) (hb : SEv X T W al body g)
    (hs : ∀ x, foldedSetIterable iter X.env x = pure x := by intro _; rfl) : SE1 X T W al (.For tg iter body [] pos) (sFor ff t g) := by
  refine PS.wk (ps_for hp hc hi hg hb hs) ?_
  rintro D σ H ⟨s, m, M, G, R, a, q⟩
  refine ⟨s, m, M, G, R, ?_⟩
  unfold sFor PR.fl at q
  cases hf : ff s with
  | ok ds =>
    rw [hf] at q
    intro J H1 M1 g1 it
    refine ⟨fun i μ σ' H' => μ = ds.length - i ∧ i ≤ ds.length ∧ ∃ s' m' M', Ext al G m M1 m' M' ∧ AL al m' s' ∧ Rel X.K T m' M' G H' s' σ' ∧ FlP X T W al G m' M' D (loopL t g (ds.drop i) s'),
      ⟨ds.length, rfl, Nat.zero_le _, s, m, M1, Ext.refl .., a, R.grow g1, FlP.ext q (Ext.grow g1 R.gh)⟩, ?_⟩
    rintro i μ σ' H' ⟨rfl, hi', s', m', M', e', a', R', q'⟩
    have iti := fun d => (it i M' H' e'.mm R'.mh (Same.none _)).1 d
    by_cases hlt : i < ds.length
    · have hd : ds[i]? = some ds[i] := by simp [hlt]
      have hdrop : ds.drop i = ds[i] :: ds.drop (i + 1) := List.drop_eq_getElem_cons hlt
      generalize ds[i] = d at hd hdrop
      obtain ⟨go, yld⟩ := iti d hd
      rw [hdrop, loopL] at q'
      cases hb' : t.bind d s'.env with
      | none => rw [hb'] at q'; exact q'.elim
      | some env =>
        simp only [hb'] at q'
        refine .inr ⟨go, fun σ' H' => ∃ s' m' M', Ext al G m M1 m' M' ∧ AL al m' s' ∧ Rel X.K T m' M' G H' s' σ' ∧ FlP X T W al G m' M' D (loopL t g (ds.drop (i + 1)) s'),
          fun σ2 H2 hN => ⟨ds.length - (i + 1), by omega, rfl, hlt, hN⟩, fun x H2 hy => ?_⟩
        obtain ⟨M2, gy, rx⟩ := yld x H2 hy
        -- the iterator yields data at m: it is data at m' too
        have rx' : DR X.K m' M2 x d := DR.mono e'.ml (Same.refl _) _ _ rx
        refine tgR_of (T := T) (G := G) hb' rx' (R'.grow gy) (Off.refl t.ixs σ') (fun _ h => h) fun σ3 R3 _ => ?_
        refine ⟨_, m', M2, G, R3, a', ?_⟩
        have ey : Ext al G m' M' m' M2 := Ext.grow gy R'.gh
        cases hgo : g { s' with env := env } with
        | nx s4 =>
          simp only [hgo] at q'
          exact fun σ5 H5 m5 M5 e5 a5 R5 => ⟨s4, m5, M5, e'.trans (ey.trans e5), a5, R5, FlP.ext q' (ey.trans e5)⟩
        | cont s4 =>
          simp only [hgo] at q'
          exact fun σ5 H5 m5 M5 e5 a5 R5 => ⟨s4, m5, M5, e'.trans (ey.trans e5), a5, R5, FlP.ext q' (ey.trans e5)⟩
        | brk s4 =>
          simp only [hgo] at q'
          exact fun σ5 H5 m5 M5 e5 a5 R5 => q' σ5 H5 m5 M5 (ey.trans e5) a5 R5
        | ret r s4 =>
          simp only [hgo] at q'
          exact fun y H5 m5 M5 e5 a5 R5 => q' y H5 m5 M5 (ey.trans e5) a5 R5
        | exc x s4 =>
          simp only [hgo] at q'
          exact fun cls dd σ5 H5 m5 M5 e5 a5 R5 => q' cls dd σ5 H5 m5 M5 (ey.trans e5) a5 R5
        | stuck => simp only [hgo] at q'; exact q'
    · have hie : i = ds.length := by omega
      subst hie
      rw [List.drop_length, loopL] at q'
      exact .inl ⟨(it ds.length M' H' e'.mm R'.mh (Same.none _)).2 (Nat.le_refl _), q' σ' H' m' M' (Ext.refl ..) a' R'⟩
  | exc x =>
    rw [hf] at q
    exact fun cls d H' M' g x => q cls d σ H' m M' (Ext.grow g R.gh) a (R.grow g) x
  | stuck => rw [hf] at q; exact q
def whL (c : Sta → PR Bool) (g : Sta → Fl) : Nat → Sta → Fl
  | 0, _ => .stuck
  | n + 1, s => (c s).fl s fun b => if b then (match g s with
      | .nx s' => whL c g n s'
      | .cont s' => whL c g n s'
      | .brk s' => .nx s'
      | fl => fl) else .nx s
def sWhile (n : Nat) (c : Sta → PR Bool) (g : Sta → Fl) : Sta → Fl := whL c g n
theorem s_while {c : Expr} {body : List Stmt} {t : Sta → PR Bool} (n : Nat) (hp : PassesOwn (model X.prog X.w) X.A X.env X.xe) (hc : PTv X T W c t) (hb : SEv X T W al body g) : SE1 X T W al (.While c body [] pos) (sWhile n t g) := by
  refine PS.wk (ps_while hp hc hb) ?_
  rintro D σ H ⟨s, m, M, G, R, a, q⟩
  refine ⟨fun k σ' H' => ∃ s' m' M', Ext al G m M m' M' ∧ AL al m' s' ∧ Rel X.K T m' M' G H' s' σ' ∧ FlP X T W al G m' M' D (whL t g k s'), ⟨n, s, m, M, Ext.refl .., a, R, q⟩, ?_⟩
  rintro k σ' H' ⟨s', m', M', e', a', R', q'⟩
  cases k with
  | zero => exact q'.elim
  | succ k =>
    rw [whL] at q'
    refine tT_fl (k := fun s b => if b then (match g s with | .nx s' => whL t g k s' | .cont s' => whL t g k s' | .brk s' => .nx s' | fl => fl) else .nx s) R' a' q' fun b H2 M2 _ gg kk => ?_
    have ey : Ext al G m' M' m' M2 := Ext.grow gg R'.gh
    cases b with
    | false =>
      rw [if_neg Bool.false_ne_true]
      exact kk σ' H2 m' M2 (Ext.refl ..) a' (R'.grow gg)
    | true =>
      rw [if_pos rfl]
      simp only [if_true] at kk
      refine ⟨fun σ3 H3 => ∃ s' m' M', Ext al G m M m' M' ∧ AL al m' s' ∧ Rel X.K T m' M' G H3 s' σ3 ∧ FlP X T W al G m' M' D (whL t g k s'), fun σ3 H3 hN => ⟨k, Nat.lt_succ_self _, hN⟩, ?_⟩
      refine ⟨s', m', M2, G, R'.grow gg, a', ?_⟩
      cases hgo : g s' with
      | nx s4 =>
        simp only [hgo] at kk
        exact fun σ5 H5 m5 M5 e5 a5 R5 => ⟨s4, m5, M5, e'.trans (ey.trans e5), a5, R5, FlP.ext kk e5⟩
      | cont s4 =>
        simp only [hgo] at kk
        exact fun σ5 H5 m5 M5 e5 a5 R5 => ⟨s4, m5, M5, e'.trans (ey.trans e5), a5, R5, FlP.ext kk e5⟩
      | brk s4 =>
        simp only [hgo] at kk
        exact kk
      | ret r s4 =>
        simp only [hgo] at kk
        exact kk
      | exc x s4 =>
        simp only [hgo] at kk
        exact kk
      | stuck => simp only [hgo] at kk; exact kk

/-! ### a name's own list is changed -/
/-- the object of a slot rewritten -/
theorem Rel.mut {s : Sta} {σ : L2.St} {H : Hp} {i : Nat} {d d' : D} {b : Addr} {o' : HO} (R : Rel X.K T m M G H s σ) (hs : s.env[i]? = some (.own d)) (hσ : σ[i]? = some (some (.ref b))) (ho : ObD X.K m M o' d') :
    Rel X.K T m M G (upd H b o') { s with env := s.env.set i (.own d') } σ := by
  obtain ⟨mh, gh, ⟨f1, f2, h1, h2, nd, dj⟩⟩ := R
  obtain ⟨g0, g1, g2, y, ef, ey, ⟨a, o, ef1, rfl, ha, hd⟩, k⟩ := h1.split hs
  rw [hσ] at ey
  cases ey
  subst ef ef1
  have dja := dj b (by simp)
  have eσ : σ = σ.set i (some (.ref b)) := by
    apply List.ext_getElem?
    intro j
    by_cases hj : i = j
    · subst hj
      rw [List.getElem?_set_self (by rw [← h1.len]; exact (List.getElem?_eq_some_iff.mp hs).1)]
      exact hσ
    · rw [List.getElem?_set_ne hj]
  have perm : List.Perm ((g0 ++ [b] ++ g2) ++ f2) (b :: ((g0 ++ g2) ++ f2)) := by
    simp only [List.append_assoc, List.singleton_append]
    exact List.perm_middle
  have nd' := List.nodup_cons.mp (perm.nodup_iff.mp nd)
  have off : ∀ c ∈ (g0 ++ g2) ++ f2, upd H b o' c = H c := fun c hc => upd_ne fun z => nd'.1 (by rw [← z]; exact hc)
  have k2 := k m M (upd H b o') (.own d') (some (.ref b)) [b] (MLe.refl _) (Same.refl _) (fun c hc => off c (List.mem_append_left _ hc)) ⟨b, o', rfl, rfl, upd_same, ho⟩
  rw [← eσ] at k2
  refine ⟨fun c u e => ?_, fun c u e => ?_, g0 ++ [b] ++ g2, f2, k2, h2.mono (MLe.refl _) (MLe.refl _) (Same.refl _) fun c hc => off c (List.mem_append_right _ hc), nd, dj⟩
  · rw [upd_ne (fun z => by rw [z, dja.1] at e; cases e)]
    exact mh _ _ e
  · rw [upd_ne (fun z => by rw [z, dja.2] at e; cases e)]
    exact gh _ _ e
/-- x.append(e) -/
def sApp (i : Nat) (f : Sta → PR D) : Sta → Fl := fun s => match s.env[i]? with
  | some (.own (.list ds)) => (f s).fl s fun d => if ds.length < 16777216 then .nx { s with env := s.env.set i (.own (.list (ds ++ [d]))) } else .stuck
  | _ => .stuck
theorem Rel.own {s : Sta} {σ : L2.St} {H : Hp} {i : Nat} {d : D} (R : Rel X.K T m M G H s σ) (hs : s.env[i]? = some (.own d)) : ∃ b o, σ[i]? = some (some (.ref b)) ∧ H b = some o ∧ ObD X.K m M o d := by
  obtain ⟨mh, gh, ⟨f1, f2, h1, h2, nd, dj⟩⟩ := R
  obtain ⟨yy, fy, ey, ⟨b, o, _, rfl, hb, hd⟩, _⟩ := h1.at hs
  exact ⟨b, o, ey, hb, hd⟩
theorem Rel.ownL {s : Sta} {σ : L2.St} {H : Hp} {i : Nat} {ds : List D} (R : Rel X.K T m M G H s σ) (hs : s.env[i]? = some (.own (.list ds))) : ∃ b xs, σ[i]? = some (some (.ref b)) ∧ H b = some (.lst xs) ∧ DRs X.K m M xs ds := by
  obtain ⟨b, o, h1, h2, h3⟩ := R.own hs
  cases h3 with
  | lst h3 => exact ⟨b, _, h1, h2, h3⟩
theorem app_of {i : Nat} {f : Sta → PR D} {D : Ends} {σ : L2.St} {H : Hp} (h : tS X T W al (sApp i f) D σ H) :
    tDrop (tBM X.K "list" rAppend (tVar i) (tCons (tD X T W f) tNil)) D σ H := by
  obtain ⟨s, m, M, G, R, a, q⟩ := h
  unfold sApp at q
  split at q
  · rename_i ds hs
    obtain ⟨b, xs, hσ, hb, hd⟩ := R.ownL hs
    refine ⟨_, hσ, .inl ⟨rfl, xs, SqL.of hb⟩, ?_⟩
    refine tD_fl (k := fun s d => if ds.length < 16777216 then .nx { s with env := s.env.set i (.own (.list (ds ++ [d]))) } else .stuck) R a q fun d y H' M' _ g r k => ?_
    by_cases hl : ds.length < 16777216
    · rw [if_pos hl] at k
      refine ⟨b, xs, y, rfl, rfl, g.same _ _ hb, by rw [hd.length, sizeLine_eq]; exact hl, ?_⟩
      exact k σ _ m M' (Ext.refl ..) a ((R.grow g).mut hs hσ (.lst ((hd.up g.mm).append (.cons r .nil))))
    · rw [if_neg hl] at k
      exact k.elim
  · exact q.elim
theorem s_app {i : Nat} {x : Str} {e : Expr} {f : Sta → PR D} {px apos cpos : Pos} (hx : PE X (.Name x px) (tVar i)) (he : PDv X T W e f)
    (hbase : attributeBase (.Name x px) "append" X.env (eval (.Name x px) X.env) = eval (.Name x px) X.env := by rfl)
    (hfew : ((backTo cpos (starEach [e] X.env)).all (fun x => !x.1) && (backToKw cpos (keywordEach [] X.env)).all (fun x => x.1.isSome)
      && decide ([e].length + ([] : List Keyword).length + (if ([] : List Keyword).isEmpty then 0 else 1) < 30)) = true := by rfl)
    (hline : (apos.endLine == cpos.line) = true := by rfl) (hs : starEach [e] X.env = (false, eval e X.env) :: starEach [] X.env := by rfl) (hplain : (backTo cpos (starEach [] X.env)).any (·.1) = false := by rfl)
    (hsw : swapsWith (.Call (.Attribute (.Name x px) "append" apos) [e] [] cpos) none pos.line X.env = pure false := by rfl) :
    SE1 X T W al (.Expr (.Call (.Attribute (.Name x px) "append" apos) [e] [] cpos) pos) (sApp i f) :=
  PS.wk (ps_expr (pe_bm PySem.F.plainAttrs_list PySem.F.slot_list_append PySem.F.type_list_append mt_append hx (pa_cons he pa_nil hs) hbase hfew hline hs hplain) hsw) fun D σ H h => app_of h
end
end MP

/-! MP 6: defs, calls, objects. -/
namespace MP
open PySem PySem.Spec PyProof.Rows L2

inductive Fr where
  | ok (r : Slot) (st : List Ob) | exc (e : Ex) (st : List Ob) | stuck
/-- what a def does: its arguments, the objects ahead; its result, the objects behind -/
abbrev Sem := List D → List Ob → Fr
def spF (K : PySem.W.Frag) (T : Tab) (al : Bool) (n : Nat) (sem : Sem) : Sp := fun vs H Q E => ∃ ds st m M G, vs.length = n ∧ DRs K m M vs ds ∧ Rel K T m M G H ⟨[], st⟩ [] ∧ AL al m ⟨[], st⟩ ∧ match sem ds st with
  | .ok r st' => ∀ y H' m' M', Ext al G m M m' M' → AL al m' ⟨[], st'⟩ → Rel K T m' M' G H' ⟨[r], st'⟩ [some y] → Q y H'
  | .exc e st' => ∀ cls d H' m' M', Ext al G m M m' M' → AL al m' ⟨[], st'⟩ → Rel K T m' M' G H' ⟨[], st'⟩ [] → ExR K T m' M' H' e cls d → E cls d H'
  | .stuck => False
def runB (N : Nat) (g : Sta → Fl) : Sem := fun ds st => match g ⟨ds.map Slot.v ++ List.replicate (N - ds.length) .un, st⟩ with
  | .nx s => .ok (.v .none) s.st
  | .ret r s => .ok r s.st
  | .exc e s => .exc e s.st
  | _ => .stuck

section
variable {K : PySem.W.Frag} {T : Tab} {m : List Addr} {M G H : Hp}
theorem slots_start : ∀ {vs : List V} {ds : List D}, DRs K m M vs ds → ∀ n : Nat, SlotsR K m M H (ds.map Slot.v ++ List.replicate n .un) (vs.map some ++ List.replicate n Option.none) []
  | _, _, .nil, 0 => rfl
  | _, _, .nil, n + 1 => ⟨[], [], rfl, rfl, slots_start .nil n⟩
  | _, _, .cons r t, n => ⟨[], [], rfl, ⟨rfl, _, rfl, r⟩, slots_start t n⟩
theorem Rel.start {st : List Ob} {vs : List V} {ds : List D} (R : Rel K T m M G H ⟨[], st⟩ []) (r : DRs K m M vs ds) (n : Nat) : Rel K T m M G H ⟨ds.map Slot.v ++ List.replicate n .un, st⟩ (vs.map some ++ List.replicate n Option.none) := by
  obtain ⟨mh, gh, ⟨f1, f2, h1, h2, nd, dj⟩⟩ := R
  have e : f1 = [] := h1
  subst e
  exact ⟨mh, gh, [], f2, slots_start r n, h2, nd, dj⟩
theorem Rel.store {s : Sta} {σ : L2.St} (R : Rel K T m M G H s σ) : Rel K T m M G H ⟨[], s.st⟩ [] := by
  obtain ⟨mh, gh, ⟨f1, f2, h1, h2, nd, dj⟩⟩ := R
  exact ⟨mh, gh, [], f2, rfl, h2, (List.nodup_append.mp nd).2.1, fun a ha => dj a (by simpa using .inr ha)⟩
end

section
variable {P : Program} {w : World} {K : PySem.W.Frag} {mg : Str → Option Value} {base : Heap} {T : Tab}
/-- THE RULE of a def: its body evaluated -/
theorem fn_ok {x qual : Str} {st : Stmt} {f : Addr} {fd : FuncData} {N ps : List Str} {k : Nat} {al : Bool} {g : Sta → Fl} (F : Fun K x qual st f fd) (S : FnScope N ps (defScope st))
    (hb : ∀ (cdv : Value) (A : Around) (outer : List Env) (s : Shared) (H : Hp) (E : XK), Room k (A.deeper (envOfC qual (defScope st) s.heap.objs.size f cdv)) →
      SEv (cxOf (L2.CX P w) P w K mg base N qual (defScope st) f cdv A outer s H E) T (fun cls d _ H => E cls d H) al (defBody st) g) :
    FnOk P w K mg base (L2.CX P w) (k + 1) f fd ps (spF K T al ps.length (runB N.length g)) := by
  refine F.okX S (fun vs H Q E h => ?_) fun cdv A outer s H vs Q E hr h => ?_
  · obtain ⟨ds, sto, m, M, G, hl, _⟩ := h
    exact hl
  · obtain ⟨ds, sto, m, M, G, hl, r, R, a, q⟩ := h
    refine ⟨_, hb cdv A outer s H E hr, ?_⟩
    have e : start N vs = vs.map some ++ List.replicate (N.length - ds.length) Option.none := by
      unfold L2.start
      rw [r.length]
    rw [e]
    refine ⟨⟨ds.map Slot.v ++ List.replicate (N.length - ds.length) Slot.un, sto⟩, m, M, G, R.start r (N.length - ds.length), a, ?_⟩
    unfold runB at q
    cases hg : g ⟨ds.map Slot.v ++ List.replicate (N.length - ds.length) .un, sto⟩ with
    | nx s' =>
      rw [hg] at q
      intro σ' H' m' M' e' a' R'
      exact q .non H' m' M' e' a' (R'.only (X := cxOf (L2.CX P w) P w K mg base N qual (defScope st) f cdv A outer s H E) .non)
    | ret r s' =>
      rw [hg] at q
      exact fun y H' m' M' e' a' R' => q y H' m' M' e' a' R'
    | exc x s' =>
      rw [hg] at q
      exact fun cls d σ' H' m' M' e' a' R' xr => q cls d H' m' M' e' a' R'.store xr
    | brk s' => rw [hg] at q; exact q.elim
    | cont s' => rw [hg] at q; exact q.elim
    | stuck => rw [hg] at q; exact q.elim
/-- a def to be called by its name -/
def Callee (P : Program) (w : World) (K : PySem.W.Frag) (mg : Str → Option Value) (base : Heap) (T : Tab) (x : Str) (al : Bool) (k n : Nat) (sem : Sem) : Prop :=
  ∃ f fd ps, FnOk P w K mg base (L2.CX P w) k f fd ps (spF K T al n sem) ∧ mg x = some (.ref f) ∧ PySem.W.keepIn K (.ref f) = true ∧ Binds K fd ps []
end

/-! ### a def called that does not touch the objects -/
section
variable {X : Cx} {T : Tab} {W : WX} {e o : Expr} {es : List Expr} {pos p : Pos} {fs : Sta → PR (List D)} {k n : Nat} {sem : Sem} {x : Str}
def Slot.rv : Slot → PR RV
  | .v d => .ok (sh d)
  | .own d => .ok (fr d)
  | .un => .stuck
  | .hid _ => .stuck
def pUser (n : Nat) (sem : Sem) (fs : Sta → PR (List D)) : Sta → PR RV := fun s => (fs s).bind fun ds => if ds.length = n then (match sem ds [] with
  | .ok r _ => r.rv
  | .exc e _ => .exc e
  | .stuck => .stuck) else .stuck
theorem rel_pure {K : PySem.W.Frag} {m : List Addr} {M H : Hp} (mh : Same M H) : Rel K T m M H H ⟨[], []⟩ [] := ⟨mh, Same.refl _, [], [], rfl, rfl, List.nodup_nil, fun a ha => nomatch ha⟩
theorem ev_user (c : Callee X.prog X.w X.K X.mg X.base T x false k n sem) (hr : Room k X.A) (hg : Gl X x) (tk : Takes X W) (ha : PAs X T W (e :: es) fs)
    (hdb : (x == ("__debug__" : Str)) = false := by decide) (he : starEach (e :: es) X.env = (false, eval e X.env) :: starEach es X.env := by rfl) (hpl : (backTo pos (starEach es X.env)).any (·.1) = false := by rfl) :
    PEv X T W (.Call (.Name x p) (e :: es) [] pos) (pUser n sem fs) := by
  obtain ⟨f, fd, ps, F, hm, hk, hb⟩ := c
  refine PE.wk (pe_callS F hr hg hm hk hb (fun σ => passAt tk σ) ha hdb he hpl) ?_
  rintro σ H Q ⟨s, m, M, G, R, q⟩
  refine ⟨s, m, M, G, R, ?_⟩
  revert q
  unfold pUser PR.bind
  cases fs s with
  | ok ds =>
    intro q ys H1 M1 g1 r1
    dsimp only at q
    by_cases hl : ds.length = n
    · rw [if_pos hl] at q
      refine ⟨ds, [], m, M1, H1, by rw [r1.length]; exact hl, r1, rel_pure g1.mh, (fun h => nomatch h), ?_⟩
      have grow : ∀ {m' : List Addr} {M' H' : Hp} {r : Slot} {st' : List Ob} {σ' : L2.St}, Ext false H1 m M1 m' M' → Rel X.K T m' M' H1 H' ⟨[r], st'⟩ σ' → m' = m ∧ Grow H1 M1 H' M' := fun e' R' => ⟨e'.nl rfl, R'.gh, e'.mm, R'.mh, e'.new⟩
      cases hs : sem ds [] with
      | ok r st' =>
        rw [hs] at q
        intro y H' m' M' e' a' R'
        obtain ⟨em, g2⟩ := grow e' R'
        subst em
        obtain ⟨mh, gh, ⟨f1, f2, h1, h2, nd, dj⟩⟩ := R'
        obtain ⟨f3, f4, ef, h3, h4⟩ := h1
        cases r with
        | un => exact q.elim
        | hid _ => exact q.elim
        | v d =>
          obtain ⟨_, y', ey, hd⟩ := h3
          cases ey
          exact q y H' M' (g1.trans g2) hd
        | own d =>
          obtain ⟨b, ob, ef3, ey, hb', hd⟩ := h3
          cases ey
          have dja := dj b (by simp [ef, ef3])
          refine q (.ref b) H' M' (g1.trans g2) ⟨b, ob, rfl, hb', hd, dja.1, ?_⟩
          exact g1.same.free dja.2
      | exc x st' =>
        rw [hs] at q
        intro cls d H' m' M' e' a' R' xr
        have em := e'.nl rfl
        subst em
        have g2 : Grow H1 M1 H' M' := ⟨R'.gh, e'.mm, R'.mh, e'.new⟩
        exact q cls d H' M' (g1.trans g2) xr
      | stuck => rw [hs] at q; exact q
    · rw [if_neg hl] at q
      exact q.elim
  | exc e => intro q; exact q
  | stuck => intro q; exact q
end

/-! ### expressions that may change objects: the result stands ahead of the slots -/
inductive Fe where
  | ok (r : Slot) (s : Sta) | exc (e : Ex) (s : Sta) | stuck
section
variable (X : Cx) (T : Tab) (W : WX)
def FeP (al : Bool) (G : Hp) (m : List Addr) (M : Hp) (σ : L2.St) (Q : VK) : Fe → Prop
  | .ok r s' => ∀ y H' m' M', Ext al G m M m' M' → AL al m' s' → Rel X.K T m' M' G H' ⟨r :: s'.env, s'.st⟩ (some y :: σ) → Q y H'
  | .exc e s' => ∀ cls d H' m' M', Ext al G m M m' M' → AL al m' s' → Rel X.K T m' M' G H' s' σ → ExR X.K T m' M' H' e cls d → W cls d σ H'
  | .stuck => False
def tF (al : Bool) (g : Sta → Fe) : TE := fun σ H Q => ∃ s m M G, Rel X.K T m M G H s σ ∧ AL al m s ∧ FeP X T W al G m M σ Q (g s)
abbrev FEv (al : Bool) (e : Expr) (g : Sta → Fe) : Prop := PE X e (tF X T W al g)
end
section
variable {X : Cx} {T : Tab} {W : WX} {al : Bool} {G : Hp} {m m' : List Addr} {M M' H H' : Hp}
theorem Rel.consU {s : Sta} {σ : L2.St} (R : Rel X.K T m M G H s σ) : Rel X.K T m M G H ⟨.un :: s.env, s.st⟩ (Option.none :: σ) := by
  obtain ⟨mh, gh, ⟨f1, f2, h1, h2, nd, dj⟩⟩ := R
  exact ⟨mh, gh, f1, f2, ⟨[], f1, rfl, rfl, h1⟩, h2, nd, dj⟩
theorem Rel.tail {r : Slot} {env : List Slot} {st : List Ob} {y : Option V} {σ : L2.St} (R : Rel X.K T m M G H ⟨r :: env, st⟩ (y :: σ)) : Rel X.K T m M G H ⟨env, st⟩ σ := by
  obtain ⟨mh, gh, ⟨f1, f2, h1, h2, nd, dj⟩⟩ := R
  obtain ⟨g1, g2, e, h3, h4⟩ := h1
  subst e
  have sub : (g2 ++ f2).Sublist ((g1 ++ g2) ++ f2) := List.Sublist.append (List.sublist_append_right _ _) (List.Sublist.refl _)
  exact ⟨mh, gh, g2, f2, h4, h2, nd.sublist sub, fun a ha => dj a (sub.subset ha)⟩
theorem SlotR.fpu {K : PySem.W.Frag} {sl : Slot} {y : Option V} {fa fb : List Addr} (p : SlotR K m M H sl y fa) (q : SlotR K m M H sl y fb) : fa = fb := by
  cases sl with
  | un => rw [show fa = [] from p, show fb = [] from q]
  | v d => rw [p.1, q.1]
  | own d =>
    obtain ⟨a, o, e, ex, _⟩ := p
    obtain ⟨b, o', e', ex', _⟩ := q
    rw [ex] at ex'
    cases ex'
    rw [e, e']
  | hid a => rw [p.1, q.1]
theorem SlotsR.fpu {K : PySem.W.Frag} : ∀ {s : List Slot} {x : List (Option V)} {fa fb : List Addr}, SlotsR K m M H s x fa → SlotsR K m M H s x fb → fa = fb
  | [], [], _, _, p, q => by rw [show _ = [] from p, show _ = [] from q]
  | s :: ss, x :: xs, fa, fb, p, q => by
    obtain ⟨p1, p2, ep, p3, p4⟩ := p
    obtain ⟨q1, q2, eq, q3, q4⟩ := q
    rw [ep, eq, SlotR.fpu p3 q3, SlotsR.fpu p4 q4]
  | [], _ :: _, _, _, p, _ => p.elim
  | _ :: _, [], _, _, p, _ => p.elim
theorem FsR.fpu {K : PySem.W.Frag} {nm : Nat → Str} : ∀ {s : List (Nat × Slot)} {x : List (Str × V)} {fa fb : List Addr}, FsR K nm m M H s x fa → FsR K nm m M H s x fb → fa = fb
  | [], [], _, _, p, q => by rw [show _ = [] from p, show _ = [] from q]
  | (i, s) :: ss, (x, v) :: xs, fa, fb, p, q => by
    obtain ⟨p1, p2, ep, _, p3, p4⟩ := p
    obtain ⟨q1, q2, eq, _, q3, q4⟩ := q
    rw [ep, eq, SlotR.fpu p3 q3, FsR.fpu p4 q4]
  | [], _ :: _, _, _, p, _ => p.elim
  | _ :: _, [], _, _, p, _ => p.elim
theorem StoreR.fpu {K : PySem.W.Frag} : ∀ {s : List Ob} {as : List Addr} {fa fb : List Addr}, StoreR K T m M H s as fa → StoreR K T m M H s as fb → fa = fb
  | [], _, _, _, p, q => by rw [show _ = [] from p, show _ = [] from q]
  | ob :: obs, a :: as, fa, fb, p, q => by
    obtain ⟨p1, p2, ep, ⟨dx, fs, f, e1, e2, e3⟩, p4⟩ := p
    obtain ⟨q1, q2, eq, ⟨dx', fs', f', e1', e2', e3'⟩, q4⟩ := q
    rw [e2] at e2'
    have e6 : fs = fs' := by
      injection e2' with e2'
      injection e2'
    subst e6
    rw [ep, eq, e1, e1', FsR.fpu e3 e3', StoreR.fpu p4 q4]
  | _ :: _, [], _, _, p, _ => p.elim
/-- the result goes to a name -/
theorem Rel.move {r : Slot} {env : List Slot} {st : List Ob} {y : Option V} {σ : L2.St} (R : Rel X.K T m M G H ⟨r :: env, st⟩ (y :: σ)) (i : Nat) : Rel X.K T m M G H ⟨env.set i r, st⟩ (σ.set i y) := by
  have R2 := R.tail
  obtain ⟨mh, gh, ⟨f1, f2, h1, h2, nd, dj⟩⟩ := R
  obtain ⟨g1, g2, e, h3, h4⟩ := h1
  subst e
  have nd' := List.nodup_append.mp (show (g1 ++ (g2 ++ f2)).Nodup by rw [← List.append_assoc]; exact nd)
  refine R2.setAny i h3 nd'.1 fun a ha => ⟨fun k1 k2 p1 p2 hm => ?_, dj a (by simp [ha])⟩
  rw [SlotsR.fpu p1 h4, StoreR.fpu p2 h2] at hm
  exact nd'.2.2 a ha a hm rfl
/-- .. or is returned -/
theorem Rel.ret {r : Slot} {env : List Slot} {st : List Ob} {y : Option V} {σ : L2.St} (R : Rel X.K T m M G H ⟨r :: env, st⟩ (y :: σ)) : Rel X.K T m M G H ⟨[r], st⟩ [y] := by
  obtain ⟨mh, gh, ⟨f1, f2, h1, h2, nd, dj⟩⟩ := R
  obtain ⟨g1, g2, e, h3, h4⟩ := h1
  subst e
  have sub : (g1 ++ f2).Sublist ((g1 ++ g2) ++ f2) := List.Sublist.append (List.sublist_append_left _ _) (List.Sublist.refl _)
  exact ⟨mh, gh, g1, f2, ⟨g1, [], by simp, h3, rfl⟩, h2, nd.sublist sub, fun a ha => dj a (sub.subset ha)⟩

variable {e o : Expr} {es : List Expr} {pos p : Pos} {f : Sta → PR RV} {g : Sta → Fe} {g1 g2 : Sta → Fl}
def Fe.fl (x : Fe) (k : Slot → Sta → Fl) : Fl := match x with
  | .ok r s => k r s
  | .exc e s => .exc e s
  | .stuck => .stuck
theorem tF_fl {k : Slot → Sta → Fl} {Dn : Ends} {σ : L2.St} {Q : VK} {s : Sta} (R : Rel X.K T m M G H s σ) (a : AL al m s) (q : FlP X T W al G m M Dn ((g s).fl k))
    (h : ∀ r s' y H' m' M', Ext al G m M m' M' → AL al m' s' → Rel X.K T m' M' G H' ⟨r :: s'.env, s'.st⟩ (some y :: σ) → FlP X T W al G m' M' Dn (k r s') → Q y H') : tF X T W al g σ H Q := by
  refine ⟨s, m, M, G, R, a, ?_⟩
  unfold Fe.fl at q
  cases hg : g s with
  | ok r s' => rw [hg] at q; exact fun y H' m' M' e' a' R' => h r s' y H' m' M' e' a' R' (FlP.ext q e')
  | exc x s' => rw [hg] at q; exact fun cls d H' m' M' e' a' R' xr => q cls d σ H' m' M' e' a' R' xr
  | stuck => rw [hg] at q; exact q
def sExprF (g : Sta → Fe) : Sta → Fl := fun s => (g s).fl fun _ s' => .nx s'
theorem s_exprF (he : FEv X T W al e g) (hs : swapsWith e none pos.line X.env = pure false := by rfl) : SE1 X T W al (.Expr e pos) (sExprF g) := by
  refine PS.wk (ps_expr he hs) ?_
  rintro D σ H ⟨s, m, M, G, R, a, q⟩
  exact tF_fl (k := fun _ s' => .nx s') R a q fun r s' y H' m' M' e' a' R' k => k σ H' m' M' (Ext.refl ..) a' R'.tail
def sSetF (i : Nat) (g : Sta → Fe) : Sta → Fl := fun s => (g s).fl fun r s' => .nx { s' with env := s'.env.set i r }
theorem s_setF {i : Nat} {x : Str} {pos' : Pos} (hN : X.N.Nodup) (hi : X.N[i]? = some x) (hx : Loc X.env.scope x) (he : FEv X T W al e g) (hs : swapsWith e (some (.Name x pos')) pos.line X.env = pure false := by rfl) (hf : X.fn x = true ∨ X.env.scope.names.lookup x = some .local := by first | exact .inl rfl | exact .inr rfl | assumption) :
    SE1 X T W al (.Assign [.Name x pos'] e pos) (sSetF i g) := by
  refine PS.wk (ps_set hN hi hx he hs hf) ?_
  rintro D σ H ⟨s, m, M, G, R, a, q⟩
  exact tF_fl (k := fun r s' => .nx { s' with env := s'.env.set i r }) R a q fun r s' y H' m' M' e' a' R' k => k _ H' m' M' (Ext.refl ..) a' (R'.move i)
def sRetF (g : Sta → Fe) : Sta → Fl := fun s => (g s).fl fun r s' => .ret r s'
theorem s_retF (he : FEv X T W al e g) : SE1 X T W al (.Return (some e) pos) (sRetF g) := by
  refine PS.wk (ps_ret he) ?_
  rintro D σ H ⟨s, m, M, G, R, a, q⟩
  exact tF_fl (k := fun r s' => .ret r s') R a q fun r s' y H' m' M' e' a' R' k => k y H' m' M' (Ext.refl ..) a' R'.ret
def sIfF (g : Sta → Fe) (g1 g2 : Sta → Fl) : Sta → Fl := fun s => (g s).fl fun r s' => match r with
  | .v (.bool b) => if b then g1 s' else g2 s'
  | _ => .stuck
theorem Rel.head {K : PySem.W.Frag} {d : D} {env : List Slot} {st : List Ob} {y : V} {σ : L2.St} (R : Rel K T m M G H ⟨.v d :: env, st⟩ (some y :: σ)) : DR K m M y d := by
  obtain ⟨mh, gh, ⟨f1, f2, h1, h2, nd, dj⟩⟩ := R
  obtain ⟨g1, g2, e, ⟨_, y', ey, hd⟩, h4⟩ := h1
  cases ey
  exact hd
theorem s_ifF {A B : List Stmt} (he : FEv X T W al e g) (ha : SEv X T W al A g1) (hb : SEv X T W al B g2) (hw : ∀ whole, isTrue e X.env whole = (do let v ← whole; standAt e.pos; holding [v] (truthy v)) := by intro _; rfl) :
    SE1 X T W al (.If e A B pos) (sIfF g g1 g2) := by
  refine PS.wk (ps_if (pt_val he hw) ha hb) ?_
  rintro D σ H ⟨s, m, M, G, R, a, q⟩
  refine tF_fl (k := fun r s' => match r with | .v (.bool b) => if b then g1 s' else g2 s' | _ => .stuck) R a q fun r s' y H' m' M' e' a' R' k => ?_
  split at k
  · rename_i b
    have hd := R'.head
    cases hd
    refine ⟨b, rfl, ?_⟩
    cases b with
    | true => exact ⟨s', m', M', G, R'.tail, a', k⟩
    | false => exact ⟨s', m', M', G, R'.tail, a', k⟩
  · exact k.elim
/-- an expression that changes nothing, as one that may -/
def fP (f : Sta → PR RV) : Sta → Fe := fun s => match f s with
  | .ok r => match r.slot with
    | .ok sl => .ok sl s
    | _ => .stuck
  | .exc e => .exc e s
  | .stuck => .stuck
theorem fe_of (h : PEv X T W e f) : FEv X T W al e (fP f) := by
  refine PE.wk h ?_
  rintro σ H Q ⟨s, m, M, G, R, a, q⟩
  refine ⟨s, m, M, G, R, ?_⟩
  unfold fP at q
  cases hf : f s with
  | ok r =>
    rw [hf] at q
    intro y H' M' g rr
    cases hs : r.slot with
    | ok sl =>
      simp only [hs] at q
      exact q y H' m M' (Ext.grow g R.gh) a (R.consU.setRV g rr hs 0)
    | exc e => exact (slot_ne hs).elim
    | stuck => simp only [hs] at q; exact q.elim
  | exc x => rw [hf] at q; exact fun cls d H' M' g xr => q cls d H' m M' (Ext.grow g R.gh) a (R.grow g) xr
  | stuck => rw [hf] at q; exact q

/-! ### the caller's state around a call -/
/-- what a callee must leave: all but the objects of the store -/
def guard (H : Hp) (f : List Addr) : Hp := fun b => if b ∈ f then Option.none else H b
theorem guard_off {H : Hp} {f : List Addr} {b : Addr} (h : b ∉ f) : guard H f b = H b := if_neg h
theorem guard_in {H : Hp} {f : List Addr} {b : Addr} (h : b ∈ f) : guard H f b = Option.none := if_pos h
/-- into a callee and back -/
theorem Rel.enter {s : Sta} {σ : L2.St} (R : Rel X.K T m M G H s σ) : ∃ Gc, Rel X.K T m M Gc H ⟨[], s.st⟩ [] ∧
    (∀ {m' : List Addr} {M' H' : Hp} {env' : List Slot} {st' : List Ob} {σ' : L2.St}, Ext al Gc m M m' M' → Rel X.K T m' M' Gc H' ⟨env', st'⟩ σ' → Ext al G m M m' M' ∧ Rel X.K T m' M' G H' ⟨env' ++ s.env, st'⟩ (σ' ++ σ)) := by
  obtain ⟨mh, gh, ⟨f1, f2, h1, h2, nd, dj⟩⟩ := R
  have nd' := List.nodup_append.mp nd
  refine ⟨guard H f2, ⟨mh, fun b o e => ?_, [], f2, rfl, h2, nd'.2.1, fun a ha => ⟨(dj a (by simpa using .inr ha)).1, guard_in (by simpa using ha)⟩⟩, fun {m' M' H' env' st' σ'} e' R' => ?_⟩
  · by_cases hb : b ∈ f2
    · rw [guard_in hb] at e; cases e
    · rw [guard_off hb] at e; exact e
  · obtain ⟨mh', gh', ⟨k1, k2, p1, p2, nd2, dj2⟩⟩ := R'
    have gG : ∀ b, guard H f2 b = Option.none → G b = Option.none := fun b hb => by
      by_cases hm : b ∈ f2
      · exact (dj b (by simp [hm])).2
      · rw [guard_off hm] at hb
        exact gh.free hb
    have gGH : Same G H' := fun b o e => gh' b o (by
      by_cases hm : b ∈ f2
      · rw [(dj b (by simp [hm])).2] at e; cases e
      · rw [guard_off hm]; exact gh _ _ e)
    have same1 : ∀ a ∈ f1, H' a = H a := fun a ha => by
      obtain ⟨o, ho⟩ := h1.here a ha
      have hn : a ∉ f2 := fun z => nd'.2.2 a ha a z rfl
      rw [ho]
      exact gh' a o (by rw [guard_off hn]; exact ho)
    have off1 : ∀ a ∈ f1, a ∉ k1 ++ k2 := fun a ha hm => by
      obtain ⟨o, ho⟩ := h1.here a ha
      have hn : a ∉ f2 := fun z => nd'.2.2 a ha a z rfl
      have := (dj2 a hm).2
      rw [guard_off hn, ho] at this
      cases this
    refine ⟨⟨e'.ml, e'.nl, e'.mm, fun b o hb => (e'.new b o hb).imp_right (gG b)⟩, mh', gGH, k1 ++ f1, k2, ?_, p2, ?_, fun a ha => ?_⟩
    · have sl : ∀ {s1 : List Slot} {x1 : List (Option V)} {q1 : List Addr}, SlotsR X.K m' M' H' s1 x1 q1 → SlotsR X.K m' M' H' (s1 ++ s.env) (x1 ++ σ) (q1 ++ f1) := by
        intro s1
        induction s1 with
        | nil =>
          intro x1 q1 hq
          cases x1 with
          | nil =>
            have : q1 = [] := hq
            subst this
            exact h1.mono e'.ml e'.mm same1
          | cons _ _ => exact hq.elim
        | cons s1 ss ih =>
          intro x1 q1 hq
          cases x1 with
          | nil => exact hq.elim
          | cons x xs =>
            obtain ⟨a1, a2, ea, b1, b2⟩ := hq
            exact ⟨a1, a2 ++ f1, by rw [ea, List.append_assoc], b1, ih b2⟩
      exact sl p1
    · have perm : List.Perm ((k1 ++ f1) ++ k2) (f1 ++ (k1 ++ k2)) := by
        rw [List.append_assoc]
        exact List.perm_append_comm_assoc k1 f1 k2
      rw [perm.nodup_iff, List.nodup_append]
      exact ⟨nd'.1, nd2, fun a ha b hb e => off1 a ha (by rw [e]; exact hb)⟩
    · simp only [List.mem_append] at ha
      have inner : a ∈ k1 ++ k2 → M' a = Option.none ∧ G a = Option.none := fun h => ⟨(dj2 a h).1, gG a (dj2 a h).2⟩
      rcases ha with (ha | ha) | ha
      · exact inner (by simp [ha])
      · refine ⟨?_, (dj a (by simp [ha])).2⟩
        cases hM : M' a with
        | none => rfl
        | some o =>
          rcases e'.new a o hM with z | z
          · rw [(dj a (by simp [ha])).1] at z; cases z
          · obtain ⟨o', ho⟩ := h1.here a ha
            have hn : a ∉ f2 := fun z => nd'.2.2 a ha a z rfl
            rw [guard_off hn, ho] at z
            cases z
      · exact inner (by simp [ha])
def Fr.fe (x : Fr) (s : Sta) : Fe := match x with
  | .ok r st => .ok r { s with st := st }
  | .exc e st => .exc e { s with st := st }
  | .stuck => .stuck
/-- the promise of a callee, from the caller's state -/
theorem spF_of {K : PySem.W.Frag} (hK : X.K = K) {n : Nat} {sem : Sem} {s : Sta} {σ : L2.St} {vs : List V} {ds : List D} {Q : VK} (R : Rel X.K T m M G H s σ) (a : AL al m s) (hl : vs.length = n) (r : DRs X.K m M vs ds) (q : FeP X T W al G m M σ Q ((sem ds s.st).fe s)) :
    spF K T al n sem vs H Q (WE W σ) := by
  subst hK
  obtain ⟨Gc, Rc, back⟩ := R.enter (al := al)
  refine ⟨ds, s.st, m, M, Gc, hl, r, Rc, a, ?_⟩
  unfold Fr.fe at q
  cases hs : sem ds s.st with
  | ok r st' =>
    rw [hs] at q
    intro y H' m' M' e' a' R'
    obtain ⟨e2, R2⟩ := back e' R'
    exact q y H' m' M' e2 a' R2
  | exc x st' =>
    rw [hs] at q
    intro cls d H' m' M' e' a' R' xr
    obtain ⟨e2, R2⟩ := back e' R'
    exact q cls d H' m' M' e2 a' R2 xr
  | stuck => rw [hs] at q; exact q
variable {fs : Sta → PR (List D)} {k n : Nat} {sem : Sem} {x : Str}
theorem tAs_fe {kk : Sta → List D → Fe} {σ : L2.St} {Q : VK} {R2 : List V → Hp → Prop} {s : Sta} (R : Rel X.K T m M G H s σ) (a : AL al m s) (q : FeP X T W al G m M σ Q (match fs s with | .ok ds => kk s ds | .exc e => .exc e s | .stuck => .stuck))
    (h : ∀ ds ys H' M', Grow H M H' M' → DRs X.K m M' ys ds → FeP X T W al G m M' σ Q (kk s ds) → R2 ys H') : tAs X T W fs σ H R2 := by
  refine ⟨s, m, M, G, R, ?_⟩
  cases hf : fs s with
  | ok ds =>
    rw [hf] at q
    intro ys H' M' g r
    refine h ds ys H' M' g r ?_
    have e0 := Ext.grow (al := al) (m := m) g R.gh
    revert q
    dsimp only
    cases kk s ds with
    | ok r s' => intro q y H2 m2 M2 e2; exact q y H2 m2 M2 (e0.trans e2)
    | exc x s' => intro q cls d H2 m2 M2 e2; exact q cls d H2 m2 M2 (e0.trans e2)
    | stuck => intro q; exact q
  | exc x => rw [hf] at q; exact fun cls d H' M' g xr => q cls d H' m M' (Ext.grow g R.gh) a (R.grow g) xr
  | stuck => rw [hf] at q; exact q
/-- f(..), with the objects -/
def fUser (n : Nat) (sem : Sem) (fs : Sta → PR (List D)) : Sta → Fe := fun s => match fs s with
  | .ok ds => if ds.length = n then (sem ds s.st).fe s else .stuck
  | .exc e => .exc e s
  | .stuck => .stuck
theorem fe_user (c : Callee X.prog X.w X.K X.mg X.base T x al k n sem) (hr : Room k X.A) (hg : Gl X x) (tk : Takes X W) (ha : PAs X T W (e :: es) fs)
    (hdb : (x == ("__debug__" : Str)) = false := by decide) (he : starEach (e :: es) X.env = (false, eval e X.env) :: starEach es X.env := by rfl) (hpl : (backTo pos (starEach es X.env)).any (·.1) = false := by rfl) :
    FEv X T W al (.Call (.Name x p) (e :: es) [] pos) (fUser n sem fs) := by
  obtain ⟨f, fd, ps, F, hm, hk, hb⟩ := c
  refine PE.wk (pe_callS F hr hg hm hk hb (fun σ => passAt tk σ) ha hdb he hpl) ?_
  rintro σ H Q ⟨s, m, M, G, R, a, q⟩
  refine tAs_fe (kk := fun s ds => if ds.length = n then (sem ds s.st).fe s else .stuck) R a q fun ds ys H' M' g r k => ?_
  by_cases hl : ds.length = n
  · rw [if_pos hl] at k
    exact spF_of rfl (R.grow g) a (by rw [r.length]; exact hl) r k
  · rw [if_neg hl] at k
    exact k.elim
end
end MP

/-! MP 7: objects with attributes. -/
namespace MP
open PySem PySem.Spec PyProof.Rows L2

/-- names by a table -/
def nmOf (l : List Str) (i : Nat) : Str := match l[i]? with
  | some x => x
  | none => ⟨Array.replicate (i + 1000) 97⟩
theorem nmOf_inj {l : List Str} (h : l.Nodup) (hs : ∀ x ∈ l, x.cps.size < 1000) : ∀ i j, nmOf l i = nmOf l j → i = j := by
  intro i j e
  unfold nmOf at e
  cases hi : l[i]? with
  | none =>
    cases hj : l[j]? with
    | none =>
      simp only [hi, hj] at e
      have := congrArg (fun x : Str => x.cps.size) e
      simp at this
      exact this
    | some y =>
      simp only [hi, hj] at e
      have := hs y (List.mem_of_getElem? hj)
      rw [← e] at this
      simp at this
      omega
  | some x =>
    cases hj : l[j]? with
    | none =>
      simp only [hi, hj] at e
      have := hs x (List.mem_of_getElem? hi)
      rw [e] at this
      simp at this
      omega
    | some y =>
      simp only [hi, hj] at e
      subst e
      exact nodup_ix h hi hj
theorem nmOf_ne {l : List Str} {x : Str} (h : x ∉ l) (hs : x.cps.size < 1000) : ∀ i, nmOf l i ≠ x := by
  intro i e
  unfold nmOf at e
  cases hi : l[i]? with
  | none =>
    simp only [hi] at e
    rw [← e] at hs
    simp at hs
    omega
  | some y =>
    simp only [hi] at e
    subst e
    exact h (List.mem_of_getElem? hi)

def putO (f : Nat) (s : Slot) : List (Nat × Slot) → List (Nat × Slot)
  | [] => [(f, s)]
  | (g, x) :: r => if g = f then (g, s) :: r else (g, x) :: putO f s r

section
variable {K : PySem.W.Frag} {T : Tab} {m m' : List Addr} {M M' G H H' : Hp}
theorem FsR.look : ∀ {s : List (Nat × Slot)} {x : List (Str × V)} {fp : List Addr} {f : Nat} {sl : Slot}, FsR K T.nm m M H s x fp → s.lookup f = some sl → ∃ v g, x.lookup (T.nm f) = some v ∧ SlotR K m M H sl (some v) g ∧ ∀ a ∈ g, a ∈ fp
  | [], [], _, _, _, _, e => by cases e
  | (i, s) :: ss, (x, v) :: xs, fp, f, sl, h, e => by
    obtain ⟨f1, f2, ef, ex, h1, h2⟩ := h
    by_cases hf : f = i
    · subst hf
      have e' : s = sl := by simpa [List.lookup] using e
      subst e'
      subst ex
      exact ⟨v, f1, by simp [List.lookup], h1, fun a ha => by rw [ef]; exact List.mem_append_left _ ha⟩
    · have hb : (f == i) = false := beq_eq_false_iff_ne.mpr hf
      have e' : ss.lookup f = some sl := by simpa only [List.lookup, hb] using e
      obtain ⟨v', g, e1, e2, e3⟩ := FsR.look h2 e'
      refine ⟨v', g, ?_, e2, fun a ha => by rw [ef]; exact List.mem_append_right _ (e3 a ha)⟩
      have hb2 : (T.nm f == x) = false := beq_eq_false_iff_ne.mpr fun z => hf (T.inj _ _ (z.trans ex))
      simp only [List.lookup, hb2]
      exact e1
  | [], _ :: _, _, _, _, h, _ => h.elim
  | _ :: _, [], _, _, _, h, _ => h.elim
theorem FsR.noName {x0 : Str} (hx : ∀ i, T.nm i ≠ x0) : ∀ {s : List (Nat × Slot)} {x : List (Str × V)} {fp : List Addr}, FsR K T.nm m M H s x fp → x.lookup x0 = Option.none
  | [], [], _, _ => rfl
  | (i, s) :: ss, (x, v) :: xs, fp, h => by
    obtain ⟨f1, f2, ef, ex, h1, h2⟩ := h
    have hb : (x0 == x) = false := beq_eq_false_iff_ne.mpr fun z => hx i (by rw [z, ex])
    simp only [List.lookup, hb]
    exact FsR.noName hx h2
  | [], _ :: _, _, h => h.elim
  | _ :: _, [], _, h => h.elim
theorem FsR.length : ∀ {s : List (Nat × Slot)} {x : List (Str × V)} {fp : List Addr}, FsR K T.nm m M H s x fp → x.length = s.length
  | [], [], _, _ => rfl
  | (i, s) :: ss, (x, v) :: xs, fp, h => by
    obtain ⟨f1, f2, ef, ex, h1, h2⟩ := h
    simp [FsR.length h2]
  | [], _ :: _, _, h => h.elim
  | _ :: _, [], _, h => h.elim
/-- an attribute stored -/
theorem FsR.put {f : Nat} {sl : Slot} {v : V} {g : List Addr} (hm : MLe m m') (mm : Same M M') (hs : SlotR K m' M' H' sl (some v) g) : ∀ {s : List (Nat × Slot)} {x : List (Str × V)} {fp : List Addr}, FsR K T.nm m M H s x fp → (∀ a ∈ fp, H' a = H a) →
    ∃ k1 k2, List.Perm fp (k1 ++ k2) ∧ ∃ fp', List.Perm fp' (g ++ k2) ∧ FsR K T.nm m' M' H' (putO f sl s) (putF (T.nm f) v x) fp'
  | [], [], _, h, _ => by
    have : _ = [] := h
    subst this
    exact ⟨[], [], List.Perm.refl _, g, by simp, g, [], by simp, rfl, hs, rfl⟩
  | (i, s) :: ss, (x, v0) :: xs, fp, h, hh => by
    obtain ⟨f1, f2, ef, ex, h1, h2⟩ := h
    subst ef
    by_cases hf : i = f
    · subst hf
      refine ⟨f1, f2, List.Perm.refl _, g ++ f2, List.Perm.refl _, ?_⟩
      rw [putO, if_pos rfl, putF, if_pos ex]
      exact ⟨g, f2, rfl, ex, hs, h2.mono hm mm fun a ha => hh a (List.mem_append_right _ ha)⟩
    · obtain ⟨k1, k2, p1, fp', p2, q⟩ := FsR.put hm mm hs h2 fun a ha => hh a (List.mem_append_right _ ha)
      refine ⟨k1, f1 ++ k2, ?_, f1 ++ fp', ?_, ?_⟩
      · refine (List.Perm.append_left f1 p1).trans ?_
        exact List.perm_append_comm_assoc f1 k1 k2
      · refine (List.Perm.append_left f1 p2).trans ?_
        exact List.perm_append_comm_assoc f1 g k2
      · rw [putO, if_neg hf, putF, if_neg (fun z => hf (T.inj _ _ (by rw [← ex]; exact z)))]
        exact ⟨f1, fp', rfl, ex, h1.mono hm mm fun a ha => hh a (List.mem_append_left _ ha), q⟩
  | [], _ :: _, _, h, _ => h.elim
  | _ :: _, [], _, h, _ => h.elim
/-- one object of the store, cut out -/
theorem StoreR.split : ∀ {s : List Ob} {as : List Addr} {fp : List Addr} {j : Nat} {ob : Ob}, StoreR K T m M H s as fp → s[j]? = some ob →
    ∃ f0 f1 f2 a, fp = f0 ++ f1 ++ f2 ∧ as[j]? = some a ∧ ObR K T m M H ob a f1 ∧
      ∀ (m' : List Addr) (M' H' : Hp) (ob' : Ob) (f1' : List Addr), MLe m m' → Same M M' → (∀ b ∈ f0 ++ f2, H' b = H b) → ObR K T m' M' H' ob' a f1' → StoreR K T m' M' H' (s.set j ob') as (f0 ++ f1' ++ f2)
  | [], _, _, _, _, _, e => by simp at e
  | s :: ss, [], _, _, _, h, _ => h.elim
  | s :: ss, a :: as, fp, 0, ob, h, e => by
    obtain ⟨f1, f2, ef, h1, h2⟩ := h
    have e' : s = ob := by simpa using e
    subst e'
    refine ⟨[], f1, f2, a, by simp [ef], rfl, h1, fun m' M' H' ob' f1' hm hM hh hs => ?_⟩
    exact ⟨f1', f2, by simp, hs, h2.mono hm (MLe.refl _) hM fun a ha => hh a (by simp [ha])⟩
  | s :: ss, a :: as, fp, j + 1, ob, h, e => by
    obtain ⟨f1, f2, ef, h1, h2⟩ := h
    obtain ⟨g0, g1, g2, y, eg, ey, hy, k⟩ := StoreR.split h2 (j := j) (ob := ob) (by simpa using e)
    refine ⟨f1 ++ g0, g1, g2, y, by simp [ef, eg, List.append_assoc], by simpa using ey, hy, fun m' M' H' ob' f1' hm hM hh hs => ?_⟩
    refine ⟨f1, g0 ++ f1' ++ g2, by simp [List.append_assoc], h1.mono hm hM fun a ha => hh a (by simp [ha]), ?_⟩
    exact k m' M' H' ob' f1' hm hM (fun b hb => hh b (by
      rcases List.mem_append.mp hb with hb | hb
      · simp [hb]
      · simp [hb])) hs
/-- an object of the store -/
theorem Rel.ob {s : Sta} {σ : L2.St} {j : Nat} {ob : Ob} (R : Rel K T m M G H s σ) (e : s.st[j]? = some ob) : ∃ a dx fs f, m[j]? = some a ∧ H a = some (.ins (T.ca ob.cls) dx fs) ∧ FsR K T.nm m M H ob.fs fs f := by
  obtain ⟨mh, gh, ⟨f1, f2, h1, h2, nd, dj⟩⟩ := R
  obtain ⟨g0, g1, g2, a, eg, ea, ⟨dx, fs, f, ef, h3, h4⟩, k⟩ := h2.split e
  exact ⟨a, dx, fs, f, ea, h3, h4⟩
/-- what the class of objects must have -/
structure ClsF (K : PySem.W.Frag) (T : Tab) (c : Nat) (fs : List Nat) : Prop where
  cl : Cls K (T.ca c)
  no : ∀ f ∈ fs, NoAttr K (T.ca c) (T.nm f)
end

section
variable {X : Cx} {T : Tab} {W : WX} {al : Bool} {G : Hp} {m m' : List Addr} {M M' H H' : Hp} {e o : Expr} {es : List Expr} {pos p : Pos} {fo : Sta → PR RV}
/-- o.f -/
def RV.ob (c : Nat) (st : List Ob) (r : RV) : PR (Nat × Ob) := match r.d with
  | .obj j => match st[j]? with
    | some ob => if ob.cls = c then .ok (j, ob) else .stuck
    | none => .stuck
  | _ => .stuck
def pFld (c f : Nat) (fo : Sta → PR RV) : Sta → PR RV := fun s => (fo s).bind fun r => (r.ob c s.st).bind fun jo => PR.of ((jo.2.fs.lookup f).bind Slot.look)
theorem RV.ob_ok {c : Nat} {st : List Ob} {r : RV} {j : Nat} {ob : Ob} (h : r.ob c st = .ok (j, ob)) : r.d = .obj j ∧ st[j]? = some ob ∧ ob.cls = c := by
  unfold RV.ob at h
  split at h
  · rename_i j' hd
    split at h
    · rename_i ob' ho
      by_cases hc : ob'.cls = c
      · rw [if_pos hc] at h
        cases h
        exact ⟨hd, ho, hc⟩
      · rw [if_neg hc] at h
        cases h
    · cases h
  · cases h
theorem RV.ob_ne {c : Nat} {st : List Ob} {r : RV} {e : Ex} (h : r.ob c st = .exc e) : False := by
  unfold RV.ob at h
  split at h
  · split at h
    · split at h <;> cases h
    · cases h
  · cases h
theorem Arg.obj {K : PySem.W.Frag} {y : V} {j : Nat} (h : Arg K m M H y (.obj j)) : ∃ a, y = .ref a ∧ m[j]? = some a := by
  rcases h with h | ⟨a, o, rfl, h2, h3⟩
  · cases h with
    | obj h => exact ⟨_, rfl, h⟩
  · cases h3
theorem SlotR.rr {K : PySem.W.Frag} {sl : Slot} {v : V} {g : List Addr} {r : RV} (h : SlotR K m M H sl (some v) g) (e : sl.look = some r) : RR K m M H H v r := by
  cases sl with
  | un => cases e
  | v d =>
    cases e
    obtain ⟨_, y, ey, hd⟩ := h
    cases ey
    exact hd
  | own d =>
    cases e
    obtain ⟨a, o, _, ey, hb, hd⟩ := h
    cases ey
    exact ⟨a, o, rfl, hb, hd⟩
  | hid a => cases e
theorem ev_fld {c f : Nat} {fs : List Nat} {x : Str} (C : ClsF X.K T c fs) (hf : f ∈ fs) (hx : T.nm f = x) (ho : PEv X T W o fo) (hb : attributeBase o x X.env (eval o X.env) = eval o X.env := by rfl) : PEv X T W (.Attribute o x pos) (pFld c f fo) := by
  subst hx
  refine PE.wk (pe_fld ho hb) ?_
  rintro σ H Q ⟨s, m, M, G, R, q⟩
  refine ⟨s, m, M, G, R, ?_⟩
  revert q
  unfold pFld PR.bind
  cases fo s with
  | ok r =>
    intro q y H1 M1 g1 rr
    dsimp only at q
    cases hr : r.ob c s.st with
    | ok jo =>
      obtain ⟨j, ob⟩ := jo
      simp only [hr] at q
      obtain ⟨h1, h2, h3⟩ := RV.ob_ok hr
      subst h3
      cases hl : (ob.fs.lookup f).bind Slot.look with
      | none => rw [hl] at q; exact q.elim
      | some r2 =>
        rw [hl] at q
        have R1 := R.grow g1
        obtain ⟨a, dx, fs', ff, e1, e2, e3⟩ := R1.ob h2
        have aa := rr.arg
        rw [h1] at aa
        obtain ⟨a', rfl, e4⟩ := aa.obj
        rw [e1] at e4
        cases e4
        cases hs : ob.fs.lookup f with
        | none => rw [hs] at hl; cases hl
        | some sl =>
          rw [hs] at hl
          obtain ⟨v, g, e5, e6, _⟩ := e3.look hs
          exact ⟨a, _, dx, fs', v, rfl, e2, C.cl, C.no f hf, e5, q v H1 M1 g1 ((e6.rr hl).since g1.same)⟩
    | exc e => exact (RV.ob_ne hr).elim
    | stuck => simp only [hr] at q
  | exc e => intro q; exact q
  | stuck => intro q; exact q

/-- the store with one attribute changed -/
def setF (st : List Ob) (j : Nat) (ob : Ob) (f : Nat) (sl : Slot) : List Ob := st.set j { ob with fs := putO f sl ob.fs }
theorem Rel.putF {s : Sta} {σ : L2.St} {j f : Nat} {ob : Ob} {a dx : Addr} {fs : List (Str × V)} {r : Slot} {y : V} (R : Rel X.K T m M G H ⟨r :: s.env, s.st⟩ (some y :: σ)) (e : s.st[j]? = some ob) (ea : m[j]? = some a) (eh : H a = some (.ins (T.ca ob.cls) dx fs)) :
    Rel X.K T m M G (upd H a (.ins (T.ca ob.cls) dx (L2.putF (T.nm f) y fs))) { s with st := setF s.st j ob f r } σ := by
  obtain ⟨mh, gh, ⟨f1, f2, h1, h2, nd, dj⟩⟩ := R
  obtain ⟨u1, u2, eu, hr, h1⟩ := h1
  obtain ⟨g0, g1, g2, a', eg, ea', ⟨dx', fs', ff, ef, h3, h4⟩, k⟩ := h2.split e
  rw [ea] at ea'
  cases ea'
  rw [eh] at h3
  cases h3
  subst eu eg ef
  have dja := dj a (by simp)
  -- a stands once in the footprint
  have nd1 : (a :: ((u1 ++ u2) ++ (g0 ++ (ff ++ g2)))).Nodup := by
    refine (List.Perm.nodup_iff ?_).mp nd
    have : ((u1 ++ u2) ++ (g0 ++ a :: ff ++ g2)) = (u1 ++ u2 ++ g0) ++ a :: (ff ++ g2) := by simp
    rw [this]
    refine List.perm_middle.trans ?_
    simp
  have na : ∀ b ∈ (u1 ++ u2) ++ (g0 ++ (ff ++ g2)), b ≠ a := fun b hb z => (List.nodup_cons.mp nd1).1 (by rw [← z]; exact hb)
  have off : ∀ b ∈ (u1 ++ u2) ++ (g0 ++ (ff ++ g2)), upd H a (.ins (T.ca ob.cls) dx (L2.putF (T.nm f) y fs)) b = H b := fun b hb => upd_ne (na b hb)
  have hr' : SlotR X.K m M (upd H a (.ins (T.ca ob.cls) dx (L2.putF (T.nm f) y fs))) r (some y) u1 := hr.mono (MLe.refl _) (Same.refl _) fun b hb => off b (by simp [hb])
  obtain ⟨k1, k2, p1, fp', p2, hput⟩ := FsR.put (f := f) (MLe.refl m) (Same.refl M) hr' h4 fun b hb => off b (by simp [hb])
  have hst := k m M (upd H a (.ins (T.ca ob.cls) dx (L2.putF (T.nm f) y fs))) { ob with fs := putO f r ob.fs } (a :: fp') (MLe.refl _) (Same.refl _) (fun b hb => off b (by
    rcases List.mem_append.mp hb with hb | hb <;> simp [hb])) ⟨dx, _, fp', rfl, upd_same, hput⟩
  have hMa : M a = Option.none := dja.1
  have hGa : G a = Option.none := dja.2
  have pm : List.Perm (u2 ++ (g0 ++ a :: fp' ++ g2)) (a :: (u1 ++ u2 ++ (g0 ++ (k2 ++ g2)))) := by
    have q1 : List.Perm (u2 ++ (g0 ++ a :: fp' ++ g2)) (u2 ++ (g0 ++ a :: (u1 ++ k2) ++ g2)) := List.Perm.append_left _ (List.Perm.append_right _ (List.Perm.append_left _ (List.Perm.cons _ p2)))
    refine q1.trans ?_
    have e1 : (u2 ++ (g0 ++ a :: (u1 ++ k2) ++ g2)) = (u2 ++ g0) ++ a :: (u1 ++ (k2 ++ g2)) := by simp
    rw [e1]
    refine List.perm_middle.trans (List.Perm.cons _ ?_)
    have e2 : (u1 ++ u2 ++ (g0 ++ (k2 ++ g2))) = u1 ++ ((u2 ++ g0) ++ (k2 ++ g2)) := by simp
    rw [e2]
    exact List.perm_append_comm_assoc (u2 ++ g0) u1 (k2 ++ g2)
  have sub : List.Sublist (u1 ++ u2 ++ (g0 ++ (k2 ++ g2))) (u1 ++ u2 ++ (g0 ++ ((k1 ++ k2) ++ g2))) :=
    List.Sublist.append (List.Sublist.refl _) (List.Sublist.append (List.Sublist.refl _) (List.Sublist.append (List.sublist_append_right _ _) (List.Sublist.refl _)))
  have pm2 : List.Perm (u1 ++ u2 ++ (g0 ++ (ff ++ g2))) (u1 ++ u2 ++ (g0 ++ ((k1 ++ k2) ++ g2))) := List.Perm.append_left _ (List.Perm.append_left _ (List.Perm.append_right _ p1))
  have mem : ∀ b ∈ u2 ++ (g0 ++ a :: fp' ++ g2), b = a ∨ b ∈ (u1 ++ u2) ++ (g0 ++ (ff ++ g2)) := fun b hb => by
    rcases List.mem_cons.mp (pm.mem_iff.mp hb) with z | z
    · exact .inl z
    · exact .inr (pm2.mem_iff.mpr (sub.subset z))
  refine ⟨fun b u e => ?_, fun b u e => ?_, u2, g0 ++ a :: fp' ++ g2, ?_, hst, ?_, fun b hb => ?_⟩
  · rw [upd_ne (fun z => by rw [z, hMa] at e; cases e)]
    exact mh _ _ e
  · rw [upd_ne (fun z => by rw [z, hGa] at e; cases e)]
    exact gh _ _ e
  · exact h1.mono (MLe.refl _) (Same.refl _) fun b hb => off b (by simp [hb])
  · rw [pm.nodup_iff, List.nodup_cons]
    have nd2 := pm2.nodup_iff.mp (List.nodup_cons.mp nd1).2
    exact ⟨fun z => (List.nodup_cons.mp nd1).1 (pm2.mem_iff.mpr (sub.subset z)), nd2.sublist sub⟩
  · rcases mem b hb with rfl | z
    · exact dja
    · refine dj b ?_
      simp only [List.mem_append, List.mem_cons] at z ⊢
      rcases z with z | z | z | z
      · exact .inl z
      · exact .inr (.inl (.inl z))
      · exact .inr (.inl (.inr (.inr z)))
      · exact .inr (.inr z)
/-- o.f = e, o a name or another expression that changes nothing -/
def sFld (c f : Nat) (fo : Sta → PR RV) (g : Sta → Fe) : Sta → Fl := fun s => (g s).fl fun r s' => (fo ⟨r :: s'.env, s'.st⟩).fl s' fun ro => (ro.ob c s'.st).fl s' fun jo =>
  if jo.2.fs.length < 900 then .nx { s' with st := setF s'.st jo.1 jo.2 f r } else .stuck
/-- as above, o the name in slot i -/
def sFldN (c f i : Nat) (g : Sta → Fe) : Sta → Fl := fun s => (g s).fl fun r s' => (pVar i s').fl s' fun ro => (ro.ob c s'.st).fl s' fun jo =>
  if jo.2.fs.length < 900 then .nx { s' with st := setF s'.st jo.1 jo.2 f r } else .stuck
theorem s_fldN {c f i : Nat} {fs : List Nat} {x n : Str} {g : Sta → Fe} {pn pos' : Pos} (C : ClsF X.K T c fs) (hf : f ∈ fs) (hx : T.nm f = x) (ho : PE X (.Name n pn) (tVar i)) (hv : FEv X T W al e g)
    (hs : swapsWith e (some (.Attribute (.Name n pn) x pos')) pos.line X.env = pure false := by rfl) : SE1 X T W al (.Assign [.Attribute (.Name n pn) x pos'] e pos) (sFldN c f i g) := by
  subst hx
  refine PS.wk (ps_fld ho hv hs) ?_
  rintro D σ H ⟨s, m, M, G, R, a, q⟩
  refine tF_fl (k := fun r s' => (pVar i s').fl s' fun ro => (ro.ob c s'.st).fl s' fun jo => if jo.2.fs.length < 900 then .nx { s' with st := setF s'.st jo.1 jo.2 f r } else .stuck) R a q fun r s' y H' m' M' e' a' R' k => ?_
  unfold PR.fl pVar at k
  cases hl : s'.env[i]?.bind Slot.look with
  | none => rw [hl] at k; exact k.elim
  | some ro =>
    rw [hl] at k
    simp only [PR.of] at k
    obtain ⟨yo, ey, rr⟩ := R'.tail.look hl
    cases hr : ro.ob c s'.st with
    | ok jo =>
      obtain ⟨j, ob⟩ := jo
      simp only [hr] at k
      obtain ⟨h1, h2, h3⟩ := RV.ob_ok hr
      subst h3
      have aa := rr.arg
      rw [h1] at aa
      obtain ⟨b, rfl, e4⟩ := aa.obj
      obtain ⟨b', dx, fs', ff, e1, e2, e3⟩ := R'.tail.ob h2
      rw [e4] at e1
      cases e1
      by_cases hlen : ob.fs.length < 900
      · rw [if_pos hlen] at k
        refine ⟨_, ey, b, _, dx, fs', rfl, e2, C.cl, C.no f hf, by rw [e3.length]; omega, ?_⟩
        refine k σ _ m' M' (Ext.refl ..) (fun h => ?_) (R'.putF h2 e4 e2)
        show m'.length = (setF s'.st j ob f r).length
        unfold setF
        rw [List.length_set]
        exact a' h
      · rw [if_neg hlen] at k
        exact k.elim
    | exc e => exact (RV.ob_ne hr).elim
    | stuck => simp only [hr] at k; exact k.elim

/-! ### methods -/
section
variable {k n : Nat} {f C : Addr} {fd : FuncData} {ps : List Str} {sp : Sp} {E : L2.St → XK} {x mn : Str} {apos : Pos} {ta : TE} {t : TA} {sem : Sem} {c : Nat} {fs : List Nat} {fa : Sta → PR (List D)}
def tMethS (C : Addr) (mn : Str) (sp : Sp) (E : L2.St → XK) (ta : TE) (t : TA) : TE := fun σ H Q => ta σ H fun x H1 => ∃ a dx fs, x = .ref a ∧ H1 a = some (.ins C dx fs) ∧ fs.lookup mn = Option.none ∧
  t σ H1 fun vs H2 => sp (x :: vs) H2 Q (E σ)
theorem pe_methS {pl : PySem.Sem Bool} (he : PE X o ta) (cl : Cls X.K C) (hm : Meth X.K C mn f) (F : FnOk X.prog X.w X.K X.mg X.base (L2.CX X.prog X.w) k f fd ps sp) (hr : Room k X.A) (hb : Binds X.K fd ps []) (hx : ∀ σ, PassesAt (L2.CX X.prog X.w) X σ (E σ)) (ha : PA X (e :: es) t)
    (hst : starEach (e :: es) X.env = (false, eval e X.env) :: starEach es X.env := by rfl) (hpl : (backTo pos (starEach es X.env)).any (·.1) = false := by rfl)
    (ht : eval (.Call (.Attribute o mn apos) (e :: es) [] pos) X.env = (do
      let ov ← eval o X.env
      standAt apos.atName
      let (f, first) ← holding [ov] (getMethod ov mn pl)
      callWith pos f first (backTo pos (starEach (e :: es) X.env)) (backToKw pos (keywordEach [] X.env))) := by rfl) :
    PE X (.Call (.Attribute o mn apos) (e :: es) [] pos) (tMethS C mn sp E ta t) := by
  refine ⟨fun pins s σ H Q I h => ?_⟩
  refine PySem.W.methodCall_KW (pl := pl) (thn (he.run pins s σ H _ I h) fun u s1 ⟨x, H1, I1, rx, a, dx, fs, ex, ea, l, q⟩ => ?_) ht
  subst ex
  obtain rfl : u = Value.ref a := rx
  refine getmeth_ok I1 ea cl hm l ?_
  refine PySem.W.callWith_K (first := [.ref a]) (h₀ := X.base) I.ok.mod.kin hm.kp (thn (ha.run pos pins s1 σ H1 _ I1 q) fun us s2 ⟨vs, H2, I2, r, q2⟩ => ⟨I2.kIn, ?_⟩) hst hpl
  exact run_fnS (us := .ref a :: us) (vs := .ref a :: vs) F hr hb (hx σ) I2 (.cons rfl r) q2
theorem pe_methS0 {pl : PySem.Sem Bool} (he : PE X o ta) (cl : Cls X.K C) (hm : Meth X.K C mn f) (F : FnOk X.prog X.w X.K X.mg X.base (L2.CX X.prog X.w) k f fd ps sp) (hr : Room k X.A) (hb : Binds X.K fd ps []) (hx : ∀ σ, PassesAt (L2.CX X.prog X.w) X σ (E σ))
    (ht : eval (.Call (.Attribute o mn apos) [] [] pos) X.env = (do
      let ov ← eval o X.env
      standAt apos.atName
      let (f, first) ← holding [ov] (getMethod ov mn pl)
      callWith pos f first (backTo pos (starEach [] X.env)) (backToKw pos (keywordEach [] X.env))) := by rfl) :
    PE X (.Call (.Attribute o mn apos) [] [] pos) (tMethS C mn sp E ta tNil) := by
  refine ⟨fun pins s σ H Q I h => ?_⟩
  refine PySem.W.methodCall_KW (pl := pl) (thn (he.run pins s σ H _ I h) fun u s1 ⟨x, H1, I1, rx, a, dx, fs, ex, ea, l, q⟩ => ?_) ht
  subst ex
  obtain rfl : u = Value.ref a := rx
  refine getmeth_ok I1 ea cl hm l ?_
  exact PySem.W.callWith_K0 (first := [.ref a]) I1.kIn hm.kp (run_fnS (us := [.ref a]) (vs := [.ref a]) F hr hb (hx σ) I1 (.cons rfl .nil) q)
/-- a method to be called -/
def Method (P : Program) (w : World) (K : PySem.W.Frag) (mg : Str → Option Value) (base : Heap) (T : Tab) (c : Nat) (mn : Str) (al : Bool) (k n : Nat) (sem : Sem) : Prop :=
  ∃ f fd ps, FnOk P w K mg base (L2.CX P w) k f fd ps (spF K T al n sem) ∧ Meth K (T.ca c) mn f ∧ Binds K fd ps []
/-- o.m(..) : the object, then the arguments -/
def fMeth (c n : Nat) (sem : Sem) (fo : Sta → PR RV) (fa : Sta → PR (List D)) : Sta → Fe := fun s => match fo s with
  | .ok r => match r.ob c s.st with
    | .ok jo => match fa s with
      | .ok ds => if ds.length + 1 = n then (sem (.obj jo.1 :: ds) s.st).fe s else .stuck
      | .exc e => .exc e s
      | .stuck => .stuck
    | _ => .stuck
  | .exc e => .exc e s
  | .stuck => .stuck
theorem FeP.ext {σ : L2.St} {Q : VK} {fe : Fe} (h : FeP X T W al G m M σ Q fe) (e : Ext al G m M m' M') : FeP X T W al G m' M' σ Q fe := by
  cases fe with
  | ok r s => exact fun y H' m2 M2 e2 => h y H' m2 M2 (e.trans e2)
  | exc x s => exact fun cls d H' m2 M2 e2 => h cls d H' m2 M2 (e.trans e2)
  | stuck => exact h
theorem meth_of (hno : ∀ i, T.nm i ≠ mn) {σ : L2.St} {H : Hp} {Q : VK} (h : tF X T W al (fMeth c n sem fo fa) σ H Q) : tMethS (T.ca c) mn (spF X.K T al n sem) (WE W) (tP X T W fo) (tAs X T W fa) σ H Q := by
  obtain ⟨s, m, M, G, R, a, q⟩ := h
  refine ⟨s, m, M, G, R, ?_⟩
  unfold fMeth at q
  cases hf : fo s with
  | ok r =>
    rw [hf] at q
    intro y H1 M1 g1 rr
    dsimp only at q
    cases hr : r.ob c s.st with
    | ok jo =>
      obtain ⟨j, ob⟩ := jo
      simp only [hr] at q
      obtain ⟨h1, h2, h3⟩ := RV.ob_ok hr
      subst h3
      have R1 := R.grow g1
      have aa := rr.arg
      rw [h1] at aa
      obtain ⟨b, rfl, e4⟩ := aa.obj
      obtain ⟨b', dx, fs', ff, e1, e2, e3⟩ := R1.ob h2
      rw [e4] at e1
      cases e1
      refine ⟨b, dx, fs', rfl, e2, e3.noName hno, ?_⟩
      have q1 := FeP.ext q (Ext.grow g1 R.gh)
      refine tAs_fe (Q := Q) (kk := fun s ds => if ds.length + 1 = n then (sem (.obj j :: ds) s.st).fe s else .stuck) R1 a ?_ fun ds ys H' M' g r k => ?_
      · exact q1
      · by_cases hl : ds.length + 1 = n
        · rw [if_pos hl] at k
          exact spF_of rfl (R1.grow g) a (by simp [r.length]; exact hl) (.cons (.obj e4) r) k
        · rw [if_neg hl] at k
          exact k.elim
    | exc e => exact (RV.ob_ne hr).elim
    | stuck => simp only [hr] at q; exact q.elim
  | exc x => rw [hf] at q; exact fun cls d H' M' g xr => q cls d H' m M' (Ext.grow g R.gh) a (R.grow g) xr
  | stuck => rw [hf] at q; exact q
theorem fe_meth {pl : PySem.Sem Bool} (cm : Method X.prog X.w X.K X.mg X.base T c mn al k n sem) (C : ClsF X.K T c fs) (hno : ∀ i, T.nm i ≠ mn) (hr : Room k X.A) (tk : Takes X W) (ho : PEv X T W o fo) (ha : PAs X T W (e :: es) fa)
    (hst : starEach (e :: es) X.env = (false, eval e X.env) :: starEach es X.env := by rfl) (hpl : (backTo pos (starEach es X.env)).any (·.1) = false := by rfl)
    (ht : eval (.Call (.Attribute o mn apos) (e :: es) [] pos) X.env = (do
      let ov ← eval o X.env
      standAt apos.atName
      let (f, first) ← holding [ov] (getMethod ov mn pl)
      callWith pos f first (backTo pos (starEach (e :: es) X.env)) (backToKw pos (keywordEach [] X.env))) := by rfl) :
    FEv X T W al (.Call (.Attribute o mn apos) (e :: es) [] pos) (fMeth c n sem fo fa) := by
  obtain ⟨f, fd, ps, F, hm, hb⟩ := cm
  exact PE.wk (pe_methS (pl := pl) ho C.cl hm F hr hb (fun σ => passAt tk σ) ha hst hpl ht) fun σ H Q h => meth_of hno h
theorem fe_meth0 {pl : PySem.Sem Bool} (cm : Method X.prog X.w X.K X.mg X.base T c mn al k n sem) (C : ClsF X.K T c fs) (hno : ∀ i, T.nm i ≠ mn) (hr : Room k X.A) (tk : Takes X W) (ho : PEv X T W o fo)
    (ht : eval (.Call (.Attribute o mn apos) [] [] pos) X.env = (do
      let ov ← eval o X.env
      standAt apos.atName
      let (f, first) ← holding [ov] (getMethod ov mn pl)
      callWith pos f first (backTo pos (starEach [] X.env)) (backToKw pos (keywordEach [] X.env))) := by rfl) :
    FEv X T W al (.Call (.Attribute o mn apos) [] [] pos) (fMeth c n sem fo pNil) := by
  obtain ⟨f, fd, ps, F, hm, hb⟩ := cm
  refine PE.wk (pe_methS0 (pl := pl) ho C.cl hm F hr hb (fun σ => passAt tk σ) ht) fun σ H Q h => ?_
  have h2 := meth_of (mn := mn) hno h
  -- no argument
  revert h2
  unfold tMethS
  intro h2
  obtain ⟨s, m, M, G, R, q⟩ := h2
  refine ⟨s, m, M, G, R, ?_⟩
  revert q
  cases fo s with
  | ok r =>
    intro q y H1 M1 g1 rr
    obtain ⟨b, dx, fs', e1, e2, e3, q⟩ := q y H1 M1 g1 rr
    refine ⟨b, dx, fs', e1, e2, e3, ?_⟩
    obtain ⟨s2, m2, M2, G2, R2, q⟩ := q
    exact q [] H1 M2 (Grow.refl R2.mh) .nil
  | exc x => intro q; exact q
  | stuck => intro q; exact q

/-! ### objects made -/
theorem run_makeS {pins : List (Addr × Obj)} {σ : L2.St} {H : Hp} {s : Shared} {Q : VK} {us : List Value} {vs : List V} (M : Mk X.K C f) (F : FnOk X.prog X.w X.K X.mg X.base (L2.CX X.prog X.w) k f fd ps sp) (hr : Room (k + 1) X.A) (hb : Binds X.K fd ps [])
    (hx : PassesAt (L2.CX X.prog X.w) X σ (E σ)) (I : Inv X pins σ H s) (r : Vals vs us)
    (h : ∀ x dx, H x = Option.none → H dx = Option.none → dx ≠ x → sp (.ref x :: vs) (upd (upd H dx (.own x)) x (.ins C dx [])) (fun v H2 => v = .non ∧ Q (.ref x) H2) (E σ)) :
    wpAny (model X.prog X.w) X.A (call (.ref C) us) (EP X pins σ Q) X.xe s := by
  have hq := h (s.heap.objs.size + 1) s.heap.objs.size (I.hok.fresh (Nat.le_succ _)) (I.hok.fresh (Nat.le_refl _)) (Nat.ne_of_lt (Nat.lt_succ_self _))
  have I2 := Inv.made (C := C) I
  have r2 : Vals (V.ref (s.heap.objs.size + 1) :: vs) (Value.ref (s.heap.objs.size + 1) :: us) := .cons rfl r
  have hl : (Value.ref (s.heap.objs.size + 1) :: us).length = ps.length := by
    have e := r2.length
    rw [F.len _ _ _ _ hq] at e
    exact e.symm
  have b := hb _ (Value.ref (s.heap.objs.size + 1) :: us) I2.kIn (by rw [List.append_nil]; exact hl)
  rw [List.append_nil] at b
  refine wpAny_call (make_map (f := f) I.kIn M.makes M.init (beq_iff_eq.mp M.fn) (codeAny_mono (F.run _ X.stack _ _ ⟨Value.ref (s.heap.objs.size + 1) :: us, []⟩ (Value.ref (s.heap.objs.size + 1) :: us) _ _ (E σ) (hr.make C us [])
    (I2.env0.make C us []) b r2 hq) fun r s' hq' => ?_))
  cases r with
  | error e => exact hx pins _ _ e s' I2 hq'
  | ok fl =>
    cases fl with
    | ret u =>
      obtain ⟨v, H', I3, rv, ev, q3⟩ := I2.after hq'
      subst ev
      exact ⟨rv, ⟨V.ref (s.heap.objs.size + 1), H', I3, rfl, q3⟩⟩
    | next => exact False.elim hq'
    | brk => exact False.elim hq'
    | cont => exact False.elim hq'
def tMakeS (C : Addr) (sp : Sp) (E : L2.St → XK) (t : TA) : TE := fun σ H Q => t σ H fun vs H1 => ∀ x dx, H1 x = Option.none → H1 dx = Option.none → dx ≠ x →
  sp (.ref x :: vs) (upd (upd H1 dx (.own x)) x (.ins C dx [])) (fun v H2 => v = .non ∧ Q (.ref x) H2) (E σ)
theorem pe_makeS (M : Mk X.K C f) (F : FnOk X.prog X.w X.K X.mg X.base (L2.CX X.prog X.w) k f fd ps sp) (hr : Room (k + 1) X.A) (hg : Gl X x) (hm : X.mg x = some (.ref C)) (hb : Binds X.K fd ps []) (hx : ∀ σ, PassesAt (L2.CX X.prog X.w) X σ (E σ))
    (ha : PA X (e :: es) t) (hdb : (x == ("__debug__" : Str)) = false := by decide) (he : starEach (e :: es) X.env = (false, eval e X.env) :: starEach es X.env := by rfl) (hpl : (backTo pos (starEach es X.env)).any (·.1) = false := by rfl) :
    PE X (.Call (.Name x p) (e :: es) [] pos) (tMakeS C sp E t) := by
  refine ⟨fun pins s σ H Q I h => ?_⟩
  refine wpAny_Call_Name_kw (ld_glob I hg hm ?_ hdb)
  refine PySem.W.callWith_K (h₀ := X.base) I.ok.mod.kin M.kp (thn (ha.run pos pins s σ H _ I h) fun us s1 ⟨vs, H1, I1, r, q⟩ => ⟨I1.kIn, ?_⟩) he hpl
  exact run_makeS M F hr hb (hx σ) I1 r q
theorem pe_makeS0 (M : Mk X.K C f) (F : FnOk X.prog X.w X.K X.mg X.base (L2.CX X.prog X.w) k f fd ps sp) (hr : Room (k + 1) X.A) (hg : Gl X x) (hm : X.mg x = some (.ref C)) (hb : Binds X.K fd ps []) (hx : ∀ σ, PassesAt (L2.CX X.prog X.w) X σ (E σ))
    (hdb : (x == ("__debug__" : Str)) = false := by decide) : PE X (.Call (.Name x p) [] [] pos) (tMakeS C sp E tNil) := by
  refine ⟨fun pins s σ H Q I h => ?_⟩
  refine wpAny_Call_Name_kw (ld_glob I hg hm ?_ hdb)
  exact PySem.W.callWith_K0 I.kIn M.kp (run_makeS (us := []) M F hr hb (hx σ) I .nil h)
/-- a class to be made by its name, with its __init__ -/
def Maker (P : Program) (w : World) (K : PySem.W.Frag) (mg : Str → Option Value) (base : Heap) (T : Tab) (c : Nat) (x : Str) (k n : Nat) (sem : Sem) : Prop :=
  ∃ f fd ps, Mk K (T.ca c) f ∧ FnOk P w K mg base (L2.CX P w) k f fd ps (spF K T true n sem) ∧ mg x = some (.ref (T.ca c)) ∧ Binds K fd ps []
/-- C(..): the new object is the store's last -/
def fMake (c n : Nat) (sem : Sem) (fa : Sta → PR (List D)) : Sta → Fe := fun s => match fa s with
  | .ok ds => if ds.length + 1 = n then (match sem (.obj s.st.length :: ds) (s.st ++ [⟨c, []⟩]) with
    | .ok (.v .none) st => .ok (.v (.obj s.st.length)) { s with st := st }
    | .ok _ _ => .stuck
    | .exc e st => .exc e { s with st := st }
    | .stuck => .stuck) else .stuck
  | .exc e => .exc e s
  | .stuck => .stuck
theorem StoreR.snoc {K : PySem.W.Frag} {ob : Ob} {a : Addr} {f2 : List Addr} : ∀ {st : List Ob} {as : List Addr} {f1 : List Addr}, StoreR K T m M H st as f1 → as.length = st.length → ObR K T m M H ob a f2 → StoreR K T m M H (st ++ [ob]) (as ++ [a]) (f1 ++ f2)
  | [], [], f1, h, _, ho => by
    have : f1 = [] := h
    subst this
    exact ⟨f2, [], by simp, ho, rfl⟩
  | ob' :: st, a' :: as, f1, h, hl, ho => by
    obtain ⟨g1, g2, e, h1, h2⟩ := h
    subst e
    exact ⟨g1, g2 ++ f2, by simp, h1, StoreR.snoc h2 (by simpa using hl) ho⟩
  | [], _ :: _, _, _, hl, _ => by simp at hl
  | _ :: _, [], _, h, _, _ => h.elim
theorem Rel.made {s : Sta} {σ : L2.St} (R : Rel X.K T m M G H s σ) (al : m.length = s.st.length) {a dx : Addr} (ha : H a = Option.none) (hd : H dx = Option.none) (hne : dx ≠ a) (c : Nat) :
    Rel X.K T (m ++ [a]) M G (upd (upd H dx (.own a)) a (.ins (T.ca c) dx [])) { s with st := s.st ++ [⟨c, []⟩] } σ := by
  have same : Same H (upd (upd H dx (.own a)) a (.ins (T.ca c) dx [])) := fun b o e => by
    rw [upd_ne (ne_of_none e ha), upd_ne (ne_of_none e hd)]
    exact e
  obtain ⟨mh, gh, ⟨f1, f2, h1, h2, nd, dj⟩⟩ := R
  have here : ∀ b ∈ f1 ++ f2, ∃ o, H b = some o := fun b hb => by
    rcases List.mem_append.mp hb with hb | hb
    · exact h1.here b hb
    · exact h2.here b hb
  have hh : ∀ b ∈ f1 ++ f2, (upd (upd H dx (.own a)) a (.ins (T.ca c) dx [])) b = H b := fun b hb => by
    obtain ⟨o, ho⟩ := here b hb
    rw [ho]
    exact same _ _ ho
  have ml : MLe m (m ++ [a]) := MLe.snoc m a
  refine ⟨mh.trans same, gh.trans same, f1, f2 ++ [a], h1.mono ml (Same.refl _) fun b hb => hh b (by simp [hb]), ?_, ?_, fun b hb => ?_⟩
  · refine StoreR.snoc (h2.mono ml (MLe.refl _) (Same.refl _) fun b hb => hh b (by simp [hb])) al ⟨dx, [], [], rfl, upd_same, rfl⟩
  · rw [← List.append_assoc, List.nodup_append]
    refine ⟨nd, by simp, fun b hb d hd e => ?_⟩
    have : d = a := by simpa using hd
    subst this
    obtain ⟨o, ho⟩ := here b hb
    rw [e, ha] at ho
    cases ho
  · rw [← List.append_assoc] at hb
    rcases List.mem_append.mp hb with hb | hb
    · exact dj b hb
    · have : b = a := by simpa using hb
      subst this
      exact ⟨mh.free ha, gh.free ha⟩
theorem fe_make_of {σ : L2.St} {H : Hp} {Q : VK} (h : tF X T W true (fMake c n sem fa) σ H Q) : tMakeS (T.ca c) (spF X.K T true n sem) (WE W) (tAs X T W fa) σ H Q := by
  obtain ⟨s, m, M, G, R, a, q⟩ := h
  refine tAs_fe (fs := fa) (kk := fun s ds => if ds.length + 1 = n then (match sem (.obj s.st.length :: ds) (s.st ++ [⟨c, []⟩]) with
    | .ok (.v .none) st => .ok (.v (.obj s.st.length)) { s with st := st }
    | .ok _ _ => .stuck
    | .exc e st => .exc e { s with st := st }
    | .stuck => .stuck) else .stuck) R a q fun ds ys H' M' g r k => ?_
  by_cases hl : ds.length + 1 = n
  · rw [if_pos hl] at k
    intro x dx hx hd hne
    have R1 := R.grow g
    have al := a rfl
    have R2 := R1.made al hx hd hne c
    have ml : MLe m (m ++ [x]) := MLe.snoc m x
    have e0 : Ext true G m M' (m ++ [x]) M' := ⟨ml, (fun h => nomatch h), Same.refl _, fun _ _ h => .inl h⟩
    have mx : (m ++ [x])[s.st.length]? = some x := by rw [← al]; simp
    refine spF_of (s := { s with st := s.st ++ [⟨c, []⟩] }) rfl R2 (fun _ => by simp [al]) (by simp [r.length]; exact hl) (.cons (.obj mx) (DRs.mono ml (Same.refl _) _ _ r)) ?_
    unfold Fr.fe
    dsimp only
    cases hs : sem (.obj s.st.length :: ds) (s.st ++ [⟨c, []⟩]) with
    | ok r st' =>
      rw [hs] at k
      cases r with
      | v d =>
        cases d <;> try (exact k.elim)
        intro y H2 m2 M2 e2 a2 R3
        have hd := R3.head
        cases hd
        refine ⟨rfl, k _ H2 m2 M2 (e0.trans e2) a2 ?_⟩
        have R4 := R3.tail.consU.setV 0 (d := .obj s.st.length) (.obj (e2.ml _ _ mx))
        exact R4
      | un => exact k.elim
      | hid _ => exact k.elim
      | own d => exact k.elim
    | exc e st' =>
      rw [hs] at k
      exact fun cls d H2 m2 M2 e2 a2 R3 xr => k cls d H2 m2 M2 (e0.trans e2) a2 R3 xr
    | stuck => rw [hs] at k; exact k
  · rw [if_neg hl] at k
    exact k.elim
theorem fe_make (cm : Maker X.prog X.w X.K X.mg X.base T c x k n sem) (hr : Room (k + 1) X.A) (hg : Gl X x) (tk : Takes X W) (ha : PAs X T W (e :: es) fa)
    (hdb : (x == ("__debug__" : Str)) = false := by decide) (he : starEach (e :: es) X.env = (false, eval e X.env) :: starEach es X.env := by rfl) (hpl : (backTo pos (starEach es X.env)).any (·.1) = false := by rfl) :
    FEv X T W true (.Call (.Name x p) (e :: es) [] pos) (fMake c n sem fa) := by
  obtain ⟨f, fd, ps, M, F, hm, hb⟩ := cm
  exact PE.wk (pe_makeS M F hr hg hm hb (fun σ => passAt tk σ) ha hdb he hpl) fun σ H Q h => fe_make_of h
end
end
end MP

/-! MP 8: calls of defs with objects of their own, calls that only look. -/
namespace MP
open PySem PySem.Spec PyProof.Rows L2
mutual
def D.noObj : D → Bool
  | .list xs => noObjs xs
  | .lk xs => noObjs xs
  | .tup xs => noObjs xs
  | .dic kvs => noObjk kvs
  | .obj _ => false
  | .xv _ fs => noObjf fs
  | _ => true
def noObjs : List D → Bool
  | [] => true
  | x :: xs => x.noObj && noObjs xs
def noObjk : List (Key × D) → Bool
  | [] => true
  | (_, x) :: xs => x.noObj && noObjk xs
def noObjf : List (Str × D) → Bool
  | [] => true
  | (_, x) :: xs => x.noObj && noObjf xs
end
section
variable {K : PySem.W.Frag} {m m' : List Addr} {H : Hp}
mutual
theorem DR.noObj : ∀ (d : D) (v : V), DR K m H v d → d.noObj = true → DR K m' H v d
  | .none, _, h, _ => by cases h; exact .non
  | .bool b, _, h, _ => by cases h; exact .bl b
  | .int i, _, h, _ => by cases h; exact .int i
  | .str x, _, h, _ => by cases h; exact .str x
  | .list ds, _, h, c => by
    cases h with
    | list h1 h2 => rw [D.noObj] at c; exact .list h1 (DRs.noObj ds _ h2 c)
  | .lk ds, _, h, c => by
    cases h with
    | lk h1 h2 => rw [D.noObj] at c; exact .lk h1 (DRs.noObj ds _ h2 c)
  | .tup ds, _, h, c => by
    cases h with
    | tup h1 h2 => rw [D.noObj] at c; exact .tup h1 (DRs.noObj ds _ h2 c)
  | .dic kvs, _, h, c => by
    cases h with
    | dic h1 h2 => rw [D.noObj] at c; exact .dic h1 (DRk.noObj kvs _ h2 c)
  | .obj n, _, h, c => by rw [D.noObj] at c; cases c
  | .xv c' fs, _, h, c => by
    rw [D.noObj] at c
    cases h with
    | xn h1 h2 => exact .xn h1 h2
    | xf h1 h2 h3 h4 => exact .xf h1 h2 h3 (DRf.noObj fs _ h4 c)
theorem DRs.noObj : ∀ (ds : List D) (vs : List V), DRs K m H vs ds → noObjs ds = true → DRs K m' H vs ds
  | [], _, h, _ => by cases h; exact .nil
  | d :: ds, _, h, c => by
    cases h with
    | cons h1 h2 =>
      rw [noObjs, Bool.and_eq_true] at c
      exact .cons (DR.noObj d _ h1 c.1) (DRs.noObj ds _ h2 c.2)
theorem DRk.noObj : ∀ (ds : List (Key × D)) (vs : List (Key × V)), DRk K m H vs ds → noObjk ds = true → DRk K m' H vs ds
  | [], _, h, _ => by cases h; exact .nil
  | (k, d) :: ds, _, h, c => by
    cases h with
    | cons h1 h2 =>
      rw [noObjk, Bool.and_eq_true] at c
      exact .cons (DR.noObj d _ h1 c.1) (DRk.noObj ds _ h2 c.2)
theorem DRf.noObj : ∀ (ds : List (Str × D)) (vs : List (Str × V)), DRf K m H vs ds → noObjf ds = true → DRf K m' H vs ds
  | [], _, h, _ => by cases h; exact .nil
  | (k, d) :: ds, _, h, c => by
    cases h with
    | cons h1 h2 =>
      rw [noObjf, Bool.and_eq_true] at c
      exact .cons (DR.noObj d _ h1 c.1) (DRf.noObj ds _ h2 c.2)
end
theorem ObD.noObj {o : HO} {d : D} (h : ObD K m H o d) (c : d.noObj = true) : ObD K m' H o d := by
  cases h with
  | lst h => rw [D.noObj] at c; exact .lst (DRs.noObj _ _ h c)
  | dic h => rw [D.noObj] at c; exact .dic (DRk.noObj _ _ h c)
theorem noObjs_map {α : Type} {f : α → D} (h : ∀ a, (f a).noObj = true) : ∀ l : List α, noObjs (l.map f) = true
  | [] => by simp [noObjs]
  | a :: l => by simp [noObjs, h a, noObjs_map h l]
end
/-! what holds no list -/
mutual
def coldD : D → Bool
  | .none => true
  | .bool _ => true
  | .int _ => true
  | .str _ => true
  | .tup xs => coldDs xs
  | _ => false
def coldDs : List D → Bool
  | [] => true
  | x :: xs => coldD x && coldDs xs
end
def coldDf : List (Str × D) → Bool
  | [] => true
  | (_, x) :: xs => coldD x && coldDf xs
/-- a list or a dict, not frozen -/
def hoOpen : HO → Bool
  | .lst _ => true
  | .dK _ => true
  | _ => false
/-- the objects at some places, shared for a while -/
def opn (S : List Addr) (H M : Hp) : Hp := fun a => if a ∈ S then H a else M a
/-- and no more -/
def shut (S : List Addr) (M M' : Hp) : Hp := fun a => if a ∈ S then M a else M' a
theorem opn_sub {S : List Addr} {H M : Hp} (s : Same M H) : Same (opn S H M) H := fun a o h => by
  unfold opn at h
  by_cases hs : a ∈ S
  · rw [if_pos hs] at h; exact h
  · rw [if_neg hs] at h; exact s _ _ h
theorem Same.opn {M H : Hp} (s : Same M H) (S : List Addr) : Same M (opn S H M) := fun a o h => by
  unfold MP.opn
  by_cases hs : a ∈ S
  · rw [if_pos hs]; exact s _ _ h
  · rw [if_neg hs]; exact h
theorem shut_grow {S : List Addr} {H M H' M' : Hp} (s : Same M H) (mm : Same (opn S H M) M') (gh : Same H H') (mh : Same M' H') (new : ∀ a o, M' a = some o → opn S H M a = some o ∨ H a = Option.none) : Grow H M H' (shut S M M') := by
  refine ⟨gh, fun a o h => ?_, fun a o h => ?_, fun a o h => ?_⟩
  · unfold shut
    by_cases hs : a ∈ S
    · rw [if_pos hs]; exact h
    · rw [if_neg hs]; exact mm _ _ (Same.opn s S _ _ h)
  · unfold shut at h
    by_cases hs : a ∈ S
    · rw [if_pos hs] at h; exact gh _ _ (s _ _ h)
    · rw [if_neg hs] at h; exact mh _ _ h
  · unfold shut at h
    by_cases hs : a ∈ S
    · rw [if_pos hs] at h; exact .inl h
    · rw [if_neg hs] at h
      rcases new _ _ h with q | q
      · unfold opn at q
        rw [if_neg hs] at q
        exact .inl q
      · exact .inr q
theorem shut_open {S : List Addr} {H M M' : Hp} (hS : ∀ a ∈ S, ∃ o, H a = some o ∧ hoOpen o = true) (mm : Same (opn S H M) M') : ∀ a ∈ S, ∃ o, M' a = some o ∧ hoOpen o = true := fun a ha => by
  obtain ⟨o, h1, h2⟩ := hS a ha
  refine ⟨o, mm _ _ ?_, h2⟩
  unfold opn
  rw [if_pos ha]
  exact h1
theorem shut_keep {S : List Addr} {M M' : Hp} {a : Addr} {o : HO} (hS : ∀ a ∈ S, ∃ o, M' a = some o ∧ hoOpen o = true) (h : M' a = some o) (ho : hoOpen o = false) : shut S M M' a = some o := by
  unfold shut
  by_cases hs : a ∈ S
  · obtain ⟨o', h1, h2⟩ := hS a hs
    rw [h] at h1
    cases h1
    rw [ho] at h2
    cases h2
  · rw [if_neg hs]; exact h
section
variable {K : PySem.W.Frag} {m : List Addr} {S : List Addr} {M M' : Hp}
theorem ObD.openD {M : Hp} {o : HO} {d : D} (h : ObD K m M o d) : hoOpen o = true := by cases h <;> rfl
mutual
theorem DR.cold (hS : ∀ a ∈ S, ∃ o, M' a = some o ∧ hoOpen o = true) : ∀ (d : D) (v : V), DR K m M' v d → coldD d = true → DR K m (shut S M M') v d
  | .none, _, h, _ => by cases h; exact .non
  | .bool b, _, h, _ => by cases h; exact .bl b
  | .int i, _, h, _ => by cases h; exact .int i
  | .str x, _, h, _ => by cases h; exact .str x
  | .tup ds, _, h, c => by
    cases h with
    | tup h1 h2 =>
      rw [coldD] at c
      refine .tup ?_ (DRs.cold hS ds _ h2 c)
      rcases h1 with (h1 | ⟨o, h1⟩) | h1
      · exact .inl (.inl (shut_keep hS h1 rfl))
      · exact .inl (.inr ⟨o, shut_keep hS h1 rfl⟩)
      · exact .inr h1
  | .list _, _, _, c => by unfold coldD at c; cases c
  | .lk _, _, _, c => by unfold coldD at c; cases c
  | .dic _, _, _, c => by unfold coldD at c; cases c
  | .obj _, _, _, c => by unfold coldD at c; cases c
  | .xv _ _, _, _, c => by unfold coldD at c; cases c
theorem DRs.cold (hS : ∀ a ∈ S, ∃ o, M' a = some o ∧ hoOpen o = true) : ∀ (ds : List D) (vs : List V), DRs K m M' vs ds → coldDs ds = true → DRs K m (shut S M M') vs ds
  | [], _, h, _ => by cases h; exact .nil
  | d :: ds, _, h, c => by
    cases h with
    | cons h1 h2 =>
      rw [coldDs, Bool.and_eq_true] at c
      exact .cons (DR.cold hS d _ h1 c.1) (DRs.cold hS ds _ h2 c.2)
end
theorem DRf.cold (hS : ∀ a ∈ S, ∃ o, M' a = some o ∧ hoOpen o = true) : ∀ (ds : List (Str × D)) (vs : List (Str × V)), DRf K m M' vs ds → coldDf ds = true → DRf K m (shut S M M') vs ds
  | [], _, h, _ => by cases h; exact .nil
  | (k, d) :: ds, _, h, c => by
    cases h with
    | cons h1 h2 =>
      rw [coldDf, Bool.and_eq_true] at c
      exact .cons (DR.cold hS d _ h1 c.1) (DRf.cold hS ds _ h2 c.2)
end
section
variable {X : Cx} {T : Tab} {W : WX} {e o : Expr} {es : List Expr} {pos p : Pos} {k n : Nat} {sem : Sem} {x : Str}
/-- a def that makes objects of its own, which nobody sees -/
def pSeal (n : Nat) (sem : Sem) (fs : Sta → PR (List D)) : Sta → PR RV := fun s => (fs s).bind fun ds => if ds.length = n ∧ noObjs ds = true then (match sem ds [] with
  | .ok (.v d) _ => if d.noObj = true then .ok (sh d) else .stuck
  | .ok (.own d) _ => if d.noObj = true then .ok (fr d) else .stuck
  | _ => .stuck) else .stuck
theorem ev_seal {fs : Sta → PR (List D)} (c : Callee X.prog X.w X.K X.mg X.base T x true k n sem) (hr : Room k X.A) (hg : Gl X x) (tk : Takes X W) (ha : PAs X T W (e :: es) fs)
    (hdb : (x == ("__debug__" : Str)) = false := by decide) (he : starEach (e :: es) X.env = (false, eval e X.env) :: starEach es X.env := by rfl) (hpl : (backTo pos (starEach es X.env)).any (·.1) = false := by rfl) :
    PEv X T W (.Call (.Name x p) (e :: es) [] pos) (pSeal n sem fs) := by
  obtain ⟨f, fd, ps, F, hm, hk, hb⟩ := c
  refine PE.wk (pe_callS F hr hg hm hk hb (fun σ => passAt tk σ) ha hdb he hpl) ?_
  rintro σ H Q ⟨s, m, M, G, R, q⟩
  refine ⟨s, m, M, G, R, ?_⟩
  revert q
  unfold pSeal PR.bind
  cases fs s with
  | ok ds =>
    intro q ys H1 M1 g1 r1
    dsimp only at q
    by_cases hl : ds.length = n ∧ noObjs ds = true
    · rw [if_pos hl] at q
      refine ⟨ds, [], [], M1, H1, by rw [r1.length]; exact hl.1, DRs.noObj _ _ r1 hl.2, rel_pure g1.mh, (fun _ => rfl), ?_⟩
      cases hs : sem ds [] with
      | ok r st' =>
        rw [hs] at q
        intro y H' m' M' e' a' R'
        have g2 : Grow H1 M1 H' M' := ⟨R'.gh, e'.mm, R'.mh, e'.new⟩
        obtain ⟨mh, gh, ⟨f1, f2, h1, h2, nd, dj⟩⟩ := R'
        obtain ⟨f3, f4, ef, h3, h4⟩ := h1
        cases r with
        | un => exact q.elim
        | hid _ => exact q.elim
        | v d =>
          obtain ⟨_, y', ey, hd⟩ := h3
          cases ey
          dsimp only at q
          by_cases hn : d.noObj = true
          · rw [if_pos hn] at q
            exact q y H' M' (g1.trans g2) (DR.noObj _ _ hd hn)
          · rw [if_neg hn] at q
            exact q.elim
        | own d =>
          obtain ⟨b, ob, ef3, ey, hb', hd⟩ := h3
          cases ey
          have dja := dj b (by simp [ef, ef3])
          dsimp only at q
          by_cases hn : d.noObj = true
          · rw [if_pos hn] at q
            exact q (.ref b) H' M' (g1.trans g2) ⟨b, ob, rfl, hb', hd.noObj hn, dja.1, g1.same.free dja.2⟩
          · rw [if_neg hn] at q
            exact q.elim
      | exc x st' => rw [hs] at q; exact q.elim
      | stuck => rw [hs] at q; exact q
    · rw [if_neg hl] at q
      exact q.elim
  | exc e => intro q; exact q
  | stuck => intro q; exact q
/-- a def that only looks at its arguments; what it hands back holds no list -/
def pLook (n : Nat) (sem : Sem) (fs : Sta → PR (List RV)) : Sta → PR RV := fun s => (fs s).bind fun rs => if rs.length = n then (match sem (rs.map RV.d) [] with
  | .ok (.v d) _ => if coldD d = true then .ok (sh d) else .stuck
  | .ok (.own (.list ds)) _ => if coldDs ds = true then .ok (fr (.list ds)) else .stuck
  | .exc e _ => if coldDf e.fs = true then .exc e else .stuck
  | _ => .stuck) else .stuck
theorem args_cold {K : PySem.W.Frag} {m : List Addr} {M H0 H : Hp} (s : Same M H) : ∀ {ys : List V} {rs : List RV}, Paired (RR K m M H0 H) ys rs →
    ∃ S : List Addr, (∀ a ∈ S, ∃ o, H a = some o ∧ hoOpen o = true) ∧ ∀ S' : List Addr, (∀ a ∈ S, a ∈ S') → DRs K m (opn S' H M) ys (rs.map RV.d)
  | _, _, .nil => ⟨[], (fun _ h => nomatch h), fun _ _ => .nil⟩
  | y :: ys, ⟨k, d⟩ :: rs, .cons r t => by
    obtain ⟨S, h1, h2⟩ := args_cold s t
    have own : ∀ {a : Addr} {o : HO}, y = .ref a → H a = some o → ObD K m M o d → ∃ S : List Addr, (∀ a ∈ S, ∃ o, H a = some o ∧ hoOpen o = true) ∧ ∀ S' : List Addr, (∀ a ∈ S, a ∈ S') → DRs K m (opn S' H M) (y :: ys) ((⟨k, d⟩ :: rs : List RV).map RV.d) := by
      intro a o ey e q
      subst ey
      refine ⟨a :: S, fun b hb => ?_, fun S' hS => ?_⟩
      · rcases List.mem_cons.mp hb with rfl | hb
        · exact ⟨o, e, q.openD⟩
        · exact h1 b hb
      · refine .cons (q.dr (Same.opn s S') ?_) (h2 S' fun b hb => hS b (List.mem_cons_of_mem _ hb))
        unfold opn
        rw [if_pos (hS a (List.mem_cons_self ..))]
        exact e
    cases k with
    | sh => exact ⟨S, h1, fun S' hS => .cons (DR.up r (Same.opn s S')) (h2 S' hS)⟩
    | fr =>
      obtain ⟨a, o, ey, e, q, _⟩ := r
      exact own ey e q
    | pk =>
      obtain ⟨a, o, ey, e, q⟩ := r
      exact own ey e q
theorem ev_look {fs : Sta → PR (List RV)} (c : Callee X.prog X.w X.K X.mg X.base T x false k n sem) (hr : Room k X.A) (hg : Gl X x) (tk : Takes X W) (ha : PAr X T W (e :: es) fs)
    (hdb : (x == ("__debug__" : Str)) = false := by decide) (he : starEach (e :: es) X.env = (false, eval e X.env) :: starEach es X.env := by rfl) (hpl : (backTo pos (starEach es X.env)).any (·.1) = false := by rfl) :
    PEv X T W (.Call (.Name x p) (e :: es) [] pos) (pLook n sem fs) := by
  obtain ⟨f, fd, ps, F, hm, hk, hb⟩ := c
  refine PE.wk (pe_callS F hr hg hm hk hb (fun σ => passAt tk σ) ha hdb he hpl) ?_
  rintro σ H Q ⟨s, m, M, G, R, q⟩
  refine ⟨s, m, M, G, R, ?_⟩
  revert q
  unfold pLook PR.bind
  cases fs s with
  | ok rs =>
    intro q ys H1 M1 g1 r1
    dsimp only at q
    by_cases hl : rs.length = n
    · rw [if_pos hl] at q
      obtain ⟨S, hS, rd0⟩ := args_cold g1.mh r1
      have rd := rd0 S fun _ h => h
      refine ⟨rs.map RV.d, [], m, opn S H1 M1, H1, by rw [rd.length]; simpa using hl, rd, rel_pure (opn_sub g1.mh), (fun h => nomatch h), ?_⟩
      have grow : ∀ {m' : List Addr} {M' H' : Hp}, Ext false H1 m (opn S H1 M1) m' M' → Same H1 H' → Same M' H' → m' = m ∧ Grow H1 M1 H' (shut S M1 M') := fun e' gh mh => ⟨e'.nl rfl, shut_grow g1.mh e'.mm gh mh e'.new⟩
      cases hs : sem (rs.map RV.d) [] with
      | ok r st' =>
        rw [hs] at q
        intro y H' m' M' e' a' R'
        obtain ⟨em, g2⟩ := grow e' R'.gh R'.mh
        subst em
        have hS' := shut_open hS e'.mm
        obtain ⟨mh, gh, ⟨f1, f2, h1, h2, nd, dj⟩⟩ := R'
        obtain ⟨f3, f4, ef, h3, h4⟩ := h1
        cases r with
        | un => exact q.elim
        | hid _ => exact q.elim
        | v d =>
          obtain ⟨_, y', ey, hd⟩ := h3
          cases ey
          dsimp only at q
          by_cases hn : coldD d = true
          · rw [if_pos hn] at q
            exact q y H' _ (g1.trans g2) (DR.cold hS' d _ hd hn)
          · rw [if_neg hn] at q
            exact q.elim
        | own d =>
          obtain ⟨b, ob, ef3, ey, hb', hd⟩ := h3
          cases ey
          have dja := dj b (by simp [ef, ef3])
          cases hd with
          | lst hd =>
            rename_i xs ds
            dsimp only at q
            by_cases hn : coldDs ds = true
            · rw [if_pos hn] at q
              refine q (.ref b) H' _ (g1.trans g2) ⟨b, _, rfl, hb', .lst (DRs.cold hS' _ _ hd hn), ?_, g1.same.free dja.2⟩
              unfold shut
              by_cases hbS : b ∈ S
              · obtain ⟨o, e, _⟩ := hS b hbS
                rw [dja.2] at e
                cases e
              · rw [if_neg hbS]
                exact dja.1
            · rw [if_neg hn] at q
              exact q.elim
          | dic hd => exact q.elim
      | exc x st' =>
        rw [hs] at q
        intro cls d H' m' M' e' a' R' xr
        obtain ⟨em, g2⟩ := grow e' R'.gh R'.mh
        subst em
        have hS' := shut_open hS e'.mm
        dsimp only at q
        by_cases hn : coldDf x.fs = true
        · rw [if_pos hn] at q
          obtain ⟨C, h1, h2, h3⟩ := xr
          refine q cls d H' _ (g1.trans g2) ⟨C, h1, h2, ?_⟩
          rcases h3 with h3 | ⟨dd, fs, h4, h5, h6⟩
          · exact .inl h3
          · exact .inr ⟨dd, fs, h4, shut_keep hS' h5 rfl, DRf.cold hS' _ _ h6 hn⟩
        · rw [if_neg hn] at q
          exact q.elim
      | stuck => rw [hs] at q; exact q
    · rw [if_neg hl] at q
      exact q.elim
  | exc e => intro q; exact q
  | stuck => intro q; exact q
section
variable {a b c : Expr} {fa fb fc : Sta → PR RV}
theorem ev_chain {op op' : CmpOp} {g g' : D → D → Option RV} (ho : Op2Ok X (compareOp op) g) (ho' : Op2Ok X (compareOp op') g') (ha : PEv X T W a fa) (hb : PEv X T W b fb) (hc : PEv X T W c fc)
    (hm : lastMarks [op, op'] [b, c] = false := by with_unfolding_all rfl) : PEv X T W (.Compare a [op, op'] [b, c] pos) (p3 g g' fa fb fc) := by
  obtain ⟨r, h1, h2⟩ := ho
  obtain ⟨r', h1', h2'⟩ := ho'
  exact PE.wk (pe_chain h1 h1' ha hb hc hm) fun σ H Q h => ev_chain_r h2 h2' h
theorem et_chain {op op' : CmpOp} {g g' : D → D → Option RV} (ho : Op2Ok X (compareOp op) g) (ho' : Op2Ok X (compareOp op') g') (ha : PEv X T W a fa) (hb : PEv X T W b fb) (hc : PEv X T W c fc)
    (hm : lastMarks [op, op'] [b, c] = false := by with_unfolding_all rfl) : PTv X T W (.Compare a [op, op'] [b, c] pos) (pB (p3 g g' fa fb fc)) := by
  obtain ⟨r, h1, h2⟩ := ho
  obtain ⟨r', h1', h2'⟩ := ho'
  exact PT.wk (pt_chain h1 h1' ha hb hc hm) fun σ H Q h => ev_chain_r h2 h2' (tB_of h)
end
theorem hu64 {k : Nat} {A : Around} (hr : Room k A) : A.units + 64 < cLine := hr.units
theorem hu65 {k : Nat} {A : Around} (hr : Room k A) : A.units + 65 < cLine := by have := hr.un; omega
/-- a name's new list is shared at once -/
def sThaw (i : Nat) (g : Sta → Fl) : Sta → Fl := fun s => match g s with
  | .nx s' => .nx (frz i s')
  | fl => fl
theorem s_thaw {al : Bool} {st : Stmt} {g : Sta → Fl} {i : Nat} (h : SE1 X T W al st g) : SE1 X T W al st (sThaw i g) := by
  refine PS.wk h ?_
  rintro D σ H ⟨s, m, M, G, R, a, q⟩
  refine ⟨s, m, M, G, R, a, ?_⟩
  unfold sThaw at q
  cases hg : g s with
  | nx s' =>
    rw [hg] at q
    intro σ' H' m' M' e' a' R'
    obtain ⟨M2, e2, R2⟩ := R'.frz (al := al) i
    refine q σ' H' m' M2 (e'.trans e2) (fun h => ?_) R2
    rw [a' h]
    unfold frz
    split <;> rfl
  | brk s' => rw [hg] at q; exact q
  | cont s' => rw [hg] at q; exact q
  | ret r s' => rw [hg] at q; exact q
  | exc x s' => rw [hg] at q; exact q
  | stuck => rw [hg] at q; exact q
/-- a constant of the module's top -/
theorem ev_glob {v : V} {u : Value} {d : D} (hg : Gl X x) (hm : X.mg x = some u) (r : RelV v u) (hd : ∀ m M, DR X.K m M v d) (hdb : (x == ("__debug__" : Str)) = false := by decide) : PEv X T W (.Name x pos) (pC d) :=
  ev_const (pe_glob hg hm r hdb) hd
end
end MP

/-! MP 9: the evaluator's steps as equations, loops by an invariant. -/
namespace MP
open PySem PySem.Spec PyProof.Rows L2


/-! ### the steps of the evaluator, as functions of results -/
variable {env : List Slot} {st : List Ob}
def xD : PR RV → PR D
  | .ok ⟨.sh, d⟩ => .ok d
  | .ok ⟨.fr, d⟩ => .ok d
  | .ok ⟨.pk, _⟩ => .stuck
  | .exc e => .exc e
  | .stuck => .stuck
def x1 (g : D → Option RV) : PR RV → PR RV
  | .ok x => .of (g x.d)
  | .exc e => .exc e
  | .stuck => .stuck
def x2 (g : D → D → Option RV) : PR RV → PR RV → PR RV
  | .ok x, .ok y => .of (g x.d y.d)
  | .ok _, .exc e => .exc e
  | .ok _, .stuck => .stuck
  | .exc e, _ => .exc e
  | .stuck, _ => .stuck
def xB : PR RV → PR Bool
  | .ok ⟨_, .bool b⟩ => .ok b
  | .ok _ => .stuck
  | .exc e => .exc e
  | .stuck => .stuck
def xNot : PR Bool → PR Bool
  | .ok b => .ok (!b)
  | .exc e => .exc e
  | .stuck => .stuck
def xAnd (g : Sta → PR Bool) (s : Sta) : PR Bool → PR Bool
  | .ok true => g s
  | .ok false => .ok false
  | .exc e => .exc e
  | .stuck => .stuck
def xOr (g : Sta → PR Bool) (s : Sta) : PR Bool → PR Bool
  | .ok true => .ok true
  | .ok false => g s
  | .exc e => .exc e
  | .stuck => .stuck
def xAndV (g : Sta → PR RV) (s : Sta) : PR Bool → PR RV
  | .ok true => g s
  | .ok false => .ok ⟨.sh, .bool false⟩
  | .exc e => .exc e
  | .stuck => .stuck
def xOrV (g : Sta → PR RV) (s : Sta) : PR Bool → PR RV
  | .ok true => .ok ⟨.sh, .bool true⟩
  | .ok false => g s
  | .exc e => .exc e
  | .stuck => .stuck
def xNotV : PR Bool → PR RV
  | .ok b => .ok ⟨.sh, .bool (!b)⟩
  | .exc e => .exc e
  | .stuck => .stuck
def xIfV (f g : Sta → PR RV) (s : Sta) : PR Bool → PR RV
  | .ok true => f s
  | .ok false => g s
  | .exc e => .exc e
  | .stuck => .stuck
def x3b (g' : D → D → Option RV) (y : D) (fc : Sta → PR RV) (s : Sta) : PR Bool → PR RV
  | .ok true => x1 (g' y) (fc s)
  | .ok false => .ok ⟨.sh, .bool false⟩
  | .exc e => .exc e
  | .stuck => .stuck
def x3 (g g' : D → D → Option RV) (fc : Sta → PR RV) (s : Sta) : PR RV → PR RV → PR RV
  | .ok x, .ok y => x3b g' y.d fc s (xB (.of (g x.d y.d)))
  | .ok _, .exc e => .exc e
  | .ok _, .stuck => .stuck
  | .exc e, _ => .exc e
  | .stuck, _ => .stuck
def xCons {α : Type} : PR α → PR (List α) → PR (List α)
  | .ok x, .ok y => .ok (x :: y)
  | .ok _, .exc e => .exc e
  | .ok _, .stuck => .stuck
  | .exc e, _ => .exc e
  | .stuck, _ => .stuck
def xTp : PR (List D) → PR RV
  | .ok ds => if ds.length ≤ 1000 then .ok ⟨.sh, .tup ds⟩ else .stuck
  | .exc e => .exc e
  | .stuck => .stuck
def xLs : PR (List D) → PR RV
  | .ok ds => if ds.length ≤ 1000 then .ok ⟨.fr, .list ds⟩ else .stuck
  | .exc e => .exc e
  | .stuck => .stuck
def xSo : PR RV → PR (Option Int)
  | .ok ⟨_, .int i⟩ => .ok (some i)
  | .ok _ => .stuck
  | .exc e => .exc e
  | .stuck => .stuck
def xSl : PR RV → PR (Option Int) → PR (Option Int) → PR RV
  | .ok x, .ok l, .ok u => .of (gSl x.d l u)
  | .exc e, _, _ => .exc e
  | .stuck, _, _ => .stuck
  | .ok _, .exc e, _ => .exc e
  | .ok _, .stuck, _ => .stuck
  | .ok _, .ok _, .exc e => .exc e
  | .ok _, .ok _, .stuck => .stuck
def xG {α : Type} (g : List D → Option α) : PR (List RV) → PR α
  | .ok rs => .of (g (rs.map RV.d))
  | .exc e => .exc e
  | .stuck => .stuck
def xSq : PR D → PR (List D)
  | .ok d => .of (seqOf d)
  | .exc e => .exc e
  | .stuck => .stuck
def xSqR : PR RV → PR (List D)
  | .ok d => .of (seqOf d.d)
  | .exc e => .exc e
  | .stuck => .stuck
def xEn : PR (List D) → PR (List D)
  | .ok d => .of (gEnum d)
  | .exc e => .exc e
  | .stuck => .stuck
def xC2 : PR (List D) → PR RV
  | .ok r => .ok ⟨.fr, .list r⟩
  | .exc e => .exc e
  | .stuck => .stuck
def xC (t : Tg) (tt : Sta → PR Bool) (te : Sta → PR D) (s : Sta) : PR (List D) → PR RV
  | .ok ds => if ds.length ≤ 16777216 then xC2 (compL t tt te s ds) else .stuck
  | .exc e => .exc e
  | .stuck => .stuck
def xF : Fr → PR RV
  | .ok (.v d) _ => .ok ⟨.sh, d⟩
  | .ok (.own d) _ => .ok ⟨.fr, d⟩
  | .ok .un _ => .stuck
  | .ok (.hid _) _ => .stuck
  | .exc e _ => .exc e
  | .stuck => .stuck
def xU (n : Nat) (sem : Sem) : PR (List D) → PR RV
  | .ok ds => if ds.length = n then xF (sem ds []) else .stuck
  | .exc e => .exc e
  | .stuck => .stuck
def xSeF : Fr → PR RV
  | .ok (.v d) _ => if d.noObj = true then .ok ⟨.sh, d⟩ else .stuck
  | .ok (.own d) _ => if d.noObj = true then .ok ⟨.fr, d⟩ else .stuck
  | _ => .stuck
def xSe (n : Nat) (sem : Sem) : PR (List D) → PR RV
  | .ok ds => if ds.length = n ∧ noObjs ds = true then xSeF (sem ds []) else .stuck
  | .exc e => .exc e
  | .stuck => .stuck
def xLoF : Fr → PR RV
  | .ok (.v d) _ => if coldD d = true then .ok ⟨.sh, d⟩ else .stuck
  | .ok (.own (.list ds)) _ => if coldDs ds = true then .ok ⟨.fr, .list ds⟩ else .stuck
  | .exc e _ => if coldDf e.fs = true then .exc e else .stuck
  | _ => .stuck
def xLo (n : Nat) (sem : Sem) : PR (List RV) → PR RV
  | .ok rs => if rs.length = n then xLoF (sem (rs.map RV.d) []) else .stuck
  | .exc e => .exc e
  | .stuck => .stuck
def xLk (f : Nat) : List (Nat × Slot) → PR RV
  | [] => .stuck
  | (g, s) :: r => if f = g then PR.of s.look else xLk f r
def xOb (c f : Nat) : Option Ob → PR RV
  | some ob => if ob.cls = c then xLk f ob.fs else .stuck
  | none => .stuck
def xFd (c f : Nat) (st : List Ob) : PR RV → PR RV
  | .ok ⟨_, .obj j⟩ => xOb c f st[j]?
  | .ok _ => .stuck
  | .exc e => .exc e
  | .stuck => .stuck

theorem of_some {α : Type} (a : α) : PR.of (some a) = .ok a := Eq.trans rfl rfl
theorem map_some {α β : Type} (a : α) (f : α → β) : (some a).map f = some (f a) := Eq.trans rfl rfl
theorem e_lv (d : D) : Slot.look (.v d) = some ⟨.sh, d⟩ := Eq.trans rfl rfl
theorem e_lo (d : D) : Slot.look (.own d) = some ⟨.pk, d⟩ := Eq.trans rfl rfl
theorem e_pD (f : Sta → PR RV) : pD f ⟨env, st⟩ = xD (f ⟨env, st⟩) := by
  unfold pD PR.bind xD RV.shr
  cases f ⟨env, st⟩ with
  | ok r => obtain ⟨k, d⟩ := r; cases k <;> rfl
  | exc e => rfl
  | stuck => rfl
theorem e_xDs (d : D) : xD (.ok ⟨.sh, d⟩) = .ok d := Eq.trans rfl rfl
theorem e_xDf (d : D) : xD (.ok ⟨.fr, d⟩) = .ok d := Eq.trans rfl rfl
theorem e_pC (d : D) : pC d ⟨env, st⟩ = .ok ⟨.sh, d⟩ := Eq.trans rfl rfl
theorem e_pYes : pYes ⟨env, st⟩ = .ok true := Eq.trans rfl rfl
theorem e_pVar (i : Nat) : pVar i ⟨env, st⟩ = PR.of (env[i]?.bind Slot.look) := Eq.trans rfl rfl
theorem e_p2 (g : D → D → Option RV) (fa fb : Sta → PR RV) : p2 g fa fb ⟨env, st⟩ = x2 g (fa ⟨env, st⟩) (fb ⟨env, st⟩) := by
  unfold p2 PR.bind x2
  cases fa ⟨env, st⟩ <;> cases fb ⟨env, st⟩ <;> rfl
theorem e_x2 (g : D → D → Option RV) (k k' : RK) (x y : D) : x2 g (.ok ⟨k, x⟩) (.ok ⟨k', y⟩) = PR.of (g x y) := Eq.trans rfl rfl
theorem e_p1 (g : D → Option RV) (fa : Sta → PR RV) : p1 g fa ⟨env, st⟩ = x1 g (fa ⟨env, st⟩) := by
  unfold p1 PR.bind x1
  cases fa ⟨env, st⟩ <;> rfl
theorem e_x1 (g : D → Option RV) (k : RK) (x : D) : x1 g (.ok ⟨k, x⟩) = PR.of (g x) := Eq.trans rfl rfl
theorem e_pB (f : Sta → PR RV) : pB f ⟨env, st⟩ = xB (f ⟨env, st⟩) := by
  unfold pB PR.bind xB RV.bool
  cases f ⟨env, st⟩ with
  | ok r => obtain ⟨k, d⟩ := r; cases d <;> rfl
  | exc e => rfl
  | stuck => rfl
theorem e_xB (k : RK) (b : Bool) : xB (.ok ⟨k, .bool b⟩) = .ok b := Eq.trans rfl rfl
theorem e_pNot (f : Sta → PR Bool) : pNot f ⟨env, st⟩ = xNot (f ⟨env, st⟩) := by
  unfold pNot PR.bind xNot
  cases f ⟨env, st⟩ <;> rfl
theorem e_xNot (b : Bool) : xNot (.ok b) = .ok (!b) := Eq.trans rfl rfl
theorem e_pAnd (f g : Sta → PR Bool) : pAnd f g ⟨env, st⟩ = xAnd g ⟨env, st⟩ (f ⟨env, st⟩) := by
  unfold pAnd PR.bind xAnd
  rcases f ⟨env, st⟩ with (_ | _) | e | _ <;> rfl
theorem e_xAndT (g : Sta → PR Bool) (s : Sta) : xAnd g s (.ok true) = g s := Eq.trans rfl rfl
theorem e_xAndF (g : Sta → PR Bool) (s : Sta) : xAnd g s (.ok false) = .ok false := Eq.trans rfl rfl
theorem e_pOr (f g : Sta → PR Bool) : pOr f g ⟨env, st⟩ = xOr g ⟨env, st⟩ (f ⟨env, st⟩) := by
  unfold pOr PR.bind xOr
  rcases f ⟨env, st⟩ with (_ | _) | e | _ <;> rfl
theorem e_xOrT (g : Sta → PR Bool) (s : Sta) : xOr g s (.ok true) = .ok true := Eq.trans rfl rfl
theorem e_xOrF (g : Sta → PR Bool) (s : Sta) : xOr g s (.ok false) = g s := Eq.trans rfl rfl
theorem e_pAndV (f g : Sta → PR RV) : pAndV f g ⟨env, st⟩ = xAndV g ⟨env, st⟩ (xB (f ⟨env, st⟩)) := by
  rw [← e_pB]
  unfold pAndV PR.bind xAndV
  rcases pB f ⟨env, st⟩ with (_ | _) | e | _ <;> rfl
theorem e_xAndVT (g : Sta → PR RV) (s : Sta) : xAndV g s (.ok true) = g s := Eq.trans rfl rfl
theorem e_xAndVF (g : Sta → PR RV) (s : Sta) : xAndV g s (.ok false) = .ok ⟨.sh, .bool false⟩ := Eq.trans rfl rfl
theorem e_pOrV (f g : Sta → PR RV) : pOrV f g ⟨env, st⟩ = xOrV g ⟨env, st⟩ (xB (f ⟨env, st⟩)) := by
  rw [← e_pB]
  unfold pOrV PR.bind xOrV
  rcases pB f ⟨env, st⟩ with (_ | _) | e | _ <;> rfl
theorem e_xOrVT (g : Sta → PR RV) (s : Sta) : xOrV g s (.ok true) = .ok ⟨.sh, .bool true⟩ := Eq.trans rfl rfl
theorem e_xOrVF (g : Sta → PR RV) (s : Sta) : xOrV g s (.ok false) = g s := Eq.trans rfl rfl
theorem e_pNotV (f : Sta → PR RV) : pNotV f ⟨env, st⟩ = xNotV (xB (f ⟨env, st⟩)) := by
  rw [← e_pB]
  unfold pNotV PR.bind xNotV
  cases pB f ⟨env, st⟩ <;> rfl
theorem e_xNotV (b : Bool) : xNotV (.ok b) = .ok ⟨.sh, .bool (!b)⟩ := Eq.trans rfl rfl
theorem e_pIf (t : Sta → PR Bool) (f g : Sta → PR RV) : pIf t f g ⟨env, st⟩ = xIfV f g ⟨env, st⟩ (t ⟨env, st⟩) := by
  unfold pIf PR.bind xIfV
  rcases t ⟨env, st⟩ with (_ | _) | e | _ <;> rfl
theorem e_xIfT (f g : Sta → PR RV) (s : Sta) : xIfV f g s (.ok true) = f s := Eq.trans rfl rfl
theorem e_xIfF (f g : Sta → PR RV) (s : Sta) : xIfV f g s (.ok false) = g s := Eq.trans rfl rfl
theorem e_p3 (g g' : D → D → Option RV) (fa fb fc : Sta → PR RV) : p3 g g' fa fb fc ⟨env, st⟩ = x3 g g' fc ⟨env, st⟩ (fa ⟨env, st⟩) (fb ⟨env, st⟩) := by
  unfold p3 PR.bind x3
  cases fa ⟨env, st⟩ with
  | ok x =>
    cases fb ⟨env, st⟩ with
    | ok y =>
      simp only []
      cases PR.of (g x.d y.d) with
      | ok r =>
        obtain ⟨k, d⟩ := r
        cases d <;> try rfl
        rename_i b
        cases b with
        | true => show _ = x1 (g' y.d) (fc ⟨env, st⟩); unfold x1; cases fc ⟨env, st⟩ <;> rfl
        | false => rfl
      | exc e => rfl
      | stuck => rfl
    | exc e => rfl
    | stuck => rfl
  | exc e => rfl
  | stuck => rfl
theorem e_x3 (g g' : D → D → Option RV) (fc : Sta → PR RV) (s : Sta) (k k' : RK) (x y : D) : x3 g g' fc s (.ok ⟨k, x⟩) (.ok ⟨k', y⟩) = x3b g' y fc s (xB (.of (g x y))) := Eq.trans rfl rfl
theorem e_x3bT (g' : D → D → Option RV) (y : D) (fc : Sta → PR RV) (s : Sta) : x3b g' y fc s (.ok true) = x1 (g' y) (fc s) := Eq.trans rfl rfl
theorem e_x3bF (g' : D → D → Option RV) (y : D) (fc : Sta → PR RV) (s : Sta) : x3b g' y fc s (.ok false) = .ok ⟨.sh, .bool false⟩ := Eq.trans rfl rfl
theorem e_pNil {α : Type} : (pNil : Sta → PR (List α)) ⟨env, st⟩ = .ok [] := Eq.trans rfl rfl
theorem e_pCons {α : Type} (f : Sta → PR α) (fs : Sta → PR (List α)) : pCons f fs ⟨env, st⟩ = xCons (f ⟨env, st⟩) (fs ⟨env, st⟩) := by
  unfold pCons PR.bind xCons
  cases f ⟨env, st⟩ <;> cases fs ⟨env, st⟩ <;> rfl
theorem e_xCons {α : Type} (x : α) (xs : List α) : xCons (.ok x) (.ok xs) = .ok (x :: xs) := Eq.trans rfl rfl
theorem e_pTup (fs : Sta → PR (List D)) : pTup fs ⟨env, st⟩ = xTp (fs ⟨env, st⟩) := by
  unfold pTup PR.bind xTp
  cases fs ⟨env, st⟩ <;> rfl
theorem e_xTp {ds : List D} (h : ds.length ≤ 1000) : xTp (.ok ds) = .ok ⟨.sh, .tup ds⟩ := if_pos h
theorem e_pLst (fs : Sta → PR (List D)) : pLst fs ⟨env, st⟩ = xLs (fs ⟨env, st⟩) := by
  unfold pLst PR.bind xLs
  cases fs ⟨env, st⟩ <;> rfl
theorem e_xLs {ds : List D} (h : ds.length ≤ 1000) : xLs (.ok ds) = .ok ⟨.fr, .list ds⟩ := if_pos h
theorem e_pNo : pNo ⟨env, st⟩ = .ok none := Eq.trans rfl rfl
theorem e_pSome (f : Sta → PR RV) : pSome f ⟨env, st⟩ = xSo (f ⟨env, st⟩) := by
  unfold pSome PR.bind xSo RV.int
  cases f ⟨env, st⟩ with
  | ok r => obtain ⟨k, d⟩ := r; cases d <;> rfl
  | exc e => rfl
  | stuck => rfl
theorem e_xSo (k : RK) (i : Int) : xSo (.ok ⟨k, .int i⟩) = .ok (some i) := Eq.trans rfl rfl
theorem e_pSl (fa : Sta → PR RV) (lo hi : Sta → PR (Option Int)) : pSl fa lo hi ⟨env, st⟩ = xSl (fa ⟨env, st⟩) (lo ⟨env, st⟩) (hi ⟨env, st⟩) := by
  unfold pSl PR.bind xSl
  cases fa ⟨env, st⟩ <;> cases lo ⟨env, st⟩ <;> cases hi ⟨env, st⟩ <;> rfl
theorem e_xSl (k : RK) (x : D) (l u : Option Int) : xSl (.ok ⟨k, x⟩) (.ok l) (.ok u) = PR.of (gSl x l u) := Eq.trans rfl rfl
theorem e_pCall (g : List D → Option RV) (fs : Sta → PR (List RV)) : pCall g fs ⟨env, st⟩ = xG g (fs ⟨env, st⟩) := by
  unfold pCall PR.bind xG
  cases fs ⟨env, st⟩ <;> rfl
theorem e_xG {α : Type} (g : List D → Option α) (rs : List RV) : xG g (.ok rs) = PR.of (g (rs.map RV.d)) := Eq.trans rfl rfl
theorem e_pSeq (f : Sta → PR D) : pSeq f ⟨env, st⟩ = xSq (f ⟨env, st⟩) := by
  unfold pSeq PR.bind xSq
  cases f ⟨env, st⟩ <;> rfl
theorem e_xSq (d : D) : xSq (.ok d) = PR.of (seqOf d) := Eq.trans rfl rfl
theorem e_pSeqR (f : Sta → PR RV) : pSeqR f ⟨env, st⟩ = xSqR (f ⟨env, st⟩) := by
  unfold pSeqR PR.bind xSqR
  cases f ⟨env, st⟩ <;> rfl
theorem e_xSqR (k : RK) (d : D) : xSqR (.ok ⟨k, d⟩) = PR.of (seqOf d) := Eq.trans rfl rfl
theorem e_pRng (g : List D → Option (List D)) (fs : Sta → PR (List RV)) : pRng g fs ⟨env, st⟩ = xG g (fs ⟨env, st⟩) := by
  unfold pRng PR.bind xG
  cases fs ⟨env, st⟩ <;> rfl
theorem e_pEnum (fs : Sta → PR (List D)) : pEnum fs ⟨env, st⟩ = xEn (fs ⟨env, st⟩) := by
  unfold pEnum PR.bind xEn
  cases fs ⟨env, st⟩ <;> rfl
theorem e_xEn (d : List D) : xEn (.ok d) = PR.of (gEnum d) := Eq.trans rfl rfl
theorem e_pComp (f : Sta → PR (List D)) (t : Tg) (vs : List Nat) (tt : Sta → PR Bool) (te : Sta → PR D) : pComp f t vs tt te ⟨env, st⟩ = xC t tt te ⟨wipeE env vs, st⟩ (f ⟨env, st⟩) := by
  unfold pComp PR.bind xC xC2
  cases f ⟨env, st⟩ with
  | ok ds =>
    simp only []
    split
    · cases compL t tt te ⟨wipeE env vs, st⟩ ds <;> rfl
    · rfl
  | exc e => rfl
  | stuck => rfl
theorem e_xC {t : Tg} {tt : Sta → PR Bool} {te : Sta → PR D} {s : Sta} {ds : List D} (h : ds.length ≤ 16777216) : xC t tt te s (.ok ds) = xC2 (compL t tt te s ds) := if_pos h
theorem e_xC2 (r : List D) : xC2 (.ok r) = .ok ⟨.fr, .list r⟩ := Eq.trans rfl rfl
theorem e_pUser (n : Nat) (sem : Sem) (fs : Sta → PR (List D)) : pUser n sem fs ⟨env, st⟩ = xU n sem (fs ⟨env, st⟩) := by
  unfold pUser PR.bind xU xF
  cases fs ⟨env, st⟩ with
  | ok ds =>
    simp only []
    split
    · cases sem ds [] with
      | ok r st' => cases r <;> rfl
      | exc e st' => rfl
      | stuck => rfl
    · rfl
  | exc e => rfl
  | stuck => rfl
theorem e_xU {n : Nat} {sem : Sem} {ds : List D} (h : ds.length = n) : xU n sem (.ok ds) = xF (sem ds []) := if_pos h
theorem e_xFv (d : D) (st : List Ob) : xF (.ok (.v d) st) = .ok ⟨.sh, d⟩ := Eq.trans rfl rfl
theorem e_xFo (d : D) (st : List Ob) : xF (.ok (.own d) st) = .ok ⟨.fr, d⟩ := Eq.trans rfl rfl
theorem e_xFe (e : Ex) (st : List Ob) : xF (.exc e st) = .exc e := Eq.trans rfl rfl
theorem e_pSeal (n : Nat) (sem : Sem) (fs : Sta → PR (List D)) : pSeal n sem fs ⟨env, st⟩ = xSe n sem (fs ⟨env, st⟩) := by
  unfold pSeal PR.bind xSe xSeF
  cases fs ⟨env, st⟩ <;> rfl
theorem e_xSe {n : Nat} {sem : Sem} {ds : List D} (h : ds.length = n) (h2 : noObjs ds = true) : xSe n sem (.ok ds) = xSeF (sem ds []) := if_pos ⟨h, h2⟩
theorem e_xSeFv {d : D} {st : List Ob} (h : d.noObj = true) : xSeF (.ok (.v d) st) = .ok ⟨.sh, d⟩ := if_pos h
theorem e_xSeFo {d : D} {st : List Ob} (h : d.noObj = true) : xSeF (.ok (.own d) st) = .ok ⟨.fr, d⟩ := if_pos h
theorem e_pLook (n : Nat) (sem : Sem) (fs : Sta → PR (List RV)) : pLook n sem fs ⟨env, st⟩ = xLo n sem (fs ⟨env, st⟩) := by
  unfold pLook PR.bind xLo xLoF
  cases fs ⟨env, st⟩ <;> rfl
theorem e_xLo {n : Nat} {sem : Sem} {rs : List RV} (h : rs.length = n) : xLo n sem (.ok rs) = xLoF (sem (rs.map RV.d) []) := if_pos h
theorem e_xLoF {d : D} {st : List Ob} (h : coldD d = true) : xLoF (.ok (.v d) st) = .ok ⟨.sh, d⟩ := if_pos h
theorem e_xLoO {ds : List D} {st : List Ob} (h : coldDs ds = true) : xLoF (.ok (.own (.list ds)) st) = .ok ⟨.fr, .list ds⟩ := if_pos h
theorem e_xLoE {e : Ex} {st : List Ob} (h : coldDf e.fs = true) : xLoF (.exc e st) = .exc e := if_pos h
theorem cold_map {α : Type} {f : α → D} (h : ∀ a, coldD (f a) = true) : ∀ l : List α, coldDs (l.map f) = true
  | [] => by rw [List.map_nil, coldDs]
  | a :: l => by rw [List.map_cons, coldDs, h a, cold_map h l]; rfl
theorem xLk_eq (f : Nat) : ∀ fs : List (Nat × Slot), PR.of ((fs.lookup f).bind Slot.look) = xLk f fs
  | [] => rfl
  | (g, s) :: r => by
    rw [List.lookup, xLk]
    by_cases h : f = g
    · rw [if_pos h, beq_iff_eq.mpr h]; rfl
    · rw [if_neg h, beq_eq_false_iff_ne.mpr h]; exact xLk_eq f r
theorem e_pFld (c f : Nat) (fo : Sta → PR RV) : pFld c f fo ⟨env, st⟩ = xFd c f st (fo ⟨env, st⟩) := by
  unfold pFld PR.bind xFd xOb RV.ob
  cases fo ⟨env, st⟩ with
  | ok r =>
    obtain ⟨k, d⟩ := r
    cases d <;> try rfl
    rename_i j
    simp only []
    cases st[j]? with
    | none => rfl
    | some ob =>
      simp only []
      by_cases h : ob.cls = c
      · rw [if_pos h, if_pos h]; exact xLk_eq f ob.fs
      · rw [if_neg h, if_neg h]
  | exc e => rfl
  | stuck => rfl
theorem e_xFd (c f j : Nat) (k : RK) : xFd c f st (.ok ⟨k, .obj j⟩) = xOb c f st[j]? := Eq.trans rfl rfl
theorem e_xOb {c f : Nat} {ob : Ob} (h : ob.cls = c) : xOb c f (some ob) = xLk f ob.fs := if_pos h
theorem e_xLk0 (f : Nat) (s : Slot) (r : List (Nat × Slot)) : xLk f ((f, s) :: r) = PR.of s.look := if_pos rfl
theorem e_xLk1 {f g : Nat} {s : Slot} {r : List (Nat × Slot)} (h : f ≠ g) : xLk f ((g, s) :: r) = xLk f r := if_neg h
theorem e_c0 : ((0 : Nat) : Int) = 0 := Eq.trans rfl rfl
theorem e_c1 : ((1 : Nat) : Int) = 1 := Eq.trans rfl rfl

/-! ### operations -/
theorem g_add (i j : Int) : gPlus (.int i) (.int j) = some ⟨.sh, .int (i + j)⟩ := Eq.trans rfl rfl
theorem g_catS {x y : Str} (h : x.length + y.length ≤ 16777216) : gPlus (.str x) (.str y) = some ⟨.sh, .str (x ++ y)⟩ := by
  show (gAdd _ _).or ((gCatS _ _).or _) = _
  unfold gCatS
  simp only [if_pos h]
  rfl
theorem g_catL {x y : List D} (h : x.length + y.length ≤ 16777216) : gPlus (.list x) (.list y) = some ⟨.fr, .list (x ++ y)⟩ := by
  show (gAdd _ _).or ((gCatS _ _).or ((gCatL _ _).or _)) = _
  unfold gCatL
  simp only [if_pos h]
  rfl
theorem g_catT {x y : List D} (h : x.length + y.length ≤ 16777216) : gPlus (.tup x) (.tup y) = some ⟨.sh, .tup (x ++ y)⟩ := by
  show (gAdd _ _).or ((gCatS _ _).or ((gCatL _ _).or (gCatT _ _))) = _
  unfold gCatT
  simp only [if_pos h]
  rfl
theorem g_sub (i j : Int) : gSub (.int i) (.int j) = some ⟨.sh, .int (i - j)⟩ := Eq.trans rfl rfl
theorem g_mul {i j : Int} (h : (-(18446744073709551616) < i ∧ i < 18446744073709551616) ∨ (-(18446744073709551616) < j ∧ j < 18446744073709551616)) : gTimes (.int i) (.int j) = some ⟨.sh, .int (i * j)⟩ := by
  have : (small64b i || small64b j) = true := by
    unfold small64b
    rw [Bool.or_eq_true, decide_eq_true_eq, decide_eq_true_eq]
    omega
  show (if (small64b i || small64b j) = true then _ else _ : Option RV).or _ = _
  rw [if_pos this]
  rfl
theorem g_rep {x : D} {n : Int} (h : n ≤ 16000000 ∧ -16000000 < n) : gTimes (.list [x]) (.int n) = some ⟨.fr, .list (List.replicate n.toNat x)⟩ := by
  have : n < 16777216 ∧ [x].length * n.toNat ≤ 16777216 ∧ -16777216 < n := by simp only [List.length_singleton]; omega
  show (gMul _ _).or (if _ then _ else _) = _
  rw [if_pos this]
  show some _ = _
  rw [List.flatten_replicate_singleton]
theorem g_div {i j : Int} (h : 0 < j ∧ j < 1606938044258990275541962092341162602522202993782792835301376) : gDiv (.int i) (.int j) = some ⟨.sh, .int (i / j)⟩ := by
  show (if decide _ = true then _ else _ : Option RV) = _
  rw [if_pos (decide_eq_true ⟨h.1, Int.lt_of_lt_of_le h.2 (by decide +kernel)⟩)]
theorem g_mod {i j : Int} (h : 0 < j) : gMod (.int i) (.int j) = some ⟨.sh, .int (i % j)⟩ := by
  show (if decide _ = true then _ else _ : Option RV) = _
  rw [if_pos (decide_eq_true h)]
theorem g_pow {i j : Int} (h : 0 ≤ j ∧ j ≤ 1000000 ∧ -(18446744073709551616) < i ∧ i < 18446744073709551616) : gPow (.int i) (.int j) = some ⟨.sh, .int (i ^ j.toNat)⟩ := by
  show (if decide _ = true then _ else _ : Option RV) = _
  rw [if_pos (decide_eq_true ⟨h.1, h.2.1, by omega⟩)]
theorem g_shl {i j : Int} (h : 0 ≤ j ∧ j ≤ 1000000 ∧ -(18446744073709551616) < i ∧ i < 18446744073709551616) : gShl (.int i) (.int j) = some ⟨.sh, .int (i * 2 ^ j.toNat)⟩ := by
  show (if decide _ = true then _ else _ : Option RV) = _
  rw [if_pos (decide_eq_true ⟨h.1, h.2.1, by omega⟩)]
theorem g_shr {i j : Int} (h : 0 ≤ j) : gShr (.int i) (.int j) = some ⟨.sh, .int (i / 2 ^ j.toNat)⟩ := by
  show (if decide _ = true then _ else _ : Option RV) = _
  rw [if_pos (decide_eq_true h)]
theorem g_and (i j : Int) : gAnd (.int i) (.int j) = some ⟨.sh, .int (Builtin.bitAnd i j)⟩ := Eq.trans rfl rfl
theorem g_orI (i j : Int) : gOr (.int i) (.int j) = some ⟨.sh, .int (Builtin.bitOr i j)⟩ := Eq.trans rfl rfl
theorem g_neg (i : Int) : gNeg (.int i) = some ⟨.sh, .int (-i)⟩ := Eq.trans rfl rfl
theorem g_lt (i j : Int) : gLt (.int i) (.int j) = some ⟨.sh, .bool (decide (i < j))⟩ := Eq.trans rfl rfl
theorem g_le (i j : Int) : gLe (.int i) (.int j) = some ⟨.sh, .bool (decide (i ≤ j))⟩ := Eq.trans rfl rfl
theorem g_gt (i j : Int) : gGt (.int i) (.int j) = some ⟨.sh, .bool (decide (j < i))⟩ := Eq.trans rfl rfl
theorem g_ge (i j : Int) : gGe (.int i) (.int j) = some ⟨.sh, .bool (decide (j ≤ i))⟩ := Eq.trans rfl rfl
theorem g_eqI (i j : Int) : gEq (.int i) (.int j) = some ⟨.sh, .bool (decide (i = j))⟩ := Eq.trans rfl rfl
theorem g_eqS (i j : Str) : gEq (.str i) (.str j) = some ⟨.sh, .bool (i == j)⟩ := Eq.trans rfl rfl
theorem g_eqBo (i j : Bool) : gEq (.bool i) (.bool j) = some ⟨.sh, .bool (i == j)⟩ := Eq.trans rfl rfl
theorem g_neI (i j : Int) : gNe (.int i) (.int j) = some ⟨.sh, .bool (!decide (i = j))⟩ := Eq.trans rfl rfl
theorem g_neS (i j : Str) : gNe (.str i) (.str j) = some ⟨.sh, .bool (!(i == j))⟩ := Eq.trans rfl rfl
theorem g_neBo (i j : Bool) : gNe (.bool i) (.bool j) = some ⟨.sh, .bool (!(i == j))⟩ := Eq.trans rfl rfl
theorem g_is (d : D) : gIs d .none = some ⟨.sh, .bool d.isNone⟩ := Eq.trans rfl rfl
theorem g_isNot (d : D) : gIsNot d .none = some ⟨.sh, .bool (!d.isNone)⟩ := Eq.trans rfl rfl
theorem n_none : D.isNone .none = true := Eq.trans rfl rfl
theorem n_int (i : Int) : D.isNone (.int i) = false := Eq.trans rfl rfl
theorem n_str (i : Str) : D.isNone (.str i) = false := Eq.trans rfl rfl
theorem n_tup (i : List D) : D.isNone (.tup i) = false := Eq.trans rfl rfl
theorem n_list (i : List D) : D.isNone (.list i) = false := Eq.trans rfl rfl
theorem n_bool (i : Bool) : D.isNone (.bool i) = false := Eq.trans rfl rfl
theorem g_max (i j : Int) : gMax [.int i, .int j] = some ⟨.sh, .int (if j > i then j else i)⟩ := Eq.trans rfl rfl
theorem g_min (i j : Int) : gMin [.int i, .int j] = some ⟨.sh, .int (if j < i then j else i)⟩ := Eq.trans rfl rfl
theorem g_lenL (x : List D) : gLen [.list x] = some ⟨.sh, .int x.length⟩ := Eq.trans rfl rfl
theorem g_lenK (x : List D) : gLen [.lk x] = some ⟨.sh, .int x.length⟩ := Eq.trans rfl rfl
theorem g_lenT (x : List D) : gLen [.tup x] = some ⟨.sh, .int x.length⟩ := Eq.trans rfl rfl
theorem g_listL (x : List D) : gList [.list x] = some ⟨.fr, .list x⟩ := Eq.trans rfl rfl
theorem g_listK (x : List D) : gList [.lk x] = some ⟨.fr, .list x⟩ := Eq.trans rfl rfl
theorem g_listT (x : List D) : gList [.tup x] = some ⟨.fr, .list x⟩ := Eq.trans rfl rfl
theorem g_tupL (x : List D) : gTuple [.list x] = some ⟨.sh, .tup x⟩ := Eq.trans rfl rfl
theorem g_tupT (x : List D) : gTuple [.tup x] = some ⟨.sh, .tup x⟩ := Eq.trans rfl rfl
theorem q_list (x : List D) : seqOf (.list x) = some x := Eq.trans rfl rfl
theorem q_lk (x : List D) : seqOf (.lk x) = some x := Eq.trans rfl rfl
theorem q_tup (x : List D) : seqOf (.tup x) = some x := Eq.trans rfl rfl
theorem g_rng1 {j : Int} (h : -4611686018427387904 ≤ j ∧ j < 4611686018427387904) : gRng1 [.int j] = some (rng 0 j) := by
  show (if big62 j = true then _ else _ : Option (List D)) = _
  rw [if_pos (by unfold big62; exact decide_eq_true h)]
theorem g_rng2 {i j : Int} (h : -4611686018427387904 ≤ i ∧ i < 4611686018427387904 ∧ -4611686018427387904 ≤ j ∧ j < 4611686018427387904) : gRng2 [.int i, .int j] = some (rng i j) := by
  show (if (big62 i && big62 j) = true then _ else _ : Option (List D)) = _
  rw [if_pos (by unfold big62; rw [Bool.and_eq_true]; exact ⟨decide_eq_true ⟨h.1, h.2.1⟩, decide_eq_true h.2.2⟩)]
theorem g_enumL (x : List D) : gEnum [.list x] = some (enumD 0 x) := Eq.trans rfl rfl
theorem g_enumK (x : List D) : gEnum [.lk x] = some (enumD 0 x) := Eq.trans rfl rfl
theorem g_ixL (x : List D) (i : Int) : gIx (.list x) (.int i) = (atI x i).map (RV.mk .sh) := Eq.trans rfl rfl
theorem g_ixK (x : List D) (i : Int) : gIx (.lk x) (.int i) = (atI x i).map (RV.mk .sh) := Eq.trans rfl rfl
theorem g_ixT (x : List D) (i : Int) : gIx (.tup x) (.int i) = (atI x i).map (RV.mk .sh) := Eq.trans rfl rfl
theorem atN {α : Type} (x : List α) (i : Nat) : atI x (i : Int) = x[i]? := by
  unfold atI ixN
  rw [if_pos (by omega)]
  by_cases h : (i : Int) < x.length
  · rw [if_pos h, Option.bind_some, Int.toNat_natCast]
  · rw [if_neg h, Option.bind_none, List.getElem?_eq_none (by omega)]
theorem atPos {α : Type} (x : List α) {i : Int} (h : 0 ≤ i) : atI x i = x[i.toNat]? := by
  conv => lhs; rw [← Int.toNat_of_nonneg h]
  exact atN x _
theorem at0 {α : Type} (x : List α) : atI x 0 = x[0]? := atN x 0
theorem at1 {α : Type} (x : List α) : atI x 1 = x[1]? := atN x 1
theorem at2 {α : Type} (x : List α) : atI x 2 = x[2]? := atN x 2
theorem atLit {α : Type} (x : List α) (n : Nat) : atI x (no_index (OfNat.ofNat (n + 2))) = x[n + 2]? := atN x (n + 2)
theorem atLast {α : Type} (x : List α) : atI x (-1) = x.getLast? := by
  unfold atI ixN
  rw [if_neg (by omega)]
  cases x with
  | nil => rfl
  | cons a l =>
    rw [if_pos (by simp only [List.length_cons]; omega), Option.bind_some, List.getLast?_eq_getElem?]
    congr 1
    simp only [List.length_cons]
    omega
theorem g_slL (x : List D) (l h : Option Int) : gSl (.list x) l h = some ⟨.fr, .list (cutD x l h)⟩ := Eq.trans rfl rfl
theorem g_slK (x : List D) (l h : Option Int) : gSl (.lk x) l h = some ⟨.fr, .list (cutD x l h)⟩ := Eq.trans rfl rfl
theorem g_slT (x : List D) (l h : Option Int) : gSl (.tup x) l h = some ⟨.sh, .tup (cutD x l h)⟩ := Eq.trans rfl rfl
theorem cut_eq {α : Type} (x : List α) {l h : Int} (hl : 0 ≤ l) (hh : 0 ≤ h) : cutD x (some l) (some h) = (x.drop l.toNat).take (h.toNat - l.toNat) := by
  unfold cutD HT.sIx
  simp only []
  rw [if_neg (by omega), if_neg (by omega)]
  by_cases h1 : l.toNat ≤ x.length
  · rw [Nat.min_eq_left h1]
    by_cases h2 : h.toNat ≤ x.length
    · rw [Nat.min_eq_left h2]
    · rw [Nat.min_eq_right (by omega), List.take_of_length_le (by simp), List.take_of_length_le (by simp; omega)]
  · have e : min l.toNat x.length = x.length := Nat.min_eq_right (by omega)
    rw [e, List.drop_eq_nil_of_le (Nat.le_refl _), List.drop_eq_nil_of_le (by omega)]
    simp
theorem cut_lo {α : Type} (x : List α) {l : Int} (hl : 0 ≤ l) : cutD x (some l) none = x.drop l.toNat := by
  unfold cutD HT.sIx
  simp only []
  rw [if_neg (by omega)]
  by_cases h1 : l.toNat ≤ x.length
  · rw [Nat.min_eq_left h1, List.take_of_length_le (by simp)]
  · rw [Nat.min_eq_right (by omega), List.drop_eq_nil_of_le (Nat.le_refl _), List.drop_eq_nil_of_le (by omega)]
    simp
theorem cut_hi {α : Type} (x : List α) {h : Int} (hh : 0 ≤ h) : cutD x none (some h) = x.take h.toNat := by
  unfold cutD HT.sIx
  simp only []
  rw [if_neg (by omega), List.drop_zero, Nat.sub_zero]
  by_cases h1 : h.toNat ≤ x.length
  · rw [Nat.min_eq_left h1]
  · rw [Nat.min_eq_right (by omega), List.take_of_length_le (Nat.le_refl _), List.take_of_length_le (by omega)]
theorem rng_0 (n : Nat) : rng 0 (n : Int) = (List.range n).map fun k => D.int (k : Nat) := by
  unfold rng
  rw [Int.sub_zero, Int.toNat_natCast]
  congr 1
  funext k
  rw [Int.zero_add]

theorem rngAt {n : Int} {i : Nat} {d : D} (h : (rng 0 n)[i]? = some d) : d = .int (i : Int) ∧ (i : Int) < n := by
  unfold rng at h
  rw [List.getElem?_map] at h
  have hi : i < (n - 0).toNat := by
    by_cases c : i < (n - 0).toNat
    · exact c
    · rw [List.getElem?_eq_none (by simp; omega)] at h
      cases h
  rw [List.getElem?_range hi] at h
  refine ⟨?_, by omega⟩
  rw [← Option.some.inj h]
  show D.int (0 + (i : Int)) = _
  rw [Int.zero_add]
theorem rngLen (n : Int) : (rng 0 n).length = n.toNat := by unfold rng; simp
theorem rngLenN (n : Nat) : (rng 0 (n : Int)).length = n := by rw [rngLen]; simp

/-! ### statements -/
def xSeq (g2 : Sta → Fl) : Fl → Fl
  | .nx s' => g2 s'
  | .ret r s => .ret r s
  | .brk s => .brk s
  | .cont s => .cont s
  | .exc e s => .exc e s
  | .stuck => .stuck
def xEx (s : Sta) : PR RV → Fl
  | .ok _ => .nx s
  | .exc e => .exc e s
  | .stuck => .stuck
def xSV (i : Nat) (env : List Slot) (st : List Ob) : PR D → Fl
  | .ok d => .nx ⟨env.set i (.v d), st⟩
  | .exc e => .exc e ⟨env, st⟩
  | .stuck => .stuck
def xSO (i : Nat) (env : List Slot) (st : List Ob) : PR RV → Fl
  | .ok ⟨.sh, d⟩ => .nx ⟨env.set i (.v d), st⟩
  | .ok ⟨.fr, d⟩ => .nx ⟨env.set i (.own d), st⟩
  | .ok ⟨.pk, _⟩ => .stuck
  | .exc e => .exc e ⟨env, st⟩
  | .stuck => .stuck
def xRt (s : Sta) : PR RV → Fl
  | .ok ⟨.sh, d⟩ => .ret (.v d) s
  | .ok ⟨.fr, d⟩ => .ret (.own d) s
  | .ok ⟨.pk, _⟩ => .stuck
  | .exc e => .exc e s
  | .stuck => .stuck
def xRS (s : Sta) : Option Slot → Fl
  | some (.own d) => .ret (.own d) s
  | some (.v d) => .ret (.v d) s
  | some .un => .stuck
  | some (.hid _) => .stuck
  | none => .stuck
def xIf (g1 g2 : Sta → Fl) (s : Sta) : PR Bool → Fl
  | .ok true => g1 s
  | .ok false => g2 s
  | .exc e => .exc e s
  | .stuck => .stuck
def xTb (st : List Ob) : Option (List Slot) → Fl
  | some env => .nx ⟨env, st⟩
  | none => .stuck
def xTu (t : Tg) (env : List Slot) (st : List Ob) : PR D → Fl
  | .ok d => xTb st (t.bind d env)
  | .exc e => .exc e ⟨env, st⟩
  | .stuck => .stuck
def xFor (t : Tg) (g : Sta → Fl) (s : Sta) : PR (List D) → Fl
  | .ok ds => loopL t g ds s
  | .exc e => .exc e s
  | .stuck => .stuck
def xAp (i : Nat) (env : List Slot) (st : List Ob) : Option Slot → PR D → Fl
  | some (.own (.list ds)), .ok d => if ds.length < 16777216 then .nx ⟨env.set i (.own (.list (ds ++ [d]))), st⟩ else .stuck
  | some (.own (.list _)), .exc e => .exc e ⟨env, st⟩
  | some (.own (.list _)), .stuck => .stuck
  | _, _ => .stuck
def xFz (i : Nat) (env : List Slot) (st : List Ob) : Option Slot → Sta
  | some (.own d) => ⟨env.set i (.v d), st⟩
  | some (.v _) => ⟨env, st⟩
  | some .un => ⟨env, st⟩
  | some (.hid _) => ⟨env, st⟩
  | none => ⟨env, st⟩
def xTh (i : Nat) : Fl → Fl
  | .nx s => .nx (frz i s)
  | .ret r s => .ret r s
  | .brk s => .brk s
  | .cont s => .cont s
  | .exc e s => .exc e s
  | .stuck => .stuck
def xEF : Fe → Fl
  | .ok _ s => .nx s
  | .exc e s => .exc e s
  | .stuck => .stuck
def xSF (i : Nat) : Fe → Fl
  | .ok r s => .nx ⟨s.env.set i r, s.st⟩
  | .exc e s => .exc e s
  | .stuck => .stuck
def xRF : Fe → Fl
  | .ok r s => .ret r s
  | .exc e s => .exc e s
  | .stuck => .stuck
def xIF (g1 g2 : Sta → Fl) : Fe → Fl
  | .ok (.v (.bool true)) s => g1 s
  | .ok (.v (.bool false)) s => g2 s
  | .ok _ _ => .stuck
  | .exc e s => .exc e s
  | .stuck => .stuck
def xN3 (c f : Nat) (r : Slot) (j : Nat) (env : List Slot) (st : List Ob) : Option Ob → Fl
  | some ob => if ob.cls = c then (if ob.fs.length < 900 then .nx ⟨env, st.set j ⟨ob.cls, putO f r ob.fs⟩⟩ else .stuck) else .stuck
  | none => .stuck
def xN2 (c f : Nat) (r : Slot) (env : List Slot) (st : List Ob) : PR RV → Fl
  | .ok ⟨_, .obj j⟩ => xN3 c f r j env st st[j]?
  | .ok _ => .stuck
  | .exc e => .exc e ⟨env, st⟩
  | .stuck => .stuck
def xN (c f i : Nat) : Fe → Fl
  | .ok r ⟨env, st⟩ => xN2 c f r env st (PR.of (env[i]?.bind Slot.look))
  | .exc e s => .exc e s
  | .stuck => .stuck
def xP (s : Sta) : PR RV → Fe
  | .ok ⟨.sh, d⟩ => .ok (.v d) s
  | .ok ⟨.fr, d⟩ => .ok (.own d) s
  | .ok ⟨.pk, _⟩ => .stuck
  | .exc e => .exc e s
  | .stuck => .stuck
def xFU (n : Nat) (sem : Sem) (env : List Slot) (st : List Ob) : PR (List D) → Fe
  | .ok ds => if ds.length = n then (sem ds st).fe ⟨env, st⟩ else .stuck
  | .exc e => .exc e ⟨env, st⟩
  | .stuck => .stuck
def xM2 (c n : Nat) (sem : Sem) (env : List Slot) (st : List Ob) (j : Nat) (r : PR (List D)) : Option Ob → Fe
  | some ob => if ob.cls = c then (match r with
      | .ok ds => if ds.length + 1 = n then (sem (.obj j :: ds) st).fe ⟨env, st⟩ else .stuck
      | .exc e => .exc e ⟨env, st⟩
      | .stuck => .stuck) else .stuck
  | none => .stuck
def xM (c n : Nat) (sem : Sem) (env : List Slot) (st : List Ob) : PR RV → PR (List D) → Fe
  | .ok ⟨_, .obj j⟩, r => xM2 c n sem env st j r st[j]?
  | .ok _, _ => .stuck
  | .exc e, _ => .exc e ⟨env, st⟩
  | .stuck, _ => .stuck
def xMkF (j : Nat) (env : List Slot) : Fr → Fe
  | .ok (.v .none) st' => .ok (.v (.obj j)) ⟨env, st'⟩
  | .ok _ _ => .stuck
  | .exc e st' => .exc e ⟨env, st'⟩
  | .stuck => .stuck
def xMk (c n : Nat) (sem : Sem) (env : List Slot) (st : List Ob) : PR (List D) → Fe
  | .ok ds => if ds.length + 1 = n then xMkF st.length env (sem (.obj st.length :: ds) (st ++ [⟨c, []⟩])) else .stuck
  | .exc e => .exc e ⟨env, st⟩
  | .stuck => .stuck
theorem s_Nil : sNil ⟨env, st⟩ = .nx ⟨env, st⟩ := Eq.trans rfl rfl
theorem s_Brk : sBrk ⟨env, st⟩ = .brk ⟨env, st⟩ := Eq.trans rfl rfl
theorem s_Cont : sCont ⟨env, st⟩ = .cont ⟨env, st⟩ := Eq.trans rfl rfl
theorem s_Seq (g1 g2 : Sta → Fl) : sSeq g1 g2 ⟨env, st⟩ = xSeq g2 (g1 ⟨env, st⟩) := by
  unfold sSeq xSeq
  cases g1 ⟨env, st⟩ <;> rfl
theorem s_xSn (g2 : Sta → Fl) (s : Sta) : xSeq g2 (.nx s) = g2 s := Eq.trans rfl rfl
theorem s_xSr (g2 : Sta → Fl) (r : Slot) (s : Sta) : xSeq g2 (.ret r s) = .ret r s := Eq.trans rfl rfl
theorem s_xSb (g2 : Sta → Fl) (s : Sta) : xSeq g2 (.brk s) = .brk s := Eq.trans rfl rfl
theorem s_xSc (g2 : Sta → Fl) (s : Sta) : xSeq g2 (.cont s) = .cont s := Eq.trans rfl rfl
theorem s_xSe (g2 : Sta → Fl) (e : Ex) (s : Sta) : xSeq g2 (.exc e s) = .exc e s := Eq.trans rfl rfl
theorem s_Expr (f : Sta → PR RV) : sExpr f ⟨env, st⟩ = xEx ⟨env, st⟩ (f ⟨env, st⟩) := by
  unfold sExpr PR.fl xEx
  cases f ⟨env, st⟩ <;> rfl
theorem s_xEx (r : RV) (s : Sta) : xEx s (.ok r) = .nx s := Eq.trans rfl rfl
theorem s_SetV (i : Nat) (f : Sta → PR D) : sSetV i f ⟨env, st⟩ = xSV i env st (f ⟨env, st⟩) := by
  unfold sSetV PR.fl xSV
  cases f ⟨env, st⟩ <;> rfl
theorem s_xSV (i : Nat) (d : D) : xSV i env st (.ok d) = .nx ⟨env.set i (.v d), st⟩ := Eq.trans rfl rfl
theorem s_SetO (i : Nat) (f : Sta → PR RV) : sSetO i f ⟨env, st⟩ = xSO i env st (f ⟨env, st⟩) := by
  unfold sSetO PR.fl xSO RV.slot
  cases f ⟨env, st⟩ with
  | ok r => obtain ⟨k, d⟩ := r; cases k <;> rfl
  | exc e => rfl
  | stuck => rfl
theorem s_xSOs (i : Nat) (d : D) : xSO i env st (.ok ⟨.sh, d⟩) = .nx ⟨env.set i (.v d), st⟩ := Eq.trans rfl rfl
theorem s_xSOf (i : Nat) (d : D) : xSO i env st (.ok ⟨.fr, d⟩) = .nx ⟨env.set i (.own d), st⟩ := Eq.trans rfl rfl
theorem s_Ret (f : Sta → PR RV) : sRet f ⟨env, st⟩ = xRt ⟨env, st⟩ (f ⟨env, st⟩) := by
  unfold sRet PR.fl xRt RV.slot
  cases f ⟨env, st⟩ with
  | ok r => obtain ⟨k, d⟩ := r; cases k <;> rfl
  | exc e => rfl
  | stuck => rfl
theorem s_xRts (s : Sta) (d : D) : xRt s (.ok ⟨.sh, d⟩) = .ret (.v d) s := Eq.trans rfl rfl
theorem s_xRtf (s : Sta) (d : D) : xRt s (.ok ⟨.fr, d⟩) = .ret (.own d) s := Eq.trans rfl rfl
theorem s_RetN : sRetN ⟨env, st⟩ = .ret (.v .none) ⟨env, st⟩ := Eq.trans rfl rfl
theorem s_RetS (i : Nat) : sRetS i ⟨env, st⟩ = xRS ⟨env, st⟩ env[i]? := by
  unfold sRetS xRS
  cases env[i]? with
  | none => rfl
  | some s => cases s <;> rfl
theorem s_xRSo (s : Sta) (d : D) : xRS s (some (.own d)) = .ret (.own d) s := Eq.trans rfl rfl
theorem s_xRSv (s : Sta) (d : D) : xRS s (some (.v d)) = .ret (.v d) s := Eq.trans rfl rfl
theorem s_If (t : Sta → PR Bool) (g1 g2 : Sta → Fl) : sIf t g1 g2 ⟨env, st⟩ = xIf g1 g2 ⟨env, st⟩ (t ⟨env, st⟩) := by
  unfold sIf PR.fl xIf
  rcases t ⟨env, st⟩ with (_ | _) | e | _ <;> rfl
theorem s_xIfT (g1 g2 : Sta → Fl) (s : Sta) : xIf g1 g2 s (.ok true) = g1 s := Eq.trans rfl rfl
theorem s_xIfF (g1 g2 : Sta → Fl) (s : Sta) : xIf g1 g2 s (.ok false) = g2 s := Eq.trans rfl rfl
theorem s_Tup (t : Tg) (f : Sta → PR D) : sTup t f ⟨env, st⟩ = xTu t env st (f ⟨env, st⟩) := by
  unfold sTup PR.fl xTu xTb
  cases f ⟨env, st⟩ <;> rfl
theorem s_xTu (t : Tg) (d : D) : xTu t env st (.ok d) = xTb st (t.bind d env) := Eq.trans rfl rfl
theorem s_xTb : xTb st (some env) = .nx ⟨env, st⟩ := Eq.trans rfl rfl
theorem s_For (f : Sta → PR (List D)) (t : Tg) (g : Sta → Fl) : sFor f t g ⟨env, st⟩ = xFor t g ⟨env, st⟩ (f ⟨env, st⟩) := by
  unfold sFor PR.fl xFor
  cases f ⟨env, st⟩ <;> rfl
theorem s_xFor (t : Tg) (g : Sta → Fl) (s : Sta) (ds : List D) : xFor t g s (.ok ds) = loopL t g ds s := Eq.trans rfl rfl
theorem s_App (i : Nat) (f : Sta → PR D) : sApp i f ⟨env, st⟩ = xAp i env st env[i]? (f ⟨env, st⟩) := by
  unfold sApp PR.fl xAp
  rcases env[i]? with _ | (_ | d | d | d) <;> try rfl
  cases d <;> try rfl
  cases f ⟨env, st⟩ <;> rfl
theorem s_xAp {i : Nat} {ds : List D} {d : D} (h : ds.length < 16777216) : xAp i env st (some (.own (.list ds))) (.ok d) = .nx ⟨env.set i (.own (.list (ds ++ [d]))), st⟩ := if_pos h
theorem s_Thaw (i : Nat) (g : Sta → Fl) : sThaw i g ⟨env, st⟩ = xTh i (g ⟨env, st⟩) := by
  unfold sThaw xTh
  cases g ⟨env, st⟩ <;> rfl
theorem s_xTh (i : Nat) : xTh i (.nx ⟨env, st⟩) = .nx (xFz i env st env[i]?) := by
  unfold xTh frz xFz
  simp only []
  rcases env[i]? with _ | (_ | d | d | d) <;> rfl
theorem s_Frz (i : Nat) (g : Sta → Fl) : sFrz i g ⟨env, st⟩ = g (xFz i env st env[i]?) := by
  unfold sFrz frz xFz
  simp only []
  rcases env[i]? with _ | (_ | d | d | d) <;> rfl
theorem s_xFzo (i : Nat) (d : D) : xFz i env st (some (.own d)) = ⟨env.set i (.v d), st⟩ := Eq.trans rfl rfl
theorem s_xFzv (i : Nat) (d : D) : xFz i env st (some (.v d)) = ⟨env, st⟩ := Eq.trans rfl rfl
theorem s_ExprF (g : Sta → Fe) : sExprF g ⟨env, st⟩ = xEF (g ⟨env, st⟩) := by
  unfold sExprF Fe.fl xEF
  cases g ⟨env, st⟩ <;> rfl
theorem s_xEF (r : Slot) (s : Sta) : xEF (.ok r s) = .nx s := Eq.trans rfl rfl
theorem s_SetF (i : Nat) (g : Sta → Fe) : sSetF i g ⟨env, st⟩ = xSF i (g ⟨env, st⟩) := by
  unfold sSetF Fe.fl xSF
  cases g ⟨env, st⟩ <;> rfl
theorem s_xSF (i : Nat) (r : Slot) : xSF i (.ok r ⟨env, st⟩) = .nx ⟨env.set i r, st⟩ := Eq.trans rfl rfl
theorem s_RetF (g : Sta → Fe) : sRetF g ⟨env, st⟩ = xRF (g ⟨env, st⟩) := by
  unfold sRetF Fe.fl xRF
  cases g ⟨env, st⟩ <;> rfl
theorem s_xRF (r : Slot) (s : Sta) : xRF (.ok r s) = .ret r s := Eq.trans rfl rfl
theorem s_IfF (g : Sta → Fe) (g1 g2 : Sta → Fl) : sIfF g g1 g2 ⟨env, st⟩ = xIF g1 g2 (g ⟨env, st⟩) := by
  unfold sIfF Fe.fl xIF
  rcases g ⟨env, st⟩ with ⟨(_ | d | d), s⟩ | ⟨e, s⟩ | _ <;> try rfl
  cases d <;> try rfl
  rename_i b
  cases b <;> rfl
theorem s_xIFT (g1 g2 : Sta → Fl) (s : Sta) : xIF g1 g2 (.ok (.v (.bool true)) s) = g1 s := Eq.trans rfl rfl
theorem s_xIFF (g1 g2 : Sta → Fl) (s : Sta) : xIF g1 g2 (.ok (.v (.bool false)) s) = g2 s := Eq.trans rfl rfl
theorem s_FldN (c f i : Nat) (g : Sta → Fe) : sFldN c f i g ⟨env, st⟩ = xN c f i (g ⟨env, st⟩) := by
  unfold sFldN Fe.fl xN
  cases g ⟨env, st⟩ with
  | ok r s =>
    obtain ⟨env', st'⟩ := s
    simp only [pVar]
    cases PR.of (env'[i]?.bind Slot.look) with
    | ok q =>
      obtain ⟨k, d⟩ := q
      cases d <;> try rfl
      rename_i j
      simp only [PR.fl, RV.ob, xN2]
      cases st'[j]? with
      | none => rfl
      | some ob =>
        simp only [xN3]
        by_cases h : ob.cls = c
        · rw [if_pos h, if_pos h]; rfl
        · rw [if_neg h, if_neg h]
    | exc e => rfl
    | stuck => rfl
  | exc e s => rfl
  | stuck => rfl
theorem s_xN (c f i : Nat) (r : Slot) : xN c f i (.ok r ⟨env, st⟩) = xN2 c f r env st (PR.of (env[i]?.bind Slot.look)) := Eq.trans rfl rfl
theorem s_xN2 (c f j : Nat) (r : Slot) (k : RK) : xN2 c f r env st (.ok ⟨k, .obj j⟩) = xN3 c f r j env st st[j]? := Eq.trans rfl rfl
theorem s_xN3 {c f j : Nat} {r : Slot} {ob : Ob} (h : ob.cls = c) (h2 : ob.fs.length < 900) : xN3 c f r j env st (some ob) = .nx ⟨env, st.set j ⟨ob.cls, putO f r ob.fs⟩⟩ := (if_pos h).trans (if_pos h2)
theorem s_put0 (f : Nat) (s x : Slot) (r : List (Nat × Slot)) : putO f s ((f, x) :: r) = (f, s) :: r := by unfold putO; rw [if_pos rfl]
theorem s_put1 {f g : Nat} {s x : Slot} {r : List (Nat × Slot)} (h : g ≠ f) : putO f s ((g, x) :: r) = (g, x) :: putO f s r := by conv => lhs; unfold putO
                                                                                                                                  rw [if_neg h]
theorem s_putN (f : Nat) (s : Slot) : putO f s [] = [(f, s)] := Eq.trans rfl rfl
theorem f_P (f : Sta → PR RV) : fP f ⟨env, st⟩ = xP ⟨env, st⟩ (f ⟨env, st⟩) := by
  unfold fP xP RV.slot
  cases f ⟨env, st⟩ with
  | ok r => obtain ⟨k, d⟩ := r; cases k <;> rfl
  | exc e => rfl
  | stuck => rfl
theorem f_xPs (s : Sta) (d : D) : xP s (.ok ⟨.sh, d⟩) = .ok (.v d) s := Eq.trans rfl rfl
theorem f_xPf (s : Sta) (d : D) : xP s (.ok ⟨.fr, d⟩) = .ok (.own d) s := Eq.trans rfl rfl
theorem f_User (n : Nat) (sem : Sem) (fs : Sta → PR (List D)) : fUser n sem fs ⟨env, st⟩ = xFU n sem env st (fs ⟨env, st⟩) := by
  unfold fUser xFU
  cases fs ⟨env, st⟩ <;> rfl
theorem f_xFU {n : Nat} {sem : Sem} {ds : List D} (h : ds.length = n) : xFU n sem env st (.ok ds) = (sem ds st).fe ⟨env, st⟩ := if_pos h
theorem f_Meth (c n : Nat) (sem : Sem) (fo : Sta → PR RV) (fa : Sta → PR (List D)) : fMeth c n sem fo fa ⟨env, st⟩ = xM c n sem env st (fo ⟨env, st⟩) (fa ⟨env, st⟩) := by
  unfold fMeth xM
  cases fo ⟨env, st⟩ with
  | ok r =>
    obtain ⟨k, d⟩ := r
    cases d <;> try rfl
    rename_i j
    simp only [RV.ob, xM2]
    cases st[j]? with
    | none => rfl
    | some ob =>
      simp only []
      by_cases h : ob.cls = c
      · rw [if_pos h, if_pos h] <;> cases fa ⟨env, st⟩ <;> rfl
      · rw [if_neg h, if_neg h]
  | exc e => rfl
  | stuck => rfl
theorem f_xM (c n j : Nat) (sem : Sem) (k : RK) (r : PR (List D)) : xM c n sem env st (.ok ⟨k, .obj j⟩) r = xM2 c n sem env st j r st[j]? := Eq.trans rfl rfl
theorem f_xM2 {c n j : Nat} {sem : Sem} {ds : List D} {ob : Ob} (h : ob.cls = c) (h2 : ds.length + 1 = n) : xM2 c n sem env st j (.ok ds) (some ob) = (sem (.obj j :: ds) st).fe ⟨env, st⟩ := (if_pos h).trans (if_pos h2)
theorem f_Make (c n : Nat) (sem : Sem) (fa : Sta → PR (List D)) : fMake c n sem fa ⟨env, st⟩ = xMk c n sem env st (fa ⟨env, st⟩) := by
  unfold fMake xMk
  cases fa ⟨env, st⟩ with
  | ok ds =>
    simp only []
    split
    · cases sem (.obj st.length :: ds) (st ++ [⟨c, []⟩]) with
      | ok r st' =>
        rcases r with _ | d | d | d <;> rfl
      | exc e st' => rfl
      | stuck => rfl
    · rfl
  | exc e => rfl
  | stuck => rfl
theorem f_xMk {c n : Nat} {sem : Sem} {ds : List D} (h : ds.length + 1 = n) : xMk c n sem env st (.ok ds) = xMkF st.length env (sem (.obj st.length :: ds) (st ++ [⟨c, []⟩])) := if_pos h
theorem f_xMkF (j : Nat) (st' : List Ob) : xMkF j env (.ok (.v .none) st') = .ok (.v (.obj j)) ⟨env, st'⟩ := Eq.trans rfl rfl
theorem fe_ok (r : Slot) (st' : List Ob) : (Fr.ok r st').fe ⟨env, st⟩ = .ok r ⟨env, st'⟩ := Eq.trans rfl rfl
def Fl.fr : Fl → Fr
  | .nx s => .ok (.v .none) s.st
  | .ret r s => .ok r s.st
  | .exc e s => .exc e s.st
  | _ => .stuck
theorem r_run {N : Nat} {g : Sta → Fl} {ds : List D} : runB N g ds st = (g ⟨ds.map Slot.v ++ List.replicate (N - ds.length) .un, st⟩).fr := by
  unfold runB Fl.fr
  cases g ⟨ds.map Slot.v ++ List.replicate (N - ds.length) .un, st⟩ <;> rfl
theorem r_un (n : Nat) : List.replicate (n + 1) Slot.un = .un :: List.replicate n .un := Eq.trans rfl rfl
theorem r_un0 : List.replicate 0 Slot.un = [] := Eq.trans rfl rfl
theorem r_nx : (Fl.nx ⟨env, st⟩).fr = .ok (.v .none) st := Eq.trans rfl rfl
theorem r_ret (r : Slot) : (Fl.ret r ⟨env, st⟩).fr = .ok r st := Eq.trans rfl rfl
theorem r_exc (e : Ex) : (Fl.exc e ⟨env, st⟩).fr = .exc e st := Eq.trans rfl rfl
/-- one statement after the other -/
theorem sq {P : Fl → Prop} {g1 g2 : Sta → Fl} {s s' : Sta} (h : g1 s = .nx s') (k : P (g2 s')) : P (sSeq g1 g2 s) := by
  unfold sSeq; rw [h]; exact k
/-- a def by its body -/
theorem run_ex {N : Nat} {g : Sta → Fl} {ds : List D} {Q : Fr → Prop} (env : List Slot) (he : ds.map Slot.v ++ List.replicate (N - ds.length) .un = env) (h : Q (g ⟨env, st⟩).fr) : Q (runB N g ds st) := by
  subst he; exact h
theorem sqR {r : Fr} {g1 g2 : Sta → Fl} {s s' : Sta} (h : g1 s = .nx s') (k : (g2 s').fr = r) : (sSeq g1 g2 s).fr = r := by
  unfold sSeq; rw [h]; exact k
theorem sqX {r : Fl} {g1 g2 : Sta → Fl} {s s' : Sta} (h : g1 s = .nx s') (k : g2 s' = r) : sSeq g1 g2 s = r := by
  unfold sSeq; rw [h]; exact k
/-! ### loops -/
/-- what a turn of a loop must bring -/
def Turn (I : Sta → Prop) (P : Fl → Prop) : Fl → Prop
  | .nx s => I s
  | .cont s => I s
  | .brk s => P (.nx s)
  | .ret r s => P (.ret r s)
  | .exc e s => P (.exc e s)
  | .stuck => False
theorem t_nx (I : Sta → Prop) (P : Fl → Prop) (s : Sta) : Turn I P (.nx s) = I s := Eq.trans rfl rfl
theorem t_cont (I : Sta → Prop) (P : Fl → Prop) (s : Sta) : Turn I P (.cont s) = I s := Eq.trans rfl rfl
theorem t_brk (I : Sta → Prop) (P : Fl → Prop) (s : Sta) : Turn I P (.brk s) = P (.nx s) := Eq.trans rfl rfl
theorem t_ret (I : Sta → Prop) (P : Fl → Prop) (r : Slot) (s : Sta) : Turn I P (.ret r s) = P (.ret r s) := Eq.trans rfl rfl
theorem tq {I : Sta → Prop} {P : Fl → Prop} {g1 g2 : Sta → Fl} {s s' : Sta} (h : g1 s = .nx s') (k : Turn I P (g2 s')) : Turn I P (sSeq g1 g2 s) := by
  unfold sSeq; rw [h]; exact k
theorem Turn.wk {I : Sta → Prop} {P : Fl → Prop} {x : Fl} (h : Turn I (fun _ => False) x) : Turn I P x := by
  cases x <;> first | exact h | exact h.elim
theorem loop_inv {t : Tg} {g : Sta → Fl} {P : Fl → Prop} : ∀ (ds : List D) (I : Nat → Sta → Prop) (s : Sta), I 0 s →
    (∀ i d s, ds[i]? = some d → I i s → ∃ env, t.bind d s.env = some env ∧ Turn (I (i + 1)) P (g { s with env := env })) →
    (∀ s, I ds.length s → P (.nx s)) → P (loopL t g ds s)
  | [], I, s, h0, _, he => he s h0
  | d :: ds, I, s, h0, hs, he => by
    obtain ⟨env, h1, h2⟩ := hs 0 d s rfl h0
    rw [loopL, h1]
    simp only []
    have next : ∀ s', I 1 s' → P (loopL t g ds s') := fun s' h => loop_inv ds (fun i => I (i + 1)) s' h (fun i d s e hi => hs (i + 1) d s (by simpa using e) hi) fun s h => he s (by simpa using h)
    cases hg : g { s with env := env } with
    | nx s' => rw [hg] at h2; exact next s' h2
    | cont s' => rw [hg] at h2; exact next s' h2
    | brk s' => rw [hg] at h2; exact h2
    | ret r s' => rw [hg] at h2; exact h2
    | exc e s' => rw [hg] at h2; exact h2
    | stuck => rw [hg] at h2; exact h2.elim
theorem sq_for {P : Fl → Prop} {f : Sta → PR (List D)} {t : Tg} {g g2 : Sta → Fl} {s : Sta} (ds : List D) (I : Nat → Sta → Prop) (hf : f s = .ok ds) (h0 : I 0 s)
    (hs : ∀ i d s, ds[i]? = some d → I i s → ∃ env, t.bind d s.env = some env ∧ Turn (I (i + 1)) (fun fl => P (match fl with
      | .nx s => g2 s
      | fl => fl)) (g { s with env := env })) (he : ∀ s, I ds.length s → P (g2 s)) : P (sSeq (sFor f t g) g2 s) := by
  unfold sSeq sFor
  rw [hf]
  exact loop_inv (P := fun fl => P (match fl with
      | .nx s => g2 s
      | fl => fl)) ds I s h0 hs he
theorem forP {P : Fl → Prop} {f : Sta → PR (List D)} {t : Tg} {g g2 : Sta → Fl} {s : Sta} (ds : List D) (I : Nat → Sta → Prop) (hf : f s = .ok ds) (h0 : I 0 s)
    (hs : ∀ i d s, ds[i]? = some d → I i s → ∃ env, t.bind d s.env = some env ∧ Turn (I (i + 1)) (fun _ => False) (g { s with env := env })) (he : ∀ s, I ds.length s → P (g2 s)) : P (sSeq (sFor f t g) g2 s) :=
  sq_for (P := P) ds I hf h0 (fun i d s e h => by
    obtain ⟨env, h1, h2⟩ := hs i d s e h
    exact ⟨env, h1, Turn.wk h2⟩) he
/-- the same at a def's end -/
theorem forR {r : Fr} {f : Sta → PR (List D)} {t : Tg} {g g2 : Sta → Fl} {s : Sta} (ds : List D) (I : Nat → Sta → Prop) (hf : f s = .ok ds) (h0 : I 0 s)
    (hs : ∀ i d s, ds[i]? = some d → I i s → ∃ env, t.bind d s.env = some env ∧ Turn (I (i + 1)) (fun _ => False) (g { s with env := env })) (he : ∀ s, I ds.length s → (g2 s).fr = r) : (sSeq (sFor f t g) g2 s).fr = r :=
  sq_for (P := fun fl => fl.fr = r) ds I hf h0 (fun i d s e h => by
    obtain ⟨env, h1, h2⟩ := hs i d s e h
    exact ⟨env, h1, Turn.wk h2⟩) he
theorem forX {r : Fl} {f : Sta → PR (List D)} {t : Tg} {g g2 : Sta → Fl} {s : Sta} (ds : List D) (I : Nat → Sta → Prop) (hf : f s = .ok ds) (h0 : I 0 s)
    (hs : ∀ i d s, ds[i]? = some d → I i s → ∃ env, t.bind d s.env = some env ∧ Turn (I (i + 1)) (fun _ => False) (g { s with env := env })) (he : ∀ s, I ds.length s → g2 s = r) : sSeq (sFor f t g) g2 s = r :=
  sq_for (P := fun fl => fl = r) ds I hf h0 (fun i d s e h => by
    obtain ⟨env, h1, h2⟩ := hs i d s e h
    exact ⟨env, h1, Turn.wk h2⟩) he
/-- a loop that is the last of its row -/
theorem forE {f : Sta → PR (List D)} {t : Tg} {g : Sta → Fl} {s : Sta} (ds : List D) (I : Nat → Sta → Prop) (hf : f s = .ok ds) (h0 : I 0 s)
    (hs : ∀ i d s, ds[i]? = some d → I i s → ∃ env, t.bind d s.env = some env ∧ Turn (I (i + 1)) (fun _ => False) (g { s with env := env })) : ∃ s', sFor f t g s = .nx s' ∧ I ds.length s' := by
  unfold sFor
  rw [hf]
  exact loop_inv (P := fun fl => ∃ s', fl = .nx s' ∧ I ds.length s') ds I s h0 (fun i d s e h => by
    obtain ⟨env, h1, h2⟩ := hs i d s e h
    exact ⟨env, h1, Turn.wk h2⟩) fun s h => ⟨s, rfl, h⟩
theorem loopE {t : Tg} {g : Sta → Fl} {s : Sta} (ds : List D) (I : Nat → Sta → Prop) (h0 : I 0 s)
    (hs : ∀ i d s, ds[i]? = some d → I i s → ∃ env, t.bind d s.env = some env ∧ Turn (I (i + 1)) (fun _ => False) (g { s with env := env })) : ∃ s', loopL t g ds s = .nx s' ∧ I ds.length s' :=
  loop_inv (P := fun fl => ∃ s', fl = .nx s' ∧ I ds.length s') ds I s h0 (fun i d s e h => by
    obtain ⟨env, h1, h2⟩ := hs i d s e h
    exact ⟨env, h1, Turn.wk h2⟩) fun s h => ⟨s, rfl, h⟩
theorem comp_eq {t : Tg} {te : Sta → PR D} {s : Sta} (f : D → D) : ∀ (ds : List D), (∀ d ∈ ds, ∃ env, t.bind d s.env = some env ∧ te { s with env := env } = .ok (f d)) → compL t pYes te s ds = .ok (ds.map f)
  | [], _ => rfl
  | d :: ds, h => by
    obtain ⟨env, h1, h2⟩ := h d (by simp)
    rw [compL, h1]
    simp only [pYes, h2]
    rw [comp_eq f ds fun d hd => h d (by simp [hd])]
    rfl
theorem comp_if {t : Tg} {tt : Sta → PR Bool} {te : Sta → PR D} {s : Sta} (p : D → Bool) (f : D → D) : ∀ (ds : List D), (∀ d ∈ ds, ∃ env, t.bind d s.env = some env ∧ tt { s with env := env } = .ok (p d) ∧ (p d = true → te { s with env := env } = .ok (f d))) → compL t tt te s ds = .ok ((ds.filter p).map f)
  | [], _ => rfl
  | d :: ds, h => by
    obtain ⟨env, h1, h2, h3⟩ := h d (by simp)
    rw [compL, h1]
    simp only [h2]
    have ih := comp_if (t := t) (tt := tt) (te := te) (s := s) p f ds fun d hd => h d (by simp [hd])
    cases hp : p d with
    | true =>
      simp only [h3 hp]
      rw [ih, List.filter_cons, hp]
      rfl
    | false =>
      simp only []
      rw [ih, List.filter_cons, hp]
      rfl
theorem b_nm (i : Nat) (d : D) : (Tg.nm i).bind d env = some (env.set i (.v d)) := Eq.trans rfl rfl
theorem b_tp2 (i j : Nat) (a b : D) : (Tg.tp [i, j]).bind (.tup [a, b]) env = some ((env.set i (.v a)).set j (.v b)) := Eq.trans rfl rfl
theorem b_tp3 (i j k : Nat) (a b c : D) : (Tg.tp [i, j, k]).bind (.tup [a, b, c]) env = some (((env.set i (.v a)).set j (.v b)).set k (.v c)) := Eq.trans rfl rfl

/-! ### equality of data -/
def D.plain : Nat → D → Bool
  | _, .none => true
  | _, .bool _ => true
  | _, .int _ => true
  | _, .str x => PyData.strOk x
  | 0, .list _ => false
  | n + 1, .list xs => xs.all (D.plain n)
  | 0, .lk _ => false
  | n + 1, .lk xs => xs.all (D.plain n)
  | 0, .tup _ => false
  | n + 1, .tup xs => xs.all (D.plain n)
  | _, _ => false
theorem pys_lay {n : Nat} (ih : ∀ d : D, d.plain n = true → d.py.canLay0 = true ∧ d.py.depth ≤ n) : ∀ xs : List D, xs.all (D.plain n) = true → PyData.canLayAll0 (pys xs) = true ∧ PyData.depthAll (pys xs) ≤ n
  | [], _ => ⟨rfl, Nat.zero_le _⟩
  | x :: xs, h => by
    rw [List.all_cons, Bool.and_eq_true] at h
    have h1 := ih x h.1
    have h2 := pys_lay ih xs h.2
    refine ⟨?_, ?_⟩
    · show (x.py.canLay0 && PyData.canLayAll0 (pys xs)) = true
      rw [h1.1, h2.1]; rfl
    · show max x.py.depth (PyData.depthAll (pys xs)) ≤ n
      exact Nat.max_le.mpr ⟨h1.2, h2.2⟩
theorem plain_lay : ∀ (n : Nat) (d : D), d.plain n = true → d.py.canLay0 = true ∧ d.py.depth ≤ n := by
  intro n
  induction n with
  | zero =>
    intro d h
    cases d <;> first | exact ⟨rfl, Nat.zero_le _⟩ | exact ⟨h, Nat.zero_le _⟩ | exact absurd h Bool.false_ne_true
  | succ n ih =>
    intro d h
    cases d with
    | none => exact ⟨rfl, Nat.zero_le _⟩
    | bool b => exact ⟨rfl, Nat.zero_le _⟩
    | int b => exact ⟨rfl, Nat.zero_le _⟩
    | str b => exact ⟨h, Nat.zero_le _⟩
    | list xs => exact ⟨(pys_lay ih xs h).1, Nat.succ_le_succ (pys_lay ih xs h).2⟩
    | lk xs => exact ⟨(pys_lay ih xs h).1, Nat.succ_le_succ (pys_lay ih xs h).2⟩
    | tup xs => exact ⟨(pys_lay ih xs h).1, Nat.succ_le_succ (pys_lay ih xs h).2⟩
    | dic xs => exact absurd h Bool.false_ne_true
    | obj n => exact absurd h Bool.false_ne_true
    | xv _ _ => exact absurd h Bool.false_ne_true
theorem plain_shaped {d : D} (h : d.plain 9 = true) : SeqAt.shaped d.py = true := by
  unfold SeqAt.shaped
  rw [Bool.and_eq_true]
  exact ⟨(plain_lay 9 d h).1, decide_eq_true (Nat.le_trans (plain_lay 9 d h).2 (by decide))⟩
theorem eqB_gen {a b : D} (ha : a.plain 9 = true) (hb : b.plain 9 = true) : eqB a b = some (PyData.eqv a.py b.py) := by
  have k := plain_shaped ha
  have l := plain_shaped hb
  unfold eqB
  split
  · rfl
  · rfl
  · rfl
  · rw [if_pos ⟨k, l⟩]
theorem g_eqR {a b : D} (ha : a.plain 9 = true) (e : a.py = b.py) : gEq a b = some ⟨.sh, .bool true⟩ := by
  have k := plain_shaped ha
  have q : eqB a b = some true := by
    have r := SeqAt.eqv_refl a.py (plain_lay 9 a ha).1
    unfold eqB
    split
    · simp only [D.py] at e; cases e; simp
    · simp only [D.py] at e; cases e; simp
    · simp only [D.py] at e; cases e; simp
    · rw [if_pos ⟨k, e ▸ k⟩, ← e, r]
  unfold gEq
  rw [q]
  rfl
theorem g_neR {a b : D} (ha : a.plain 9 = true) (e : a.py = b.py) : gNe a b = some ⟨.sh, .bool false⟩ := by
  have h := g_eqR ha e
  unfold gEq at h
  unfold gNe
  cases q : eqB a b with
  | none => rw [q] at h; cases h
  | some r =>
    rw [q] at h
    have : r = true := by
      have := Option.some.inj h
      cases this
      rfl
    rw [this]
    rfl

/-- a loop that may break off -/
def Bk (J : Sta → Prop) : Fl → Prop
  | .nx s => J s
  | _ => False
theorem t_bk (J : Sta → Prop) (s : Sta) : Bk J (.nx s) = J s := Eq.trans rfl rfl
theorem forB {P : Fl → Prop} {f : Sta → PR (List D)} {t : Tg} {g g2 : Sta → Fl} {s : Sta} (ds : List D) (J : Sta → Prop) (hf : f s = .ok ds) (h0 : J s)
    (hs : ∀ (i : Nat) (d : D) (s : Sta), ds[i]? = some d → J s → ∃ env, t.bind d s.env = some env ∧ Turn J (Bk J) (g { s with env := env })) (he : ∀ s, J s → P (g2 s)) : P (sSeq (sFor f t g) g2 s) :=
  sq_for (P := P) ds (fun _ => J) hf h0 (fun i d s e h => by
    obtain ⟨env, h1, h2⟩ := hs i d s e h
    refine ⟨env, h1, ?_⟩
    revert h2
    cases g { s with env := env } with
    | nx s => exact fun h => h
    | cont s => exact fun h => h
    | brk s => exact fun h => he s h
    | ret r s => exact fun h => h.elim
    | exc e s => exact fun h => h.elim
    | stuck => exact fun h => h.elim) fun s h => he s h

/-! ### a law, from its plain proof -/
def spLaw (K : PySem.W.Frag) : Sp := fun vs H Q E => ∃ (a : Addr) (ns : List Int), vs = [.ref a] ∧ SqL K H a (ns.map V.int) ∧ ns.length ≤ 63 ∧ ∀ H', Q (.bl true) H'
theorem law_imp {K : PySem.W.Frag} {T : Tab} {al : Bool} {sem : Sem} (h : ∀ ns : List Int, ns.length ≤ 63 → ∃ st, sem [.lk (ns.map D.int)] [] = .ok (.v (.bool true)) st) : ∀ vs H Q E, spLaw K vs H Q E → spF K T al 1 sem vs H Q E := by
  rintro vs H Q E ⟨a, ns, rfl, hS, hl, hQ⟩
  obtain ⟨st, hs⟩ := h ns hl
  refine ⟨[.lk (ns.map D.int)], [], [], H, H, rfl, .cons (.lk hS DRs.ints) .nil, rel_pure (Same.refl H), fun _ => rfl, ?_⟩
  rw [hs]
  intro y H' m' M' _ _ R
  have q := R.head
  cases q
  exact hQ _
theorem law_end {l : PySem.W.OpenLaw} {k : Nat} {x : Str} {q : Program} {loose : List Str} {XP : (Str → Option Value) → Heap → Prop} {YP : World → Heap → Prop} {d : DefRec} {K : Params → PySem.W.Frag} (hn : l.most = some 63) (hdf : d.params.defaults = [])
    (hr : Room k callerA) (hY : ∀ (w : World) (h : Heap), YP w h → (K w.params).In h)
    (F : ∀ (w : World) (mg : Str → Option Value) (fa : Addr) (h : Heap), (K w.params).In h → h.Ns mainGlobals mg → mg d.name = some (.ref fa) →
      ∃ fd : FuncData, (∀ (s : Shared) (u : Value), BindsTo s fd ⟨[u], []⟩ [(x, u)]) ∧ ∀ base : Heap, (K w.params).In base → base.Ns mainGlobals mg → FnOk l.prog w (K w.params) mg base (L2.CX l.prog w) k fa fd [x] (spLaw (K w.params))) :
    PySem.W.WalkO q loose XP YP l.row.toRowW d [] (fun f vs => PySem.call f vs) :=
  L2.walk_of (n := 63) (k := k) (x := x) (CX := fun w => L2.CX l.prog w) (sp := fun w => spLaw (K w.params)) hn (by decide) hdf hr hY F (fun _ _ a ns hl _ hS => ⟨a, ns, rfl, hS, hl, fun _ => rfl⟩)
    fun _ _ _ _ _ ⟨_, _, _, _, _, _, _, _, _, _, _, _, z⟩ => z
end MP

/-! MP 10: divmod, sorted, all, any, sum, abs, int, tuple * int, list(range), pop. -/
namespace MP
open PySem PySem.Spec PyProof.Rows L2
section
variable {X : Cx} {T : Tab} {W : WX} {a b c e : Expr} {es : List Expr} {pos p : Pos} {fa fb fc : Sta → PR RV}

def gDivmod : List D → Option RV
  | [.int i, .int j] => if 0 < j ∧ j < 1073741824 then some (sh (.tup [.int (i / j), .int (i % j)])) else none
  | _ => none
theorem ok_divmod : CallOk X (.builtin "divmod") gDivmod := by
  refine ⟨_, call_divmod, fun m M H ys ds res Q s a e k => ?_⟩
  unfold gDivmod at e
  split at e
  · rename_i i j
    by_cases hj : 0 < j ∧ j < 1073741824
    · rw [if_pos hj] at e
      cases e
      cases a with
      | cons a1 an => cases an with
        | cons a2 an =>
          cases an
          refine ⟨i, j, by rw [a1.int, a2.int], hj, fun p hp => ?_⟩
          have gs := Grow.share (o := .tup [.int (i / j), .int (i % j)]) s hp
          exact k _ _ _ gs (.tup (SqT.of upd_same) (.cons (.int _) (.cons (.int _) .nil)))
    · rw [if_neg hj] at e; cases e
  · cases e
/-! ### lists of ints, of bools -/
def intsOf : List D → Option (List Int)
  | [] => some []
  | .int i :: ds => (intsOf ds).map (i :: ·)
  | _ => none
theorem intsOf_eq : ∀ {ds : List D} {ns : List Int}, intsOf ds = some ns → ds = ns.map D.int
  | [], ns, h => by cases h; rfl
  | d :: ds, ns, h => by
    cases d <;> try (cases h; done)
    rename_i i
    unfold intsOf at h
    cases hi : intsOf ds with
    | none => rw [hi] at h; cases h
    | some ms =>
      rw [hi] at h
      cases h
      rw [intsOf_eq hi]
      rfl
theorem intsOf_map : ∀ ns : List Int, intsOf (ns.map D.int) = some ns
  | [] => rfl
  | n :: ns => by show (intsOf (ns.map D.int)).map (n :: ·) = _; rw [intsOf_map ns]; rfl
def boolsOf : List D → Option (List Bool)
  | [] => some []
  | .bool i :: ds => (boolsOf ds).map (i :: ·)
  | _ => none
theorem boolsOf_eq : ∀ {ds : List D} {ns : List Bool}, boolsOf ds = some ns → ds = ns.map D.bool
  | [], ns, h => by cases h; rfl
  | d :: ds, ns, h => by
    cases d <;> try (cases h; done)
    rename_i i
    unfold boolsOf at h
    cases hi : boolsOf ds with
    | none => rw [hi] at h; cases h
    | some ms =>
      rw [hi] at h
      cases h
      rw [boolsOf_eq hi]
      rfl
theorem boolsOf_map : ∀ ns : List Bool, boolsOf (ns.map D.bool) = some ns
  | [] => rfl
  | n :: ns => by show (boolsOf (ns.map D.bool)).map (n :: ·) = _; rw [boolsOf_map ns]; rfl
theorem DRs.bools_of {K : PySem.W.Frag} {m : List Addr} {H : Hp} : ∀ {vs : List V} {ns : List Bool}, DRs K m H vs (ns.map D.bool) → vs = ns.map V.bl
  | _, [], h => by cases h; rfl
  | _, n :: ns, h => by
    cases h with
    | cons h1 h2 =>
      cases h1
      rw [DRs.bools_of h2]
      rfl
/-- the one rising row of the same ints -/
def insI (x : Int) : List Int → List Int
  | [] => [x]
  | y :: ys => if x ≤ y then x :: y :: ys else y :: insI x ys
def sortI : List Int → List Int
  | [] => []
  | x :: xs => insI x (sortI xs)
theorem insI_perm (x : Int) : ∀ ys : List Int, (insI x ys).Perm (x :: ys)
  | [] => List.Perm.refl _
  | y :: ys => by
    unfold insI
    split
    · exact List.Perm.refl _
    · exact ((insI_perm x ys).cons y).trans (List.Perm.swap x y ys)
theorem sortI_perm : ∀ xs : List Int, (sortI xs).Perm xs
  | [] => List.Perm.refl _
  | x :: xs => (insI_perm x _).trans ((sortI_perm xs).cons x)
theorem insI_rise (x : Int) : ∀ ys : List Int, ys.Pairwise (· ≤ ·) → (insI x ys).Pairwise (· ≤ ·)
  | [], _ => List.pairwise_singleton _ _
  | y :: ys, h => by
    unfold insI
    have h1 := List.pairwise_cons.mp h
    split
    · rename_i hx
      refine List.pairwise_cons.mpr ⟨fun z hz => ?_, h⟩
      rcases List.mem_cons.mp hz with rfl | hz
      · exact hx
      · exact Int.le_trans hx (h1.1 z hz)
    · rename_i hx
      refine List.pairwise_cons.mpr ⟨fun z hz => ?_, insI_rise x ys h1.2⟩
      rcases List.mem_cons.mp ((insI_perm x ys).subset hz) with rfl | hz
      · omega
      · exact h1.1 z hz
theorem sortI_rise : ∀ xs : List Int, (sortI xs).Pairwise (· ≤ ·)
  | [] => List.Pairwise.nil
  | x :: xs => insI_rise x _ (sortI_rise xs)
theorem rise_eq : ∀ {xs ys : List Int}, xs.Perm ys → xs.Pairwise (· ≤ ·) → ys.Pairwise (· ≤ ·) → xs = ys
  | [], ys, p, _, _ => (List.nil_perm.mp p).symm
  | x :: xs, [], p, _, _ => by have := p.length_eq; simp at this
  | x :: xs, y :: ys, p, h1, h2 => by
    have a := List.pairwise_cons.mp h1
    have b := List.pairwise_cons.mp h2
    have e : x = y := by
      have hx : x ∈ y :: ys := p.subset (List.mem_cons_self ..)
      have hy : y ∈ x :: xs := p.symm.subset (List.mem_cons_self ..)
      rcases List.mem_cons.mp hx with h | h
      · exact h
      · rcases List.mem_cons.mp hy with h' | h'
        · exact h'.symm
        · have := a.1 y h'
          have := b.1 x h
          omega
    subst e
    rw [rise_eq (List.perm_cons x |>.mp p) a.2 b.2]
theorem sortI_eq {xs ys : List Int} (p : ys.Perm xs) (h : ys.Pairwise (· ≤ ·)) : ys = sortI xs := rise_eq (p.trans (sortI_perm xs).symm) h (sortI_rise xs)
def gSorted : List D → Option RV
  | [d] => (lstOf d).bind fun ds => (intsOf ds).map fun ns => fr (.list ((sortI ns).map D.int))
  | _ => none
theorem ok_sorted : CallOk X (.builtin "sorted") gSorted := by
  refine ⟨_, cr_sortedI, fun m M H ys ds res Q s a e k => ?_⟩
  unfold gSorted at e
  split at e
  · rename_i d
    cases a with
    | cons a1 an =>
      cases an
      cases hl : lstOf d with
      | none => rw [hl] at e; cases e
      | some ds =>
        rw [hl] at e
        cases hi : intsOf ds with
        | none => simp only [Option.bind_some, hi] at e; cases e
        | some ns =>
          simp only [Option.bind_some, hi, Option.map_some] at e
          cases e
          obtain ⟨p, xs, rfl, h1, r1⟩ := a1.lst hl s
          rw [intsOf_eq hi] at r1
          rw [DRs.ints_of r1] at h1
          refine ⟨p, ns, rfl, h1, fun ns' q hp hr hq => ?_⟩
          rw [sortI_eq hp hr]
          exact k _ _ M (Grow.fresh s hq) ⟨q, _, rfl, upd_same, .lst DRs.ints, s.free hq, hq⟩
  · cases e
def gAll : List D → Option RV
  | [d] => (lstOf d).bind fun ds => (boolsOf ds).map fun bs => sh (.bool (bs.all id))
  | _ => none
def gAny : List D → Option RV
  | [d] => (lstOf d).bind fun ds => (boolsOf ds).map fun bs => sh (.bool (bs.any id))
  | _ => none
def gSum : List D → Option RV
  | [d] => (lstOf d).bind fun ds => (intsOf ds).map fun bs => sh (.int bs.sum)
  | _ => none
theorem bools_at {m : List Addr} {M H : Hp} {y : V} {d : D} {ds : List D} {bs : List Bool} (s : Same M H) (a : Arg X.K m M H y d) (hl : lstOf d = some ds) (hb : boolsOf ds = some bs) : ∃ p, y = .ref p ∧ SqL X.K H p (bs.map V.bl) := by
  obtain ⟨p, xs, rfl, h1, r1⟩ := a.lst hl s
  rw [boolsOf_eq hb] at r1
  rw [DRs.bools_of r1] at h1
  exact ⟨p, rfl, h1⟩
theorem ints_at {m : List Addr} {M H : Hp} {y : V} {d : D} {ds : List D} {bs : List Int} (s : Same M H) (a : Arg X.K m M H y d) (hl : lstOf d = some ds) (hb : intsOf ds = some bs) : ∃ p, y = .ref p ∧ SqL X.K H p (bs.map V.int) := by
  obtain ⟨p, xs, rfl, h1, r1⟩ := a.lst hl s
  rw [intsOf_eq hb] at r1
  rw [DRs.ints_of r1] at h1
  exact ⟨p, rfl, h1⟩
theorem ok_all (hc : X.calm = true) : CallOk X (.builtin "all") gAll := by
  refine ⟨_, cr_all hc, fun m M H ys ds res Q s a e k => ?_⟩
  unfold gAll at e
  split at e
  · rename_i d
    cases a with
    | cons a1 an =>
      cases an
      cases hl : lstOf d with
      | none => rw [hl] at e; cases e
      | some ds =>
        rw [hl] at e
        cases hi : boolsOf ds with
        | none => simp only [Option.bind_some, hi] at e; cases e
        | some ns =>
          simp only [Option.bind_some, hi, Option.map_some] at e
          cases e
          obtain ⟨p, rfl, h1⟩ := bools_at s a1 hl hi
          exact ⟨p, ns, rfl, h1, k _ H M (Grow.refl s) (.bl _)⟩
  · cases e
theorem ok_any (hc : X.calm = true) : CallOk X (.builtin "any") gAny := by
  refine ⟨_, cr_any hc, fun m M H ys ds res Q s a e k => ?_⟩
  unfold gAny at e
  split at e
  · rename_i d
    cases a with
    | cons a1 an =>
      cases an
      cases hl : lstOf d with
      | none => rw [hl] at e; cases e
      | some ds =>
        rw [hl] at e
        cases hi : boolsOf ds with
        | none => simp only [Option.bind_some, hi] at e; cases e
        | some ns =>
          simp only [Option.bind_some, hi, Option.map_some] at e
          cases e
          obtain ⟨p, rfl, h1⟩ := bools_at s a1 hl hi
          exact ⟨p, ns, rfl, h1, k _ H M (Grow.refl s) (.bl _)⟩
  · cases e
theorem ok_sum (hc : X.calm = true) : CallOk X (.builtin "sum") gSum := by
  refine ⟨_, cr_sum hc, fun m M H ys ds res Q s a e k => ?_⟩
  unfold gSum at e
  split at e
  · rename_i d
    cases a with
    | cons a1 an =>
      cases an
      cases hl : lstOf d with
      | none => rw [hl] at e; cases e
      | some ds =>
        rw [hl] at e
        cases hi : intsOf ds with
        | none => simp only [Option.bind_some, hi] at e; cases e
        | some ns =>
          simp only [Option.bind_some, hi, Option.map_some] at e
          cases e
          obtain ⟨p, rfl, h1⟩ := ints_at s a1 hl hi
          exact ⟨p, ns, rfl, h1, k _ H M (Grow.refl s) (.int _)⟩
  · cases e
def gAbs : List D → Option RV
  | [.int i] => some (sh (.int (if i < 0 then -i else i)))
  | _ => none
theorem ok_abs : CallOk X (.builtin "abs") gAbs := by
  refine ⟨_, call_abs, fun m M H ys ds res Q s a e k => ?_⟩
  unfold gAbs at e
  split at e
  · cases e
    cases a with
    | cons a1 an =>
      cases an
      exact ⟨_, by rw [a1.int], k _ H M (Grow.refl s) (.int _)⟩
  · cases e
def gInt : List D → Option RV
  | [.int i] => some (sh (.int i))
  | [.bool b] => some (sh (.int (if b then 1 else 0)))
  | _ => none
theorem ok_int : CallOk X (.type "int") gInt := by
  refine ⟨_, call_int1, fun m M H ys ds res Q s a e k => ?_⟩
  unfold gInt at e
  split at e
  · cases e
    cases a with
    | cons a1 an =>
      cases an
      exact .inl ⟨_, by rw [a1.int], k _ H M (Grow.refl s) (.int _)⟩
  · cases e
    cases a with
    | cons a1 an =>
      cases an
      exact .inr ⟨_, by rw [a1.bl], k _ H M (Grow.refl s) (.int _)⟩
  · cases e
/-! ### list(range(n)), list(range(a, b)) -/
def pLRng (g : List D → Option (List D)) (fs : Sta → PR (List RV)) : Sta → PR RV := fun s => (fs s).bind fun rs => (PR.of (g (rs.map RV.d))).bind fun ds => if ds.length ≤ 16777216 then .ok (fr (.list ds)) else .stuck
theorem rgV_rng {K : PySem.W.Frag} {m : List Addr} {H : Hp} (i j : Int) : DRs K m H (rgV i j) (rng i j) := by
  unfold rgV rng
  generalize (j - i).toNat = n
  have : ∀ l : List Nat, DRs K m H (l.map fun (k : Nat) => V.int (i + k)) (l.map fun (k : Nat) => D.int (i + k)) := by
    intro l
    induction l with
    | nil => exact .nil
    | cons x l ih => exact .cons (.int _) ih
  exact this _
theorem ev_lrng1 {x : Expr} {pr q pos' : Pos} (hc : X.calm = true) (hg : Gl X "list") (hm : X.mg "list" = none) (hg2 : Gl X "range") (hm2 : X.mg "range" = none) (ha : PEv X T W x fa)
    (na2 : starEach [x] X.env = (false, eval x X.env) :: starEach [] X.env := by rfl)
    (na : starEach [Expr.Call (.Name "range" pr) [x] [] pos] X.env = (false, eval (Expr.Call (.Name "range" pr) [x] [] pos) X.env) :: starEach [] X.env := by rfl) :
    PEv X T W (.Call (.Name "list" q) [.Call (.Name "range" pr) [x] [] pos] [] pos') (pLRng gRng1 (pCons fa pNil)) := by
  refine PE.wk (pe_listRg hc hg hm (prg_1 hg2 hm2 ha na2) na) fun σ H Q h => ?_
  obtain ⟨s, m, M, G, R, q⟩ := h
  refine ⟨s, m, M, G, R, ?_⟩
  cases hf : fa s with
  | ok r =>
    obtain ⟨k, d⟩ := r
    have e1 : pLRng gRng1 (pCons fa pNil) s = (PR.of (gRng1 [d])).bind fun ds => if ds.length ≤ 16777216 then .ok (fr (.list ds)) else .stuck := by
      unfold pLRng pCons pNil PR.bind
      rw [hf]
      rfl
    rw [e1] at q
    intro y H1 M1 g1 rr
    cases d <;> try (exact q.elim)
    rename_i j
    by_cases hb : big62 j = true
    · have e2 : gRng1 [.int j] = some (rng 0 j) := if_pos hb
      rw [e2] at q
      by_cases hlen : (rng 0 j).length ≤ 16777216
      · have e3 : ((PR.of (some (rng 0 j))).bind fun ds => if ds.length ≤ 16777216 then PR.ok (fr (.list ds)) else .stuck) = .ok (fr (.list (rng 0 j))) := if_pos hlen
        rw [e3] at q
        refine ⟨j, rr.arg.int, ?_, fun p hp => ?_⟩
        · have hb2 := of_decide_eq_true hb
          unfold rng at hlen
          rw [List.length_map, List.length_range] at hlen
          exact ⟨by omega, by omega, hb2.1, hb2.2, hlen⟩
        · exact q _ _ M1 (g1.trans (Grow.fresh g1.mh hp)) ⟨p, _, rfl, upd_same, .lst (rgV_rng 0 j), g1.mh.free hp, g1.same.free hp⟩
      · have e3 : ((PR.of (some (rng 0 j))).bind fun ds => if ds.length ≤ 16777216 then PR.ok (fr (.list ds)) else .stuck) = .stuck := if_neg hlen
        rw [e3] at q
        exact q.elim
    · have e2 : gRng1 [.int j] = none := if_neg hb
      rw [e2] at q
      exact q.elim
  | exc e =>
    have e1 : pLRng gRng1 (pCons fa pNil) s = .exc e := by unfold pLRng pCons pNil PR.bind; rw [hf]
    rw [e1] at q
    exact q
  | stuck =>
    have e1 : pLRng gRng1 (pCons fa pNil) s = .stuck := by unfold pLRng pCons pNil PR.bind; rw [hf]
    rw [e1] at q
    exact q
/-! ### tuple * int -/
theorem tuple_mul1 (l : Addr) (items : Array Value) (n : Nat) (dd : Option Addr) (sl : Array (Option Value)) (u : Tok) :
    Meets (Builtin.«tuple.__mul__» ⟨[.ref l, .int 1 u], []⟩) (fun _ R s => s.heap.get? l = some { cls := .type "tuple", dict := dd, data := .seq items n, slots := sl } ∧ R (.ok (.ret (Value.ref l))) s) :=
  .of_wp fun prog w A R s h => by
    obtain ⟨hp, g, d, tk, os⟩ := s
    obtain ⟨hl, h⟩ := h
    have f1 := AutoSeq1.idx_int
    wp_walk using wpAny_loadPart' hl
    exact ⟨_, rfl, h⟩
def rRepT1 (K : PySem.W.Frag) : R2 := fun x y H Q => ∃ l xs, x = .ref l ∧ y = .int 1 ∧ SqT K H l xs ∧ Q (.ref l) H
theorem op_repT1 : OpR X (binaryOp .Mult) (rRepT1 X.K) := by
  intro pins s σ H x y v u Q I rx ry h
  obtain ⟨l, xs, rfl, rfl, hT, q⟩ := h
  cases rx
  obtain ⟨t, rfl⟩ := ry
  obtain ⟨its, r, ⟨⟨cls, dd, data, sl⟩, ho, hc, n, hd⟩, hs⟩ := I.tuple hT
  simp only at hc hd
  subst hc hd
  exact wpAny_binaryOp_repeat_ref (T := "tuple") (U := "int") (by decide) ⟨_, ho, rfl⟩ (fun s' => typeIs_int s' 1 t) noFill_tuple_mul PySem.F.fills_int_mul PySem.F.slot_int_rmul repeat_tuple PySem.F.slot_int_index.lookup
    (call_meets PySem.F.slot_int_rmul (typeIs_int s 1 t) PySem.F.entry_int_rmul (PySem.F.args_int_rmul_2 _ _) (int_rmul_tuple 1 t l its.toArray n dd sl)
      ⟨ho, rfl, ⟨_, ho, rfl⟩, call_meets PySem.F.slot_tuple_mul ⟨_, ho, rfl⟩ PySem.F.entry_tuple_mul (PySem.F.args_tuple_mul_2 _ _) (tuple_mul1 l its.toArray n dd sl t) ⟨ho, ⟨.ref l, H, I, rfl, q⟩⟩⟩)
def gRepT : D → D → Option RV
  | .tup xs, .int n => if 1 ≤ n ∧ n ≤ 1000 ∧ xs.length ≤ 1000 ∧ xs.length ≠ 0 then some (sh (.tup (List.replicate n.toNat xs).flatten)) else none
  | _, _ => none
theorem ok_repT : Op2Ok X (binaryOp .Mult) gRepT := by
  refine ⟨_, op_repT.or op_repT1, fun m M H x y d1 d2 res Q s a1 a2 e k => ?_⟩
  cases d1 <;> try (cases e; done)
  cases d2 <;> try (cases e; done)
  rename_i xs n
  dsimp only [gRepT] at e
  by_cases hc : 1 ≤ n ∧ n ≤ 1000 ∧ xs.length ≤ 1000 ∧ xs.length ≠ 0
  · rw [if_pos hc] at e
    cases e
    obtain ⟨p, us, rfl, h1, r1, rt⟩ := a1.tup s
    have hl := r1.length
    by_cases h2 : n = 1
    · subst h2
      refine .inr ⟨p, us, rfl, a2.int, h1, k _ H M (Grow.refl s) ?_⟩
      rw [show (List.replicate (1 : Int).toNat xs).flatten = xs by simp]
      exact rt
    · refine .inl ⟨p, n, us, rfl, a2.int, h1, fun h => ?_, by omega, by omega, by omega, fun q hq => ?_⟩
      · rw [h] at hl; simp at hl; omega
      · have gs := Grow.share (o := .tup (List.replicate n.toNat us).flatten) s hq
        exact k _ _ _ gs (.tup (SqT.of upd_same) ((r1.rep n.toNat).up gs.mm))
  · rw [if_neg hc] at e
    cases e
def gMulT : D → D → Option RV := fun a b => (gTimes a b).or (gRepT a b)
theorem ok_mulT : Op2Ok X (binaryOp .Mult) gMulT := ok_times.or ok_repT

/-! ### xs.pop(i), within an expression -/
def fPop (i : Nat) (f : Sta → PR RV) : Sta → Fe := fun s => match s.env[i]? with
  | some (.own (.list ds)) => match f s with
    | .ok r => match r.d with
      | .int j => if ds.length ≤ 16777216 then (match ixN ds.length j with
          | some k => match ds[k]? with
            | some d => .ok (.v d) { s with env := s.env.set i (.own (.list (ds.eraseIdx k))) }
            | none => .stuck
          | none => .stuck) else .stuck
      | _ => .stuck
    | .exc e => .exc e s
    | .stuck => .stuck
  | _ => .stuck
theorem fe_pop {al : Bool} {i : Nat} {x : Str} {f : Sta → PR RV} {px apos cpos : Pos} (hx : PE X (.Name x px) (tVar i)) (he : PEv X T W e f)
    (hbase : attributeBase (.Name x px) "pop" X.env (eval (.Name x px) X.env) = eval (.Name x px) X.env := by rfl)
    (hfew : ((backTo cpos (starEach [e] X.env)).all (fun x => !x.1) && (backToKw cpos (keywordEach [] X.env)).all (fun x => x.1.isSome)
      && decide ([e].length + ([] : List Keyword).length + (if ([] : List Keyword).isEmpty then 0 else 1) < 30)) = true := by rfl)
    (hline : (apos.endLine == cpos.line) = true := by rfl) (hs : starEach [e] X.env = (false, eval e X.env) :: starEach [] X.env := by rfl) (hplain : (backTo cpos (starEach [] X.env)).any (·.1) = false := by rfl) :
    FEv X T W al (.Call (.Attribute (.Name x px) "pop" apos) [e] [] cpos) (fPop i f) := by
  refine PE.wk (pe_bm PySem.F.plainAttrs_list PySem.F.slot_list_pop PySem.F.type_list_pop mt_popAt hx (pa_cons he pa_nil hs) hbase hfew hline hs hplain) fun σ H Q h => ?_
  obtain ⟨s, m, M, G, R, a, q⟩ := h
  unfold fPop at q
  split at q
  · rename_i ds hds
    obtain ⟨b, xs, hσ, hb, hd⟩ := R.ownL hds
    refine ⟨_, hσ, .inl ⟨rfl, xs, SqL.of hb⟩, s, m, M, G, R, ?_⟩
    cases hf : f s with
    | ok r =>
      rw [hf] at q
      obtain ⟨kk, d⟩ := r
      cases d <;> try (exact q.elim)
      rename_i j
      simp only [] at q
      by_cases hl : ds.length ≤ 16777216
      · rw [if_pos hl] at q
        cases hk : ixN ds.length j with
        | none => simp only [hk] at q; exact q.elim
        | some k =>
          simp only [hk] at q
          cases hy : ds[k]? with
          | none => simp only [hy] at q; exact q.elim
          | some y =>
            simp only [hy] at q
            obtain ⟨v, hv, rv⟩ := hd.get hy
            intro z H1 M1 g1 rr
            obtain ⟨hk1, hk2, hk3, hk4⟩ := ixN_seq hk
            have hxl := hd.length
            refine ⟨b, xs, j, k, v, rfl, by rw [rr.arg.int], g1.same _ _ hb, by omega, by omega, by rw [hxl]; exact hk1, hv, ?_⟩
            have R1 := (R.grow g1).mut hds hσ (.lst ((hd.up g1.mm).eraseIdx k))
            exact q v _ m M1 (Ext.grow g1 R.gh) a (R1.consU.setV 0 (rv.up g1.mm))
      · rw [if_neg hl] at q; exact q.elim
    | exc ex => rw [hf] at q; exact fun cls d H' M' g xr => q cls d H' m M' (Ext.grow g R.gh) a (R.grow g) xr
    | stuck => rw [hf] at q; exact q.elim
  · exact q.elim

/-! ### x.append(e), e an expression that may change objects -/
def sAppF (i : Nat) (g : Sta → Fe) : Sta → Fl := fun s => match s.env[i]? with
  | some (.own (.list _)) => (g s).fl fun r s' => match r, s'.env[i]? with
    | .v d, some (.own (.list ds)) => if ds.length < 16777216 then .nx { s' with env := s'.env.set i (.own (.list (ds ++ [d]))) } else .stuck
    | _, _ => .stuck
  | _ => .stuck
theorem s_appF {al : Bool} {i : Nat} {x : Str} {g : Sta → Fe} {px apos cpos : Pos} (hx : PE X (.Name x px) (tVar i)) (he : FEv X T W al e g)
    (hbase : attributeBase (.Name x px) "append" X.env (eval (.Name x px) X.env) = eval (.Name x px) X.env := by rfl)
    (hfew : ((backTo cpos (starEach [e] X.env)).all (fun x => !x.1) && (backToKw cpos (keywordEach [] X.env)).all (fun x => x.1.isSome)
      && decide ([e].length + ([] : List Keyword).length + (if ([] : List Keyword).isEmpty then 0 else 1) < 30)) = true := by rfl)
    (hline : (apos.endLine == cpos.line) = true := by rfl) (hs : starEach [e] X.env = (false, eval e X.env) :: starEach [] X.env := by rfl) (hplain : (backTo cpos (starEach [] X.env)).any (·.1) = false := by rfl)
    (hsw : swapsWith (.Call (.Attribute (.Name x px) "append" apos) [e] [] cpos) none pos.line X.env = pure false := by rfl) :
    SE1 X T W al (.Expr (.Call (.Attribute (.Name x px) "append" apos) [e] [] cpos) pos) (sAppF i g) := by
  refine PS.wk (ps_expr (pe_bm PySem.F.plainAttrs_list PySem.F.slot_list_append PySem.F.type_list_append mt_append hx (pa_cons he pa_nil hs) hbase hfew hline hs hplain) hsw) fun D σ H h => ?_
  obtain ⟨s, m, M, G, R, a, q⟩ := h
  unfold sAppF at q
  split at q
  · rename_i ds0 hds
    obtain ⟨b, xs, hσ, hb, hd⟩ := R.ownL hds
    refine ⟨_, hσ, .inl ⟨rfl, xs, SqL.of hb⟩, ?_⟩
    refine tF_fl (k := fun r s' => match r, s'.env[i]? with
      | .v d, some (.own (.list ds)) => if ds.length < 16777216 then .nx { s' with env := s'.env.set i (.own (.list (ds ++ [d]))) } else .stuck
      | _, _ => .stuck) R a q fun r s' y H' m' M' e' a' R' k => ?_
    split at k
    · rename_i d ds hds2
      by_cases hl : ds.length < 16777216
      · rw [if_pos hl] at k
        obtain ⟨b2, xs2, hσ2, hb2, hd2⟩ := R'.tail.ownL hds2
        rw [hσ] at hσ2
        cases hσ2
        refine ⟨b, xs2, y, rfl, rfl, hb2, by rw [hd2.length, sizeLine_eq]; exact hl, ?_⟩
        exact k σ _ m' M' (Ext.refl ..) a' (R'.tail.mut hds2 hσ (.lst (hd2.append (.cons R'.head .nil))))
      · rw [if_neg hl] at k; exact k.elim
    · exact k.elim
  · exact q.elim
end

/-! ### zip -/
def zipD : List D → List D → List D
  | x :: xs, y :: ys => .tup [x, y] :: zipD xs ys
  | _, _ => []
theorem zipD_get : ∀ (xs ys : List D) (i : Nat) (d : D), (zipD xs ys)[i]? = some d → ∃ x y, xs[i]? = some x ∧ ys[i]? = some y ∧ d = .tup [x, y]
  | [], _, _, _, e => by simp [zipD] at e
  | _ :: _, [], _, _, e => by simp [zipD] at e
  | x :: xs, y :: ys, 0, d, e => by
    simp [zipD] at e
    exact ⟨x, y, rfl, rfl, e.symm⟩
  | x :: xs, y :: ys, i + 1, d, e => by
    obtain ⟨a, b, h1, h2, h3⟩ := zipD_get xs ys i d (by simpa [zipD] using e)
    exact ⟨a, b, by simpa using h1, by simpa using h2, h3⟩
theorem zipD_len : ∀ (xs ys : List D), (zipD xs ys).length = min xs.length ys.length
  | [], ys => by simp [zipD]
  | _ :: _, [] => by simp [zipD]
  | x :: xs, y :: ys => by simp [zipD, zipD_len xs ys, Nat.succ_min_succ]
section
variable {X : Cx} {T : Tab} {W : WX} {e e2 : Expr} {pos p : Pos}
theorem itz_ok {K : PySem.W.Frag} {m : List Addr} {a b : Addr} {xs ys : List V} {ds es : List D} {M0 B : Hp} (h : ∀ M H, Same M0 M → Same M H → Same B H → SqL K H a xs ∧ SqL K H b ys) (r : DRs K m M0 xs ds) (r2 : DRs K m M0 ys es) : ItOk K m (Itz K a b) (zipD ds es) M0 B := by
  intro i M H s1 s2 s3
  have hh := h M H s1 s2 s3
  refine ⟨fun d e => ?_, fun hl => ⟨xs, ys, hh.1, hh.2, by rw [zipD_len] at hl; rw [r.length, r2.length]; omega⟩⟩
  obtain ⟨x, y, hx, hy, rfl⟩ := zipD_get ds es i d e
  obtain ⟨v, hv, rv⟩ := r.get hx
  obtain ⟨u, hu, ru⟩ := r2.get hy
  refine ⟨⟨xs, ys, v, u, hh.1, hh.2, hv, hu⟩, fun q H' z => ?_⟩
  obtain ⟨T, x', y', rfl, hT, rfl, z1, z2⟩ := z
  have z1 := z1 xs hh.1
  have z2 := z2 ys hh.2
  rw [hv] at z1
  rw [hu] at z2
  cases z1
  cases z2
  have gs := Grow.share (o := .tup [v, u]) s2 hT
  exact ⟨_, gs, .tup (SqT.of upd_same) (.cons ((rv.up s1).up gs.mm) (.cons ((ru.up s1).up gs.mm) .nil))⟩
theorem itzT_ok {K : PySem.W.Frag} {m : List Addr} {a b : Addr} {xs ys : List V} {ds es : List D} {M0 B : Hp} (h : ∀ M H, Same M0 M → Same M H → Same B H → SqT K H a xs ∧ SqT K H b ys) (r : DRs K m M0 xs ds) (r2 : DRs K m M0 ys es) : ItOk K m (RZ.ItzT K a b) (zipD ds es) M0 B := by
  intro i M H s1 s2 s3
  have hh := h M H s1 s2 s3
  refine ⟨fun d e => ?_, fun hl => ⟨xs, ys, hh.1, hh.2, by rw [zipD_len] at hl; rw [r.length, r2.length]; omega⟩⟩
  obtain ⟨x, y, hx, hy, rfl⟩ := zipD_get ds es i d e
  obtain ⟨v, hv, rv⟩ := r.get hx
  obtain ⟨u, hu, ru⟩ := r2.get hy
  refine ⟨⟨xs, ys, v, u, hh.1, hh.2, hv, hu⟩, fun q H' z => ?_⟩
  obtain ⟨T, x', y', rfl, hT, rfl, z1, z2⟩ := z
  have z1 := z1 xs hh.1
  have z2 := z2 ys hh.2
  rw [hv] at z1
  rw [hu] at z2
  cases z1
  cases z2
  have gs := Grow.share (o := .tup [v, u]) s2 hT
  exact ⟨_, gs, .tup (SqT.of upd_same) (.cons ((rv.up s1).up gs.mm) (.cons ((ru.up s1).up gs.mm) .nil))⟩
def gZip : List D → Option (List D)
  | [.list xs, .list ys] => some (zipD xs ys)
  | [.tup xs, .tup ys] => some (zipD xs ys)
  | _ => none
def pZip (fs : Sta → PR (List D)) : Sta → PR (List D) := fun s => (fs s).bind fun ds => .of (gZip ds)
theorem iv_zip {elts : List Expr} {kk : Nat} {tpos : Pos} {fs : Sta → PR (List D)} (hg : Gl X "zip") (hm : X.mg "zip" = none) (ha : PAs X T W [e, e2] fs)
    (hs : starEach [e, e2] X.env = (false, eval e X.env) :: starEach [e2] X.env := by rfl) (hpl : (backTo pos (starEach [e2] X.env)).any (·.1) = false := by rfl) :
    PIv X T W (.Tuple elts kk tpos) (.Call (.Name "zip" p) [e, e2] [] pos) (pZip fs) := by
  refine PI.wk (RZ.pi_zipA hg hm ha hs hpl) ?_
  rintro σ H R ⟨s, m, M, G, Rl, q⟩
  refine ⟨s, m, M, G, Rl, ?_⟩
  revert q
  unfold pZip PR.bind
  cases fs s with
  | ok ds =>
    intro q ys H' M' g rr
    dsimp only at q
    cases hr : gZip ds with
    | none => simp only [hr, PR.of] at q
    | some es =>
      simp only [hr, PR.of] at q
      unfold gZip at hr
      split at hr
      · cases hr
        cases rr with
        | cons r1 rn => cases rn with
          | cons r2 rn =>
            cases rn
            cases r1 with
            | list h1 h2 => cases r2 with
              | list h3 h4 => exact ⟨_, _, _, _, rfl, .inl ⟨SqL.of (g.mh _ _ h1), SqL.of (g.mh _ _ h3), q _ H' M' g (itz_ok (fun M H a b _ => ⟨SqL.of (b _ _ (a _ _ h1)), SqL.of (b _ _ (a _ _ h3))⟩) h2 h4)⟩⟩
      · cases hr
        cases rr with
        | cons r1 rn => cases rn with
          | cons r2 rn =>
            cases rn
            cases r1 with
            | tup h1 h2 => cases r2 with
              | tup h3 h4 => exact ⟨_, _, _, _, rfl, .inr ⟨Same.seqT g.mh h1, Same.seqT g.mh h3, q _ H' M' g (itzT_ok (fun M H a b _ => ⟨Same.seqT b (Same.seqT a h1), Same.seqT b (Same.seqT a h3)⟩) h2 h4)⟩⟩
      · cases hr
  | exc e => intro q; exact q
  | stuck => intro q; exact q
/-! ### a sign within a text -/
def gInS : D → D → Option RV
  | .str x, .str z => match x.cps.toList with
    | [c] => some (sh (.bool (decide (c ∈ z.cps.toList))))
    | _ => none
  | _, _ => none
theorem ok_inS : Op2Ok X (compareOp .In) gInS := by
  refine ⟨_, op_in_sign, fun m M H x y d1 d2 res Q s a1 a2 e k => ?_⟩
  cases d1 <;> try (cases e; done)
  cases d2 <;> try (cases e; done)
  rename_i u z
  dsimp only [gInS] at e
  split at e
  · rename_i c hl
    cases e
    have hx : u = ⟨#[c]⟩ := by
      obtain ⟨a⟩ := u
      exact congrArg Str.mk (Array.toList_inj.mp hl)
    exact ⟨c, z, by rw [a1.str, hx], a2.str, k _ H M (Grow.refl s) (.bl _)⟩
  · cases e
/-! ### a def that calls itself: what is never reached -/
theorem fn_stuck {P : Program} {w : World} {K : PySem.W.Frag} {mg : Str → Option Value} {base : Heap} {T : Tab} {al : Bool} {k n : Nat} {f : Addr} {fd : FuncData} {ps : List Str} (h : ps.length = n) :
    FnOk P w K mg base (L2.CX P w) k f fd ps (spF K T al n fun _ _ => .stuck) := by
  refine ⟨fun vs H Q E hs => ?_, fun A outer s H args us vs Q E _ _ _ _ hs => ?_⟩
  · obtain ⟨_, _, _, _, _, hl, _⟩ := hs
    rw [hl, h]
  · obtain ⟨_, _, _, _, _, _, _, _, _, z⟩ := hs
    exact z.elim
end
/-! ### a statement that is never come to -/
section
variable {X : Cx} {T : Tab} {W : WX} {al : Bool} {st : Stmt}
def sDead : Sta → Fl := fun _ => .stuck
theorem s_dead : SE1 X T W al st sDead := ⟨fun pins s σ H D I h => by
  obtain ⟨s', m, M, G, R, a, q⟩ := h
  exact q.elim⟩
end
/-! ### as equations -/
section
variable {env : List Slot} {st : List Ob}
theorem g_divmod {i j : Int} (h : 0 < j ∧ j < 1073741824) : gDivmod [.int i, .int j] = some ⟨.sh, .tup [.int (i / j), .int (i % j)]⟩ := if_pos h
theorem g_sorted (ns : List Int) : gSorted [.list (ns.map D.int)] = some ⟨.fr, .list ((sortI ns).map D.int)⟩ := by
  show (intsOf (ns.map D.int)).map _ = _
  rw [intsOf_map]
  rfl
theorem g_allB (bs : List Bool) : gAll [.list (bs.map D.bool)] = some ⟨.sh, .bool (bs.all id)⟩ := by
  show (boolsOf (bs.map D.bool)).map _ = _
  rw [boolsOf_map]
  rfl
theorem g_anyB (bs : List Bool) : gAny [.list (bs.map D.bool)] = some ⟨.sh, .bool (bs.any id)⟩ := by
  show (boolsOf (bs.map D.bool)).map _ = _
  rw [boolsOf_map]
  rfl
theorem g_sumI (bs : List Int) : gSum [.list (bs.map D.int)] = some ⟨.sh, .int bs.sum⟩ := by
  show (intsOf (bs.map D.int)).map _ = _
  rw [intsOf_map]
  rfl
theorem g_zipT (x y : List D) : gZip [.tup x, .tup y] = some (zipD x y) := Eq.trans rfl rfl
theorem g_zipL (x y : List D) : gZip [.list x, .list y] = some (zipD x y) := Eq.trans rfl rfl
def xZp : PR (List D) → PR (List D)
  | .ok d => .of (gZip d)
  | .exc e => .exc e
  | .stuck => .stuck
theorem e_pZip (fs : Sta → PR (List D)) : pZip fs ⟨env, st⟩ = xZp (fs ⟨env, st⟩) := by
  unfold pZip PR.bind xZp
  cases fs ⟨env, st⟩ <;> rfl
theorem e_xZp (d : List D) : xZp (.ok d) = PR.of (gZip d) := Eq.trans rfl rfl
theorem g_abs (i : Int) : gAbs [.int i] = some ⟨.sh, .int (if i < 0 then -i else i)⟩ := Eq.trans rfl rfl
theorem g_intI (i : Int) : gInt [.int i] = some ⟨.sh, .int i⟩ := Eq.trans rfl rfl
theorem g_intB (b : Bool) : gInt [.bool b] = some ⟨.sh, .int (if b then 1 else 0)⟩ := Eq.trans rfl rfl
theorem g_repT {d : D} {n : Int} (h : 1 ≤ n ∧ n ≤ 1000) : gRepT (.tup [d]) (.int n) = some ⟨.sh, .tup (List.replicate n.toNat d)⟩ := by
  show (if _ then _ else _) = _
  rw [if_pos ⟨h.1, h.2, by simp, by simp⟩, List.flatten_replicate_singleton]
def xLR : PR (List D) → PR RV
  | .ok ds => if ds.length ≤ 16777216 then .ok ⟨.fr, .list ds⟩ else .stuck
  | .exc e => .exc e
  | .stuck => .stuck
theorem e_pLRng (g : List D → Option (List D)) (fs : Sta → PR (List RV)) : pLRng g fs ⟨env, st⟩ = xLR (xG g (fs ⟨env, st⟩)) := by
  unfold pLRng PR.bind xG xLR
  cases fs ⟨env, st⟩ with
  | ok rs => simp only []; cases PR.of (g (rs.map RV.d)) <;> rfl
  | exc e => rfl
  | stuck => rfl
theorem e_xLR {ds : List D} (h : ds.length ≤ 16777216) : xLR (.ok ds) = .ok ⟨.fr, .list ds⟩ := if_pos h
def xPop (i : Nat) (env : List Slot) (st : List Ob) : Option Slot → PR RV → Fe
  | some (.own (.list ds)), .ok ⟨_, .int j⟩ => if ds.length ≤ 16777216 then (match ixN ds.length j with
      | some k => match ds[k]? with
        | some d => .ok (.v d) ⟨env.set i (.own (.list (ds.eraseIdx k))), st⟩
        | none => .stuck
      | none => .stuck) else .stuck
  | some (.own (.list _)), .ok _ => .stuck
  | some (.own (.list _)), .exc e => .exc e ⟨env, st⟩
  | some (.own (.list _)), .stuck => .stuck
  | _, _ => .stuck
theorem f_Pop (i : Nat) (f : Sta → PR RV) : fPop i f ⟨env, st⟩ = xPop i env st env[i]? (f ⟨env, st⟩) := by
  unfold fPop xPop
  rcases env[i]? with _ | (_ | d | d | d) <;> try rfl
  cases d <;> try rfl
  cases f ⟨env, st⟩ with
  | ok r => obtain ⟨k, d⟩ := r; cases d <;> rfl
  | exc e => rfl
  | stuck => rfl
theorem f_xPop {i : Nat} {ds : List D} {j : Int} {k : RK} (h : 0 ≤ j ∧ j < ds.length) (hl : ds.length ≤ 16777216) : xPop i env st (some (.own (.list ds))) (.ok ⟨k, .int j⟩) = .ok (.v (ds.getD j.toNat .none)) ⟨env.set i (.own (.list (ds.eraseIdx j.toNat))), st⟩ := by
  have e1 : ixN ds.length j = some j.toNat := by unfold ixN; rw [if_pos h.1, if_pos h.2]
  have e2 : ds[j.toNat]? = some (ds.getD j.toNat .none) := by
    have : j.toNat < ds.length := by omega
    rw [List.getD_eq_getElem?_getD, List.getElem?_eq_getElem this]
    rfl
  show (if _ then _ else _) = _
  rw [if_pos hl]
  simp only [e1, e2]
def xAF2 (i : Nat) (d : D) (env : List Slot) (st : List Ob) : Option Slot → Fl
  | some (.own (.list ds)) => if ds.length < 16777216 then .nx ⟨env.set i (.own (.list (ds ++ [d]))), st⟩ else .stuck
  | _ => .stuck
def xAF (i : Nat) : Fe → Fl
  | .ok (.v d) ⟨env, st⟩ => xAF2 i d env st env[i]?
  | .ok _ _ => .stuck
  | .exc e s => .exc e s
  | .stuck => .stuck
def xAF0 (i : Nat) : Option Slot → Fe → Fl
  | some (.own (.list _)), x => xAF i x
  | _, _ => .stuck
theorem s_AppF (i : Nat) (g : Sta → Fe) : sAppF i g ⟨env, st⟩ = xAF0 i env[i]? (g ⟨env, st⟩) := by
  unfold sAppF xAF0
  rcases env[i]? with _ | (_ | d | d | d) <;> try rfl
  cases d <;> try rfl
  unfold Fe.fl xAF
  rcases g ⟨env, st⟩ with ⟨r, ⟨env', st'⟩⟩ | ⟨e, s⟩ | _ <;> try rfl
  rcases r with _ | d | d | d
  · rfl
  · simp only [xAF2]
    rcases env'[i]? with _ | (_ | d | d | d) <;> try rfl
    cases d <;> rfl
  · rfl
  · rfl
theorem s_xAF0 (i : Nat) (ds : List D) (x : Fe) : xAF0 i (some (.own (.list ds))) x = xAF i x := Eq.trans rfl rfl
theorem s_xAF (i : Nat) (d : D) : xAF i (.ok (.v d) ⟨env, st⟩) = xAF2 i d env st env[i]? := Eq.trans rfl rfl
theorem s_xAF2 {i : Nat} {d : D} {ds : List D} (h : ds.length < 16777216) : xAF2 i d env st (some (.own (.list ds))) = .nx ⟨env.set i (.own (.list (ds ++ [d]))), st⟩ := if_pos h
theorem inB_int (i : Int) (ns : List Int) : (ns.map D.int).any (fun z => eqF z (.int i)) = decide (i ∈ ns) := by
  induction ns with
  | nil => simp
  | cons n ns ih =>
    rw [List.map_cons, List.any_cons, ih]
    show (n == i || _) = _
    by_cases h : n = i
    · subst h; simp
    · have h' : ¬ i = n := fun e => h e.symm
      simp [h, h']
theorem flat_ints (ns : List Int) : (ns.map D.int).all flatD = true := by
  rw [List.all_map]
  exact List.all_eq_true.mpr fun _ _ => rfl
theorem g_inI (i : Int) (ns : List Int) : gIn (.int i) (.list (ns.map D.int)) = some ⟨.sh, .bool (decide (i ∈ ns))⟩ := by
  unfold gIn inB
  simp only [seqOf]
  rw [if_pos ⟨rfl, flat_ints ns⟩, inB_int]
  rfl
theorem g_ninI (i : Int) (ns : List Int) : gNin (.int i) (.list (ns.map D.int)) = some ⟨.sh, .bool (!decide (i ∈ ns))⟩ := by
  unfold gNin inB
  simp only [seqOf]
  rw [if_pos ⟨rfl, flat_ints ns⟩, inB_int]
  rfl
theorem g_inT (i : Int) (ns : List Int) : gIn (.int i) (.tup (ns.map D.int)) = some ⟨.sh, .bool (decide (i ∈ ns))⟩ := by
  unfold gIn inB
  simp only [seqOf]
  rw [if_pos ⟨rfl, flat_ints ns⟩, inB_int]
  rfl
theorem g_ninT (i : Int) (ns : List Int) : gNin (.int i) (.tup (ns.map D.int)) = some ⟨.sh, .bool (!decide (i ∈ ns))⟩ := by
  unfold gNin inB
  simp only [seqOf]
  rw [if_pos ⟨rfl, flat_ints ns⟩, inB_int]
  rfl
/-- a comprehension over numbers -/
theorem compN {t : Tg} {tt : Sta → PR Bool} {te : Sta → PR D} {s : Sta} (q : Nat → Bool) : ∀ (ms : List Nat), (∀ m ∈ ms, ∃ env, t.bind (.int (m : Int)) s.env = some env ∧ tt { s with env := env } = .ok (q m) ∧ (q m = true → te { s with env := env } = .ok (.int (m : Int)))) →
    compL t tt te s (ms.map fun m : Nat => D.int (m : Int)) = .ok ((ms.filter q).map fun m : Nat => D.int (m : Int))
  | [], _ => rfl
  | m :: ms, h => by
    obtain ⟨env, h1, h2, h3⟩ := h m (by simp)
    have ih := compN q ms fun m hm => h m (by simp [hm])
    rw [List.map_cons, compL, h1]
    simp only [h2]
    cases hq : q m with
    | true =>
      simp only [h3 hq]
      rw [ih, List.filter_cons, hq]
      rfl
    | false =>
      simp only []
      rw [ih, List.filter_cons, hq]
      rfl
theorem compM {t : Tg} {te : Sta → PR D} {s : Sta} (f : Nat → D) : ∀ (ms : List Nat), (∀ m ∈ ms, ∃ env, t.bind (.int (m : Int)) s.env = some env ∧ te { s with env := env } = .ok (f m)) →
    compL t pYes te s (ms.map fun m : Nat => D.int (m : Int)) = .ok (ms.map f)
  | [], _ => rfl
  | m :: ms, h => by
    obtain ⟨env, h1, h2⟩ := h m (by simp)
    rw [List.map_cons, compL, h1]
    simp only [pYes, h2]
    rw [compM f ms fun m hm => h m (by simp [hm])]
    rfl
theorem compG {α : Type} {t : Tg} {tt : Sta → PR Bool} {te : Sta → PR D} {s : Sta} (mk f : α → D) (q : α → Bool) : ∀ (l : List α), (∀ a ∈ l, ∃ env, t.bind (mk a) s.env = some env ∧ tt { s with env := env } = .ok (q a) ∧ (q a = true → te { s with env := env } = .ok (f a))) →
    compL t tt te s (l.map mk) = .ok ((l.filter q).map f)
  | [], _ => rfl
  | a :: l, h => by
    obtain ⟨env, h1, h2, h3⟩ := h a (by simp)
    have ih := compG mk f q l fun m hm => h m (by simp [hm])
    rw [List.map_cons, compL, h1]
    simp only [h2]
    cases hq : q a with
    | true =>
      simp only [h3 hq]
      rw [ih, List.filter_cons, hq]
      rfl
    | false =>
      simp only []
      rw [ih, List.filter_cons, hq]
      rfl
theorem compA {α : Type} {t : Tg} {te : Sta → PR D} {s : Sta} (mk f : α → D) : ∀ (l : List α), (∀ a ∈ l, ∃ env, t.bind (mk a) s.env = some env ∧ te { s with env := env } = .ok (f a)) →
    compL t pYes te s (l.map mk) = .ok (l.map f)
  | [], _ => rfl
  | a :: l, h => by
    obtain ⟨env, h1, h2⟩ := h a (by simp)
    rw [List.map_cons, compL, h1]
    simp only [pYes, h2]
    rw [compA mk f l fun m hm => h m (by simp [hm])]
    rfl
theorem compE {α : Type} {t : Tg} {te : Sta → PR D} {s : Sta} (P : α → Prop) (mk : α → D) : ∀ (ds : List D), (∀ d ∈ ds, ∃ a, P a ∧ ∃ env, t.bind d s.env = some env ∧ te { s with env := env } = .ok (mk a)) →
    ∃ l : List α, l.length = ds.length ∧ (∀ a ∈ l, P a) ∧ compL t pYes te s ds = .ok (l.map mk)
  | [], _ => ⟨[], rfl, (fun a h => by cases h), rfl⟩
  | d :: ds, h => by
    obtain ⟨a, ha, env, h1, h2⟩ := h d (by simp)
    obtain ⟨l, hl, hp, hc⟩ := compE P mk ds fun m hm => h m (by simp [hm])
    refine ⟨a :: l, by simp [hl], fun b hb => ?_, ?_⟩
    · rcases List.mem_cons.mp hb with rfl | hb
      · exact ha
      · exact hp b hb
    · rw [compL, h1]
      simp only [pYes, h2]
      rw [hc]
      rfl
theorem eqvAll_ints : ∀ a b : List Nat, PyData.eqvAll (pys (a.map fun m : Nat => D.int (m : Int))) (pys (b.map fun m : Nat => D.int (m : Int))) = decide (a = b)
  | [], [] => rfl
  | [], b :: bs => rfl
  | a :: as, [] => rfl
  | a :: as, b :: bs => by
    show ((a : Int) == (b : Int) && PyData.eqvAll _ _) = _
    rw [eqvAll_ints as bs]
    by_cases h1 : a = b
    · subst h1; simp
    · have : ¬ (a : Int) = b := by omega
      simp [h1, this]
theorem plain_ints (a : List Nat) : (D.tup (a.map fun m : Nat => D.int (m : Int))).plain 9 = true := by
  show (a.map fun m : Nat => D.int (m : Int)).all (D.plain 8) = true
  rw [List.all_map]
  exact List.all_eq_true.mpr fun _ _ => rfl
theorem eqB_ints (a b : List Nat) : eqB (.tup (a.map fun m : Nat => D.int (m : Int))) (.tup (b.map fun m : Nat => D.int (m : Int))) = some (decide (a = b)) := by
  rw [eqB_gen (plain_ints a) (plain_ints b)]
  show some (PyData.eqvAll (pys _) (pys _)) = _
  rw [eqvAll_ints]
theorem gEq_ints (a b : List Nat) : gEq (.tup (a.map fun m : Nat => D.int (m : Int))) (.tup (b.map fun m : Nat => D.int (m : Int))) = some ⟨.sh, .bool (decide (a = b))⟩ := by unfold gEq; rw [eqB_ints]; rfl
theorem gNe_ints (a b : List Nat) : gNe (.tup (a.map fun m : Nat => D.int (m : Int))) (.tup (b.map fun m : Nat => D.int (m : Int))) = some ⟨.sh, .bool (!decide (a = b))⟩ := by unfold gNe; rw [eqB_ints]; rfl
/-- a tuple of numbers among such -/
theorem shaped_ints (a : List Nat) : SeqAt.shaped (D.tup (a.map fun m : Nat => D.int (m : Int))).py = true := plain_shaped (plain_ints a)
theorem shaped_many (as : List (List Nat)) : SeqAt.shaped (.list (pys (as.map fun a => D.tup (a.map fun m : Nat => D.int (m : Int))))) = true := by
  have h : (D.list (as.map fun a => D.tup (a.map fun m : Nat => D.int (m : Int)))).plain 9 = true := by
    show (as.map fun a => D.tup (a.map fun m : Nat => D.int (m : Int))).all (D.plain 8) = true
    rw [List.all_map]
    refine List.all_eq_true.mpr fun a _ => ?_
    show (a.map fun m : Nat => D.int (m : Int)).all (D.plain 7) = true
    rw [List.all_map]
    exact List.all_eq_true.mpr fun _ _ => rfl
  exact plain_shaped h
theorem any_many (k : List Nat) : ∀ as : List (List Nat), ((pys (as.map fun a => D.tup (a.map fun m : Nat => D.int (m : Int)))).any fun z => PyData.eqv z (D.tup (k.map fun m : Nat => D.int (m : Int))).py) = decide (k ∈ as)
  | [] => by simp [pys]
  | a :: as => by
    show (PyData.eqv (D.tup (a.map fun m : Nat => D.int (m : Int))).py (D.tup (k.map fun m : Nat => D.int (m : Int))).py || _) = _
    rw [any_many k as]
    show (PyData.eqvAll (pys _) (pys _) || _) = _
    rw [eqvAll_ints]
    by_cases h1 : a = k
    · subst h1; simp
    · have : ¬ k = a := fun e => h1 e.symm
      simp [h1, this]
theorem inB_many (k : List Nat) (as : List (List Nat)) : inB (.tup (k.map fun m : Nat => D.int (m : Int))) (.list (as.map fun a => D.tup (a.map fun m : Nat => D.int (m : Int)))) = some (decide (k ∈ as)) := by
  unfold inB
  simp only [seqOf]
  rw [if_neg (fun h => Bool.false_ne_true h.1), if_pos ⟨rfl, shaped_ints k, shaped_many as⟩, any_many]
theorem gIn_many (k : List Nat) (as : List (List Nat)) : gIn (.tup (k.map fun m : Nat => D.int (m : Int))) (.list (as.map fun a => D.tup (a.map fun m : Nat => D.int (m : Int)))) = some ⟨.sh, .bool (decide (k ∈ as))⟩ := by unfold gIn; rw [inB_many]; rfl
theorem gNin_many (k : List Nat) (as : List (List Nat)) : gNin (.tup (k.map fun m : Nat => D.int (m : Int))) (.list (as.map fun a => D.tup (a.map fun m : Nat => D.int (m : Int)))) = some ⟨.sh, .bool (!decide (k ∈ as))⟩ := by unfold gNin; rw [inB_many]; rfl
/-- tuples of texts -/
theorem flat_strs (ss : List Str) : (ss.map D.str).all flatD = true := by
  rw [List.all_map]
  exact List.all_eq_true.mpr fun _ _ => rfl
theorem inB_str (x : Str) (ss : List Str) : (ss.map D.str).any (fun z => eqF z (.str x)) = decide (x ∈ ss) := by
  induction ss with
  | nil => simp
  | cons n ns ih =>
    rw [List.map_cons, List.any_cons, ih]
    show (n == x || _) = _
    by_cases h : n = x
    · subst h; simp
    · have h' : ¬ x = n := fun e => h e.symm
      have h2 : (n == x) = false := beq_eq_false_iff_ne.mpr h
      simp [h', h2]
theorem g_ninST (x : Str) (ss : List Str) : gNin (.str x) (.tup (ss.map D.str)) = some ⟨.sh, .bool (!decide (x ∈ ss))⟩ := by
  unfold gNin inB
  simp only [seqOf]
  rw [if_pos ⟨rfl, flat_strs ss⟩, inB_str]
  rfl
theorem e_c2 : ((2 : Nat) : Int) = 2 := Eq.trans rfl rfl
theorem e_c3 : ((3 : Nat) : Int) = 3 := Eq.trans rfl rfl
theorem e_c4 : ((4 : Nat) : Int) = 4 := Eq.trans rfl rfl
theorem e_c5 : ((5 : Nat) : Int) = 5 := Eq.trans rfl rfl
theorem e_pIsi (n : String) (f : Sta → PR RV) : pIsi n f ⟨env, st⟩ = x1 (fun d => (isiB n d).map fun b => sh (.bool b)) (f ⟨env, st⟩) := by
  unfold pIsi
  exact e_p1 _ _
end
end MP

set_option maxHeartbeats 2000000
/-! MP 11: exceptions: raised, caught, kept as values. -/
namespace MP
open PySem PySem.Spec PyProof.Rows L2

/-! ### an object of ours that was not tracked is tracked from now on -/
section
variable {X : Cx} {pins : List (Addr × Obj)} {σ : L2.St} {H : Hp} {s : Shared} {a : Addr} {u : HO}
theorem track (I : Inv X pins σ H s) (n0 : X.s_0.heap.get? a = none) (na : H a = none) (nL : a ≠ X.env.locals) {oe : Obj} {vs : Array Value}
    (he : s.heap.get? a = some oe) (hd : oe.data = .fields vs) (np : ∀ p ∈ X.pn ++ pins, p.1 ≠ a)
    (ok : ObjOk X.prog X.w (upd H a u) s.heap a u) : Inv X pins σ (upd H a u) s := by
  have off : ∀ {b : Addr} {w : HO}, H b = some w → b ≠ a := fun q => ne_of_none q na
  have cl : ∀ {x : Str} {c : Addr}, X.env.cells.lookup x = some c → c ≠ a := by
    intro x c q z
    obtain ⟨v, o, h1, h2⟩ := I.cell x c q
    rw [z, he] at h1
    cases h1
    rw [hd] at h2
    cases h2
  exact {
    ok := I.ok
    os := I.os
    bare := I.bare
    base := {
      keep := I.base.keep
      slot := I.base.slot
      free := fun b o q n hx => by
        rw [upd_ne (fun z => by rw [z, n0] at q; cases q)]
        exact I.base.free b o q n hx
      there := I.base.there
      tups := fun b xs q => by
        have q2 := I.base.tups b xs q
        rw [upd_ne (off q2)]; exact q2
      frzs := fun b o w q => by
        have q2 := I.base.frzs b o w q
        rw [upd_ne (off q2)]; exact q2
      tbls := fun b ps q => by
        obtain ⟨r, q2⟩ := I.base.tbls b ps q
        exact ⟨r, by rw [upd_ne (off q2)]; exact q2⟩ }
    loc := I.loc
    cell := I.cell
    free := by rw [upd_ne (Ne.symm nL)]; exact I.free
    freeC := fun x c q => by rw [upd_ne (cl q)]; exact I.freeC x c q
    pin := fun p hp => by
      obtain ⟨h1, h2, h3⟩ := I.pin p hp
      exact ⟨h1, by rw [upd_ne (np p hp)]; exact h2, h3⟩
    hok := fun b w q => by
      by_cases hb : b = a
      · subst hb
        rw [upd_same] at q
        cases q
        exact ok
      · rw [upd_ne hb] at q
        exact (I.hok b w q).stay (fun _ _ _ z => z) (fun c z => by rw [upd_ne (off z)]; exact z) (fun c xs z => by rw [upd_ne (off z)]; exact z)
    len := I.len }
theorem exv_ok {P : Program} {w : World} {h : Heap} {C : Addr} {d : Option Addr} {oe : Obj} {vs : Array Value} (e : h.get? a = some oe) (z : Zc (.ref C) d oe) (q : oe.data = .fields vs) : ObjOk P w H h a (exv a C d) :=
  ⟨⟨oe, vs, e, z, q⟩, ⟨oe, e⟩, fun _ _ ⟨o, v, x, r⟩ k => ⟨o, v, k o x, r⟩⟩
theorem exv_at {C : Addr} {d : Option Addr} (I : Inv X pins σ H s) (e : H a = some (exv a C d)) : ∃ (oe : Obj) (vs : Array Value), s.heap.get? a = some oe ∧ Zc (.ref C) d oe ∧ oe.data = .fields vs := by
  have x : ObjOk X.prog X.w H s.heap a (.ext fun h => ∃ (oe : Obj) (vs : Array Value), h.get? a = some oe ∧ Zc (.ref C) d oe ∧ oe.data = .fields vs) := I.hok a _ e
  exact x.1
end

/-! ### try, except C as n: suite; behind the suite the exception is a value -/
/-- the suite's ends, the exception at a tracked from there on, slot i empty -/
def endV (D : Ends) (i a C : Nat) (d : Option Addr) : Ends where
  nx σ H := D.nx (σ.set i none) (upd H a (exv a C d))
  rt v H := D.rt v (upd H a (exv a C d))
  bk σ H := D.bk (σ.set i none) (upd H a (exv a C d))
  ct σ H := D.ct (σ.set i none) (upd H a (exv a C d))
def wVal (K : PySem.W.Frag) (c : Value) (i : Nat) (ts : Addr → Value → Option Addr → TS) (Wo : WX) (D : Ends) : WX := fun cls d σ H =>
  ∃ b, PySem.W.exmOne K cls c = some b ∧ (b = false → Wo cls d σ H) ∧
    (b = true → ∃ C, cls = .ref C ∧ ∀ a, H a = none → ts a cls d (endV D i a C d) (σ.set i (some (.ref a))) H)
section
variable {X : Cx} {x n : Str} {c : Value} {i : Nat} {body suite : List Stmt} {b₀ : Stmt} {np pos pos' : Pos} {tb : WX → TS} {ts : Addr → Value → Option Addr → TS} {Wo : WX}
theorem ps_try_v (hs : X.stack = X.env :: X.outer) (hf : X.env.frame = some X.env.locals) (hx : X.ex = [])
    (hN : X.N.Nodup) (hi : X.N[i]? = some n) (hln : X.env.kindOf n = some .local) (hc : Names X x c) (tk : Takes X Wo)
    (hb : ∀ W pn xe, Takes (X.tr pn xe) W → PassesOwn (model X.prog X.w) X.A X.env xe → PSs (X.tr pn xe) body (tb W))
    (hsu : ∀ a oe cls d pn, Zc cls d oe → (∃ vs, oe.data = .fields vs) → PSs (X.suite a ((a, oe) :: pn)) (b₀ :: suite) (ts a cls d)) :
    PS X (.Try body [.ExceptHandler (some (.Name x np)) (some n) (b₀ :: suite) pos'] [] [] pos) fun D σ H => tb (wVal X.K c i ts Wo D) D σ H := by
  constructor
  intro pins s σ H D I hyp
  have ok := I.ok
  have frames : X.A.frames = some (X.env :: X.outer) := by
    rw [ok.frames, hs]
  apply wpAny_Try_except
  let land : Value → Shared → Prop := fun e t1 => wpAny (model X.prog X.w) X.A (noteFrame e X.env)
    (fun _ t2 => wpAny (model X.prog X.w) X.A (setFlight e none) (fun _ t3 => wpAny (model X.prog X.w) X.A
      (handleBy e X.env [.ExceptHandler (some (.Name x np)) (some n) (b₀ :: suite) pos']) (SP X pins D) X.xe t3) X.xe t2) X.xe t1
  have takes : Takes (X.tr (X.pn ++ pins) land) (wVal X.K c i ts Wo D) := by
    rintro _ t ⟨a, B, t0, pins2, σ2, H2, cls, d, rfl, J0, below, up, sky, free, os, bare, b, hb1, no, yes⟩
    have J : Inv X pins σ2 H2 t0 := J0.ofTry ok
    have sky2 : Sky B (X.env :: X.outer) a (Zc cls d) X.env.locals t.heap := hs ▸ sky
    show wpAny _ X.A (noteFrame (.ref a) X.env) _ _ _
    apply Sky.land Zc.steady frames hf sky2
    intro h3 fly up3
    have J3 : Inv X pins σ2 H2 { t with heap := h3 } := J.landed below fly.1 (up.trans up3) os bare
    obtain ⟨o3, w3, e3, z3, d3⟩ := fly.there
    have notFrame : a ∉ frs (X.env :: X.outer) := by
      intro hm
      obtain ⟨_, o', e', hnf⟩ := fly.2.2.1.mem hm
      rw [e3] at e'
      cases e'
      exact hnf _ d3
    have nL : a ≠ X.env.locals := by
      intro z
      exact notFrame (List.mem_filterMap.mpr ⟨X.env, List.mem_cons_self, by rw [hf, z]⟩)
    have nF : a ∉ X.fs := by
      intro hm
      obtain ⟨e, h1, h2⟩ := List.mem_filterMap.mp hm
      exact notFrame (List.mem_filterMap.mpr ⟨e, List.mem_cons_of_mem _ h1, h2⟩)
    have gone : t0.heap.get? a = none := by
      cases q : t0.heap.get? a with
      | none => rfl
      | some o =>
        have z := below a o q (by rw [hs]; exact notFrame)
        rw [fly.2.1] at z
        cases z
    have n0 : X.s_0.heap.get? a = none := by
      cases q : X.s_0.heap.get? a with
      | none => rfl
      | some o =>
        obtain ⟨o', z⟩ := J.base.there a o q (by rw [hx]; exact List.not_mem_nil)
        rw [gone] at z
        cases z
    have npin : ∀ p ∈ X.pn ++ pins, p.1 ≠ a := by
      intro p hp z
      have q := (J.pin p hp).1
      rw [z, gone] at q
      cases q
    have S3 := J3.suite e3 d3 free nL nF
    apply wpAny_handleBy_cons (codeAny_handlers_test ?_) (by intro q; cases q)
    have look : PySem.W.Looks (model X.prog X.w) h3 (typeOf (.ref a)) cls := by
      intro A Q E s' k q
      exact wpAny_typeOf_ref (k _ _ e3) (by rw [z3.1]; exact q)
    have hit := PySem.W.exm_one (M := model X.prog X.w) J3.kIn look hb1
    have test : ∀ {Q E : Value → Shared → Prop}, Q c { t with heap := h3 } →
        wpAny (model X.prog X.w) (X.A.mark (some (.ref a))) (eval (.Name x np) X.env) Q E { t with heap := h3 } := by
      intro Q E q
      obtain ⟨hg, hdbg, hm | ⟨hm, hv, hnn⟩⟩ := hc
      · exact ld_glob (X := X.suite a ((a, o3) :: (X.pn ++ pins))) S3 hg hm q hdbg
      · exact ld_blt (X := X.suite a ((a, o3) :: (X.pn ++ pins))) S3 hg hm hv q hnn hdbg
    apply test
    apply hit.here
    cases b with
    | true =>
      obtain ⟨C, rfl, hyes⟩ := yes rfl
      apply codeAny_handlers_suite_as
      apply HandSPX.lands_againZ fly
      intro h4 fly4 up4
      have J4 : Inv X pins σ2 H2 { t with heap := h4 } := J.landed below fly4.1 ((up.trans up3).trans up4) os bare
      obtain ⟨o4, w4, e4, z4, d4⟩ := fly4.there
      have S4 := J4.suite e4 d4 free nL nF
      refine store_ok (X := X.suite a ((a, o4) :: (X.pn ++ pins))) (v := .ref a) S4 hN hi (.inl hln) rfl ?_ (.inr hln)
      intro s5 S5
      refine wpAny_mono ((hsu a o4 (.ref C) d (X.pn ++ pins) z4 ⟨_, d4⟩).run [] s5 _ H2 _ S5 (hyes a free)) ?_ (fun _ _ z => z.elim)
      intro f s6 hsp
      have fin : ∀ {σ6 : L2.St} {H6 : Hp} {Q : Shared → Prop}, Inv (X.suite a ((a, o4) :: (X.pn ++ pins))) [] σ6 H6 s6 → (∀ s7, Inv X pins (σ6.set i none) (upd H6 a (exv a C d)) s7 → Q s7) →
          wpAny (model X.prog X.w) X.A (do bindName X.env n .none; unbindBehindTheSuite X.env n pos') (fun _ s7 => Q s7) X.xe s6 := by
        intro σ6 H6 Q S6 hq
        obtain ⟨p1, p2, p3, p4, p5⟩ := S6.pin (a, o4) (List.mem_append_left _ List.mem_cons_self)
        have U := S6.unsuite ok
        exact gone_ok (track U n0 p2 nL p1 d4 npin (exv_ok p1 z4 d4)) hN hi hln hq
      cases f with
      | next =>
        obtain ⟨σ6, H6, S6, q6⟩ := hsp
        exact fin S6 fun s7 J7 => ⟨_, _, J7, q6⟩
      | brk =>
        obtain ⟨σ6, H6, S6, q6⟩ := hsp
        exact fin S6 fun s7 J7 => ⟨_, _, J7, q6⟩
      | cont =>
        obtain ⟨σ6, H6, S6, q6⟩ := hsp
        exact fin S6 fun s7 J7 => ⟨_, _, J7, q6⟩
      | ret u =>
        obtain ⟨v6, σ6, H6, S6, r6, q6⟩ := hsp
        exact fin S6 fun s7 J7 => ⟨_, _, _, J7, r6, q6⟩
    | false =>
      show wpAny _ X.A (handleBy (.ref a) X.env []) _ _ _
      apply wpAny_handleBy_nil
      obtain ⟨k1, k2, k3, oe, vs, T, oT, ts', he, hz, hd, h1, hr⟩ := id fly
      unfold PySem.passOn
      apply wpAny_bind
      apply wpAny_field he hd h1
      rw [if_neg (by simp)]
      have out : wpAny (model X.prog X.w) X.A (setFlight (.ref a) X.env.frame) (fun _ s4 => wpAny (model X.prog X.w) X.A
          (throw (.ref a) : PySem.Sem Flow) (SP X pins D) X.xe s4) X.xe { t with heap := h3 } := by
        rw [hf]
        apply HandSPX.setFlight_upZ fly
        intro h4 hh4 up4
        exact wpAny_throw (tk _ _ ⟨a, B, t0, pins, σ2, H2, cls, d, rfl, J, below, (up.trans up3).trans up4, .inr (.inr (hs ▸ hh4)), free, os, bare, no rfl⟩)
      first
        | exact wpAny_bind (wpAny_pure (wpAny_bind out))
        | exact wpAny_bind out
  refine wpAny_mono ((hb (wVal X.K c i ts Wo D) (X.pn ++ pins) land takes PassesOwn.looking).run [] s σ H D (I.toTry _) hyp) ?_ (fun _ _ z => z)
  intro f s1 hsp
  cases f with
  | next =>
    obtain ⟨σ', H', J', q⟩ := hsp
    exact wpAny_execs_nil ⟨σ', H', J'.ofTry ok, q⟩
  | brk =>
    obtain ⟨σ', H', J', q⟩ := hsp
    exact ⟨σ', H', J'.ofTry ok, q⟩
  | cont =>
    obtain ⟨σ', H', J', q⟩ := hsp
    exact ⟨σ', H', J'.ofTry ok, q⟩
  | ret u =>
    obtain ⟨v, σ', H', J', r, q⟩ := hsp
    exact ⟨v, σ', H', J'.ofTry ok, r, q⟩
end

/-! ### try at content: `except C as n: y = n`, y another name -/
section
variable {X : Cx} {T : Tab} {W : WX} {al : Bool} {x n y : Str} {c : Value} {i j : Nat} {body : List Stmt} {np pos pos' p1 p2 p3 : Pos} {g : Sta → Fl}
/-- which classes (by name) the clause takes -/
def CatchOk (K : PySem.W.Frag) (ct : Str → Option Bool) (c : Value) : Prop := ∀ x b C, ct x = some b → NmC K x C → PySem.W.exmOne K (.ref C) c = some b
def sTryV (ct : Str → Option Bool) (i j : Nat) (g : Sta → Fl) : Sta → Fl := fun s => match g s with
  | .exc e s' => match ct e.cls with
    | some true => match s'.env[i]? with
      | some _ => .nx { s' with env := (s'.env.set j (.v (.xv e.cls e.fs))).set i .un }
      | none => .stuck
    | some false => .exc e s'
    | none => .stuck
  | fl => fl
theorem ExR.dr {K : PySem.W.Frag} {m : List Addr} {M H : Hp} {e : Ex} {C a : Addr} {d : Option Addr} (h : ExR K T m M H e (.ref C) d) (na : M a = none) : DR K m (upd M a (exv a C d)) (.ref a) (.xv e.cls e.fs) := by
  obtain ⟨C', hn, ec, h⟩ := h
  cases ec
  obtain ⟨cl, fs⟩ := e
  rcases h with ⟨h1, rfl⟩ | ⟨dd, vs, rfl, h2, h3⟩
  · dsimp only at h1 hn ⊢
    subst h1
    exact .xn hn upd_same
  · exact .xf hn upd_same (by rw [upd_ne (ne_of_none h2 na)]; exact h2) (DRf.mono (MLe.refl _) (Same.upd na) _ _ h3)
theorem s_tryV {ct : Str → Option Bool} (hs : X.stack = X.env :: X.outer) (hf : X.env.frame = some X.env.locals) (hx : X.ex = []) (hN : X.N.Nodup)
    (hi : X.N[i]? = some n) (hln : X.env.kindOf n = some .local) (hj : X.N[j]? = some y) (hlj : Loc X.env.scope y) (hij : i ≠ j) (hc : Names X x c) (hct : CatchOk X.K ct c) (tk : Takes X W)
    (hb : ∀ W' pn xe, Takes (X.tr pn xe) W' → PassesOwn (model X.prog X.w) X.A X.env xe → SEv (X.tr pn xe) T W' al body g)
    (hd : (n == ("__debug__" : Str)) = false := by decide) (hcd : (n == ("__classdict__" : Str)) = false := by decide)
    (hs3 : swapsWith (.Name n p2) (some (.Name y p1)) p3.line X.env = pure false := by rfl)
    (hfj : X.fn y = true ∨ X.env.scope.names.lookup y = some .local := by first | exact .inl rfl | exact .inr rfl | assumption) :
    SE1 X T W al (.Try body [.ExceptHandler (some (.Name x np)) (some n) [.Assign [.Name y p1] (.Name n p2) p3] pos'] [] [] pos) (sTryV ct i j g) := by
  refine PS.wk (ps_try_v (ts := fun a cls d => tAsg (tVar i) (gName j)) (tb := fun W' => tS X T W' al g) hs hf hx hN hi hln hc tk (fun W' pn xe t po => hb W' pn xe t po) fun a oe cls d pn hz hv => ?_) ?_
  · exact pss_one (ps_set hN hj hlj (pe_var hi (.inl hln) hd hcd) hs3 hfj)
  · rintro D σ H ⟨s, m, M, G, R, a, q⟩
    refine ⟨s, m, M, G, R, a, ?_⟩
    unfold sTryV at q
    cases hg : g s with
    | nx s' => rw [hg] at q; exact q
    | brk s' => rw [hg] at q; exact q
    | cont s' => rw [hg] at q; exact q
    | ret r s' => rw [hg] at q; exact q
    | stuck => rw [hg] at q; exact q
    | exc e s' =>
      rw [hg] at q
      intro cls d σ' H' m' M' e' a' R' xr
      obtain ⟨C, hn, rfl, hfs⟩ := id xr
      dsimp only at q
      cases hc1 : ct e.cls with
      | none => rw [hc1] at q; exact q.elim
      | some b =>
        rw [hc1] at q
        refine ⟨b, hct _ _ _ hc1 hn, fun hb0 => ?_, fun hb1 => ⟨C, rfl, fun x0 hx0 => ?_⟩⟩
        · subst hb0
          exact q _ d σ' H' m' M' e' a' R' xr
        · subst hb1
          cases hi2 : s'.env[i]? with
          | none => simp only [hi2] at q; exact q.elim
          | some sl =>
            simp only [hi2] at q
            obtain ⟨f1, f2, h1, h2, nd, dj⟩ := R'.fp
            have hl : i < σ'.length := by
              rw [← h1.len]
              exact (List.getElem?_eq_some_iff.mp hi2).1
            refine ⟨_, List.getElem?_set_self hl, ?_⟩
            have g2 : Grow H' M' (upd H' x0 (exv x0 C d)) (upd M' x0 (exv x0 C d)) := Grow.share R'.mh hx0
            have hM : M' x0 = none := R'.mh.free hx0
            have R2 := ((R'.grow g2).setV j (xr.dr hM)).setU i none
            have es : ((σ'.set i (some (.ref x0))).set j (some (.ref x0))).set i none = (σ'.set j (some (.ref x0))).set i none := by
              apply List.ext_getElem?
              intro k
              by_cases h1 : i = k
              · subst h1
                by_cases h2 : i < σ'.length
                · rw [List.getElem?_set_self (by simpa using h2), List.getElem?_set_self (by simpa using h2)]
                · rw [List.getElem?_eq_none (by simpa using h2), List.getElem?_eq_none (by simpa using h2)]
              · rw [List.getElem?_set_ne h1, List.getElem?_set_ne h1]
                by_cases h3 : j = k
                · subst h3
                  by_cases h4 : j < σ'.length
                  · rw [List.getElem?_set_self (by simpa using h4), List.getElem?_set_self h4]
                  · rw [List.getElem?_eq_none (by simpa using h4), List.getElem?_eq_none (by simpa using h4)]
                · rw [List.getElem?_set_ne h3, List.getElem?_set_ne h3, List.getElem?_set_ne h1]
            show D.nx (((σ'.set i (some (.ref x0))).set j (some (.ref x0))).set i none) (upd H' x0 (exv x0 C d))
            rw [es]
            exact q _ _ m' _ (e'.trans (Ext.grow g2 R'.gh)) a' R2
end

/-! ### raise C(..), C an own class whose __init__ sets the fields fs -/
def spInit (C : Addr) (fs : List Str) : Sp := fun vs H Q _ => ∃ a ws, vs = .ref a :: ws ∧ ws.length = fs.length ∧ H a = some (exo a C none) ∧
  ∀ dx, H dx = none → dx ≠ a → Q .non (upd (upd H dx (exd dx (fs.zip ws).reverse)) a (exo a C (some dx)))
def ExcT (P : Program) (w : World) (K : PySem.W.Frag) (mg : Str → Option Value) (base : Heap) (x : Str) (fs : List Str) : Prop :=
  fs.length ≤ 1000 ∧ ∃ C fI fd ps, NmC K x C ∧ mg x = some (.ref C) ∧ OexC K C ∧ PySem.W.findIn K (.ref C) "__init__" = some (some (.ref fI)) ∧
    PySem.W.typeIn K (.ref fI) = some (.type "function") ∧ FnOk P w K mg base (L2.CX P w) 1 fI fd ps (spInit C fs) ∧ Binds K fd ps []
section
variable {X : Cx} {T : Tab} {W : WX} {al : Bool} {x : Str} {fs : List Str} {e : Expr} {es : List Expr} {p pos pos2 : Pos} {f : Sta → PR (List D)}
def sRaise (x : Str) (fs : List Str) (f : Sta → PR (List D)) : Sta → Fl := fun s => match f s with
  | .ok ds => if ds.length = fs.length then .exc ⟨x, (fs.zip ds).reverse⟩ s else .stuck
  | .exc e => .exc e s
  | .stuck => .stuck
theorem DRf.append {K : PySem.W.Frag} {m : List Addr} {H : Hp} : ∀ {xs ys : List (Str × V)} {us ws : List (Str × D)}, DRf K m H xs us → DRf K m H ys ws → DRf K m H (xs ++ ys) (us ++ ws)
  | _, _, _, _, .nil, s => s
  | _, _, _, _, .cons r t, s => .cons r (DRf.append t s)
theorem DRf.zipR {K : PySem.W.Frag} {m : List Addr} {H : Hp} : ∀ {fs : List Str} {vs : List V} {ds : List D}, DRs K m H vs ds → DRf K m H (fs.zip vs).reverse (fs.zip ds).reverse
  | [], _, _, _ => by simp; exact .nil
  | _ :: _, _, _, .nil => by simp; exact .nil
  | f :: fs, _, _, .cons r t => by
    rw [List.zip_cons_cons, List.zip_cons_cons, List.reverse_cons, List.reverse_cons]
    exact (DRf.zipR t).append (.cons r .nil)
theorem made_same {H : Hp} {a dx C : Addr} {o : HO} {u : HO} (ha : H a = none) (hd : dx ≠ a) :
    upd (L2.del (upd (upd (upd H a (exo a C none)) dx u) a (exo a C (some dx))) a) dx o = upd H dx o := by
  funext b
  by_cases h1 : b = dx
  · subst h1
    rw [upd_same, upd_same]
  · rw [upd_ne h1, upd_ne h1]
    by_cases h2 : b = a
    · subst h2
      rw [del_same, ha]
    · rw [del_ne h2, upd_ne h2, upd_ne h1, upd_ne h2]
theorem s_raise (E : ExcT X.prog X.w X.K X.mg X.base x fs) (hr : Room 2 X.A) (hg : Gl X x) (tk : Takes X W) (hc : X.calm = true) (ha : PAs X T W (e :: es) f)
    (hdb : (x == ("__debug__" : Str)) = false := by decide) (he : starEach (e :: es) X.env = (false, eval e X.env) :: starEach es X.env := by rfl)
    (hpl : (backTo pos (starEach es X.env)).any (·.1) = false := by rfl) :
    SE1 X T W al (.Raise (some (.Call (.Name x p) (e :: es) [] pos)) none pos2) (sRaise x fs f) := by
  obtain ⟨hl, C, fI, fd, ps, hn, hm, O, iC, tI, F, hb⟩ := E
  refine PS.wk (ps_raise hc tk (pmk_oex O iC tI F hr hb .nil (passes_call (E := fun _ _ _ => False) tk fun _ _ _ _ h => h.elim) hg hm ha hdb he hpl)) ?_
  rintro D σ H ⟨s, m, M, G, R, a, q⟩
  refine ⟨s, m, M, G, R, ?_⟩
  unfold sRaise at q
  cases hf : f s with
  | stuck => rw [hf] at q; exact q
  | exc x' =>
    rw [hf] at q
    exact fun cls d H' M' g xr => q cls d σ H' m M' (Ext.grow g R.gh) a (R.grow g) xr
  | ok ds =>
    rw [hf] at q
    intro ys H' M' g r
    dsimp only at q
    by_cases hlen : ds.length = fs.length
    · rw [if_pos hlen] at q
      have hy : ys.length = fs.length := r.length.trans hlen
      refine ⟨by omega, fun a0 ha0 => ⟨a0, ys, by rw [List.append_nil], hy, upd_same, fun dx hd hne => ⟨rfl, dx, _, upd_same, by rw [upd_ne hne, upd_same], ?_, ?_⟩⟩⟩
      · rw [upd_ne hne] at hd
        exact hd
      · rw [upd_ne hne] at hd
        rw [made_same ha0 hne]
        have g2 : Grow H' M' (upd H' dx (.xd (fs.zip ys).reverse)) (upd M' dx (.xd (fs.zip ys).reverse)) := Grow.share g.mh hd
        refine q _ _ σ _ m _ (Ext.grow (g.trans g2) R.gh) a (R.grow (g.trans g2)) ⟨C, hn, rfl, .inr ⟨dx, _, rfl, upd_same, ?_⟩⟩
        exact DRf.mono (MLe.refl _) g2.mm _ _ (DRf.zipR r)
    · rw [if_neg hlen] at q
      exact q.elim
end
/-! ### .. a class without own __init__, one text -/
def ExcN (K : PySem.W.Frag) (mg : Str → Option Value) (x : Str) : Prop :=
  ∃ C, NmC K x C ∧ mg x = some (.ref C) ∧ PySem.W.excIn K C [.type "ValueError", .type "Exception", .type "BaseException", .type "object"] "ValueError.__new__" = true ∧ PySem.W.keepIn K (.ref C) = true ∧
    PySem.W.subIn K (.ref C) (.type "BaseException") = some true ∧ PySem.W.typeIn K (.ref C) = some (.type "type")
section
variable {X : Cx} {T : Tab} {W : WX} {al : Bool} {x t : Str} {j : Nat} {p p2 pos pos2 : Pos}
def sRaiseN (x : Str) : Sta → Fl := fun s => .exc ⟨x, []⟩ s
theorem s_raiseN (E : ExcN X.K X.mg x) (hg : Gl X x) (tk : Takes X W) (hc : X.calm = true) (hdb : (x == ("__debug__" : Str)) = false := by decide) :
    SE1 X T W al (.Raise (some (.Call (.Name x p) [.Constant (.str t) j p2] [] pos)) none pos2) (sRaiseN x) := by
  obtain ⟨C, hn, hm, xP, kP, bP, tP⟩ := E
  refine PS.wk (ps_raise hc tk (pmk_own PySem.F.excBase_ValueError xP hm kP (raises_own bP tP) hg hdb)) ?_
  rintro D σ H ⟨s, m, M, G, R, a, q⟩
  exact q _ _ σ H m M (Ext.refl ..) a R ⟨C, hn, rfl, .inl ⟨rfl, rfl⟩⟩
end
/-! ### the __init__ of such a class: `B.__init__(self, 'text')`, then the fields -/
/-- the class B, whose __init__ is ValueError's -/
structure BasC (K : PySem.W.Frag) (mg : Str → Option Value) (x : Str) (B : Addr) : Prop where
  mg : mg x = some (.ref B)
  rd : PySem.W.readsIn K B (.type "type") = true
  sg : PySem.W.specialIn K (.ref B) "__getattribute__" = some (some (.builtin "type.__getattribute__"))
  fc : PySem.W.findCls K (.ref B) (.type "type") "__init__" = some (.val (.builtin "ValueError.__init__"))
section
variable {X : Cx} {x : Str} {B : Addr} {e : Expr} {es : List Expr} {ta : TA} {p1 p2 pos : Pos}
theorem pe_beinit {pl : PySem.Sem Bool} (O : BasC X.K X.mg x B) (hg : Gl X x) (ha : PA X (e :: es) ta)
    (hc : eval (.Call (.Attribute (.Name x p1) "__init__" p2) (e :: es) [] pos) X.env = (do
      let ov ← eval (.Name x p1) X.env
      standAt p2.atName
      let (f, first) ← holding [ov] (getMethod ov "__init__" pl)
      callWith pos f first (backTo pos (starEach (e :: es) X.env)) (backToKw pos (keywordEach [] X.env))) := by rfl)
    (hdb : (x == ("__debug__" : Str)) = false := by decide)
    (he : starEach (e :: es) X.env = (false, eval e X.env) :: starEach es X.env := by rfl) (hpl : (backTo pos (starEach es X.env)).any (·.1) = false := by rfl) :
    PE X (.Call (.Attribute (.Name x p1) "__init__" p2) (e :: es) [] pos) (tVeI X.K ta) := by
  constructor
  intro pins s σ H Q I h
  apply PySem.W.methodCall_KW (ld_glob I hg O.mg ?_ hdb) hc
  apply PySem.W.method_cls I.kIn O.sg
  apply PySem.W.cls_value I.kIn O.rd O.fc (by decide +kernel)
  show wpAny _ _ (callWith pos (Value.builtin "ValueError.__init__") [] (backTo pos (starEach (e :: es) X.env)) []) _ _ _
  refine PyProof.Rows.callWith_method1 (thn (ha.run pos pins _ σ H _ (I.tok _) h) ?_) he hpl
  rintro us s1 ⟨vs, H1, I1, r1, a, C, ws, rfl, hl, O2, ea, q⟩
  cases r1 with
  | @cons _ u0 _ ur ra rw' =>
    obtain rfl : u0 = Value.ref a := ra
    have hlen : ur.length ≤ sizeLine := by
      rw [← Paired.length rw', sizeLine_eq]
      omega
    exact oinit_ok O2 I1 ea hlen fun s' J => ⟨.non, H1, J, rfl, q⟩
end
section
variable {P : Program} {w : World} {K : PySem.W.Frag} {mg : Str → Option Value} {base : Heap} {C : Addr} {qual x a b : Str} {st : Stmt} {f : Addr} {fd : FuncData} {t : Str}
theorem init1_ok (O : OexC K C) (nC : PySem.W.findIn K (.ref C) a = some none) (F : Fun K "__init__" qual st f fd) (S : FnScope ["self", a] ["self", a] (defScope st))
    (hb : ∀ (cdv : Value) (A : Around) (outer : List Env) (s : Shared) (H : Hp) (E : XK), Room 0 (A.deeper (envOfC qual (defScope st) s.heap.objs.size f cdv)) →
      PSs (cxOf (L2.CX P w) P w K mg base ["self", a] qual (defScope st) f cdv A outer s H E) (defBody st) (tSeq (tDrop (tVeI K (tCons (tVar 0) (tCons (tC (.str t)) tNil)))) (tOst K a (tVar 0) (tVar 1)))) :
    FnOk P w K mg base (L2.CX P w) 1 f fd ["self", a] (spInit C [a]) := by
  refine F.okX S (fun vs H Q E h => ?_) fun cdv A outer s H vs Q E hr h => ⟨_, hb cdv A outer s H E hr, ?_⟩
  · obtain ⟨a0, ws, rfl, hl, _⟩ := h
    simpa using hl
  · obtain ⟨a0, ws, rfl, hl, ha, q⟩ := h
    obtain ⟨v, rfl⟩ : ∃ v, ws = [v] := by
      match ws, hl with
      | [v], _ => exact ⟨v, rfl⟩
    exact ⟨_, rfl, ⟨a0, C, [.str t], rfl, by simp, O, ha, v, rfl, .ref a0, rfl, a0, C, rfl, O, nC, .inl ⟨ha, fun dx h1 h2 => q dx h1 h2⟩⟩⟩
theorem init2_ok (O : OexC K C) (nC : PySem.W.findIn K (.ref C) a = some none) (nC2 : PySem.W.findIn K (.ref C) b = some none) (F : Fun K "__init__" qual st f fd) (S : FnScope ["self", a, b] ["self", a, b] (defScope st))
    (hb : ∀ (cdv : Value) (A : Around) (outer : List Env) (s : Shared) (H : Hp) (E : XK), Room 0 (A.deeper (envOfC qual (defScope st) s.heap.objs.size f cdv)) →
      PSs (cxOf (L2.CX P w) P w K mg base ["self", a, b] qual (defScope st) f cdv A outer s H E) (defBody st) (tSeq (tDrop (tVeI K (tCons (tVar 0) (tCons (tC (.str t)) tNil)))) (tSeq (tOst K a (tVar 0) (tVar 1)) (tOst K b (tVar 0) (tVar 2))))) :
    FnOk P w K mg base (L2.CX P w) 1 f fd ["self", a, b] (spInit C [a, b]) := by
  refine F.okX S (fun vs H Q E h => ?_) fun cdv A outer s H vs Q E hr h => ⟨_, hb cdv A outer s H E hr, ?_⟩
  · obtain ⟨a0, ws, rfl, hl, _⟩ := h
    simpa using hl
  · obtain ⟨a0, ws, rfl, hl, ha, q⟩ := h
    obtain ⟨v, v2, rfl⟩ : ∃ v v2, ws = [v, v2] := by
      match ws, hl with
      | [v, v2], _ => exact ⟨v, v2, rfl⟩
    refine ⟨_, rfl, ⟨a0, C, [.str t], rfl, by simp, O, ha, v, rfl, .ref a0, rfl, a0, C, rfl, O, nC, .inl ⟨ha, fun dx h1 h2 => ?_⟩⟩⟩
    refine ⟨v2, rfl, .ref a0, rfl, a0, C, rfl, O, nC2, .inr ⟨dx, [(a, v)], upd_same, by rw [upd_ne h2, upd_same], by simp, ?_⟩⟩
    have e : upd (upd (upd H dx (exd dx [(a, v)])) a0 (exo a0 C (some dx))) dx (exd dx [(b, v2), (a, v)]) = upd (upd H dx (exd dx [(b, v2), (a, v)])) a0 (exo a0 C (some dx)) := by
      funext c
      by_cases hc : c = dx
      · subst hc
        rw [upd_same, upd_ne h2, upd_same]
      · rw [upd_ne hc]
        by_cases hc2 : c = a0
        · subst hc2
          rw [upd_same, upd_same]
        · rw [upd_ne hc2, upd_ne hc2, upd_ne hc, upd_ne hc]
    show Q .non (upd (upd (upd H dx (exd dx [(a, v)])) a0 (exo a0 C (some dx))) dx (exd dx [(b, v2), (a, v)]))
    rw [e]
    exact q dx h1 h2
end

/-! ### a caught exception, asked -/
/-- what its class must say -/
structure XcC (K : PySem.W.Frag) (C : Addr) : Prop where
  hcl : (PySem.W.clsIn K C).isSome = true
  ga : PySem.W.findIn K (.ref C) "__getattribute__" = some (some (.builtin "BaseException.__getattribute__"))
  gg : PySem.W.findIn K (.ref C) "__getattr__" = some none
  sb : PySem.W.subIn K (.ref C) (.type "BaseException") = some true
  ac : PySem.W.findIn K (.ref C) "__class__" = some (some (.builtin "object.__class__"))
  gn : PySem.W.specialIn K (.builtin "object.__class__") "__get__" = some (some (.builtin "getset_descriptor.__get__"))
  tk : PySem.W.takesIn K (.builtin "object.__class__") = some true
  mr : PySem.W.mroIn K C (.type "object") = some true
  hd : PySem.W.hasDictIn K C = true
section
variable {X : Cx} {pins : List (Addr × Obj)} {σ : L2.St} {H : Hp} {s : Shared} {a C : Addr} {d : Option Addr}
/-- the dict of a tracked exception, if any, is tracked -/
def HasD (H : Hp) (d : Option Addr) : Prop := d = none ∨ ∃ dd fs, d = some dd ∧ H dd = some (.xd fs)
theorem exv_inst (I : Inv X pins σ H s) (e : H a = some (exv a C d)) (hd : HasD H d) : ∃ oe od, PySem.W.InstAt s.heap a oe C od ∧ ∀ dd fs, d = some dd → H dd = some (.xd fs) → ∃ (mA : Str → Option Value) (o2 : Obj), od = some o2 ∧ (∀ f, RelO (fs.lookup f) (mA f)) ∧ ∀ n, PySem.W.lookIn n o2 = some (mA n) := by
  obtain ⟨oe, vs, h1, h2, h3⟩ := exv_at I e
  rcases hd with rfl | ⟨dd, fs, rfl, h4⟩
  · refine ⟨oe, none, ⟨h1, h2.1, by unfold PySem.W.notCls; rw [h3], by rw [h2.2]; trivial⟩, fun dd fs z => by cases z⟩
  · have hx : ObjOk X.prog X.w H s.heap dd (.xd fs) := I.hok dd _ h4
    obtain ⟨mA, hns, hr⟩ := hx
    obtain ⟨o2, ho, hl⟩ := lookIn_ns hns
    refine ⟨oe, some o2, ⟨h1, h2.1, by unfold PySem.W.notCls; rw [h3], by rw [h2.2]; exact ho⟩, fun dd' fs' z z' => ?_⟩
    cases z
    rw [h4] at z'
    cases z'
    exact ⟨mA, o2, rfl, hr, hl⟩
theorem call_isx : CallR X (.builtin "isinstance") fun xs H Q => ∃ a C d c cv b, xs = [.ref a, c] ∧ H a = some (exv a C d) ∧ HasD H d ∧ ClsV c cv ∧ PySem.W.kitOne X.K (.ref C) cv = some b ∧ XcC X.K C ∧ Q (.bl b) H := by
  intro pins s σ H xs us Q I r h
  obtain ⟨a, C, d, c, cv, b, rfl, ha, hd, k, e, x, q⟩ := h
  obtain ⟨u1, u2, rfl, r1, r2⟩ := vals2 r
  have e2 := k.eq r2
  subst e2
  obtain rfl : u1 = Value.ref a := r1
  obtain ⟨oe, od, J, _⟩ := exv_inst I ha hd
  exact PySem.W.kia_one (PySem.W.kitx_exc x.hcl x.ga x.gg x.sb x.ac x.gn x.tk x.mr) I.kIn J e (fun z => nomatch z) fun tk => ⟨.bl b, H, I.tok tk, rfl, q⟩
end
/-- isinstance by a table of class names -/
def IsxOk (K : PySem.W.Frag) (tab : List (Str × Bool)) (cv : Value) : Prop := ∀ x b C, tab.lookup x = some b → NmC K x C → PySem.W.kitOne K (.ref C) cv = some b ∧ XcC K C
def gIsx (tab : List (Str × Bool)) : D → Option RV
  | .xv c _ => (tab.lookup c).map fun b => sh (.bool b)
  | _ => none
def gXf (cs : List Str) (f : Str) : D → Option RV
  | .xv c fs => if c ∈ cs then (fs.lookup f).map sh else none
  | _ => none
def XfOk (K : PySem.W.Frag) (cs : List Str) (f : Str) : Prop := ∀ c ∈ cs, ∀ C, NmC K c C → XcC K C ∧ PySem.W.findIn K (.ref C) f = some none
section
variable {X : Cx} {T : Tab} {W : WX} {a o : Expr} {fa : Sta → PR RV} {p p' pos : Pos} {x f : Str} {tab : List (Str × Bool)} {cs : List Str}
theorem Arg.xv {K : PySem.W.Frag} {m : List Addr} {M H : Hp} {y : V} {c : Str} {fs : List (Str × D)} (h : Arg K m M H y (.xv c fs)) (s : Same M H) :
    ∃ (a C : Addr) (d : Option Addr) (vs : List (Str × V)), y = .ref a ∧ NmC K c C ∧ H a = some (exv a C d) ∧ HasD H d ∧ DRf K m M vs fs ∧ (d = none → fs = []) ∧ ∀ dd, d = some dd → H dd = some (.xd vs) := by
  rcases h with h | ⟨a, o, rfl, h2, h3⟩
  · cases h with
    | xn h1 h2 => exact ⟨_, _, none, [], rfl, h1, s _ _ h2, .inl rfl, .nil, fun _ => rfl, fun _ z => by cases z⟩
    | xf h1 h2 h3 h4 => exact ⟨_, _, some _, _, rfl, h1, s _ _ h2, .inr ⟨_, _, rfl, s _ _ h3⟩, h4, (fun z => by cases z), fun _ z => by cases z; exact s _ _ h3⟩
  · cases h3
theorem ev_isx_of {c : V} {cv : Value} (k : ClsV c cv) (hc : PE X (.Name x p') (tC c)) (ok : IsxOk X.K tab cv) (ha : PEv X T W a fa) (hg : Gl X "isinstance") (hm : X.mg "isinstance" = Option.none)
    (he1 : starEach [.Name x p'] X.env = (false, eval (.Name x p') X.env) :: starEach [] X.env := by rfl)
    (he : starEach [a, .Name x p'] X.env = (false, eval a X.env) :: starEach [.Name x p'] X.env := by rfl) (hpl : (backTo pos (starEach [.Name x p'] X.env)).any (·.1) = false := by rfl) :
    PEv X T W (.Call (.Name "isinstance" p) [a, .Name x p'] [] pos) (p1 (gIsx tab) fa) := by
  refine PE.wk (pe_callB call_isx hg hm (by decide +kernel) (pa_cons ha (pa_cons hc pa_nil he1) he) (by decide) (by decide) he hpl) ?_
  rintro σ H Q ⟨s, m, M, G, R, q⟩
  refine ⟨s, m, M, G, R, ?_⟩
  revert q
  unfold p1 PR.bind
  cases fa s with
  | exc e => intro q; exact q
  | stuck => intro q; exact q
  | ok r =>
    intro q y H1 M1 g1 rr
    dsimp only at q
    obtain ⟨rk, rd⟩ := r
    cases rd <;> try (exact q.elim)
    rename_i cn fs
    cases hb : tab.lookup cn with
    | none => simp only [gIsx, hb, Option.map_none, PR.of] at q
    | some b =>
      simp only [gIsx, hb, Option.map_some, PR.of] at q
      obtain ⟨a0, C, d, vs, rfl, hn, h1, h2, _⟩ := rr.arg.xv g1.mh
      obtain ⟨h3, h4⟩ := ok _ _ _ hb hn
      exact ⟨a0, C, d, c, cv, b, rfl, h1, h2, k, h3, h4, q _ H1 M1 g1 (.bl b)⟩
theorem ev_isx {C : Addr} (hgx : Gl X x) (hmx : X.mg x = some (.ref C)) (ok : IsxOk X.K tab (.ref C)) (ha : PEv X T W a fa) (hg : Gl X "isinstance") (hm : X.mg "isinstance" = Option.none) (hdx : (x == ("__debug__" : Str)) = false := by decide)
    (he1 : starEach [.Name x p'] X.env = (false, eval (.Name x p') X.env) :: starEach [] X.env := by rfl)
    (he : starEach [a, .Name x p'] X.env = (false, eval a X.env) :: starEach [.Name x p'] X.env := by rfl) (hpl : (backTo pos (starEach [.Name x p'] X.env)).any (·.1) = false := by rfl) :
    PEv X T W (.Call (.Name "isinstance" p) [a, .Name x p'] [] pos) (p1 (gIsx tab) fa) := ev_isx_of (.own C) (pe_glob hgx hmx rfl hdx) ok ha hg hm he1 he hpl
theorem ev_isxB {n : String} (hgx : Gl X x) (hmx : X.mg x = Option.none) (hv : bootBuiltins x = some (.type n)) (ok : IsxOk X.K tab (.type n)) (ha : PEv X T W a fa) (hg : Gl X "isinstance") (hm : X.mg "isinstance" = Option.none) (hnx : x ≠ "__name__" := by decide) (hdx : (x == ("__debug__" : Str)) = false := by decide)
    (he1 : starEach [.Name x p'] X.env = (false, eval (.Name x p') X.env) :: starEach [] X.env := by rfl)
    (he : starEach [a, .Name x p'] X.env = (false, eval a X.env) :: starEach [.Name x p'] X.env := by rfl) (hpl : (backTo pos (starEach [.Name x p'] X.env)).any (·.1) = false := by rfl) :
    PEv X T W (.Call (.Name "isinstance" p) [a, .Name x p'] [] pos) (p1 (gIsx tab) fa) := ev_isx_of (.ty n) (pe_bltn (v := .ty n) hgx hmx hv rfl hnx hdx) ok ha hg hm he1 he hpl
/-- e.f of a caught exception -/
def tXv (K : PySem.W.Frag) (f : Str) (te : TE) : TE := fun σ H Q => te σ H fun x H1 => ∃ (a C dd : Addr) (vs : List (Str × V)) (v : V), x = .ref a ∧ H1 a = some (exv a C (some dd)) ∧ H1 dd = some (.xd vs) ∧ vs.lookup f = some v ∧ XcC K C ∧ PySem.W.findIn K (.ref C) f = some none ∧ Q v H1
theorem pe_xv {te : TE} (he : PE X o te) (hb : attributeBase o f X.env (eval o X.env) = eval o X.env) : PE X (.Attribute o f pos) (tXv X.K f te) := by
  constructor
  intro pins s σ H Q I h
  apply attr_of hb
  refine thn (he.run pins s σ H _ I h) ?_
  rintro u s1 ⟨x, H1, I1, rx, a, C, dd, vs, v, rfl, ea, ed, l, xc, no, q⟩
  obtain rfl : u = Value.ref a := rx
  obtain ⟨oe, od, J, hJ⟩ := exv_inst I1 ea (.inr ⟨dd, vs, rfl, ed⟩)
  obtain ⟨mA, o2, rfl, hr, hl⟩ := hJ dd vs rfl ed
  obtain ⟨u, hu, ru⟩ := RelO.some_of (v := v) (o := mA f) (by rw [← l]; exact hr f)
  exact HandSPX.exc_get I1.kIn J xc.ga xc.gg xc.sb (PySem.W.findObj_own xc.hd no rfl (by rw [hl, hu])) (handed_of ru) ⟨v, H1, I1.tok _, ru, q⟩
theorem DRf.look {K : PySem.W.Frag} {m : List Addr} {H : Hp} {f : Str} {d : D} : ∀ {vs : List (Str × V)} {fs : List (Str × D)}, DRf K m H vs fs → fs.lookup f = some d → ∃ v, vs.lookup f = some v ∧ DR K m H v d
  | _, _, .nil, e => by cases e
  | _, _, .cons (k := k) (v := v) r t, e => by
    by_cases h : f = k
    · subst h
      simp only [List.lookup_cons, BEq.rfl] at e ⊢
      cases e
      exact ⟨v, rfl, r⟩
    · have hb : (f == k) = false := beq_eq_false_iff_ne.mpr h
      simp only [List.lookup, hb] at e ⊢
      exact DRf.look t e
theorem ev_xf (ok : XfOk X.K cs f) (ho : PEv X T W o fa) (hb : attributeBase o f X.env (eval o X.env) = eval o X.env := by rfl) : PEv X T W (.Attribute o f pos) (p1 (gXf cs f) fa) := by
  refine PE.wk (pe_xv ho hb) ?_
  rintro σ H Q ⟨s, m, M, G, R, q⟩
  refine ⟨s, m, M, G, R, ?_⟩
  revert q
  unfold p1 PR.bind
  cases fa s with
  | exc e => intro q; exact q
  | stuck => intro q; exact q
  | ok r =>
    intro q y H1 M1 g1 rr
    dsimp only at q
    obtain ⟨rk, rd⟩ := r
    cases rd <;> try (exact q.elim)
    rename_i cn fs
    by_cases hc : cn ∈ cs
    · cases hb : fs.lookup f with
      | none => simp only [gXf, if_pos hc, hb, Option.map_none, PR.of] at q
      | some d =>
        simp only [gXf, if_pos hc, hb, Option.map_some, PR.of] at q
        obtain ⟨a0, C, dd, vs, rfl, hn, h1, h2, h3, h4, h5⟩ := rr.arg.xv g1.mh
        obtain ⟨h6, h7⟩ := ok _ hc _ hn
        cases dd with
        | none =>
          rw [h4 rfl] at hb
          cases hb
        | some dd =>
          obtain ⟨v, h8, h9⟩ := h3.look hb
          exact ⟨a0, C, dd, vs, v, rfl, h1, h5 _ rfl, h8, h6, h7, q v H1 M1 g1 h9⟩
    · simp only [gXf, if_neg hc, PR.of] at q
end

/-! ### list.count, list.index of flat items; ^ -/
section
variable {X : Cx}
def rCnt (K : PySem.W.Frag) : V → List V → Hp → VK → Prop := fun x xs H Q => ∃ (p : Addr) (ys : List V) (y : V), x = .ref p ∧ xs = [y] ∧ SqL K H p ys ∧ flatV y = true ∧ ys.all flatV = true ∧ Q (.int (ys.countP fun z => eqV z y : Nat)) H
theorem count_eqU {y : V} : ∀ {ys : List V} {us : List Value}, Vals ys us → ys.all flatV = true → us.countP (eqU y) = ys.countP fun z => eqV z y
  | _, _, .nil, _ => rfl
  | z :: ys, u :: us, .cons r t, f => by
    rw [List.all_cons, Bool.and_eq_true] at f
    rw [List.countP_cons, List.countP_cons, count_eqU t f.2, eqU_of r f.1]
theorem mt_cnt : MtR X "list.count" (rCnt X.K) := by
  intro pins s σ H x xs v us Q I rx rxs h
  obtain ⟨p, ys, y, rfl, rfl, hs, fy, fys, q⟩ := h
  cases rx
  obtain ⟨u, rfl, ru⟩ := rxs.one
  obtain ⟨its, rv, ⟨⟨cls, dd, data, sl⟩, n, ho, hc, hdn, hd⟩, hlen⟩ := I.list hs
  simp only at hc hd
  subst hc hd
  refine call_meets PySem.F.slot_list_count ⟨_, ho, rfl⟩ PySem.F.entry_list_count (PySem.F.args_list_count_2 _ _)
    (SeqAt.list_countAt p its.toArray n dd sl u (eqU y)) ⟨ho, fun w hw => mem_eqAt ru fy rv fys w (by simpa using hw), ?_⟩
  have ec : its.toArray.toList.countP (eqU y) = ys.countP fun z => eqV z y := count_eqU rv fys
  refine ⟨.int (ys.countP fun z => eqV z y : Nat), H, I.tok _, ⟨s.toks, ?_⟩, q⟩
  show Value.int ((its.toArray.toList.countP (eqU y) : Nat) : Int) s.toks = _
  rw [ec]
end
/-- a method of a list, one argument, that changes nothing -/
def pMt (g : List D → D → Option RV) (fo fe : Sta → PR RV) : Sta → PR RV := fun s => (fo s).bind fun r => match lstOf r.d with
  | some ds => (fe s).bind fun y => PR.of (g ds y.d)
  | none => .stuck
def gCount (ds : List D) (y : D) : Option RV := if ds.all flatD = true ∧ flatD y = true then some (sh (.int (ds.countP fun z => eqF z y : Nat))) else none
def gIndex (ds : List D) (y : D) : Option RV := if ds.all flatD = true ∧ flatD y = true then (ds.findIdx? fun z => eqF z y).map fun j => sh (.int (j : Nat)) else none
section
variable {X : Cx} {T : Tab} {W : WX} {o e : Expr} {fo fe : Sta → PR RV} {apos cpos : Pos}
theorem lstOf_ok {K : PySem.W.Frag} {m : List Addr} {M H : Hp} {y : V} {d : D} {ds : List D} (h : Arg K m M H y d) (e : lstOf d = some ds) (s : Same M H) : ∃ a xs, y = .ref a ∧ SqL K H a xs ∧ DRs K m M xs ds := by
  cases d <;> try (cases e; done)
  · cases e
    obtain ⟨a, xs, h1, h2, h3⟩ := h.list s
    exact ⟨a, xs, h1, SqL.of h2, h3⟩
  · cases e
    obtain ⟨a, xs, h1, h2, h3⟩ := h.lk s
    exact ⟨a, xs, h1, h2, h3⟩
theorem count_eqF {K : PySem.W.Frag} {m : List Addr} {H : Hp} {x : V} {d : D} (h : DR K m H x d) (f : flatD d = true) : ∀ {vs : List V} {ds : List D}, DRs K m H vs ds → ds.all flatD = true → (vs.countP fun y => eqV y x) = ds.countP fun z => eqF z d
  | _, _, .nil, _ => rfl
  | _, _, .cons r t, g => by
    rw [List.all_cons, Bool.and_eq_true] at g
    rw [List.countP_cons, List.countP_cons, count_eqF h f t g.2, eqV_eqF r h g.1 f]
theorem Same.seqL {K : PySem.W.Frag} {H H' : Hp} {a : Addr} {xs : List V} (e : Same H H') (h : SqL K H a xs) : SqL K H' a xs := e.seq h
/-- the rule's promise by content -/
def MtOk (K : PySem.W.Frag) (r : V → List V → Hp → VK → Prop) (g : List D → D → Option RV) : Prop := ∀ m M H a xs y ds d res Q, Same M H → SqL K H a xs → DRs K m M xs ds → Arg K m M H y d → g ds d = some res →
  (∀ z H' M', Grow H M H' M' → RR K m M' H H' z res → Q z H') → r (.ref a) [y] H Q
theorem mt_of {r : V → List V → Hp → VK → Prop} {g : List D → D → Option RV} (hg : MtOk X.K r g) {σ : L2.St} {H : Hp} {Q : VK} (h : tP X T W (pMt g fo fe) σ H Q) : tBM X.K "list" r (tP X T W fo) (tCons (tP X T W fe) tNil) σ H Q := by
  obtain ⟨s, m, M, G, R, q⟩ := h
  refine ⟨s, m, M, G, R, ?_⟩
  revert q
  unfold pMt PR.bind
  cases fo s with
  | exc e => intro q; exact q
  | stuck => intro q; exact q
  | ok r1 =>
    intro q y H1 M1 g1 rr1
    dsimp only at q
    cases hl : lstOf r1.d with
    | none => simp only [hl] at q
    | some ds =>
      simp only [hl] at q
      obtain ⟨a, xs, rfl, h2, h3⟩ := lstOf_ok rr1.arg hl g1.mh
      refine ⟨.inl ⟨rfl, xs, h2⟩, s, m, M1, G, R.grow g1, ?_⟩
      cases hf : fe s with
      | exc e => rw [hf] at q; exact fun cls d H' M' g xr => q cls d H' M' (g1.trans g) xr
      | stuck => rw [hf] at q; exact q
      | ok r2 =>
        simp only [hf] at q
        intro y2 H2 M2 g2 rr2
        cases hr : g ds r2.d with
        | none => simp only [hr, PR.of] at q
        | some res =>
          simp only [hr, PR.of] at q
          exact hg m M2 H2 a xs y2 ds _ res Q g2.mh (g2.same.seq h2) (h3.up g2.mm) rr2.arg hr fun z H' M' g3 rr3 => q z H' M' ((g1.trans g2).trans g3) (rr3.since (g1.trans g2).same)
theorem ok_count : MtOk X.K (rCnt X.K) gCount := by
  intro m M H a xs y ds d res Q s h1 h2 h3 e k
  unfold gCount at e
  by_cases hc : ds.all flatD = true ∧ flatD d = true
  · rw [if_pos hc] at e
    cases e
    have hd : DR X.K m H y d := h3.dr s
    have hx := h2.up s
    refine ⟨a, xs, y, rfl, rfl, h1, hd.flat hc.2, hx.flat hc.1, ?_⟩
    rw [count_eqF hd hc.2 hx hc.1]
    exact k _ H M (Grow.refl s) (.int _)
  · rw [if_neg hc] at e
    cases e
theorem ok_index : MtOk X.K (rIndex X.K) gIndex := by
  intro m M H a xs y ds d res Q s h1 h2 h3 e k
  unfold gIndex at e
  by_cases hc : ds.all flatD = true ∧ flatD d = true
  · rw [if_pos hc] at e
    cases hj : ds.findIdx? fun z => eqF z d with
    | none => rw [hj] at e; cases e
    | some j =>
      rw [hj] at e
      cases e
      have hd : DR X.K m H y d := h3.dr s
      have hx := h2.up s
      obtain ⟨hjl, hjt, hjm⟩ := List.findIdx?_eq_some_iff_getElem.mp hj
      obtain ⟨z, hz1, hz2⟩ := hx.get (List.getElem?_eq_getElem hjl)
      have fl : ∀ {i : Nat} {w : D}, ds[i]? = some w → flatD w = true := fun h => List.all_eq_true.mp hc.1 _ (List.mem_of_getElem? h)
      refine ⟨a, xs, y, j, z, rfl, rfl, h1, hd.flat hc.2, hx.flat hc.1, hz1, ?_, fun i z' hi hz' => ?_, k _ H M (Grow.refl s) (.int _)⟩
      · rw [eqV_eqF hz2 hd (fl (List.getElem?_eq_getElem hjl)) hc.2]
        exact hjt
      · obtain ⟨w, hw1, hw2⟩ := hx.get' hz'
        rw [eqV_eqF hw2 hd (fl hw1) hc.2]
        have hil : i < ds.length := (List.getElem?_eq_some_iff.mp hw1).1
        have e1 : ds[i] = w := (List.getElem?_eq_some_iff.mp hw1).2
        have := hjm i hi
        rw [e1] at this
        simpa using this
  · rw [if_neg hc] at e
    cases e
theorem ev_count (ho : PEv X T W o fo) (he : PEv X T W e fe)
    (hbase : attributeBase o "count" X.env (eval o X.env) = eval o X.env := by rfl)
    (hfew : ((backTo cpos (starEach [e] X.env)).all (fun x => !x.1) && (backToKw cpos (keywordEach [] X.env)).all (fun x => x.1.isSome)
      && decide ([e].length + ([] : List Keyword).length + (if ([] : List Keyword).isEmpty then 0 else 1) < 30)) = true := by rfl)
    (hline : (apos.endLine == cpos.line) = true := by rfl) (hs : starEach [e] X.env = (false, eval e X.env) :: starEach [] X.env := by rfl) (hplain : (backTo cpos (starEach [] X.env)).any (·.1) = false := by rfl) :
    PEv X T W (.Call (.Attribute o "count" apos) [e] [] cpos) (pMt gCount fo fe) :=
  PE.wk (pe_bm PySem.F.plainAttrs_list PySem.F.slot_list_count PySem.F.type_list_count mt_cnt ho (pa_cons he pa_nil hs) hbase hfew hline hs hplain) fun σ H Q h => mt_of ok_count h
theorem ev_index (ho : PEv X T W o fo) (he : PEv X T W e fe)
    (hbase : attributeBase o "index" X.env (eval o X.env) = eval o X.env := by rfl)
    (hfew : ((backTo cpos (starEach [e] X.env)).all (fun x => !x.1) && (backToKw cpos (keywordEach [] X.env)).all (fun x => x.1.isSome)
      && decide ([e].length + ([] : List Keyword).length + (if ([] : List Keyword).isEmpty then 0 else 1) < 30)) = true := by rfl)
    (hline : (apos.endLine == cpos.line) = true := by rfl) (hs : starEach [e] X.env = (false, eval e X.env) :: starEach [] X.env := by rfl) (hplain : (backTo cpos (starEach [] X.env)).any (·.1) = false := by rfl) :
    PEv X T W (.Call (.Attribute o "index" apos) [e] [] cpos) (pMt gIndex fo fe) :=
  PE.wk (pe_bm PySem.F.plainAttrs_list PySem.F.slot_list_index PySem.F.type_list_index mt_index ho (pa_cons he pa_nil hs) hbase hfew hline hs hplain) fun σ H Q h => mt_of ok_index h
def gXor : D → D → Option RV := gI0 fun i j => .int (Builtin.bitXor i j)
theorem ok_xor : Op2Ok X (binaryOp .BitXor) gXor := ok_I0 op_xor fun _ _ _ _ => .int _
end
/-! ### as equations -/
section
variable {env : List Slot} {st : List Ob}
def xMt (g : List D → D → Option RV) (fe : Sta → PR RV) (s : Sta) : PR RV → PR RV
  | .ok ⟨_, .list ds⟩ => x1 (g ds) (fe s)
  | .ok ⟨_, .lk ds⟩ => x1 (g ds) (fe s)
  | .ok _ => .stuck
  | .exc e => .exc e
  | .stuck => .stuck
theorem e_pMt (g : List D → D → Option RV) (fo fe : Sta → PR RV) : pMt g fo fe ⟨env, st⟩ = xMt g fe ⟨env, st⟩ (fo ⟨env, st⟩) := by
  unfold pMt PR.bind xMt
  rcases fo ⟨env, st⟩ with ⟨k, d⟩ | e | _ <;> try rfl
  cases d <;> try rfl
  · simp only [lstOf]
    unfold x1
    cases fe ⟨env, st⟩ <;> rfl
  · simp only [lstOf]
    unfold x1
    cases fe ⟨env, st⟩ <;> rfl
theorem e_xMtL (g : List D → D → Option RV) (fe : Sta → PR RV) (s : Sta) (k : RK) (ds : List D) : xMt g fe s (.ok ⟨k, .list ds⟩) = x1 (g ds) (fe s) := Eq.trans rfl rfl
theorem e_xMtK (g : List D → D → Option RV) (fe : Sta → PR RV) (s : Sta) (k : RK) (ds : List D) : xMt g fe s (.ok ⟨k, .lk ds⟩) = x1 (g ds) (fe s) := Eq.trans rfl rfl
theorem g_xor (i j : Int) : gXor (.int i) (.int j) = some ⟨.sh, .int (Builtin.bitXor i j)⟩ := Eq.trans rfl rfl
def xRa (x : Str) (fs : List Str) (s : Sta) : PR (List D) → Fl
  | .ok ds => if ds.length = fs.length then .exc ⟨x, (fs.zip ds).reverse⟩ s else .stuck
  | .exc e => .exc e s
  | .stuck => .stuck
theorem s_Raise (x : Str) (fs : List Str) (f : Sta → PR (List D)) : sRaise x fs f ⟨env, st⟩ = xRa x fs ⟨env, st⟩ (f ⟨env, st⟩) := by
  unfold sRaise xRa
  cases f ⟨env, st⟩ <;> rfl
theorem s_xRa1 (x a : Str) (s : Sta) (d : D) : xRa x [a] s (.ok [d]) = .exc ⟨x, [(a, d)]⟩ s := Eq.trans rfl rfl
theorem s_xRa2 (x a b : Str) (s : Sta) (d d' : D) : xRa x [a, b] s (.ok [d, d']) = .exc ⟨x, [(b, d'), (a, d)]⟩ s := Eq.trans rfl rfl
theorem s_RaiseN (x : Str) : sRaiseN x ⟨env, st⟩ = .exc ⟨x, []⟩ ⟨env, st⟩ := Eq.trans rfl rfl
def xTV (ct : Str → Option Bool) (i j : Nat) : Fl → Fl
  | .exc e s' => match ct e.cls with
    | some true => match s'.env[i]? with
      | some _ => .nx { s' with env := (s'.env.set j (.v (.xv e.cls e.fs))).set i .un }
      | none => .stuck
    | some false => .exc e s'
    | none => .stuck
  | fl => fl
theorem s_TryV (ct : Str → Option Bool) (i j : Nat) (g : Sta → Fl) : sTryV ct i j g ⟨env, st⟩ = xTV ct i j (g ⟨env, st⟩) := by
  unfold sTryV xTV
  cases g ⟨env, st⟩ <;> rfl
theorem s_xTVn (ct : Str → Option Bool) (i j : Nat) (s : Sta) : xTV ct i j (.nx s) = .nx s := Eq.trans rfl rfl
theorem s_xTVr (ct : Str → Option Bool) (i j : Nat) (r : Slot) (s : Sta) : xTV ct i j (.ret r s) = .ret r s := Eq.trans rfl rfl
theorem s_xTVe {ct : Str → Option Bool} {i j : Nat} {c : Str} {fs : List (Str × D)} (h : ct c = some true) (hi : i < env.length) : xTV ct i j (.exc ⟨c, fs⟩ ⟨env, st⟩) = .nx ⟨(env.set j (.v (.xv c fs))).set i .un, st⟩ := by
  unfold xTV
  simp only [h, List.getElem?_eq_getElem hi]
end

/-! ### as a law's text takes them -/
def CatX (K : PySem.W.Frag) (mg : Str → Option Value) (x : Str) (ct : Str → Option Bool) : Prop := ∃ C, mg x = some (.ref C) ∧ CatchOk K ct (.ref C)
def IsX (K : PySem.W.Frag) (mg : Str → Option Value) (x : Str) (tab : List (Str × Bool)) : Prop := ∃ C, mg x = some (.ref C) ∧ IsxOk K tab (.ref C)
section
variable {K : PySem.W.Frag} {c cv : Value} {x f : Str} {C : Addr} {b : Bool} {l : List (Str × Bool)} {cs : List Str}
theorem lookup_cases {α : Type} {x y : Str} {b b' : α} {l : List (Str × α)} (h : List.lookup y ((x, b) :: l) = some b') : (y = x ∧ b = b') ∨ l.lookup y = some b' := by
  by_cases e : y = x
  · subst e
    simp only [List.lookup_cons, BEq.rfl] at h
    exact .inl ⟨rfl, Option.some.inj h⟩
  · have q : (y == x) = false := beq_eq_false_iff_ne.mpr e
    simp only [List.lookup, q] at h
    exact .inr h
theorem catch_nil : CatchOk K (fun y => List.lookup y []) c := fun _ _ _ h => by cases h
theorem catch_cons (h : NmC K x C) (e : PySem.W.exmOne K (.ref C) c = some b) (r : CatchOk K (fun y => List.lookup y l) c) : CatchOk K (fun y => List.lookup y ((x, b) :: l)) c := fun y b' C' h1 h2 => by
  rcases lookup_cases h1 with ⟨rfl, rfl⟩ | h3
  · rw [← h.eq h2]
    exact e
  · exact r _ _ _ h3 h2
theorem isx_nil : IsxOk K [] cv := fun _ _ _ h => by cases h
theorem isx_cons (h : NmC K x C) (e : PySem.W.kitOne K (.ref C) cv = some b) (o : XcC K C) (r : IsxOk K l cv) : IsxOk K ((x, b) :: l) cv := fun y b' C' h1 h2 => by
  rcases lookup_cases h1 with ⟨rfl, rfl⟩ | h3
  · rw [← h.eq h2]
    exact ⟨e, o⟩
  · exact r _ _ _ h3 h2
theorem xf_nil : XfOk K [] f := fun _ h => by cases h
theorem xf_cons (h : NmC K x C) (o : XcC K C) (e : PySem.W.findIn K (.ref C) f = some none) (r : XfOk K cs f) : XfOk K (x :: cs) f := fun y h1 C' h2 => by
  rcases List.mem_cons.mp h1 with rfl | h3
  · rw [← h.eq h2]
    exact ⟨o, e⟩
  · exact r _ h3 _ h2
end
section
variable {X : Cx} {T : Tab} {W : WX} {al : Bool} {x n y : Str} {i j : Nat} {body : List Stmt} {np pos pos' p1 p2 p3 p p' : Pos} {g : Sta → Fl} {ct : Str → Option Bool} {tab : List (Str × Bool)} {a : Expr} {fa : Sta → PR RV}
theorem s_tryC (E : CatX X.K X.mg x ct) (hg : Gl X x) (hs : X.stack = X.env :: X.outer) (hf : X.env.frame = some X.env.locals) (hx : X.ex = []) (hN : X.N.Nodup)
    (hi : X.N[i]? = some n) (hln : X.env.kindOf n = some .local) (hj : X.N[j]? = some y) (hlj : Loc X.env.scope y) (hij : i ≠ j) (tk : Takes X W)
    (hb : ∀ W' pn xe, Takes (X.tr pn xe) W' → PassesOwn (model X.prog X.w) X.A X.env xe → SEv (X.tr pn xe) T W' al body g) (hdb : (x == ("__debug__" : Str)) = false := by decide)
    (hd : (n == ("__debug__" : Str)) = false := by decide) (hcd : (n == ("__classdict__" : Str)) = false := by decide)
    (hs3 : swapsWith (.Name n p2) (some (.Name y p1)) p3.line X.env = pure false := by rfl)
    (hfj : X.fn y = true ∨ X.env.scope.names.lookup y = some .local := by first | exact .inl rfl | exact .inr rfl | assumption) :
    SE1 X T W al (.Try body [.ExceptHandler (some (.Name x np)) (some n) [.Assign [.Name y p1] (.Name n p2) p3] pos'] [] [] pos) (sTryV ct i j g) := by
  obtain ⟨C, hm, ok⟩ := E
  exact s_tryV hs hf hx hN hi hln hj hlj hij ⟨hg, hdb, .inl hm⟩ ok tk hb hd hcd hs3 hfj
theorem ev_isxO (E : IsX X.K X.mg x tab) (hgx : Gl X x) (ha : PEv X T W a fa) (hg : Gl X "isinstance") (hm : X.mg "isinstance" = Option.none) (hdx : (x == ("__debug__" : Str)) = false := by decide)
    (he1 : starEach [.Name x p'] X.env = (false, eval (.Name x p') X.env) :: starEach [] X.env := by rfl)
    (he : starEach [a, .Name x p'] X.env = (false, eval a X.env) :: starEach [.Name x p'] X.env := by rfl) (hpl : (backTo pos (starEach [.Name x p'] X.env)).any (·.1) = false := by rfl) :
    PEv X T W (.Call (.Name "isinstance" p) [a, .Name x p'] [] pos) (MP.p1 (gIsx tab) fa) := by
  obtain ⟨C, hmx, ok⟩ := E
  exact ev_isx hgx hmx ok ha hg hm hdx he1 he hpl
end
/-! ### an exception goes on -/
section
variable {env : List Slot} {st : List Ob}
theorem e_xDe (e : Ex) : xD (.exc e) = .exc e := Eq.trans rfl rfl
theorem e_x1e (g : D → Option RV) (e : Ex) : x1 g (.exc e) = .exc e := Eq.trans rfl rfl
theorem e_x2e (g : D → D → Option RV) (e : Ex) (r : PR RV) : x2 g (.exc e) r = .exc e := Eq.trans rfl rfl
theorem e_xBe (e : Ex) : xB (.exc e) = .exc e := Eq.trans rfl rfl
theorem s_xExe (e : Ex) (s : Sta) : xEx s (.exc e) = .exc e s := Eq.trans rfl rfl
theorem s_xSVe (i : Nat) (e : Ex) : xSV i env st (.exc e) = .exc e ⟨env, st⟩ := Eq.trans rfl rfl
theorem s_xSOe (i : Nat) (e : Ex) : xSO i env st (.exc e) = .exc e ⟨env, st⟩ := Eq.trans rfl rfl
theorem s_xRte (e : Ex) (s : Sta) : xRt s (.exc e) = .exc e s := Eq.trans rfl rfl
theorem s_xIfe (g1 g2 : Sta → Fl) (s : Sta) (e : Ex) : xIf g1 g2 s (.exc e) = .exc e s := Eq.trans rfl rfl
theorem s_xTue (t : Tg) (e : Ex) : xTu t env st (.exc e) = .exc e ⟨env, st⟩ := Eq.trans rfl rfl
theorem s_xThe (i : Nat) (e : Ex) (s : Sta) : xTh i (.exc e s) = .exc e s := Eq.trans rfl rfl
theorem s_xEFe (e : Ex) (s : Sta) : xEF (.exc e s) = .exc e s := Eq.trans rfl rfl
theorem s_xSFe (i : Nat) (e : Ex) (s : Sta) : xSF i (.exc e s) = .exc e s := Eq.trans rfl rfl
theorem s_xRFe (e : Ex) (s : Sta) : xRF (.exc e s) = .exc e s := Eq.trans rfl rfl
theorem fe_exc (e : Ex) (st' : List Ob) : (Fr.exc e st').fe ⟨env, st⟩ = .exc e ⟨env, st'⟩ := Eq.trans rfl rfl
theorem t_exc (I : Sta → Prop) (P : Fl → Prop) (e : Ex) (s : Sta) : Turn I P (.exc e s) = P (.exc e s) := Eq.trans rfl rfl
end
theorem n_xv (c : Str) (fs : List (Str × D)) : D.isNone (.xv c fs) = false := Eq.trans rfl rfl
theorem isx_eq {tab : List (Str × Bool)} {c : Str} {b : Bool} {fs : List (Str × D)} (h : tab.lookup c = some b) : gIsx tab (.xv c fs) = some ⟨.sh, .bool b⟩ := by
  simp only [gIsx, h, Option.map_some]
theorem xf_eq {cs : List Str} {f c : Str} {d : D} {fs : List (Str × D)} (h : c ∈ cs) (h2 : fs.lookup f = some d) : gXf cs f (.xv c fs) = some ⟨.sh, d⟩ := by
  simp only [gXf, if_pos h, h2, Option.map_some]
theorem xf_look0 (f : Str) (d : D) (fs : List (Str × D)) : List.lookup f ((f, d) :: fs) = some d := by
  simp only [List.lookup_cons, BEq.rfl]
theorem xf_look1 {f g : Str} (h : (f == g) = false) (d d' : D) (fs : List (Str × D)) : List.lookup f ((g, d') :: (f, d) :: fs) = some d := by
  simp only [List.lookup, h, BEq.rfl]
end MP

/-! MP 12: texts: times, comparisons, walked sign by sign; membership in a range; the number of a tuple's unlike numbers. -/
namespace MP
open PySem PySem.Spec PyProof.Rows L2
/-! ### text * int -/
def repS (x : Str) (n : Nat) : Str := ⟨(List.replicate n x.cps.toList).flatten.toArray⟩
theorem rep_fold (c : Array Nat) : ∀ (k : Nat) (acc : Array Nat), ((List.replicate k c).foldl (· ++ ·) acc).toList = acc.toList ++ (List.replicate k c.toList).flatten
  | 0, acc => by simp
  | k + 1, acc => by
    rw [List.replicate_succ, List.foldl_cons, rep_fold c k, List.replicate_succ, List.flatten_cons]
    simp
theorem repS_eq (x : Str) (n : Nat) : (⟨(List.replicate n x.cps).foldl (· ++ ·) #[]⟩ : Str) = repS x n := by
  refine Str.ext' (Array.toList_inj.mp ?_)
  show ((List.replicate n x.cps).foldl (· ++ ·) #[]).toList = (List.replicate n x.cps.toList).flatten.toArray.toList
  rw [rep_fold]
  simp
theorem repS_0 (x : Str) : repS x 0 = Str.empty := Str.ext' rfl
theorem repS_1 (x : Str) : repS x 1 = x := by
  refine Str.ext' (Array.toList_inj.mp ?_)
  show (List.replicate 1 x.cps.toList).flatten.toArray.toList = _
  simp [List.replicate_succ]
theorem repS_no {x : Str} (h : x.length = 0) (n : Nat) : repS x n = x := by
  have e : x.cps = #[] := Array.eq_empty_of_size_eq_zero h
  refine Str.ext' (Array.toList_inj.mp ?_)
  show (List.replicate n x.cps.toList).flatten.toArray.toList = x.cps.toList
  rw [e]
  simp
section
variable {X : Cx} {T : Tab} {W : WX} {a b c e o tg iter : Expr} {es : List Expr} {pos p p2 q : Pos} {fa fb fc : Sta → PR RV}
theorem op_repS : OpR X (binaryOp .Mult) (fun x y H Q => ∃ (z : Str) (n : Int), x = .str z ∧ y = .int n ∧ n < 16777216 ∧ -16777216 < n ∧ z.length * n.toNat ≤ 16777216 ∧ Q (.str (repS z n.toNat)) H) := by
  intro pins s σ H x y v u Q I rx ry h
  obtain ⟨z, n, rfl, rfl, h1, h2, h3, q⟩ := h
  obtain ⟨t, rfl⟩ := rx
  obtain ⟨t', rfl⟩ := ry
  refine PySem.P.mul_str (by rw [decide_eq_false (by omega), decide_eq_false (by omega)]; rfl) (fun c1 c2 => ?_) (fun c1 c2 => ?_) ?_
  · have hn : 1 ≤ n := by omega
    have hz : z.length ≤ 16777216 := by
      have : z.length * 1 ≤ z.length * n.toNat := Nat.mul_le_mul_left _ (by omega)
      omega
    have k1 : (2 ^ 63 - 1) / n ≥ 16777216 := by
      refine (Int.le_ediv_iff_mul_le (by omega)).mpr ?_
      have : (16777216 : Int) * n ≤ 16777216 * 16777216 := Int.mul_le_mul_of_nonneg_left (by omega) (by omega)
      omega
    omega
  · unfold Builtin.Str.tooLong
    rw [sizeLine_eq]
    exact decide_eq_false (by omega)
  · by_cases c1 : n < 1
    · rw [if_pos c1]
      rw [show n.toNat = 0 by omega, repS_0] at q
      exact ⟨Nat.zero_le _, .str Str.empty, H, I.tok _, ⟨_, rfl⟩, q⟩
    · rw [if_neg c1]
      by_cases c2 : (n == 1 || z.length == 0) = true
      · rw [if_pos c2]
        refine ⟨.str z, H, I, ⟨_, rfl⟩, ?_⟩
        rcases (Bool.or_eq_true _ _).mp c2 with c3 | c3
        · rw [show n.toNat = 1 by have := beq_iff_eq.mp c3; omega, repS_1] at q
          exact q
        · rw [repS_no (beq_iff_eq.mp c3)] at q
          exact q
      · rw [if_neg c2]
        rw [repS_eq]
        refine ⟨?_, .str (repS z n.toNat), H, I.tok _, ⟨_, rfl⟩, q⟩
        have e : (repS z n.toNat).length = n.toNat * z.length := by
          show (List.replicate n.toNat z.cps.toList).flatten.toArray.size = _
          rw [List.size_toArray, PyProof.Rows.lm_len_rep_flat, Array.length_toList]
          rfl
        rw [e, Nat.mul_comm, sizeLine_eq]
        omega
def gRepS : D → D → Option RV
  | .str z, .int n => if n < 16777216 ∧ -16777216 < n ∧ z.length * n.toNat ≤ 16777216 then some (sh (.str (repS z n.toNat))) else none
  | _, _ => none
theorem ok_repS : Op2Ok X (binaryOp .Mult) gRepS := by
  refine ⟨_, op_repS, fun m M H x y d1 d2 res Q s a1 a2 e k => ?_⟩
  cases d1 <;> try (cases e; done)
  cases d2 <;> try (cases e; done)
  rename_i z n
  dsimp only [gRepS] at e
  by_cases hl : n < 16777216 ∧ -16777216 < n ∧ z.length * n.toNat ≤ 16777216
  · rw [if_pos hl] at e
    cases e
    exact ⟨z, n, a1.str, a2.int, hl.1, hl.2.1, hl.2.2, k _ H M (Grow.refl s) (.str _)⟩
  · rw [if_neg hl] at e
    cases e
theorem g_repS {z : Str} {n : Int} (h : n < 16777216 ∧ -16777216 < n ∧ z.length * n.toNat ≤ 16777216) : gRepS (.str z) (.int n) = some ⟨.sh, .str (repS z n.toNat)⟩ := if_pos h
/-! ### text <= text -/
def gLeS : D → D → Option RV
  | .str z, .str w => some (sh (.bool (!decide (w.cps.toList < z.cps.toList))))
  | _, _ => none
theorem ok_leS : Op2Ok X (compareOp .LtE) gLeS := by
  refine ⟨_, op_le_str, fun m M H x y d1 d2 res Q s a1 a2 e k => ?_⟩
  cases d1 <;> try (cases e; done)
  cases d2 <;> try (cases e; done)
  rename_i z w
  cases e
  exact ⟨z, w, a1.str, a2.str, k _ H M (Grow.refl s) (.bl _)⟩
theorem g_leS (z w : Str) : gLeS (.str z) (.str w) = some ⟨.sh, .bool (!decide (w.cps.toList < z.cps.toList))⟩ := Eq.trans rfl rfl
/-! ### a text, sign by sign -/
def signs (x : Str) : List D := x.cps.toList.map fun c => D.str ⟨#[c]⟩
def signsOf : D → Option (List D)
  | .str x => some (signs x)
  | _ => none
theorem its_ok {K : PySem.W.Frag} {m : List Addr} {x : Str} {M0 B : Hp} : ItOk K m (Its x) (signs x) M0 B := by
  intro i M H s1 s2 s3
  have hl : (signs x).length = x.cps.size := by unfold signs; simp
  refine ⟨fun d e => ?_, fun hk => by rw [hl] at hk; exact hk⟩
  have hk : i < x.cps.size := by rw [← hl]; exact (List.getElem?_eq_some_iff.mp e).1
  refine ⟨hk, fun y H' z => ?_⟩
  obtain ⟨rfl, c, hc, rfl⟩ := z
  have : d = .str ⟨#[c]⟩ := by
    unfold signs at e
    rw [List.getElem?_map, Array.getElem?_toList, hc] at e
    exact (Option.some.inj e).symm
  subst this
  exact ⟨M, Grow.refl s2, .str _⟩
def pStr (f : Sta → PR RV) : Sta → PR (List D) := fun s => (f s).bind fun r => .of (signsOf r.d)
theorem iv_str (h : PEv X T W iter fa) : PIv X T W tg iter (pStr fa) := by
  refine PI.wk (pi_str h) ?_
  rintro σ H R ⟨s, m, M, G, Rl, q⟩
  refine ⟨s, m, M, G, Rl, ?_⟩
  revert q
  unfold pStr PR.bind
  cases fa s with
  | ok r =>
    intro q y H' M' g rr
    dsimp only at q
    cases hs : signsOf r.d with
    | none => simp only [hs, PR.of] at q
    | some ds =>
      simp only [hs, PR.of] at q
      obtain ⟨k, d⟩ := r
      cases d <;> try (cases hs; done)
      rename_i x
      cases hs
      exact ⟨x, rr.arg.str, q _ H' M' g its_ok⟩
  | exc e => intro q; exact q
  | stuck => intro q; exact q
/-! ### in range(i, j) -/
theorem op_nin_rng : OpR X (compareOp .NotIn) (fun x y H Q => ∃ i a lo hi, x = V.int i ∧ y = V.ref a ∧ H a = some (.rng lo hi) ∧ Q (.bl (!decide (lo ≤ i ∧ i < hi))) H) := by
  intro pins s σ H x y v u Q I rx ry h
  obtain ⟨i, a, lo, hi, rfl, rfl, ha, q⟩ := h
  obtain ⟨k, rfl⟩ := rx
  obtain rfl : u = Value.ref a := ry
  obtain ⟨t1, t2, t3, ho⟩ := I.hok a _ ha
  show wpAny _ _ (do return Value.bool (!(← contains (Value.ref a) (Value.int i k)))) _ _ s
  refine wpAny_bind (wpAny_contains_slot (T := "range") ⟨_, ho, rfl⟩ F.slot_range_contains (call_meets F.slot_range_contains ⟨_, ho, rfl⟩ F.entry_range_contains (F.args_range_contains_2 _ _) (q_contains a lo hi i t1 t2 t3 k)
    ⟨ho, wpAny_truthy_bool (wpAny_pure ⟨.bl _, H, I, rfl, ?_⟩)⟩))
  rw [place1]
  exact q
def gInR (neg : Bool) : D → List D → Option RV
  | .int i, [.int lo, .int hi] => some (sh (.bool (neg != decide (lo ≤ i ∧ i < hi))))
  | _, _ => none
theorem gInR_inv {neg : Bool} {d : D} {ds : List D} {res : RV} (h : gInR neg d ds = some res) : ∃ i lo hi, d = .int i ∧ ds = [.int lo, .int hi] ∧ res = sh (.bool (neg != decide (lo ≤ i ∧ i < hi))) := by
  unfold gInR at h
  split at h
  · rename_i i lo hi
    exact ⟨i, lo, hi, rfl, rfl, (Option.some.inj h).symm⟩
  · cases h
def pInR (neg : Bool) (fa : Sta → PR RV) (fs : Sta → PR (List RV)) : Sta → PR RV := fun s => (fa s).bind fun r => (fs s).bind fun rs => PR.of (gInR neg r.d (rs.map RV.d))
theorem two_ints {K : PySem.W.Frag} {m : List Addr} {M H0 H : Hp} {ys : List V} {rs : List RV} {i j : Int} (h : Paired (RR K m M H0 H) ys rs) (e : rs.map RV.d = [.int i, .int j]) : ys = [.int i, .int j] := by
  have h2 := args_of h
  rw [e] at h2
  cases h2 with
  | cons r t =>
    cases t with
    | cons r' t' =>
      cases t'
      rw [r.int, r'.int]
theorem inR_of {neg : Bool} {fs : Sta → PR (List RV)} {σ : L2.St} {H : Hp} {Q : VK} (h : tP X T W (pInR neg fa fs) σ H Q) :
    tOp (fun x y H Q => ∃ i a lo hi, x = V.int i ∧ y = V.ref a ∧ H a = some (.rng lo hi) ∧ Q (.bl (neg != decide (lo ≤ i ∧ i < hi))) H) (tP X T W fa) (tCB (fun vs H Q => ∃ i j, vs = [V.int i, V.int j] ∧ ∀ p, H p = none → Q (.ref p) (upd H p (.rng i j))) (tAr X T W fs)) σ H Q := by
  obtain ⟨s, m, M, G, R, q⟩ := h
  refine ⟨s, m, M, G, R, ?_⟩
  revert q
  unfold pInR PR.bind
  cases fa s with
  | ok r1 =>
    intro q y1 H1 M1 g1 rr1
    refine ⟨s, m, M1, G, R.grow g1, ?_⟩
    revert q
    cases fs s with
    | ok rs =>
      intro q ys H2 M2 g2 rr2
      dsimp only at q
      cases hg : gInR neg r1.d (rs.map RV.d) with
      | none => simp only [hg, PR.of] at q
      | some res =>
        simp only [hg, PR.of] at q
        obtain ⟨i, lo, hi, e1, e2, rfl⟩ := gInR_inv hg
        have rr3 := (rr1.grow g2).arg
        rw [e1] at rr3
        refine ⟨lo, hi, two_ints rr2 e2, fun p hp => ⟨i, p, lo, hi, rr3.int, rfl, upd_same, ?_⟩⟩
        exact q _ _ M2 (g1.trans (g2.trans (Grow.fresh g2.mh hp))) (.bl _)
    | exc e => intro q cls d H' M' g2 x; exact q cls d H' M' (g1.trans g2) x
    | stuck => intro q; exact q
  | exc e => intro q; exact q
  | stuck => intro q; exact q
theorem OpR.wk {op : Value → Value → PySem.Sem Value} {r r' : R2} (h : OpR X op r) (w : ∀ x y H Q, r' x y H Q → r x y H Q) : OpR X op r' := fun pins s σ H x y v u Q I rx ry k => h pins s σ H x y v u Q I rx ry (w _ _ _ _ k)
theorem op_inR1 : OpR X (compareOp .In) (fun x y H Q => ∃ i a lo hi, x = V.int i ∧ y = V.ref a ∧ H a = some (.rng lo hi) ∧ Q (.bl (false != decide (lo ≤ i ∧ i < hi))) H) := OpR.wk op_in_rng fun x y H Q ⟨i, a, lo, hi, h1, h2, h3, q⟩ => ⟨i, a, lo, hi, h1, h2, h3, by rw [Bool.false_bne] at q; exact q⟩
theorem op_inR2 : OpR X (compareOp .NotIn) (fun x y H Q => ∃ i a lo hi, x = V.int i ∧ y = V.ref a ∧ H a = some (.rng lo hi) ∧ Q (.bl (true != decide (lo ≤ i ∧ i < hi))) H) := OpR.wk op_nin_rng fun x y H Q ⟨i, a, lo, hi, h1, h2, h3, q⟩ => ⟨i, a, lo, hi, h1, h2, h3, by rw [Bool.true_bne] at q; exact q⟩
theorem ev_inR {fs : Sta → PR (List RV)} (hg : Gl X "range") (hm : X.mg "range" = none) (ha : PEv X T W a fa) (hs : PAr X T W (e :: es) fs)
    (he : starEach (e :: es) X.env = (false, eval e X.env) :: starEach es X.env := by rfl) (hpl : (backTo p2 (starEach es X.env)).any (·.1) = false := by rfl) (hk : behindInMarks .In (.Call (.Name "range" p) (e :: es) [] p2) = false := by rfl) :
    PEv X T W (.Compare a [.In] [.Call (.Name "range" p) (e :: es) [] p2] pos) (pInR false fa fs) :=
  PE.wk (pe_cmpR op_inR1 ha (pe_callTy cr_range2 hg hm (by decide +kernel) hs (by decide) (by decide) he hpl) hk) fun σ H Q h => inR_of h
theorem ev_ninR {fs : Sta → PR (List RV)} (hg : Gl X "range") (hm : X.mg "range" = none) (ha : PEv X T W a fa) (hs : PAr X T W (e :: es) fs)
    (he : starEach (e :: es) X.env = (false, eval e X.env) :: starEach es X.env := by rfl) (hpl : (backTo p2 (starEach es X.env)).any (·.1) = false := by rfl) (hk : behindInMarks .NotIn (.Call (.Name "range" p) (e :: es) [] p2) = false := by rfl) :
    PEv X T W (.Compare a [.NotIn] [.Call (.Name "range" p) (e :: es) [] p2] pos) (pInR true fa fs) :=
  PE.wk (pe_cmpR op_inR2 ha (pe_callTy cr_range2 hg hm (by decide +kernel) hs (by decide) (by decide) he hpl) hk) fun σ H Q h => inR_of h
theorem et_inR {fs : Sta → PR (List RV)} (hg : Gl X "range") (hm : X.mg "range" = none) (ha : PEv X T W a fa) (hs : PAr X T W (e :: es) fs)
    (he : starEach (e :: es) X.env = (false, eval e X.env) :: starEach es X.env := by rfl) (hpl : (backTo p2 (starEach es X.env)).any (·.1) = false := by rfl) (hk : behindInMarks .In (.Call (.Name "range" p) (e :: es) [] p2) = false := by rfl) :
    PTv X T W (.Compare a [.In] [.Call (.Name "range" p) (e :: es) [] p2] pos) (pB (pInR false fa fs)) :=
  PT.wk (pt_cmpR op_inR1 ha (pe_callTy cr_range2 hg hm (by decide +kernel) hs (by decide) (by decide) he hpl) hk) fun σ H Q h => inR_of (tB_of h)
theorem et_ninR {fs : Sta → PR (List RV)} (hg : Gl X "range") (hm : X.mg "range" = none) (ha : PEv X T W a fa) (hs : PAr X T W (e :: es) fs)
    (he : starEach (e :: es) X.env = (false, eval e X.env) :: starEach es X.env := by rfl) (hpl : (backTo p2 (starEach es X.env)).any (·.1) = false := by rfl) (hk : behindInMarks .NotIn (.Call (.Name "range" p) (e :: es) [] p2) = false := by rfl) :
    PTv X T W (.Compare a [.NotIn] [.Call (.Name "range" p) (e :: es) [] p2] pos) (pB (pInR true fa fs)) :=
  PT.wk (pt_cmpR op_inR2 ha (pe_callTy cr_range2 hg hm (by decide +kernel) hs (by decide) (by decide) he hpl) hk) fun σ H Q h => inR_of (tB_of h)
/-! ### len(set(t)), t a tuple of numbers -/
def ddp : List Int → List Int
  | [] => []
  | x :: xs => if x ∈ xs then ddp xs else x :: ddp xs
theorem mem_ddp (y : Int) : ∀ xs : List Int, y ∈ ddp xs ↔ y ∈ xs
  | [] => by simp [ddp]
  | x :: xs => by
    rw [ddp]
    by_cases h : x ∈ xs
    · rw [if_pos h, mem_ddp y xs, List.mem_cons]
      constructor
      · exact .inr
      · rintro (rfl | k)
        · exact h
        · exact k
    · rw [if_neg h, List.mem_cons, List.mem_cons, mem_ddp y xs]
theorem nodup_ddp : ∀ xs : List Int, (ddp xs).Nodup
  | [] => List.nodup_nil
  | x :: xs => by
    rw [ddp]
    by_cases h : x ∈ xs
    · rw [if_pos h]; exact nodup_ddp xs
    · rw [if_neg h]
      exact List.nodup_cons.mpr ⟨fun k => h ((mem_ddp x xs).mp k), nodup_ddp xs⟩
theorem nodup_len {l l' : List Int} (h : l.Nodup) (h' : l'.Nodup) (e : ∀ k, k ∈ l ↔ k ∈ l') : l.length = l'.length := by
  refine List.Perm.length_eq ((List.perm_ext_iff_of_nodup h h').mpr e)
def tLenSetN (K : PySem.W.Frag) (ta : TE) : TE := fun σ H Q => ta σ H fun x H1 => ∃ (l : Addr) (ns : List Int), x = V.ref l ∧ SqT K H1 l (ns.map V.int) ∧ ns.length < 4000 ∧ Q (.int (ddp ns).length) H1
theorem pe_lenSetN {ta : TE} (hc : X.calm = true) (hg : Gl X "len") (hm : X.mg "len" = none) (hg2 : Gl X "set") (hm2 : X.mg "set" = none) (ha : PE X a ta)
    (na : starEach [a] X.env = (false, eval a X.env) :: starEach [] X.env := by rfl) : PE X (.Call (.Name "len" p) [.Call (.Name "set" p2) [a] [] q] [] pos) (tLenSetN X.K ta) := by
  refine ⟨fun pins s σ H Q I h => ?_⟩
  refine Call_ (ld_blt I hg hm PySem.boot_len ?_)
  refine PyProof.Rows.callWith_builtin1 (PyProof.Rows.args_cons ?_ rfl) rfl rfl
  refine Call_ (ld_blt I hg2 hm2 PyProof.Rows.boot_set ?_)
  refine PyProof.Rows.callWith_type1 (PyProof.Rows.args_cons (thn (ha.run pins s σ H _ I h) fun v s1 ⟨x, H1, I1, r1, q1⟩ => PyProof.Rows.args_nil ?_) na) na rfl
  obtain ⟨l, ns, rfl, hq, h1, q1⟩ := q1
  cases r1
  obtain ⟨its, r, pl, hz⟩ := I1.tuple hq
  refine call_set_tupI ns (I1.ok.hd hc) pl (by simpa using r.ints) (by unfold scanBound; omega) fun h' tk c hS hcl hk => ?_
  refine PyProof.Rows.args_nil ?_
  obtain ⟨o, es, ep, t, ho, hex, hd, _, nd, hmem, _, hf, hn, _⟩ := hS
  have I2 : Inv X pins σ H1 { s1 with heap := h', toks := tk } := I1.kept fun b o e => hk b o e
  have hlen : es.size = (ddp ns).length := by
    have := nodup_len nd (nodup_ddp ns) fun k => by rw [mem_ddp, ← hmem k, decide_eq_true_eq]
    rw [List.length_map, Array.length_toList] at this
    exact this
  refine call_len_set ho hex hd hf (by rw [hn]; omega) ⟨.int (ddp ns).length, H1, I2.tok _, ⟨_, by rw [hlen]⟩, q1⟩
def gLenSet : D → Option RV
  | .tup ds => (intsOf ds).bind fun ns => if ns.length < 4000 then some (sh (.int (ddp ns).length)) else none
  | _ => none
theorem ev_lenSet (hc : X.calm = true) (hg : Gl X "len") (hm : X.mg "len" = none) (hg2 : Gl X "set") (hm2 : X.mg "set" = none) (ha : PEv X T W a fa)
    (na : starEach [a] X.env = (false, eval a X.env) :: starEach [] X.env := by rfl) : PEv X T W (.Call (.Name "len" p) [.Call (.Name "set" p2) [a] [] q] [] pos) (p1 gLenSet fa) := by
  refine PE.wk (pe_lenSetN hc hg hm hg2 hm2 ha na) ?_
  rintro σ H Q ⟨s, m, M, G, R, q⟩
  refine ⟨s, m, M, G, R, ?_⟩
  revert q
  unfold p1 PR.bind
  cases fa s with
  | ok r1 =>
    intro q y1 H1 M1 g1 rr1
    dsimp only at q
    obtain ⟨k, d⟩ := r1
    cases hg : gLenSet d with
    | none => simp only [hg, PR.of] at q
    | some res =>
      simp only [hg, PR.of] at q
      cases d <;> try (cases hg; done)
      rename_i ds
      dsimp only [gLenSet] at hg
      cases hi : intsOf ds with
      | none => rw [hi] at hg; cases hg
      | some ns =>
        rw [hi, Option.bind_some] at hg
        by_cases hl : ns.length < 4000
        · rw [if_pos hl] at hg
          cases hg
          rw [intsOf_eq hi] at rr1
          obtain ⟨b, xs, rfl, h1, r1, _⟩ := rr1.arg.tup g1.mh
          rw [DRs.ints_of r1] at h1
          exact ⟨b, ns, rfl, h1, hl, q _ H1 M1 g1 (.int _)⟩
        · rw [if_neg hl] at hg
          cases hg
  | exc e => intro q; exact q
  | stuck => intro q; exact q
theorem g_lenSet {ns : List Int} (h : ns.length < 4000) : gLenSet (.tup (ns.map D.int)) = some ⟨.sh, .int (ddp ns).length⟩ := by
  unfold gLenSet
  simp only [intsOf_map, Option.bind_some]
  rw [if_pos h]
end
/-! ### sorted(t), t a tuple of numbers -/
section
variable {prog : Program} {w : World} {A : Around} {E : Value → Shared → Prop} {s : Shared}
theorem collect_tup {t : Addr} {us : List Value} {Q : List Value → Shared → Prop} (ht : s.heap.IsTuple t us.toArray) (hn : us.length ≤ sizeLine)
    (k : Q us { s with heap := (s.heap.push (seqObj "list" #[] 0)).update s.heap.objs.size (Obj.mapSeq (· ++ us.toArray)) }) : wpAny (model prog w) A (collect (.ref t)) Q E s := by
  obtain ⟨ot, h1, h2, nt, h3⟩ := id ht
  unfold collect
  refine wpAny_bind (wpAny_runValue (codeAny_builtin entry_proto_collect' (?_ : wpAny _ _ (do again (.builtin "list.__iadd__" ⟨[← newList [], .ref t], []⟩)) _ _ s)))
  refine wpAny_bind (wpAny_newList (wpAny_pure ⟨Code.quiet_builtin _ (by decide +kernel), codeAny_builtin entry_list_iadd' (?_ : wpAny _ _ (Builtin.List.listExtendWith (.ref s.heap.objs.size) (.ref t) (.ref s.heap.objs.size)) _ _ { s with heap := s.heap.push (seqObj "list" #[] 0) })⟩))
  have h4 : (s.heap.push (seqObj "list" #[] 0)).get? t = some ot := Heap.get?_push_of_some _ h1
  unfold Builtin.List.listExtendWith
  refine wpAny_bind (wpAny_typeOf (T := "tuple") ⟨ot, h4, h2⟩ ?_)
  have hty : (Value.type "tuple" == Value.type "tuple") = true := by rfl
  rw [if_pos (by rw [hty]; simp)]
  refine wpAny_bind (listItems_at h4 h3 (wpAny_bind (listItems_at (xs := #[]) (n := 0) (Heap.get?_push_size _ rfl) rfl ?_)))
  rw [if_neg (by simp)]
  refine wpAny_bind (listUpdate_at (xs := #[]) (n := 0) (Heap.get?_push_size _ rfl) rfl (wpAny_pure ?_) (Nat.zero_le _) (by show (#[] ++ us.toArray).size ≤ sizeLine + 1; simp only [Array.size_append, List.size_toArray, List.length_nil]; omega))
  show wpAny (model prog w) A (do
      let ob ← load s.heap.objs.size
      match ob.data with
      | .seq ys _ => pure ys.toList
      | _ => unsupported "internal:collect") Q E { s with heap := (s.heap.push (seqObj "list" #[] 0)).update s.heap.objs.size (Obj.mapSeq (· ++ us.toArray)) }
  refine wpAny_bind (wpAny_load (get?_update_seq (Heap.get?_push_size _ rfl) _) (?_ : wpAny _ _ (pure ((#[] : Array Value) ++ us.toArray).toList) Q E _))
  rw [show ((#[] : Array Value) ++ us.toArray).toList = us by simp]
  exact wpAny_pure k
theorem sorted_tup {t : Addr} {us : List Value} {lt : Value → Value → Bool} {Q : Value → Shared → Prop} (O : SrtO.Swo lt) (ht : s.heap.IsTuple t us.toArray) (hn : us.length ≤ sizeLine)
    (hS : 2 ≤ us.length → ∀ (h₁ : Heap) (a : Addr), h₁.get? a = some (seqObj "list" us.toArray 0) → SrtO.SortableO prog w A.in1.in1 { s with heap := h₁ } a us lt)
    (k : ∀ out : List Value, SrtO.Srtd lt out → SrtO.Stb lt out us → Q (.ref (s.heap.objs.size + 1)) { s with heap := sortedAll s.heap us out.toArray }) :
    wpAny (model prog w) A (call (.builtin "sorted") [.ref t]) Q E s := by
  refine Calls.call_function_entry kind_sorted plain_sorted entry_sorted (args_sorted1 _) ?_
  unfold Builtin.«sorted»
  refine wpAny_bind (m := checkCount "sorted" 1 1 _) (wpAny_pure (wpAny_bind (collect_tup ht hn (wpAny_bind (wpAny_newList ?_ hn)))))
  have sz : ((s.heap.push (seqObj "list" #[] 0)).update s.heap.objs.size (Obj.mapSeq (· ++ us.toArray))).objs.size = s.heap.objs.size + 1 := by rw [Heap.size_update, size_push']
  have at1 : (((s.heap.push (seqObj "list" #[] 0)).update s.heap.objs.size (Obj.mapSeq (· ++ us.toArray))).push (seqObj "list" us.toArray 0)).get? (s.heap.objs.size + 1) = some (seqObj "list" us.toArray 0) := by
    rw [← sz]
    exact Heap.get?_push_size _ rfl
  show wpAny _ _ _ _ _ { s with heap := ((s.heap.push (seqObj "list" #[] 0)).update s.heap.objs.size (Obj.mapSeq (· ++ us.toArray))).push (seqObj "list" us.toArray 0) }
  rw [sz]
  refine wpAny_bind (wpAny_holding (wpAny_call_entry slot_list_sort ⟨_, at1, rfl⟩ entry_list_sort (SrtO.list_sort_ord O at1 hn (fun h2 => hS h2 _ _ at1) fun out q1 q2 => ⟨_, rfl, wpAny_pure ⟨_, rfl, k out q1 q2⟩⟩) (args_list_sort _)))
end
section
variable {X : Cx} {T : Tab} {W : WX} {e : Expr} {es : List Expr} {pos p : Pos}
theorem cr_sortedIT : CallR X (.builtin "sorted") (fun vs H Q => ∃ (a : Addr) (ns : List Int), vs = [V.ref a] ∧ SqT X.K H a (ns.map V.int) ∧
    ∀ (ms : List Int) (p : Addr), ms.Perm ns → ms.Pairwise (· ≤ ·) → H p = Option.none → Q (.ref p) (upd H p (.lst (ms.map V.int)))) := by
  intro pins s σ H vs us Q I r h
  obtain ⟨a, ns, rfl, hs, q⟩ := h
  obtain ⟨its, rv, ht, hz⟩ := I.tuple hs
  have hi := rv.ints
  rw [Vals.ref1 r]
  refine sorted_tup SrtO.swo_int ht (by rw [← rv.length]; exact hz) (fun h2 h₁ a' _ => SrtO.ints_sortable hi h2) fun out h1 h2 => ?_
  obtain ⟨k1, k2, k3⟩ := SrtO.ints_out hi h1 h2
  obtain ⟨ep, hep⟩ := PyProof.Rows.sortedAll_at s.heap its out.toArray
  have hlen : ((out.map SrtO.iv).map V.int).length ≤ sizeLine := by
    rw [List.length_map] at hz
    rw [List.length_map, k2.length_eq]
    exact hz
  exact ⟨V.ref _, upd H (s.heap.objs.size + 1) (.lst ((out.map SrtO.iv).map V.int)), I.laid (t' := s.toks) (fun _ _ => PyProof.Rows.sortedAll_old) (Nat.le_succ _) ⟨hlen, out, ep, vals_of_ints k1, hep⟩, rfl, q _ _ k2 k3 (I.hok.fresh (Nat.le_succ _))⟩
def gSortedT : List D → Option RV
  | [.tup ds] => (intsOf ds).map fun ns => fr (.list ((sortI ns).map D.int))
  | _ => none
theorem ok_sortedT : CallOk X (.builtin "sorted") gSortedT := by
  refine ⟨_, cr_sortedIT, fun m M H ys ds res Q s a e k => ?_⟩
  unfold gSortedT at e
  split at e
  · rename_i d
    cases a with
    | cons a1 an =>
      cases an
      cases hi : intsOf d with
      | none => simp only [hi] at e; cases e
      | some ns =>
        simp only [hi, Option.map_some] at e
        cases e
        rw [intsOf_eq hi] at a1
        obtain ⟨b, xs, rfl, h1, r1, _⟩ := a1.tup s
        rw [DRs.ints_of r1] at h1
        refine ⟨b, ns, rfl, h1, fun ms q hp hr hq => ?_⟩
        rw [sortI_eq hp hr]
        exact k _ _ M (Grow.fresh s hq) ⟨q, _, rfl, upd_same, .lst DRs.ints, s.free hq, hq⟩
  · cases e
theorem g_sortedT (ns : List Int) : gSortedT [.tup (ns.map D.int)] = some ⟨.fr, .list ((sortI ns).map D.int)⟩ := by
  unfold gSortedT
  simp only [intsOf_map, Option.map_some]
end
/-! ### t[::-1], t a tuple -/
section
variable {prog : Program} {w : World} {A : Around} {E : Value → Shared → Prop} {s : Shared}
theorem applied_rev {sl : Addr} {n : Nat} {u : Tok} {Q : Int × Int × Nat → Shared → Prop} (hs : s.heap.IsSliceOf sl .none .none (.int (-1) u)) (k : Q ((n : Int) - 1, -1, n) s) :
    wpAny (model prog w) A (Builtin.Slice.sliceApplied (.ref sl) (pure (n : Int))) Q E s := by
  obtain ⟨ob, h1, h2, h3⟩ := id hs
  unfold Builtin.Slice.sliceApplied Builtin.Slice.sliceFields
  refine wpAny_bind (wpAny_bind (wpAny_field h1 h3 (x := .none) rfl (wpAny_bind (wpAny_field h1 h3 (x := .none) rfl (wpAny_bind (wpAny_field h1 h3 (x := .int (-1) u) rfl (wpAny_pure (wpAny_bind (slicePart_int ?_)))))))))
  show wpAny _ _ (if ((-1 : Int) == 0) = true then _ else _) _ _ s
  rw [if_neg (by decide)]
  refine wpAny_bind (slicePart_none (wpAny_bind (slicePart_none (wpAny_bind (wpAny_pure ?_)))))
  have e : Builtin.Slice.slicePlaces ((n : Int) - 1) (-1) (-1) = n := by
    unfold Builtin.Slice.slicePlaces
    rw [if_neg (by decide)]
    by_cases hn : n = 0
    · subst hn; rfl
    · first
        | (rw [if_pos (by omega)]; simp; omega)
        | (split <;> simp <;> omega)
  have e2 : Builtin.Slice.sliceAdjust none none (-1) (n : Int) = ((n : Int) - 1, -1) := by
    unfold Builtin.Slice.sliceAdjust
    simp
  show wpAny _ _ (pure ((Builtin.Slice.sliceAdjust none none (-1) (n : Int)).1, (-1 : Int), Builtin.Slice.slicePlaces (Builtin.Slice.sliceAdjust none none (-1) (n : Int)).1 (Builtin.Slice.sliceAdjust none none (-1) (n : Int)).2 (-1))) _ _ s
  rw [e2]
  dsimp only
  rw [e]
  exact wpAny_pure k
theorem fm_congr {α β : Type} {f g : α → Option β} : ∀ {l : List α}, (∀ a ∈ l, f a = g a) → l.filterMap f = l.filterMap g
  | [], _ => rfl
  | a :: l, h => by
    rw [List.filterMap_cons, List.filterMap_cons, h a (List.mem_cons_self ..), fm_congr fun b hb => h b (List.mem_cons_of_mem _ hb)]
theorem pick_rev (xs : Array Value) : ((List.range xs.size).filterMap fun k : Nat => xs[(((xs.size : Int) - 1) + (k : Int) * (-1)).toNat]?) = xs.toList.reverse := by
  have h1 : ((List.range xs.size).filterMap fun k : Nat => xs[(((xs.size : Int) - 1) + (k : Int) * (-1)).toNat]?) = ((List.range xs.size).map fun k => xs.size - 1 - k).filterMap (xs[·]?) := by
    rw [List.filterMap_map]
    refine fm_congr fun k hk => ?_
    have := List.mem_range.mp hk
    show xs[(((xs.size : Int) - 1) + (k : Int) * (-1)).toNat]? = xs[xs.size - 1 - k]?
    rw [show (((xs.size : Int) - 1) + (k : Int) * (-1)).toNat = xs.size - 1 - k by omega]
  rw [h1, PySem.W.krv_range, List.filterMap_reverse, PySem.W.krv_all]
theorem getItem_tup_rev {t sl : Addr} {xs : Array Value} {u : Tok} {Q : Value → Shared → Prop} (ht : IsTup s.heap t xs) (hs : s.heap.IsSliceOf sl .none .none (.int (-1) u)) (hn : xs.size ≤ sizeLine)
    (k : Q (.ref s.heap.objs.size) { s with heap := s.heap.push { cls := .type "tuple", data := .seq xs.toList.reverse.toArray } }) : wpAny (model prog w) A (getItem (.ref t) (.ref sl)) Q E s := by
  have fit : sizeOk (.seq xs.toList.reverse.toArray) := by
    show xs.toList.reverse.toArray.size ≤ sizeLine
    rw [List.size_toArray, List.length_reverse, Array.length_toList]
    exact hn
  obtain ⟨ob, h1, h2, h3⟩ := id hs
  have tsl : s.TypeIs (.ref sl) "slice" := ⟨ob, h1, h2⟩
  unfold getItem
  try with_reducible refine wpAny_holding ?_
  first | refine wpAny_bind (wpAny_pure ?_) | skip
  refine wpAny_bind (wpAny_sequenceKey ht.typeIs (by decide) (wpAny_bind (wpAny_callSpecial?_slot (name := Str.ofString "__getitem__") ht.typeIs PyProof.Rows.slot_tuple_getitem
    (wpAny_call_entry PyProof.Rows.slot_tuple_getitem ht.typeIs PyProof.Rows.entry_tuple_getitem (?_ : wpAny _ _ (Builtin.Tuple.tupleItemsOf (.ref t) >>= _) _ _ s) (args_tuple_getitem _ _)))))
  refine wpAny_bind (tupleItemsOf_ ht (wpAny_bind (wpAny_typeOf tsl ?_)))
  rw [if_pos (by decide)]
  refine wpAny_bind (applied_rev hs ?_)
  have hno : ¬ ((((xs.size : Int) - 1) == 0 && (-1 : Int) == 1 && xs.size == xs.size) = true) := by simp
  show wpAny _ _ (if (((xs.size : Int) - 1) == 0 && (-1 : Int) == 1 && xs.size == xs.size) = true then _ else _) _ _ s
  rw [if_neg hno, pick_rev]
  first
    | exact wpAny_bind (m := Builtin.Tuple.tupleExact _) (wpAny_newObj_type (wpAny_pure ⟨_, rfl, wpAny_pure k⟩) fit)
    | exact wpAny_bind (m := Builtin.Tuple.tupleExact _) (wpAny_newObj_type (wpAny_bind (wpAny_pure (wpAny_pure ⟨_, rfl, wpAny_pure k⟩))) fit)
    | exact wpAny_bind (wpAny_bind (m := Builtin.Tuple.tupleExact _) (wpAny_newObj_type (wpAny_pure (wpAny_pure ⟨_, rfl, wpAny_pure k⟩)) fit))
    | exact wpAny_bind (wpAny_bind (m := Builtin.Tuple.tupleExact _) (wpAny_newObj_type (wpAny_pure ⟨_, rfl, wpAny_pure k⟩) fit))
end
section
variable {X : Cx} {T : Tab} {W : WX} {e : Expr} {pos pa pb pc : Pos} {fa : Sta → PR RV} {k : Nat}
def tRevT (K : PySem.W.Frag) (te : TE) : TE := fun σ H Q => te σ H fun x H1 => ∃ a xs, x = V.ref a ∧ SqT K H1 a xs ∧ ∀ p, H1 p = Option.none → Q (.ref p) (upd H1 p (.tup xs.reverse))
theorem pe_revT {te : TE} (he : PE X e te) : PE X (.Subscript e (.Slice none none (some (.UnaryOp .USub (.Constant (.int 1) k pa) pb)) pc) pos) (tRevT X.K te) := by
  refine ⟨fun pins s σ H Q I h => Subscript_ (thn (he.run pins s σ H _ I h) fun v s1 ⟨x, H1, I1, r1, a, xs, ex, hx, q⟩ => ?_)⟩
  subst ex
  cases r1
  have step : PO X (some (.UnaryOp .USub (.Constant (.int 1) k pa) pb)) (tPart (tUn (rU fun i => .int (-i)) (tC (.int 1)))) := po_some (pe_un un_neg pe_int)
  refine wpAny_Slice (thn (po_none.run pins s1 σ H1 (fun o H2 => o = none ∧ H2 = H1) I1 ⟨rfl, rfl⟩) fun vl s2 ⟨lo, H2, I2, pl, e1, e2⟩ => ?_)
  subst e1 e2
  refine thn (po_none.run pins s2 σ H2 (fun o H3 => o = none ∧ H3 = H2) I2 ⟨rfl, rfl⟩) fun vu s3 ⟨hi, H3, I3, pu, e1, e2⟩ => ?_
  subst e1 e2
  refine thn (step.run pins s3 σ H3 (fun o H4 => o = some (-1) ∧ H4 = H3) I3 ⟨1, rfl, -1, rfl, rfl, rfl⟩) fun vs s4 ⟨o, H4, I4, ps, e1, e2⟩ => ?_
  subst e1 e2
  have I5 : Inv X pins σ H4 { s4 with heap := s4.heap.push { cls := .type "slice", data := .fields #[vl, vu, vs] } } := I4.kept (t' := s4.toks) fun b ob q => Heap.get?_push_of_some _ q
  obtain ⟨its, r, ht, hz⟩ := I5.tuple hx
  have hsz : its.toArray.size ≤ sizeLine := by rw [List.size_toArray, ← r.length]; exact hz
  show wpAny (model X.prog X.w) X.A (subscriptTail e (.Slice none none (some (.UnaryOp .USub (.Constant (.int 1) k pa) pb)) pc) (.ref a) (.ref s4.heap.objs.size)) (EP X pins σ Q) X.xe { s4 with heap := s4.heap.push { cls := .type "slice", data := .fields #[vl, vu, vs] } }
  refine tail_any (ops := [.ref a, .ref s4.heap.objs.size]) ht.typeIs (PyProof.Rows.slot_tuple_getitem.lookup) ?_ (by with_unfolding_all rfl)
  cases pl
  cases pu
  cases ps with
  | int _ tk =>
    refine getItem_tup_rev ht (Heap.IsSliceOf.new _ _ _ _) hsz ?_
    refine ⟨.ref _, _, I5.laid (t' := s4.toks) (o := .tup xs.reverse) (fun b ob q => Heap.get?_push_of_some _ q) (Nat.le_refl _) ?_, rfl, q _ (I5.hok.fresh (Nat.le_refl _))⟩
    exact ⟨by rw [List.length_reverse]; exact hz, _, r.reverse, IsTup.new _ _⟩
def gRevT : D → Option RV
  | .tup ds => some (sh (.tup ds.reverse))
  | _ => none
theorem ev_revT (ha : PEv X T W e fa) : PEv X T W (.Subscript e (.Slice none none (some (.UnaryOp .USub (.Constant (.int 1) k pa) pb)) pc) pos) (p1 gRevT fa) := by
  refine PE.wk (pe_revT ha) ?_
  rintro σ H Q ⟨s, m, M, G, R, q⟩
  refine ⟨s, m, M, G, R, ?_⟩
  revert q
  unfold p1 PR.bind
  cases fa s with
  | ok r1 =>
    intro q y1 H1 M1 g1 rr1
    dsimp only at q
    obtain ⟨k, d⟩ := r1
    cases d <;> try (exact (show False from q).elim)
    rename_i ds
    obtain ⟨b, xs, rfl, h1, r1, _⟩ := rr1.arg.tup g1.mh
    refine ⟨b, xs, rfl, h1, fun p hp => ?_⟩
    have gs := Grow.share (o := .tup xs.reverse) g1.mh hp
    exact q _ _ _ (g1.trans gs) (.tup (SqT.of upd_same) (r1.reverse.up gs.mm))
  | exc e => intro q; exact q
  | stuck => intro q; exact q
theorem g_revT (ds : List D) : gRevT (.tup ds) = some ⟨.sh, .tup ds.reverse⟩ := Eq.trans rfl rfl
end
/-! ### texts by their signs -/
def sw (l : List Nat) : Str := ⟨l.toArray⟩
theorem sw_inj {a b : List Nat} (h : sw a = sw b) : a = b := by
  have := congrArg (fun x : Str => x.cps.toList) h
  simpa [sw] using this
theorem sw_app (a b : List Nat) : sw a ++ sw b = sw (a ++ b) := Str.ext' (Array.toList_inj.mp (by show (a.toArray ++ b.toArray).toList = (a ++ b).toArray.toList; simp))
theorem sw_len (l : List Nat) : (sw l).length = l.length := by show l.toArray.size = _; simp
theorem sw_rep (l : List Nat) (n : Nat) : repS (sw l) n = sw (List.replicate n l).flatten := rfl
theorem sw_signs (l : List Nat) : signs (sw l) = l.map fun c => D.str (sw [c]) := rfl
theorem g_lenW {l : List Nat} (h : l.length ≤ 16777216) : gLen [.str (sw l)] = some ⟨.sh, .int l.length⟩ := by
  have e : gLen [.str (sw l)] = if (sw l).length ≤ 16777216 then some (sh (.int (sw l).length)) else none := rfl
  rw [e, sw_len, if_pos h]
theorem g_slW {l : List Nat} {lo hi : Option Int} (h : l.length ≤ 16777216) : gSl (.str (sw l)) lo hi = some ⟨.sh, .str (sw (cutD l lo hi))⟩ := by
  have e : gSl (.str (sw l)) lo hi = if (sw l).length ≤ 16777216 then some (sh (.str (cutS (sw l) lo hi))) else none := rfl
  rw [e, sw_len, if_pos h]
  unfold cutS cutD
  rw [sw_len]
  rfl
theorem g_catW {a b : List Nat} (h : a.length + b.length ≤ 16777216) : gPlus (.str (sw a)) (.str (sw b)) = some ⟨.sh, .str (sw (a ++ b))⟩ := by
  have e : gPlus (.str (sw a)) (.str (sw b)) = if (sw a).length + (sw b).length ≤ 16777216 then some (sh (.str (sw a ++ sw b))) else none := by
    show (none : Option RV).or ((if _ then _ else _ : Option RV).or _) = _
    by_cases hc : (sw a).length + (sw b).length ≤ 16777216
    · rw [if_pos hc]; rfl
    · rw [if_neg hc]; rfl
  rw [e, sw_len, sw_len, if_pos h, sw_app]
theorem g_repW {l : List Nat} {n : Int} (h : n < 16777216 ∧ -16777216 < n ∧ l.length * n.toNat ≤ 16777216) : gRepS (.str (sw l)) (.int n) = some ⟨.sh, .str (sw (List.replicate n.toNat l).flatten)⟩ := by
  rw [g_repS (by rw [sw_len]; exact h), sw_rep]
theorem in_strs (x : Str) (ss : List Str) : gIn (.str x) (.list (ss.map D.str)) = some ⟨.sh, .bool (decide (x ∈ ss))⟩ := by
  unfold gIn inB
  simp only [seqOf]
  rw [if_pos ⟨rfl, flat_strs ss⟩, inB_str]
  rfl
theorem nin_strs (x : Str) (ss : List Str) : gNin (.str x) (.list (ss.map D.str)) = some ⟨.sh, .bool (!decide (x ∈ ss))⟩ := by
  unfold gNin inB
  simp only [seqOf]
  rw [if_pos ⟨rfl, flat_strs ss⟩, inB_str]
  rfl
theorem eqvAll_I : ∀ a b : List Int, PyData.eqvAll (pys (a.map D.int)) (pys (b.map D.int)) = decide (a = b)
  | [], [] => rfl
  | [], b :: bs => rfl
  | a :: as, [] => rfl
  | a :: as, b :: bs => by
    show (a == b && PyData.eqvAll _ _) = _
    rw [eqvAll_I as bs]
    by_cases h1 : a = b
    · subst h1; simp
    · simp [h1]
theorem plain_I (a : List Int) (n : Nat) : (a.map D.int).all (D.plain n) = true := by
  rw [List.all_map]
  exact List.all_eq_true.mpr fun _ _ => by cases n <;> rfl
theorem gNe_I (a b : List Int) : gNe (.list (a.map D.int)) (.list (b.map D.int)) = some ⟨.sh, .bool (!decide (a = b))⟩ := by
  unfold gNe
  rw [eqB_gen (show (D.list (a.map D.int)).plain 9 = true from plain_I a 8) (show (D.list (b.map D.int)).plain 9 = true from plain_I b 8)]
  show some (sh (.bool (!PyData.eqvAll _ _))) = _
  rw [eqvAll_I]
theorem ddp_le : ∀ xs : List Int, (ddp xs).length ≤ xs.length
  | [] => Nat.le_refl _
  | x :: xs => by
    have := ddp_le xs
    rw [ddp]
    split
    · simp; omega
    · simp; omega
theorem ddp_nd : ∀ {xs : List Int}, xs.Nodup → ddp xs = xs
  | [], _ => rfl
  | x :: xs, h => by
    rw [ddp, if_neg (List.nodup_cons.mp h).1, ddp_nd (List.nodup_cons.mp h).2]
theorem nd_ddp : ∀ {xs : List Int}, (ddp xs).length = xs.length → xs.Nodup
  | [], _ => List.nodup_nil
  | x :: xs, h => by
    rw [ddp] at h
    have := ddp_le xs
    by_cases hx : x ∈ xs
    · rw [if_pos hx] at h
      simp at h
      omega
    · rw [if_neg hx] at h
      exact List.nodup_cons.mpr ⟨hx, nd_ddp (by simpa using h)⟩
/-- strictly rising: alike when sorted, and each once -/
theorem rise_iff (xs : List Int) : xs.Pairwise (· < ·) ↔ (xs = sortI xs ∧ ¬ ((ddp xs).length < xs.length)) := by
  constructor
  · intro h
    refine ⟨sortI_eq (List.Perm.refl _) (h.imp fun h => by omega), ?_⟩
    rw [ddp_nd (h.imp fun h e => by omega)]
    omega
  · rintro ⟨h1, h2⟩
    have h3 := nd_ddp (xs := xs) (by have := ddp_le xs; omega)
    have h4 : xs.Pairwise (· ≤ ·) := h1 ▸ sortI_rise xs
    exact List.Pairwise.imp₂ (fun a b h5 h6 => by omega) h4 h3
/-! ### equations -/
section
variable {env : List Slot} {st : List Ob}
def xStr : PR RV → PR (List D)
  | .ok ⟨_, .str x⟩ => .ok (signs x)
  | .ok _ => .stuck
  | .exc e => .exc e
  | .stuck => .stuck
theorem e_pStr (f : Sta → PR RV) : pStr f ⟨env, st⟩ = xStr (f ⟨env, st⟩) := by
  unfold pStr PR.bind xStr
  cases f ⟨env, st⟩ with
  | ok r => obtain ⟨k, d⟩ := r; cases d <;> rfl
  | exc e => rfl
  | stuck => rfl
theorem e_xStr (k : RK) (x : Str) : xStr (.ok ⟨k, .str x⟩) = .ok (signs x) := Eq.trans rfl rfl
def xInR (neg : Bool) : PR RV → PR (List RV) → PR RV
  | .ok r, .ok rs => PR.of (gInR neg r.d (rs.map RV.d))
  | .exc e, _ => .exc e
  | .stuck, _ => .stuck
  | .ok _, .exc e => .exc e
  | .ok _, .stuck => .stuck
theorem e_pInR (neg : Bool) (f : Sta → PR RV) (fs : Sta → PR (List RV)) : pInR neg f fs ⟨env, st⟩ = xInR neg (f ⟨env, st⟩) (fs ⟨env, st⟩) := by
  unfold pInR PR.bind xInR
  cases f ⟨env, st⟩ <;> cases fs ⟨env, st⟩ <;> rfl
theorem e_xInT (k k1 k2 : RK) (i lo hi : Int) : xInR true (.ok ⟨k, .int i⟩) (.ok [⟨k1, .int lo⟩, ⟨k2, .int hi⟩]) = .ok ⟨.sh, .bool (!decide (lo ≤ i ∧ i < hi))⟩ := by
  show PR.ok _ = _
  rw [Bool.true_bne]
theorem e_xInF (k k1 k2 : RK) (i lo hi : Int) : xInR false (.ok ⟨k, .int i⟩) (.ok [⟨k1, .int lo⟩, ⟨k2, .int hi⟩]) = .ok ⟨.sh, .bool (decide (lo ≤ i ∧ i < hi))⟩ := by
  show PR.ok _ = _
  rw [Bool.false_bne]
end
end MP

/-! MP 13: numbers as texts, texts cut and joined, f-texts, a written table asked. -/
namespace MP
open PySem PySem.Spec PyProof.Rows L2
section
variable {X : Cx} {T : Tab} {W : WX} {a b c e o x : Expr} {es : List Expr} {pos p p2 apos dpos : Pos} {fa fb fc fo fe : Sta → PR RV}
/-! ### str(int), int(text) -/
def strI (i : Int) : Str := toString i
def gStr : List D → Option RV
  | [.int i] => if i.natAbs.log2 < 1920 then some (sh (.str (strI i))) else none
  | _ => none
theorem ok_str : CallOk X (.type "str") gStr := by
  refine ⟨_, call_str_int, fun m M H ys ds res Q s a e k => ?_⟩
  unfold gStr at e
  split at e
  · rename_i i
    cases a with
    | cons a1 an =>
      cases an
      by_cases hz : i.natAbs.log2 < 1920
      · rw [if_pos hz] at e
        cases e
        exact ⟨i, by rw [a1.int], hz, k _ H M (Grow.refl s) (.str _)⟩
      · rw [if_neg hz] at e
        cases e
  · cases e
def gIntS : List D → Option RV
  | [.str z] => if z.length ≤ 640 then (PySem.intText? z).map fun n => sh (.int n) else none
  | _ => none
theorem ok_intS : CallOk X (.type "int") gIntS := by
  refine ⟨_, call_int_str, fun m M H ys ds res Q s a e k => ?_⟩
  unfold gIntS at e
  split at e
  · rename_i z
    cases a with
    | cons a1 an =>
      cases an
      by_cases hz : z.length ≤ 640
      · rw [if_pos hz] at e
        cases hn : PySem.intText? z with
        | none => rw [hn] at e; cases e
        | some n =>
          rw [hn, Option.map_some] at e
          cases e
          exact ⟨z, n, by rw [a1.str], hn, hz, k _ H M (Grow.refl s) (.int _)⟩
      · rw [if_neg hz] at e
        cases e
  · cases e
/-! ### a sign not in a text -/
def gNinS : D → D → Option RV
  | .str x, .str z => match x.cps.toList with
    | [c] => some (sh (.bool (!decide (c ∈ z.cps.toList))))
    | _ => none
  | _, _ => none
theorem ok_ninS : Op2Ok X (compareOp .NotIn) gNinS := by
  refine ⟨_, op_notIn_sign, fun m M H x y d1 d2 res Q s a1 a2 e k => ?_⟩
  cases d1 <;> try (cases e; done)
  cases d2 <;> try (cases e; done)
  rename_i u z
  dsimp only [gNinS] at e
  split at e
  · rename_i c hl
    cases e
    have hx : u = ⟨#[c]⟩ := by
      obtain ⟨a⟩ := u
      exact congrArg Str.mk (Array.toList_inj.mp hl)
    exact ⟨c, z, by rw [a1.str, hx], a2.str, k _ H M (Grow.refl s) (.bl _)⟩
  · cases e
/-! ### a text's method of one argument -/
def pM1 (g : Str → D → Option RV) (fo fe : Sta → PR RV) : Sta → PR RV := fun s => (fo s).bind fun r => match r.d with
  | .str z => (fe s).bind fun r2 => PR.of (g z r2.d)
  | _ => .stuck
def M1Ok (X : Cx) (r : V → List V → Hp → VK → Prop) (g : Str → D → Option RV) : Prop := ∀ m M H z y d res Q, Same M H → Arg X.K m M H y d → g z d = some res →
  (∀ w H' M', Grow H M H' M' → RR X.K m M' H H' w res → Q w H') → r (.str z) [y] H Q
theorem m1_of {r : V → List V → Hp → VK → Prop} {g : Str → D → Option RV} (hr : M1Ok X r g) {σ : L2.St} {H : Hp} {Q : VK} (h : tP X T W (pM1 g fo fe) σ H Q) : tM1 r (tP X T W fo) (tP X T W fe) σ H Q := by
  obtain ⟨s, m, M, G, R, q⟩ := h
  refine ⟨s, m, M, G, R, ?_⟩
  revert q
  unfold pM1 PR.bind
  cases fo s with
  | ok r1 =>
    intro q y1 H1 M1 g1 rr1
    obtain ⟨k1, d1⟩ := r1
    cases d1 <;> try (exact (show False from q).elim)
    rename_i z
    refine ⟨⟨z, rr1.arg.str⟩, s, m, M1, G, R.grow g1, ?_⟩
    revert q
    dsimp only
    cases fe s with
    | ok r2 =>
      intro q y2 H2 M2 g2 rr2
      dsimp only at q
      cases hg : g z r2.d with
      | none => simp only [hg, PR.of] at q
      | some res =>
        simp only [hg, PR.of] at q
        rw [rr1.arg.str]
        exact hr m M2 H2 z y2 _ res Q g2.mh rr2.arg hg fun w H' M' g3 rr3 => q w H' M' (g1.trans (g2.trans g3)) (rr3.since (g1.same.trans g2.same))
    | exc e => intro q cls d H' M' g2 x; exact q cls d H' M' (g1.trans g2) x
    | stuck => intro q; exact q
  | exc e => intro q; exact q
  | stuck => intro q; exact q
def gSplit (z : Str) : D → Option RV
  | .str y => if y.length ≠ 0 ∧ z.length ≤ 16000000 then some (fr (.list ((Txt.split z y).map D.str))) else none
  | _ => none
theorem DRs.strs {K : PySem.W.Frag} {m : List Addr} {H : Hp} : ∀ {ns : List Str}, DRs K m H (ns.map V.str) (ns.map D.str)
  | [] => .nil
  | _ :: _ => .cons (.str _) DRs.strs
theorem DRs.strs_of {K : PySem.W.Frag} {m : List Addr} {H : Hp} : ∀ {vs : List V} {ns : List Str}, DRs K m H vs (ns.map D.str) → vs = ns.map V.str
  | _, [], h => by cases h; rfl
  | _, n :: ns, h => by
    cases h with
    | cons h1 h2 =>
      cases h1
      rw [DRs.strs_of h2]
      rfl
theorem ev_split (ho : PEv X T W o fo) (he : PEv X T W e fe) (hs : starEach [e] X.env = [(false, eval e X.env)] := by rfl) (hbase : attributeBase o "split" X.env (eval o X.env) = eval o X.env := by rfl) (hline : (apos.endLine == pos.line) = true := by rfl) :
    PEv X T W (.Call (.Attribute o "split" apos) [e] [] pos) (pM1 gSplit fo fe) := by
  refine PE.wk (pe_split ho he hs hbase hline) fun σ H Q h => m1_of ?_ h
  intro m M H z y d res Q s a1 e k
  cases d <;> try (cases e; done)
  rename_i y'
  dsimp only [gSplit] at e
  by_cases hc : y'.length ≠ 0 ∧ z.length ≤ 16000000
  · rw [if_pos hc] at e
    cases e
    refine ⟨z, y', rfl, by rw [a1.str], beq_eq_false_iff_ne.mpr hc.1, by rw [sizeLine_eq]; omega, fun p hp => ?_⟩
    exact k _ _ M (Grow.fresh s hp) ⟨p, _, rfl, upd_same, .lst DRs.strs, s.free hp, hp⟩
  · rw [if_neg hc] at e
    cases e
def gPart (z : Str) : D → Option RV
  | .str y => if y.length ≠ 0 ∧ z.length ≤ 16000000 then some (sh (.tup [.str (Txt.partition z y).1, .str (Txt.partition z y).2.1, .str (Txt.partition z y).2.2])) else none
  | _ => none
theorem ev_part (ho : PEv X T W o fo) (he : PEv X T W e fe) (hs : starEach [e] X.env = [(false, eval e X.env)] := by rfl) (hbase : attributeBase o "partition" X.env (eval o X.env) = eval o X.env := by rfl) (hline : (apos.endLine == pos.line) = true := by rfl) :
    PEv X T W (.Call (.Attribute o "partition" apos) [e] [] pos) (pM1 gPart fo fe) := by
  refine PE.wk (pe_partition ho he hs hbase hline) fun σ H Q h => m1_of ?_ h
  intro m M H z y d res Q s a1 e k
  cases d <;> try (cases e; done)
  rename_i y'
  dsimp only [gPart] at e
  by_cases hc : y'.length ≠ 0 ∧ z.length ≤ 16000000
  · rw [if_pos hc] at e
    cases e
    refine ⟨z, y', rfl, by rw [a1.str], beq_eq_false_iff_ne.mpr hc.1, by rw [sizeLine_eq]; omega, fun p hp => ?_⟩
    have gs := Grow.share (o := .tup [.str (Txt.partition z y').1, .str (Txt.partition z y').2.1, .str (Txt.partition z y').2.2]) s hp
    exact k _ _ _ gs (.tup (SqT.of upd_same) (.cons (.str _) (.cons (.str _) (.cons (.str _) .nil))))
  · rw [if_neg hc] at e
    cases e
def strsOf : List D → Option (List Str)
  | [] => some []
  | .str z :: ds => (strsOf ds).map (z :: ·)
  | _ => none
theorem strsOf_eq : ∀ {ds : List D} {ns : List Str}, strsOf ds = some ns → ds = ns.map D.str
  | [], ns, h => by cases h; rfl
  | d :: ds, ns, h => by
    cases d <;> try (cases h; done)
    rename_i z
    unfold strsOf at h
    cases hi : strsOf ds with
    | none => rw [hi] at h; cases h
    | some ms =>
      rw [hi] at h
      cases h
      rw [strsOf_eq hi]
      rfl
theorem strsOf_map : ∀ ns : List Str, strsOf (ns.map D.str) = some ns
  | [] => rfl
  | n :: ns => by show (strsOf (ns.map D.str)).map (n :: ·) = _; rw [strsOf_map ns]; rfl
def gJoin (z : Str) (d : D) : Option RV := (seqOf d).bind fun ds => (strsOf ds).bind fun ys => if (ys.map (·.length)).sum + ys.length * z.length ≤ 16777216 then some (sh (.str (Txt.join z ys))) else none
theorem ev_join (ho : PEv X T W o fo) (he : PEv X T W e fe) (hs : starEach [e] X.env = [(false, eval e X.env)] := by rfl) (hbase : attributeBase o "join" X.env (eval o X.env) = eval o X.env := by rfl) (hline : (apos.endLine == pos.line) = true := by rfl) :
    PEv X T W (.Call (.Attribute o "join" apos) [e] [] pos) (pM1 gJoin fo fe) := by
  refine PE.wk (pe_join ho he hs hbase hline) fun σ H Q h => m1_of ?_ h
  intro m M H z y d res Q s a1 e k
  unfold gJoin at e
  cases hs : seqOf d with
  | none => rw [hs] at e; cases e
  | some ds =>
    rw [hs, Option.bind_some] at e
    cases hy : strsOf ds with
    | none => rw [hy] at e; cases e
    | some ys =>
      rw [hy, Option.bind_some] at e
      by_cases hz : (ys.map (·.length)).sum + ys.length * z.length ≤ 16777216
      · rw [if_pos hz] at e
        cases e
        obtain ⟨p, xs, rfl, h1, r1⟩ := a1.seq hs s
        rw [strsOf_eq hy] at r1
        rw [DRs.strs_of r1] at h1
        exact ⟨z, p, ys, rfl, rfl, h1, hz, k _ H M (Grow.refl s) (.str _)⟩
      · rw [if_neg hz] at e
        cases e
theorem g_joinL {z : Str} {ys : List Str} (h : (ys.map (·.length)).sum + ys.length * z.length ≤ 16777216) : gJoin z (.list (ys.map D.str)) = some ⟨.sh, .str (Txt.join z ys)⟩ := by
  unfold gJoin
  simp only [seqOf, Option.bind_some, strsOf_map]
  rw [if_pos h]
theorem g_splitW {z y : Str} (h : y.length ≠ 0 ∧ z.length ≤ 16000000) : gSplit z (.str y) = some ⟨.fr, .list ((Txt.split z y).map D.str)⟩ := if_pos h
theorem g_partW {z y : Str} (h : y.length ≠ 0 ∧ z.length ≤ 16000000) : gPart z (.str y) = some ⟨.sh, .tup [.str (Txt.partition z y).1, .str (Txt.partition z y).2.1, .str (Txt.partition z y).2.2]⟩ := if_pos h
/-! ### f-texts -/
/-- a part: a text or a number, as a text -/
def fmtD : D → Option Str
  | .str y => if y.length ≤ 16777216 then some y else none
  | .int i => if i.natAbs.log2 < 1920 then some (strI i) else none
  | _ => none
def pFmt (fa : Sta → PR RV) : Sta → PR RV := fun s => (fa s).bind fun r => PR.of ((fmtD r.d).map fun y => sh (.str y))
theorem ev_fmt (ha : PEv X T W e fa) : PEv X T W (.FormattedValue e (-1) none pos) (pFmt fa) := by
  refine PE.wk (pe_fmt ha) ?_
  rintro σ H Q ⟨s, m, M, G, R, q⟩
  refine ⟨s, m, M, G, R, ?_⟩
  revert q
  unfold pFmt PR.bind
  cases fa s with
  | ok r1 =>
    intro q y1 H1 M1 g1 rr1
    obtain ⟨k, d⟩ := r1
    dsimp only at q
    cases d <;> try (exact (show False from q).elim)
    · rename_i i
      dsimp only [fmtD] at q
      by_cases hz : i.natAbs.log2 < 1920
      · rw [if_pos hz] at q
        exact .inr ⟨i, rr1.arg.int, hz, q _ H1 M1 g1 (.str _)⟩
      · rw [if_neg hz] at q
        exact q.elim
    · rename_i z
      dsimp only [fmtD] at q
      by_cases hz : z.length ≤ 16777216
      · rw [if_pos hz] at q
        exact .inl ⟨z, rr1.arg.str, le_line hz, q _ H1 M1 g1 (.str _)⟩
      · rw [if_neg hz] at q
        exact q.elim
  | exc e => intro q; exact q
  | stuck => intro q; exact q
/-- four parts, one behind the other -/
def cat4 (a b c d : D) : Option RV := match a, b, c, d with
  | .str a, .str b, .str c, .str d => if a.length + b.length + c.length + d.length ≤ 16777216 then some (sh (.str (a ++ b ++ c ++ d))) else none
  | _, _, _, _ => none
def PR.quiet {α : Type} : PR α → PR α
  | .ok a => .ok a
  | _ => .stuck
def pJs4 (fa fb fc fd : Sta → PR RV) : Sta → PR RV := fun s => (fa s).bind fun r1 => (fb s).quiet.bind fun r2 => (fc s).quiet.bind fun r3 => (fd s).quiet.bind fun r4 => PR.of (cat4 r1.d r2.d r3.d r4.d)
theorem cat4_inv {a b c d : D} {res : RV} (h : cat4 a b c d = some res) : ∃ x y z w : Str, a = .str x ∧ b = .str y ∧ c = .str z ∧ d = .str w ∧ x.length + y.length + z.length + w.length ≤ 16777216 ∧ res = sh (.str (x ++ y ++ z ++ w)) := by
  unfold cat4 at h
  split at h
  · rename_i x y z w
    by_cases hc : x.length + y.length + z.length + w.length ≤ 16777216
    · rw [if_pos hc] at h
      exact ⟨x, y, z, w, rfl, rfl, rfl, rfl, hc, (Option.some.inj h).symm⟩
    · rw [if_neg hc] at h
      cases h
  · cases h
theorem app_len (x y : Str) : (x ++ y).length = x.length + y.length := by
  show (x.cps ++ y.cps).size = x.cps.size + y.cps.size
  rw [Array.size_append]
theorem emp_app (x : Str) : Str.empty ++ x = x := Str.ext' (by show #[] ++ x.cps = x.cps; simp)
theorem ev_js4 {d : Expr} {fd : Sta → PR RV} (ha : PEv X T W a fa) (hb : PEv X T W b fb) (hc : PEv X T W c fc) (hd : PEv X T W d fd) : PEv X T W (.JoinedStr [a, b, c, d] pos) (pJs4 fa fb fc fd) := by
  refine PE.wk (pe_joined (.cons ha (.cons hb (.cons hc (.cons hd .nil))))) ?_
  rintro σ H Q ⟨s, m, M, G, R, q⟩
  show tP X T W fa σ H _
  refine ⟨s, m, M, G, R, ?_⟩
  revert q
  unfold pJs4 PR.bind PR.quiet
  cases fa s with
  | ok r1 =>
    intro q y1 H1 M1 g1 rr1
    dsimp only at q
    have q' := q
    cases hb' : fb s with
    | ok r2 =>
      rw [hb'] at q
      dsimp only at q
      cases hc' : fc s with
      | ok r3 =>
        rw [hc'] at q
        dsimp only at q
        cases hd' : fd s with
        | ok r4 =>
          rw [hd'] at q
          dsimp only at q
          cases hg : cat4 r1.d r2.d r3.d r4.d with
          | none => simp only [hg, PR.of] at q
          | some res =>
            simp only [hg, PR.of] at q
            obtain ⟨x, y, z, w, e1, e2, e3, e4, hl, rfl⟩ := cat4_inv hg
            have a1 := rr1.arg
            rw [e1] at a1
            refine ⟨x, a1.str, by rw [emp_app]; exact le_line (by omega), ?_⟩
            rw [emp_app]
            show tP X T W fb σ H1 _
            refine ⟨s, m, M1, G, R.grow g1, ?_⟩
            rw [hb']
            intro y2 H2 M2 g2 rr2
            have a2 := rr2.arg
            rw [e2] at a2
            refine ⟨y, a2.str, le_line (by rw [app_len]; omega), ?_⟩
            show tP X T W fc σ H2 _
            refine ⟨s, m, M2, G, (R.grow g1).grow g2, ?_⟩
            rw [hc']
            intro y3 H3 M3 g3 rr3
            have a3 := rr3.arg
            rw [e3] at a3
            refine ⟨z, a3.str, le_line (by rw [app_len, app_len]; omega), ?_⟩
            show tP X T W fd σ H3 _
            refine ⟨s, m, M3, G, ((R.grow g1).grow g2).grow g3, ?_⟩
            rw [hd']
            intro y4 H4 M4 g4 rr4
            have a4 := rr4.arg
            rw [e4] at a4
            refine ⟨w, a4.str, le_line (by rw [app_len, app_len, app_len]; omega), ?_⟩
            exact q _ H4 M4 (g1.trans (g2.trans (g3.trans g4))) (.str _)
        | exc e => rw [hd'] at q; exact (show False from q).elim
        | stuck => rw [hd'] at q; exact (show False from q).elim
      | exc e => rw [hc'] at q; exact (show False from q).elim
      | stuck => rw [hc'] at q; exact (show False from q).elim
    | exc e => rw [hb'] at q; exact (show False from q).elim
    | stuck => rw [hb'] at q; exact (show False from q).elim
  | exc e => intro q; exact q
  | stuck => intro q; exact q
theorem hu1 {k : Nat} {A : Around} (hr : Room k A) : A.units + 1 < cLine := by have := hr.units; omega
/-! ### a written table of texts, asked at once -/
def tTr (kv : Str × Str) : TE × TE := (tC (.str kv.1), tC (.str kv.2))
def tabK (tab : List (Str × Str)) : List (Key × V) := tab.map fun kv => ((.inr kv.1 : Key), V.str kv.2)
theorem pairs_tab {σ : L2.St} {H : Hp} : ∀ {tab : List (Str × Str)} {Q : List (V × V) → Hp → Prop}, Q (tab.map fun kv => (V.str kv.1, V.str kv.2)) H → tPairs (tab.map tTr) σ H Q
  | [], Q, h => h
  | kv :: tab, Q, h => by
    show tPairs (tab.map tTr) σ H fun ps H3 => Q ((V.str kv.1, V.str kv.2) :: ps) H3
    exact pairs_tab h
theorem merge_nd : ∀ (more acc : List (Key × V)), ((acc ++ more).map Prod.fst).Nodup → mergeK acc more = acc ++ more
  | [], acc, _ => by show acc = _; simp
  | (k, v) :: more, acc, h => by
    have hk : k ∉ acc.map Prod.fst := fun hm => by
      rw [List.map_append] at h
      exact (List.nodup_append.mp h).2.2 _ hm _ (List.mem_cons_self ..) rfl
    have hp : putK acc k v = acc ++ [(k, v)] := by
      unfold putK
      rw [if_neg]
      intro ha
      obtain ⟨x, hx, e⟩ := List.any_eq_true.mp ha
      exact hk (List.mem_map.mpr ⟨x, hx, of_decide_eq_true e⟩)
    show mergeK (putK acc k v) more = _
    rw [hp, merge_nd more (acc ++ [(k, v)]) (by rw [List.append_assoc]; exact h), List.append_assoc]
    rfl
theorem val_tab {x y : Str} : ∀ {tab : List (Str × Str)}, tab.lookup x = some y → valV (tabK tab) (.inr x) = some (.str y)
  | (k, v) :: tab, h => by
    by_cases e : x = k
    · subst e
      rw [List.lookup_cons, BEq.rfl] at h
      cases h
      exact valV_pos rfl
    · have hb : (x == k) = false := beq_eq_false_iff_ne.mpr e
      rw [List.lookup, hb] at h
      show valV ((.inr k, V.str v) :: tabK tab) (.inr x) = _
      rw [valV_neg (fun q => e (by injection q with q; exact q.symm))]
      exact val_tab h
def gTab (tab : List (Str × Str)) : D → Option RV
  | .str x => (tab.lookup x).map fun y => sh (.str y)
  | _ => none
theorem ev_tab {keys : List (Option Expr)} {vals : List Expr} {fx : Sta → PR RV} (tab : List (Str × Str)) (hu : X.A.units + 1 < cLine) (hp : PPs X dpos keys vals (tab.map tTr)) (hall : keys.all (·.isSome) = true) (hl : keys.length = vals.length) (h0 : keys ≠ []) (h15 : keys.length ≤ 15)
    (ht : tab.length ≤ 15) (hnd : (tab.map Prod.fst).Nodup) (hx : PEv X T W x fx) (hs : NoSl x) : PEv X T W (.Subscript (.Dict keys vals dpos) x pos) (p1 (gTab tab) fx) := by
  refine PE.wk (pe_dget hu (pe_disp hp hall hl h0 h15) hx hs) ?_
  rintro σ H Q ⟨s, m, M, G, R, q⟩
  intro p hf
  refine pairs_tab ⟨upd_same, tabK tab, by unfold tabK; rw [List.map_map]; rfl, by unfold tabK; simpa using ht, ?_⟩
  have hm : mergeK [] (tabK tab) = tabK tab := by
    rw [merge_nd _ _ (by
      rw [List.nil_append]
      unfold tabK
      rw [List.map_map]
      have : (Prod.fst ∘ fun kv : Str × Str => ((.inr kv.1 : Key), V.str kv.2)) = (fun z : Str => (.inr z : Key)) ∘ Prod.fst := rfl
      rw [this, ← List.map_map]
      exact List.pairwise_map.mpr (hnd.imp fun h e => h (by injection e))), List.nil_append]
  rw [hm, upd_upd]
  have g0 := Grow.fresh (o := .dK (tabK tab)) R.mh hf
  show tP X T W fx σ _ _
  refine ⟨s, m, M, G, R.grow g0, ?_⟩
  revert q
  unfold p1 PR.bind
  cases fx s with
  | ok r1 =>
    intro q y1 H1 M1 g1 rr1
    obtain ⟨k, d⟩ := r1
    dsimp only at q
    cases d <;> try (exact (show False from q).elim)
    rename_i z
    dsimp only [gTab] at q
    cases hg : tab.lookup z with
    | none => simp only [hg, Option.map_none, PR.of] at q
    | some y =>
      simp only [hg, Option.map_some, PR.of] at q
      have e1 := rr1.arg.str
      subst e1
      have hH : H1 p = some (.dK (tabK tab)) := g1.same _ _ upd_same
      refine ⟨p, .str y, rfl, ?_, q _ H1 M1 (g0.trans g1) (.str _)⟩
      have := DGet.k (k := .inr z) hH
      rw [val_tab hg] at this
      exact this
  | exc e => intro q cls d H' M' g1 xr; exact q cls d H' M' (g0.trans g1) xr
  | stuck => intro q; exact q
/-! ### equations -/
variable {env : List Slot} {st : List Ob}
def xM1 (g : Str → D → Option RV) : PR RV → PR RV → PR RV
  | .ok ⟨_, .str z⟩, .ok ⟨_, d⟩ => PR.of (g z d)
  | .ok ⟨_, .str _⟩, .exc e => .exc e
  | .ok _, _ => .stuck
  | .exc e, _ => .exc e
  | .stuck, _ => .stuck
theorem e_pM1 (g : Str → D → Option RV) (fo fe : Sta → PR RV) : pM1 g fo fe ⟨env, st⟩ = xM1 g (fo ⟨env, st⟩) (fe ⟨env, st⟩) := by
  unfold pM1 PR.bind xM1
  cases fo ⟨env, st⟩ with
  | ok r =>
    obtain ⟨k, d⟩ := r
    cases d <;> cases fe ⟨env, st⟩ <;> rfl
  | exc e => rfl
  | stuck => rfl
theorem e_xM1 (g : Str → D → Option RV) (k k' : RK) (z : Str) (d : D) : xM1 g (.ok ⟨k, .str z⟩) (.ok ⟨k', d⟩) = PR.of (g z d) := Eq.trans rfl rfl
def xFmt : PR RV → PR RV
  | .ok ⟨_, d⟩ => PR.of ((fmtD d).map fun y => ⟨.sh, .str y⟩)
  | .exc e => .exc e
  | .stuck => .stuck
theorem e_pFmt (f : Sta → PR RV) : pFmt f ⟨env, st⟩ = xFmt (f ⟨env, st⟩) := by
  unfold pFmt PR.bind xFmt
  cases f ⟨env, st⟩ <;> rfl
theorem e_xFmtI (k : RK) {i : Int} (h : i.natAbs.log2 < 1920) : xFmt (.ok ⟨k, .int i⟩) = .ok ⟨.sh, .str (strI i)⟩ := by
  show PR.of ((fmtD (.int i)).map _) = _
  unfold fmtD
  simp only []
  rw [if_pos h]
  rfl
def xJs4 : PR RV → PR RV → PR RV → PR RV → PR RV
  | .ok r1, .ok r2, .ok r3, .ok r4 => PR.of (cat4 r1.d r2.d r3.d r4.d)
  | .exc e, _, _, _ => .exc e
  | _, _, _, _ => .stuck
theorem e_pJs4 (fa fb fc fd : Sta → PR RV) : pJs4 fa fb fc fd ⟨env, st⟩ = xJs4 (fa ⟨env, st⟩) (fb ⟨env, st⟩) (fc ⟨env, st⟩) (fd ⟨env, st⟩) := by
  unfold pJs4 PR.bind PR.quiet xJs4
  cases fa ⟨env, st⟩ <;> cases fb ⟨env, st⟩ <;> cases fc ⟨env, st⟩ <;> cases fd ⟨env, st⟩ <;> rfl
theorem e_xJs4 {k1 k2 k3 k4 : RK} {a b c d : Str} (h : a.length + b.length + c.length + d.length ≤ 16777216) : xJs4 (.ok ⟨k1, .str a⟩) (.ok ⟨k2, .str b⟩) (.ok ⟨k3, .str c⟩) (.ok ⟨k4, .str d⟩) = .ok ⟨.sh, .str (a ++ b ++ c ++ d)⟩ := by
  show PR.of (cat4 (.str a) (.str b) (.str c) (.str d)) = _
  unfold cat4
  simp only []
  rw [if_pos h]
  rfl
theorem g_str {i : Int} (h : i.natAbs.log2 < 1920) : gStr [.int i] = some ⟨.sh, .str (strI i)⟩ := if_pos h
end
theorem strI_1 {n : Nat} (h : n < 10) : strI (n : Int) = sw [48 + n] := by
  refine Str.ext' (Array.toList_inj.mp ?_)
  have e : (strI (n : Int)).cps.toList = TL.numL n := TL.tl_num n
  rw [e, TL.numL_lt h]
  rfl
theorem int_1 {n : Nat} (h : n < 10) : gIntS [.str (sw [48 + n])] = some ⟨.sh, .int (n : Nat)⟩ := by
  have e : gIntS [.str (sw [48 + n])] = if (sw [48 + n]).length ≤ 640 then (PySem.intText? (sw [48 + n])).map fun n => sh (.int n) else none := rfl
  rw [e, if_pos (by rw [sw_len]; simp)]
  have h2 : PySem.intText? (sw [48 + n]) = some (n : Int) := by
    rw [← strI_1 h]
    exact TL.int_num (by rw [TL.numL_lt h]; simp)
  rw [h2]
  rfl
theorem log_1 {n : Nat} (h : n < 10) : ((n : Int)).natAbs.log2 < 1920 := by
  have : ((n : Int)).natAbs = n := by omega
  rw [this]
  have h2 : ∀ m : Fin 10, Nat.log2 m.val < 1920 := by decide
  exact h2 ⟨n, h⟩
end MP

/-! MP 14: xs.insert(i, e), text.find(text). -/
namespace MP
open PySem PySem.Spec PyProof.Rows L2
section
variable {X : Cx} {T : Tab} {W : WX} {a b c e e1 o x : Expr} {es : List Expr} {pos p p2 apos dpos : Pos} {fa fb fc fo fe : Sta → PR RV}
/-! ### text.find(text) -/
def gFind (z : Str) : D → Option RV
  | .str y => some (sh (.int (Txt.find z y)))
  | _ => none
theorem ev_find (ho : PEv X T W o fo) (he : PEv X T W e fe) (hs : starEach [e] X.env = [(false, eval e X.env)] := by rfl) (hbase : attributeBase o "find" X.env (eval o X.env) = eval o X.env := by rfl) (hline : (apos.endLine == pos.line) = true := by rfl) :
    PEv X T W (.Call (.Attribute o "find" apos) [e] [] pos) (pM1 gFind fo fe) := by
  refine PE.wk (pe_m1 F.slot_str_find F.type_str_find mt_find ho he hs hbase hline) fun σ H Q h => m1_of ?_ h
  intro m M H z y d res Q s a1 e k
  cases d <;> try (cases e; done)
  rename_i y'
  cases e
  exact ⟨z, y', rfl, by rw [a1.str], k _ H M (Grow.refl s) (.int _)⟩
/-! ### None in a tuple of data that is flat or tuples -/
def isTupD : D → Bool
  | .tup _ => true
  | _ => false
def isND : D → Bool
  | .none => true
  | _ => false
def gNoneIn : D → D → Option RV
  | .none, .tup ds => if ds.all (fun d => flatD d || isTupD d) = true then some (sh (.bool (ds.any isND))) else none
  | _, _ => none
def FlTup (K : PySem.W.Frag) (H : Hp) (z : V) : Prop := flatV z = true ∨ ∃ q ys, z = .ref q ∧ SqT K H q ys
def rNoneT (K : PySem.W.Frag) : R2 := fun x y H Q => ∃ p xs, x = .non ∧ y = .ref p ∧ SqT K H p xs ∧ (∀ z ∈ xs, FlTup K H z) ∧ Q (.bl (xs.any isNon)) H
theorem isNone_T {z : V} {u : Value} {K : PySem.W.Frag} {H : Hp} (r : RelV z u) (f : FlTup K H z) : PySem.Numpy.isNone u = isNon z := by
  rcases f with f | ⟨q, ys, rfl, _⟩
  · cases z <;> first
      | (cases r; rfl)
      | (obtain ⟨t, rfl⟩ := r; rfl)
      | (exact absurd (show false = true from f) Bool.false_ne_true)
  · cases r; rfl
theorem any_T {K : PySem.W.Frag} {H : Hp} : ∀ {xs : List V} {us : List Value}, Vals xs us → (∀ z ∈ xs, FlTup K H z) → us.any PySem.Numpy.isNone = xs.any isNon
  | _, _, .nil, _ => rfl
  | y :: xs, u :: us, .cons r t, f => by
    rw [List.any_cons, List.any_cons, isNone_T r (f y (List.mem_cons_self ..)), any_T t fun z hz => f z (List.mem_cons_of_mem _ hz)]
theorem noneT_eq {A : Around} {pins : List (Addr × Obj)} {σ : L2.St} {H : Hp} {s : Shared} (I : Inv X pins σ H s) (hu : A.units < cLine) {z : V} {u : Value} (r : RelV z u) (f : FlTup X.K H z) : SeqAt.EqAt A s u .none (PySem.Numpy.isNone u) := by
  have e := isNone_T r f
  rcases f with f | ⟨q, ys, rfl, hq⟩
  · have h := eqAt_V (A := A) (s := s) r (show RelV .non .none from rfl) f rfl
    rw [e]
    have : eqV z .non = isNon z := by cases z <;> first | rfl | exact absurd (show false = true from f) Bool.false_ne_true
    rw [← this]
    exact h
  · cases r
    obtain ⟨its, _, hl, _⟩ := I.tuple hq
    exact SeqAt.EqAt.tuple_none hl hu
theorem mem_T {A : Around} {pins : List (Addr × Obj)} {σ : L2.St} {H : Hp} {s : Shared} (I : Inv X pins σ H s) (hu : A.units < cLine) : ∀ {xs : List V} {us : List Value}, Vals xs us → (∀ z ∈ xs, FlTup X.K H z) → ∀ u ∈ us, SeqAt.EqAt A s u .none (PySem.Numpy.isNone u)
  | _, _, .nil, _ => fun u hu' => by cases hu'
  | y :: xs, u :: us, .cons r t, f => fun u' hu' => by
    rcases List.mem_cons.mp hu' with e | hu'
    · subst e
      exact noneT_eq I hu r (f y (List.mem_cons_self ..))
    · exact mem_T I hu t (fun z hz => f z (List.mem_cons_of_mem _ hz)) u' hu'
theorem op_noneT (hu : X.A.units + 65 < cLine) : OpR X (compareOp .In) (rNoneT X.K) := by
  intro pins s σ H x y v u Q I rx ry h
  obtain ⟨p, xs, rfl, rfl, hq, f, q⟩ := h
  cases rx
  cases ry
  obtain ⟨its, rv, hl, _⟩ := I.tuple hq
  have hu1 : X.A.in1.units < cLine := by show X.A.units + 1 < cLine; omega
  refine SeqAt.in_tupleAt PySem.Numpy.isNone hl (fun z hz => mem_T I hu1 rv f z (by simpa using hz)) ⟨.bl _, H, I, rfl, ?_⟩
  rw [show its.toArray.any PySem.Numpy.isNone = its.any PySem.Numpy.isNone by simp, any_T rv f]
  exact q
theorem drs_T {K : PySem.W.Frag} {m : List Addr} {H : Hp} : ∀ {vs : List V} {ds : List D}, DRs K m H vs ds → ds.all (fun d => flatD d || isTupD d) = true → (∀ z ∈ vs, FlTup K H z) ∧ vs.any isNon = ds.any isND
  | _, _, .nil, _ => ⟨fun z hz => (by cases hz), rfl⟩
  | _, _, .cons (v := v) (d := d) r t, f => by
    rw [List.all_cons, Bool.and_eq_true] at f
    obtain ⟨h1, h2⟩ := drs_T t f.2
    have h3 : FlTup K H v ∧ isNon v = isND d := by
      cases r with
      | non => exact ⟨.inl rfl, rfl⟩
      | bl b => exact ⟨.inl rfl, rfl⟩
      | int i => exact ⟨.inl rfl, rfl⟩
      | str x => exact ⟨.inl rfl, rfl⟩
      | tup a b => exact ⟨.inr ⟨_, _, rfl, a⟩, rfl⟩
      | _ => cases f.1
    refine ⟨fun z hz => ?_, by rw [List.any_cons, List.any_cons, h2, h3.2]⟩
    rcases List.mem_cons.mp hz with rfl | hz
    · exact h3.1
    · exact h1 z hz
theorem ok_noneIn (hu : X.A.units + 65 < cLine) : Op2Ok X (compareOp .In) gNoneIn := by
  refine ⟨_, op_noneT hu, fun m M H x y d1 d2 res Q s a1 a2 e k => ?_⟩
  unfold gNoneIn at e
  split at e
  · rename_i ds
    by_cases hc : ds.all (fun d => flatD d || isTupD d) = true
    · rw [if_pos hc] at e
      cases e
      cases a1.dr s
      cases a2.dr s with
      | tup hq hd =>
        obtain ⟨h1, h2⟩ := drs_T hd hc
        exact ⟨_, _, rfl, rfl, hq, h1, by rw [h2]; exact k _ H M (Grow.refl s) (.bl _)⟩
    · rw [if_neg hc] at e; cases e
  · cases e
/-! ### xs.insert(i, e), e an expression that may change objects -/
def insK (i : Nat) (j : Int) : Slot → Sta → Fl := fun r s' => match r, s'.env[i]? with
  | .v d, some (.own (.list ds)) => if ds.length < 16777216 ∧ 0 ≤ j ∧ j < 9223372036854775808 then .nx { s' with env := s'.env.set i (.own (.list (ds.take j.toNat ++ [d] ++ ds.drop j.toNat))) } else .stuck
  | _, _ => .stuck
def sIns (i : Nat) (f : Sta → PR RV) (g : Sta → Fe) : Sta → Fl := fun s => match s.env[i]? with
  | some (.own (.list _)) => match f s with
    | .ok r => match r.d with
      | .int j => (g s).fl (insK i j)
      | _ => .stuck
    | .exc e => .exc e s
    | .stuck => .stuck
  | _ => .stuck
theorem s_ins {al : Bool} {i : Nat} {x : Str} {f : Sta → PR RV} {g : Sta → Fe} {px apos cpos : Pos} (hx : PE X (.Name x px) (tVar i)) (h1 : PEv X T W e1 f) (he : FEv X T W al e g)
    (hbase : attributeBase (.Name x px) "insert" X.env (eval (.Name x px) X.env) = eval (.Name x px) X.env := by rfl)
    (hfew : ((backTo cpos (starEach [e1, e] X.env)).all (fun x => !x.1) && (backToKw cpos (keywordEach [] X.env)).all (fun x => x.1.isSome)
      && decide ([e1, e].length + ([] : List Keyword).length + (if ([] : List Keyword).isEmpty then 0 else 1) < 30)) = true := by rfl)
    (hline : (apos.endLine == cpos.line) = true := by rfl) (hs1 : starEach [e1, e] X.env = (false, eval e1 X.env) :: starEach [e] X.env := by rfl) (hs : starEach [e] X.env = (false, eval e X.env) :: starEach [] X.env := by rfl) (hplain : (backTo cpos (starEach [e] X.env)).any (·.1) = false := by rfl)
    (hsw : swapsWith (.Call (.Attribute (.Name x px) "insert" apos) [e1, e] [] cpos) none pos.line X.env = pure false := by rfl) :
    SE1 X T W al (.Expr (.Call (.Attribute (.Name x px) "insert" apos) [e1, e] [] cpos) pos) (sIns i f g) := by
  refine PS.wk (ps_expr (pe_bm PySem.F.plainAttrs_list PySem.F.slot_list_insert PySem.F.type_list_insert mt_insert hx (pa_cons h1 (pa_cons he pa_nil hs) hs1) hbase hfew hline hs1 hplain) hsw) fun D σ H h => ?_
  obtain ⟨s, m, M, G, R, a, q⟩ := h
  unfold sIns at q
  split at q
  · rename_i ds0 hds
    obtain ⟨b, xs, hσ, hb, hd⟩ := R.ownL hds
    refine ⟨_, hσ, .inl ⟨rfl, xs, SqL.of hb⟩, s, m, M, G, R, ?_⟩
    cases hf : f s with
    | ok r =>
      rw [hf] at q
      obtain ⟨kk, d⟩ := r
      cases d <;> try (exact q.elim)
      rename_i j
      simp only [] at q
      intro z H1 M1 g1 rr
      refine tF_fl (k := insK i j) (R.grow g1) a (q.ext (Ext.grow g1 R.gh)) fun r s' y H' m' M' e' a' R' k => ?_
      unfold insK at k
      split at k
      · rename_i d ds hds2
        by_cases hl : ds.length < 16777216 ∧ 0 ≤ j ∧ j < 9223372036854775808
        · rw [if_pos hl] at k
          obtain ⟨b2, xs2, hσ2, hb2, hd2⟩ := R'.tail.ownL hds2
          rw [hσ] at hσ2
          cases hσ2
          refine ⟨b, xs2, j, y, rfl, by rw [rr.arg.int], hb2, by rw [hd2.length, sizeLine_eq]; exact hl.1, hl.2.1, hl.2.2, ?_⟩
          exact k σ _ m' M' (Ext.refl ..) a' (R'.tail.mut hds2 hσ (.lst (((hd2.take j.toNat).append (.cons R'.head .nil)).append (hd2.drop j.toNat))))
        · rw [if_neg hl] at k; exact k.elim
      · exact k.elim
    | exc ex => rw [hf] at q; exact fun cls d H' M' g xr => q cls d σ H' m M' (Ext.grow g R.gh) a (R.grow g) xr
    | stuck => rw [hf] at q; exact q.elim
  · exact q.elim
end
/-! ### as equations -/
section
variable {env : List Slot} {st : List Ob}
theorem g_noneIn {ds : List D} (h : ds.all (fun d => flatD d || isTupD d) = true) : gNoneIn .none (.tup ds) = some ⟨.sh, .bool (ds.any isND)⟩ := if_pos h
theorem g_find (z y : Str) : gFind z (.str y) = some ⟨.sh, .int (Txt.find z y)⟩ := Eq.trans rfl rfl
def xInG (i : Nat) (j : Int) (d : D) (env : List Slot) (st : List Ob) : Option Slot → Fl
  | some (.own (.list ds)) => if ds.length < 16777216 ∧ 0 ≤ j ∧ j < 9223372036854775808 then .nx ⟨env.set i (.own (.list (ds.take j.toNat ++ [d] ++ ds.drop j.toNat))), st⟩ else .stuck
  | _ => .stuck
def xInF (i : Nat) (j : Int) : Fe → Fl
  | .ok (.v d) ⟨env, st⟩ => xInG i j d env st env[i]?
  | .ok _ _ => .stuck
  | .exc e s => .exc e s
  | .stuck => .stuck
def xInE (i : Nat) (env : List Slot) (st : List Ob) : Option Slot → PR RV → Fe → Fl
  | some (.own (.list _)), .ok ⟨_, .int j⟩, x => xInF i j x
  | some (.own (.list _)), .ok _, _ => .stuck
  | some (.own (.list _)), .exc e, _ => .exc e ⟨env, st⟩
  | _, _, _ => .stuck
theorem fe_insK (i : Nat) (j : Int) (x : Fe) : x.fl (insK i j) = xInF i j x := by
  unfold Fe.fl xInF
  rcases x with ⟨r, ⟨env', st'⟩⟩ | ⟨e, s⟩ | _ <;> try rfl
  unfold insK
  rcases r with _ | d | d | d
  · rfl
  · simp only [xInG]
    rcases env'[i]? with _ | (_ | d | d | d) <;> try rfl
    cases d <;> rfl
  · rfl
  · rfl
theorem s_Ins (i : Nat) (f : Sta → PR RV) (g : Sta → Fe) : sIns i f g ⟨env, st⟩ = xInE i env st env[i]? (f ⟨env, st⟩) (g ⟨env, st⟩) := by
  unfold sIns xInE
  rcases env[i]? with _ | (_ | d | d | d) <;> try rfl
  cases d <;> try rfl
  simp only []
  cases f ⟨env, st⟩ with
  | ok r =>
    obtain ⟨k, d⟩ := r
    cases d <;> try rfl
    simp only [fe_insK]
  | exc e => rfl
  | stuck => rfl
theorem s_xInE (i : Nat) (ds : List D) (k : RK) (j : Int) (x : Fe) : xInE i env st (some (.own (.list ds))) (.ok ⟨k, .int j⟩) x = xInF i j x := Eq.trans rfl rfl
theorem s_xInF (i : Nat) (j : Int) (d : D) : xInF i j (.ok (.v d) ⟨env, st⟩) = xInG i j d env st env[i]? := Eq.trans rfl rfl
theorem s_xInG {i : Nat} {j : Int} {d : D} {ds : List D} (h : ds.length < 16777216 ∧ 0 ≤ j ∧ j < 9223372036854775808) : xInG i j d env st (some (.own (.list ds))) = .nx ⟨env.set i (.own (.list (ds.take j.toNat ++ [d] ++ ds.drop j.toNat))), st⟩ := if_pos h
end
end MP

/-! MP 15: a list comprehension whose element may raise. -/
namespace MP
open PySem PySem.Spec PyProof.Rows L2

/-! ### noted by the frame, whatever place of another frame it was noted at -/
section
open HandSPX
variable {M : Model} {A : Around} {E : Value → Shared → Prop} {s : Shared} {Z : Obj → Prop} {base : Heap} {env : Env} {outer l : List Env} {L e : Addr}
theorem looks_anyZ {fl : Value} {Q : Unit → Shared → Prop} (hZ : Steady Z) (hfr : A.frames = some (env :: outer)) (hf : env.frame = some L)
    (hkb : base.StaysIn s.heap) (hen : base.get? e = none) (hl : s.heap.FunFrames base (env :: outer)) (ht : TracedZ s.heap base e Z fl) (hne : (fl == rawInt L) = false)
    (hQ : ∀ h', HeldZ base (env :: outer) e Z L h' → s.heap.UpToSlots h' → Q () { s with heap := h' }) : wpAny M A (noteFrame (.ref e) env) Q E s := by
  obtain ⟨oe, vs, T, oT, ts, he, hz, hd, h1, hnT, hTe, hT, hdT, h3⟩ := ht
  unfold noteFrame
  simp only [hf]
  refine wpAny_bind (wpAny_field he hd h1 ?_)
  rw [if_pos (show (Value.ref T != Value.none) = true from by simp)]
  refine wpAny_bind (wpAny_field hT hdT h3 ?_)
  rw [if_neg (show ¬ ((fl == rawInt L) = true) from by rw [hne]; exact Bool.false_ne_true)]
  refine wpAny_bind (wpAny_setField hT hdT (Array.getElem?_eq_some_iff.mp h3).1 ?_)
  have other : ∀ b, b ≠ T → (s.heap.update T (Obj.mapFields (·.setIfInBounds 3 Value.none))).get? b = s.heap.get? b := fun b hb => Heap.get?_update_other _ _ (Ne.symm hb)
  have noRecord : ∀ b o, s.heap.get? b = some o → (∀ vs, o.data ≠ .fields vs) → b ≠ T := fun b o hb hnf q => by
    rw [q, hT] at hb; injection hb with hb; subst hb; exact hnf ts hdT
  refine wpAny_entryZ hZ hfr (hl.of_keeps fun b o hb hnf => ⟨o, (other b (noRecord b o hb hnf)).trans hb, rfl⟩) hf ((other e (Ne.symm hTe)).trans he)
    (fun b o hbo => (other b fun q => by rw [q, hnT] at hbo; cases hbo).trans (hkb b o hbo)) hen hd (Array.getElem?_eq_some_iff.mp h1).1 hz fun h' hN => ?_
  obtain ⟨x1, x2, x3, x4⟩ := hN
  exact hQ h' ⟨x1, hen, x2, x3⟩ fun b o hb hnf => x4 b o ((other b (noRecord b o hb hnf)).trans hb) hnf
theorem rawInt_ne {a b : Addr} (h : a ≠ b) : (rawInt a == rawInt b) = false := by
  refine beq_eq_false_iff_ne.mpr fun e => h ?_
  unfold rawInt at e
  first
    | (injection e with e; exact Int.ofNat.inj e)
    | (injection e with e _; exact Int.ofNat.inj e)
    | (simp at e; omega)
    | simpa using e
end

/-! ### an exception out of a block is in the def's air -/
section
variable {X : Cx} {pins : List (Addr × Obj)} {σ : L2.St} {H3 : Hp} {s3 : Shared} {W W' : WX} {scope : Scope} {ce : Env} {fp : List Addr} {pn : List (Addr × Obj)} {xe : Value → Shared → Prop}
theorem takes_blk (hs : X.stack = X.env :: X.outer) (hf : X.env.frame = some X.env.locals) (tk : Takes X W) (I3 : Inv X pins σ H3 s3) (hcf : ce.frame = X.env.frame) (hcl : ce.locals = s3.heap.objs.size)
    (f3 : ∀ b ∈ fp, FpOk X pins H3 b) (hW : ∀ c d σ' H', W' c d σ' H' → W c d σ H')
    {u : Value} {t : Shared} (x : XE ((X.blk s3 H3 scope ce fp).tr pn xe) W' u t) : notedBy (model X.prog X.w) X.A ce (CompFails (model X.prog X.w) X.A X.xe ce) u t := by
  obtain ⟨a, B, t0, pins2, σ2, H2, cls, d, rfl, J0, below, up, sky, na, os, bare, w⟩ := x
  have frames : X.A.frames = some (X.env :: X.outer) := by rw [I3.ok.frames, hs]
  have sky : Sky B X.stack a (Zc cls d) ce.locals t.heap := sky
  have below : ∀ b o, t0.heap.get? b = some o → b ∉ frs X.stack → B.get? b = some o := below
  rw [hs] at sky
  have hCL : ce.locals ≠ X.env.locals := by
    rw [hcl]
    exact Nat.ne_of_gt I3.lt
  have fin : ∀ h1, HandSPX.HeldZ B (X.env :: X.outer) a (Zc cls d) X.env.locals h1 → t.heap.UpToSlots h1 → CompFails (model X.prog X.w) X.A X.xe ce (.ref a) { t with heap := h1 } := by
    intro h1 hh up1
    obtain ⟨m, hn, _⟩ := J0.loc
    have hn0 : t0.heap.Ns ce.locals m := hn
    have hn1 : h1.Ns ce.locals m := hn0.upToSlots (up.trans up1)
    refine ⟨m, hn1, fun h2 m2 hn2 hs2 => ?_⟩
    obtain ⟨b1, b0, f1, oe, vs, T, oT, ts, he, hz, hd, hv1, hnT, hTe, hT, hdT, hv3⟩ := hh
    obtain ⟨oL, es, ep, hoL, hdL, _⟩ := id hn1
    have aC : a ≠ ce.locals := fun q => by
      rw [q, hoL] at he
      cases he
      rw [hdL] at hd
      cases hd
    have tC : T ≠ ce.locals := fun q => by
      rw [q, hoL] at hT
      cases hT
      rw [hdL] at hdT
      cases hdT
    have hid : ∀ {h : Heap} {b : Addr} {o : Obj}, (PySem.W.hideAll h [ce.locals]).get? b = some o → h.get? b = some o ∧ b ≠ ce.locals := fun {h b o} q => by
      refine ⟨PySem.W.of_hideAll _ q, fun z => ?_⟩
      have := PySem.W.hideAll_none (h := h) [ce.locals] (b := b) (by rw [z]; exact List.mem_cons_self)
      rw [this] at q
      cases q
    have hno : ∀ {h : Heap} {b : Addr}, h.get? b = none → (PySem.W.hideAll h [ce.locals]).get? b = none := fun {h b} q => by
      cases z : (PySem.W.hideAll h [ce.locals]).get? b with
      | none => rfl
      | some o =>
        rw [(hid z).1] at q
        cases q
    have keep : ∀ {h : Heap} {b : Addr} {o : Obj}, h.get? b = some o → b ≠ ce.locals → (PySem.W.hideAll h [ce.locals]).get? b = some o := fun {h b o} q n =>
      PySem.W.hideAll_get _ q (by simp [n])
    have f2 : h2.FunFrames (PySem.W.hideAll B [ce.locals]) (X.env :: X.outer) := by
      have z : h2.FunFrames B (X.env :: X.outer) := Heap.FunFrames.sameBut hs2 hn2 f1
      exact funFrames_none z fun L hL => hno (z.mem hL).1
    have held : HandSPX.HeldZ (PySem.W.hideAll B [ce.locals]) (X.env :: X.outer) a (Zc cls d) X.env.locals h2 := by
      refine ⟨fun b o hb => ?_, hno b0, f2, oe, vs, T, oT, ts, (hs2.2 a aC).trans he, hz, hd, hv1, hno hnT, hTe, (hs2.2 T tC).trans hT, hdT, hv3⟩
      obtain ⟨z1, z2⟩ := hid hb
      exact (hs2.2 b z2).trans (b1 b o z1)
    unfold PySem.passOn
    refine wpAny_bind (wpAny_field ((hs2.2 a aC).trans he) hd hv1 ?_)
    rw [if_neg (show ¬ ((Value.ref T == Value.none) = true) from by simp)]
    rw [hcf, hf]
    have out : wpAny (model X.prog X.w) X.A (setFlight (.ref a) (some X.env.locals)) (fun _ s4 => wpAny (model X.prog X.w) X.A
        (throw (.ref a) : PySem.Sem Value) (fun _ _ => False) X.xe s4) X.xe { t with heap := h2 } := by
      refine HandSPX.setFlight_onZ (s := { t with heap := h2 }) held fun h4 held4 up4 => ?_
      refine wpAny_throw (tk _ _ ⟨a, PySem.W.hideAll B [ce.locals], { t0 with heap := PySem.W.hideAll t0.heap [ce.locals] }, pins, σ, H2, cls, d, rfl, ?_, ?_, ?_, .inr (.inr (hs ▸ held4)), na, os, bare, hW _ _ _ _ w⟩)
      · refine I3.call' (ch := fp) J0.os ?_ ?_ J0.bare fun b hb => ⟨(f3 b hb).2.2.2.1, (f3 b hb).2.1, (f3 b hb).2.2.2.2.1, (f3 b hb).2.2.2.2.2⟩
        · have u : Un (frs X.stack) fp H3 H2 s3.heap t0.heap := J0.base
          have ne : ∀ {b : Addr} {o : Obj}, s3.heap.get? b = some o → b ≠ ce.locals := fun {b o} q => by
            rw [hcl]
            exact Nat.ne_of_lt (Heap.lt_size q)
          exact {
            keep := fun b o q n hb hx => keep (u.keep b o q n hb hx) (ne q)
            slot := fun b o q n hb hx => by
              obtain ⟨sl, z⟩ := u.slot b o q n hb hx
              exact ⟨sl, keep z (ne q)⟩
            free := u.free
            there := fun b o q hx => by
              obtain ⟨o', z⟩ := u.there b o q hx
              exact ⟨o', keep z (ne q)⟩
            tups := u.tups
            frzs := u.frzs
            tbls := u.tbls }
        · intro b v q
          have nC : H2 ce.locals = none := J0.free
          refine (J0.hok b v q).stay (fun c o hc r => keep r fun z => ?_) (fun _ r => r) (fun _ _ r => r)
          rw [z] at hc
          rcases hc with hc | hc
          · rw [hc, q] at nC
            cases nC
          · rw [hc] at nC
            cases nC
      · intro b o q hb
        obtain ⟨z1, z2⟩ := hid q
        exact keep (below b o z1 hb) z2
      · intro b o q hnf
        obtain ⟨z1, z2⟩ := hid q
        obtain ⟨sl, e1⟩ := up.trans up1 b o z1 hnf
        have e2 : h2.get? b = some { o with slots := sl } := (hs2.2 b z2).trans e1
        obtain ⟨sl2, e3⟩ := up4 b _ e2 hnf
        exact ⟨sl2, e3⟩
    first
      | exact wpAny_bind (wpAny_pure (wpAny_bind out))
      | exact wpAny_bind out
  show wpAny (model X.prog X.w) X.A (noteFrame (.ref a) ce) _ _ _
  rw [noteFrame_env _ hcf]
  rcases sky with ⟨hB, hn, hl, oe, vs, he, hz, hd, h1⟩ | fl | hh
  · exact HandSPX.look_newZ Zc.steady frames hl hf he hB hn hd h1 hz fin
  · exact HandSPX.looks_onZ Zc.steady frames hf fl fin
  · exact looks_anyZ Zc.steady frames hf hh.1 hh.2.1 hh.2.2.1 hh.2.2.2 (rawInt_ne hCL) fin
theorem Inv.inTr {X : Cx} {pins : List (Addr × Obj)} {σ : L2.St} {H : Hp} {s : Shared} (I : Inv X pins σ H s) (xe : Value → Shared → Prop) : Inv (X.tr X.pn xe) pins σ H s :=
  ⟨I.ok.toTry _ _, I.os, I.bare, I.base, I.loc, I.cell, I.free, I.freeC, I.pin, I.hok, I.len⟩
theorem Inv.outTr {X : Cx} {pins : List (Addr × Obj)} {σ : L2.St} {H : Hp} {s : Shared} {xe : Value → Shared → Prop} (I : Inv (X.tr X.pn xe) pins σ H s) (ok : X.Ok) : Inv X pins σ H s :=
  ⟨ok, I.os, I.bare, I.base, I.loc, I.cell, I.free, I.freeC, I.pin, I.hok, I.len⟩
end
section
variable {X : Cx} {W W' : WX}
theorem lc_coreX {pins : List (Addr × Obj)} {s : Shared} {σ : L2.St} {H : Hp} {Q : VK} {elt tg iter : Expr} {ifs : List Expr} {scope : Scope} {own : List (Str × Nat)} {pos pos' : Pos} {wi : TI} {g : TG} {tt : TT} {te : TE} {use : Option (Value → PySem.Sem Unit)} {Qf : Value → Shared → Prop}
    (hs1 : X.stack = X.env :: X.outer) (hf : X.env.frame = some X.env.locals) (tk : Takes X W) (hW : ∀ c d σ' H', W' c d σ' H' → W c d σ H')
    (hc : X.calm = true) (hN : X.N.Nodup) (I : Inv X pins σ H s) (hi : PI X tg iter wi) (ok : BlkOk X.N X.env.scope scope own)
    (hg : ∀ (s : Shared) (H : Hp) (C : Addr) (cl : List (Str × Addr)) (fp : List Addr), PG (X.blk s H scope (compEnvC scope cl C X.env) fp) tg g) (ht : ∀ (s : Shared) (H : Hp) (C : Addr) (cl : List (Str × Addr)) (fp : List Addr), PTs (X.blk s H scope (compEnvC scope cl C X.env) fp) ifs tt)
    (he : ∀ (s : Shared) (H : Hp) (C : Addr) (cl : List (Str × Addr)) (fp : List Addr) (pn : List (Addr × Obj)) (xe : Value → Shared → Prop), Takes ((X.blk s H scope (compEnvC scope cl C X.env) fp).tr pn xe) W' → PE ((X.blk s H scope (compEnvC scope cl C X.env) fp).tr pn xe) elt te) (hs : ∀ x, foldedSetIterable iter X.env x = pure x)
    (h : tLc wi g tt te (own.map (·.2)) σ H Q)
    (hRR : ∀ D (cenv : Env) s' m H', Inv X pins σ H' s' → Q (.ref D) H' → s'.heap.Ns cenv.locals m → FpOk X pins H' cenv.locals → compEnds (model X.prog X.w) X.A X.xe use Qf (.ref D) cenv (.ok .next) s') :
    wpAny (model X.prog X.w) X.A (comprehension (.ListComp elt [⟨tg, iter, ifs, 0⟩] scope pos) scope X.env pos' (newList []) false (eval iter X.env) use) Qf X.xe s := by
  have hfree : ∀ y ∈ scope.names, y.2 = .free → ∃ c, X.env.cells.lookup y.1 = some c := fun y hy e => by
    rcases ok.free y hy e with k | k
    · exact I.ok.has _ (.inl k)
    · exact I.ok.has _ (.inr k)
  refine comprehension_at (use := use) rfl hs (closure_ok hfree) ok.kind (fun y hy e => by rw [ok.uniq y hy, e])
    (thn (hi.run pins s σ H _ I h) fun xv s1 hx => thn hx fun itv s2 h2 => ?_)
  obtain ⟨it, fp, tn, J, H2, e, I2, T, st2, f2, q⟩ := h2
  subst e
  refine wpAny_newObj_type (newEnv_comp ?_) (by show 0 ≤ sizeLine; decide)
  generalize hD : s2.heap.objs.size = D
  have hDn : H2 D = none := I2.hok.fresh (Nat.le_of_eq hD)
  obtain ⟨Wm, ⟨m0, w0⟩, turn⟩ := q D hDn
  -- the new list
  generalize hs3 : ({ s2 with heap := s2.heap.push { cls := .type "list", data := .seq ([] : List Value).toArray } } : Shared) = s3
  have I3 : Inv X pins σ (upd H2 D (.lst [])) s3 := by
    rw [← hs3]
    refine I2.laid (t' := s2.toks) (fun b o e => Heap.get?_push_of_some _ e) (Nat.le_of_eq hD) ⟨Nat.zero_le _, [], 0, .nil, ?_⟩
    rw [← hD]
    exact Heap.get?_push_size _ rfl
  have h3 : s3.heap = s2.heap.push { cls := .type "list", data := .seq ([] : List Value).toArray } := by rw [← hs3]
  have sz : ∀ b ∈ fp, b < s2.heap.objs.size := fun b hb => by
    obtain ⟨o, e, _⟩ := T.obj _ _ st2 b hb
    exact Heap.lt_size e
  have f3 : ∀ b ∈ fp, FpOk X pins (upd H2 D (.lst [])) b ∧ b < s3.heap.objs.size := fun b hb => by
    have hlt := sz b hb
    refine ⟨⟨?_, (f2 b hb).2⟩, by rw [h3, Heap.size_push]; exact Nat.lt_succ_of_lt hlt⟩
    rw [upd_ne (by rw [← hD]; exact Nat.ne_of_lt hlt)]
    exact (f2 b hb).1
  have st3 : tn 0 s3.heap := T.keep _ _ _ st2 fun b _ o e => by rw [h3]; exact Heap.get?_push_of_some _ e
  have I4 := block_start I3 ok hN f3
  have pg := hg s3 (upd H2 D (.lst [])) s3.heap.objs.size (cellsFrom (s3.heap.objs.size + 1) scope.names (cloFrom X.env.cells scope.names [])) fp
  have pt := ht s3 (upd H2 D (.lst [])) s3.heap.objs.size (cellsFrom (s3.heap.objs.size + 1) scope.names (cloFrom X.env.cells scope.names [])) fp
  have pe := he s3 (upd H2 D (.lst [])) s3.heap.objs.size (cellsFrom (s3.heap.objs.size + 1) scope.names (cloFrom X.env.cells scope.names [])) fp []
  show codeAny _ _ (.compStart (.ListComp elt [⟨tg, iter, ifs, 0⟩] scope pos) 0 (.ref it) (.ref D) (compEnvC scope (cellsFrom (s3.heap.objs.size + 1) scope.names (cloFrom X.env.cells scope.names [])) s3.heap.objs.size X.env)) (compEnds (model X.prog X.w) X.A X.xe use Qf (.ref D) (compEnvC scope (cellsFrom (s3.heap.objs.size + 1) scope.names (cloFrom X.env.cells scope.names [])) s3.heap.objs.size X.env)) { s3 with heap := pushCells (s3.heap.push { cls := .type "dict", data := .dict #[] }) scope.names }
  have nfp : ∀ b ∈ fp, (upd H2 D (.lst [])) b = none := fun b hb => (f3 b hb).1.1
  generalize hce : compEnvC scope (cellsFrom (s3.heap.objs.size + 1) scope.names (cloFrom X.env.cells scope.names [])) s3.heap.objs.size X.env = ce at I4 pg pt pe ⊢
  have cL : ce.locals = s3.heap.objs.size := by subst hce; rfl
  have cF : ce.frame = X.env.frame := by subst hce; rfl
  generalize hH3 : upd H2 D (.lst []) = H3 at I3 I4 pg pt pe w0 nfp f3
  generalize hs4 : ({ s3 with heap := pushCells (s3.heap.push { cls := .type "dict", data := .dict #[] }) scope.names } : Shared) = s4 at I4 ⊢
  have st4 : tn 0 s4.heap := T.keep _ _ _ st3 fun b _ o e => by rw [← hs4]; exact pushCells_keeps _ _ _ _ (Heap.get?_push_of_some _ e)
  have stat : ∀ {σ' : L2.St} {H' : Hp} {s' : Shared}, Inv (X.blk s3 H3 scope ce fp) [] σ' H' s' → (∀ b ∈ fp, H' b = none) → ∀ b ∈ fp, FpOk (X.blk s3 H3 scope ce fp) [] H' b := fun {σ' H' s'} I' hn b hb =>
    ⟨hn b hb, (I'.ok.exf b hb).1, I'.ok.exfs b hb, .inl hb, fun x c e => (I'.ok.exf b hb).2 x c e, fun p hp => absurd (show p ∈ ([] : List (Addr × Obj)) ++ [] from hp) (by simp)⟩
  have ends : ∀ u t, CompFails (model X.prog X.w) X.A X.xe ce u t → compEnds (model X.prog X.w) X.A X.xe use Qf (.ref D) ce (.error u) t := fun u t z => by cases use <;> exact z
  have pe := pe (notedBy (model X.prog X.w) X.A ce fun e s' => compEnds (model X.prog X.w) X.A X.xe use Qf (.ref D) ce (.error e) s') fun u t x =>
    wpAny_mono (takes_blk hs1 hf tk I3 cF cL (fun b hb => (f3 b hb).1) hW x) (fun _ _ z => ends _ _ z) fun _ _ z => ends _ _ z
  have loop : codeAny (model X.prog X.w) X.A (.compLoop (.ListComp elt [⟨tg, iter, ifs, 0⟩] scope pos) 0 (.ref it) (.ref D) ce) (compEnds (model X.prog X.w) X.A X.xe use Qf (.ref D) ce) s4 := by
    refine compLoop_any (fun n s' => ∃ i H', Inv (X.blk s3 H3 scope ce fp) [] (L2.wipe σ (own.map (·.2))) H' s' ∧ tn i s'.heap ∧ (∀ b ∈ fp, H' b = none) ∧ Wm i n H') ?_ m0 ⟨0, H3, I4, st4, nfp, w0⟩
    rintro n s5 ⟨i, H5, I5, st5, n5, w5⟩
    rcases turn i n H5 w5 with ⟨stop, qq⟩ | ⟨go, Nx, hNx, step⟩
    · have td := T.done (X.blk s3 H3 scope ce fp) rfl rfl rfl hc i [] s5 _ H5 (fun _ _ => False) I5 (stat I5 n5) st5 stop
      refine thnF td fun r s6 ⟨hr, I6⟩ => ?_
      subst hr
      -- back in the def's context
      have I7 : Inv X pins σ H5 s6 := I3.call' (ch := fp) I6.os I6.base I6.hok I6.bare fun b hb => ⟨(f3 b hb).1.2.2.2.1, (f3 b hb).1.2.1, (f3 b hb).1.2.2.2.2.1, (f3 b hb).1.2.2.2.2.2⟩
      have nC : H5 ce.locals = none := I6.free
      obtain ⟨m, hn, _⟩ := I6.loc
      have hn : s6.heap.Ns ce.locals m := hn
      exact hRR D ce s6 m H5 I7 qq hn (I3.fpOk (by rw [cL]; exact Nat.le_refl _) nC)
    · have ti := T.item (X.blk s3 H3 scope ce fp) rfl rfl rfl hc i [] s5 _ H5 (fun _ _ => False) I5 (stat I5 n5) st5 go
      refine thnF ti fun r s6 ⟨u, hr, h6⟩ => ?_
      subst hr
      refine thnF h6 fun _ s7 ⟨x, H7, I7, r7, y7, st7, n7⟩ => ?_
      have I7' := I7.pinned (stat I7 n7) (T.obj _ _ st7)
      refine thnF (pg.run _ s7 _ H7 x u _ I7' r7 (step x H7 y7)) fun _ s8 ⟨σ8, H8, I8, hw8, q8⟩ => ?_
      refine thnF (pt.run _ s8 σ8 H8 _ I8 q8) fun b s9 ⟨H9, I9, q9⟩ => ?_
      -- the turn's end
      have fin : ∀ {s' : Shared} {H' : Hp}, Inv (X.blk s3 H3 scope ce fp) ([] ++ pinsAt fp s7.heap) σ8 H' s' → Nx H' → ∃ m, m < n ∧ ∃ i H', Inv (X.blk s3 H3 scope ce fp) [] (L2.wipe σ (own.map (·.2))) H' s' ∧ tn i s'.heap ∧ (∀ b ∈ fp, H' b = none) ∧ Wm i m H' := fun {s' H'} I' nx => by
        obtain ⟨m', hm, w'⟩ := hNx H' nx
        have pin' : ∀ b ∈ fp, ∀ o, s7.heap.get? b = some o → s'.heap.get? b = some o ∧ H' b = none := fun b hb o e =>
          let z := I'.pin (b, o) (List.mem_append_right _ (List.mem_append_right _ (mem_pinsAt hb e)))
          ⟨z.1, z.2.1⟩
        have hl : (L2.wipe σ (own.map (·.2))).length = σ8.length := by rw [← hw8, wipe_length]
        refine ⟨m', hm, i + 1, H', (I'.unpinned (pins := [])).weak hl (fun j v e => ?_), T.keep _ _ _ st7 fun b hb o e => (pin' b hb o e).1, fun b hb => ?_, w'⟩
        · rw [← hw8] at e
          exact (wipe_some e).1
        · obtain ⟨o, e, _⟩ := T.obj _ _ st7 b hb
          exact (pin' b hb o e).2
      cases b with
      | false =>
        simp only [Bool.false_eq_true, if_false] at q9 ⊢
        exact fin I9 q9
      | true =>
        simp only [if_true] at q9 ⊢
        refine thn (pe.run _ s9 σ8 H9 _ (Inv.inTr I9 _) q9) fun z s10 ⟨yv, H10, I10', r10, acc, hD10, hz10, nx⟩ => ?_
        have I10 := Inv.outTr (X := X.blk s3 H3 scope ce fp) I10' I9.ok
        exact app_ok (X := X.blk s3 H3 scope ce fp) I10 hD10 hz10 r10 fun s11 I11 => fin I11 nx
  exact codeAny_compStart_list loop (T.self X.A 0 _ _ _ st4 loop)
/-- as a value -/
theorem pe_lcX {elt tg iter : Expr} {ifs : List Expr} {scope : Scope} {own : List (Str × Nat)} {pos : Pos} {wi : TI} {g : TG} {tt : TT} {te : WX → TE}
    (hs1 : X.stack = X.env :: X.outer) (hf : X.env.frame = some X.env.locals) (tk : Takes X W) (hc : X.calm = true) (hN : X.N.Nodup) (hi : PI X tg iter wi) (ok : BlkOk X.N X.env.scope scope own)
    (hg : ∀ (s : Shared) (H : Hp) (C : Addr) (cl : List (Str × Addr)) (fp : List Addr), PG (X.blk s H scope (compEnvC scope cl C X.env) fp) tg g) (ht : ∀ (s : Shared) (H : Hp) (C : Addr) (cl : List (Str × Addr)) (fp : List Addr), PTs (X.blk s H scope (compEnvC scope cl C X.env) fp) ifs tt)
    (he : ∀ (s : Shared) (H : Hp) (C : Addr) (cl : List (Str × Addr)) (fp : List Addr) (pn : List (Addr × Obj)) (xe : Value → Shared → Prop) (W' : WX), Takes ((X.blk s H scope (compEnvC scope cl C X.env) fp).tr pn xe) W' → PE ((X.blk s H scope (compEnvC scope cl C X.env) fp).tr pn xe) elt (te W')) (hs : ∀ x, foldedSetIterable iter X.env x = pure x := by intro _; rfl) :
    PE X (.ListComp elt [⟨tg, iter, ifs, 0⟩] scope pos) (fun σ H Q => tLc wi g tt (te fun c d _ H' => W c d σ H') (own.map (·.2)) σ H Q) := by
  refine ⟨fun pins s σ H Q I h => ?_⟩
  rw [eval_ListComp]
  refine lc_coreX hs1 hf tk (W' := fun c d _ H' => W c d σ H') (fun _ _ _ _ z => z) hc hN I hi ok hg ht (fun s H C cl fp pn xe z => he s H C cl fp pn xe _ z) hs h fun D C s' m H' I' q hn f => ⟨m, hn, fun h'' sb => ?_⟩
  obtain ⟨f0, f1, f2, f3, f4, f5⟩ := f
  exact ⟨.ref D, H', I'.turned (t' := s'.toks) (fun b o hb e => (sb.2 b hb).trans e) f0 f1 f3 f4 f5, rfl, q⟩
end

/-! ### at content -/
def compLX (t : Tg) (tt : Sta → PR Bool) (te : Sta → PR D) (s : Sta) : List D → PR (List D)
  | [] => .ok []
  | d :: ds => match t.bind d s.env with
    | none => .stuck
    | some env => match tt { s with env := env } with
      | .ok true => match te { s with env := env } with
        | .ok y => (compLX t tt te s ds).bind fun r => .ok (y :: r)
        | .exc e => .exc e
        | .stuck => .stuck
      | .ok false => compLX t tt te s ds
      | _ => .stuck
def pCompX (f : Sta → PR (List D)) (t : Tg) (vs : List Nat) (tt : Sta → PR Bool) (te : Sta → PR D) : Sta → PR RV := fun s => (f s).bind fun ds =>
  if ds.length ≤ 16777216 then (compLX t tt te { s with env := wipeE s.env vs } ds).bind fun r => .ok (fr (.list r)) else .stuck
section
variable {X : Cx} {T : Tab} {W : WX}
theorem tLcX_of {f : Sta → PR (List D)} {t : Tg} {vs : List Nat} {tt : Sta → PR Bool} {te : Sta → PR D} (hv : ∀ i ∈ t.ixs, i ∈ vs) {σ : L2.St} {H : Hp} {Q : VK} (h : tP X T W (pCompX f t vs tt te) σ H Q) :
    tLc (tIc X T W f) (tgR X.K t) (tT X T W0 tt) (tD X T (fun c d _ H' => W c d σ H') te) vs σ H Q := by
  obtain ⟨s, m, M, G, R, q⟩ := h
  refine ⟨s, m, M, G, R, ?_⟩
  revert q
  unfold pCompX PR.bind
  cases f s with
  | ok ds =>
    intro q J H1 M1 g1 it
    dsimp only at q
    by_cases hl : ds.length ≤ 16777216
    · rw [if_pos hl] at q
      generalize hs0 : ({ s with env := wipeE s.env vs } : Sta) = s0 at q
      intro D hD
      have hM1D : M1 D = Option.none := g1.mh.free hD
      generalize hc : compLX t tt te s0 ds = RR at q
      refine ⟨fun i μ Hc => μ = ds.length - i ∧ i ≤ ds.length ∧ ∃ Mi acc dacc, Grow H1 M1 Hc Mi ∧ Mi D = Option.none ∧ Hc D = some (.lst acc) ∧ DRs X.K m Mi acc dacc ∧ acc.length ≤ i ∧ ((compLX t tt te s0 (ds.drop i)).bind fun rest => .ok (dacc ++ rest)) = RR,
        ⟨ds.length, rfl, Nat.zero_le _, M1, [], [], Grow.fresh g1.mh hD, hM1D, upd_same, .nil, Nat.le_refl _, ?_⟩, ?_⟩
      · rw [List.drop_zero, hc]
        unfold PR.bind
        cases RR <;> rfl
      rintro i μ Hc ⟨rfl, hi, Mi, acc, dacc, gc, hMD, hHD, rD, hal, hcr⟩
      have iti := it i Mi Hc gc.mm gc.mh gc.same
      by_cases hlt : i < ds.length
      · have hd : ds[i]? = some ds[i] := by simp [hlt]
        have hdrop : ds.drop i = ds[i] :: ds.drop (i + 1) := List.drop_eq_getElem_cons hlt
        generalize ds[i] = d at hd hdrop
        obtain ⟨go, yld⟩ := iti.1 d hd
        refine .inr ⟨go, fun H' => ∃ Mi acc dacc, Grow H1 M1 H' Mi ∧ Mi D = Option.none ∧ H' D = some (.lst acc) ∧ DRs X.K m Mi acc dacc ∧ acc.length ≤ i + 1 ∧ ((compLX t tt te s0 (ds.drop (i + 1))).bind fun rest => .ok (dacc ++ rest)) = RR,
          fun H' hN => ⟨ds.length - (i + 1), by omega, rfl, hlt, hN⟩, fun x H' hy => ?_⟩
        obtain ⟨M', gy, rx⟩ := yld x H' hy
        rw [hdrop, compLX] at hcr
        cases hb : t.bind d s0.env with
        | none =>
          rw [hb] at hcr
          dsimp only [PR.bind] at hcr
          rw [← hcr] at q
          exact q.elim
        | some env =>
          simp only [hb] at hcr
          have R0 : Rel X.K T m M' G H' s0 (L2.wipe σ vs) := by
            rw [← hs0]
            exact ((R.wipe vs).grow g1).grow (gc.trans gy)
          refine tgR_of (T := T) (G := G) hb rx R0 (Off.refl vs _) hv fun σ2 R2 o2 => ?_
          refine ⟨by rw [wipe_off o2]; exact wipe_off (Off.wipe vs σ), ?_⟩
          refine ⟨_, m, M', G, R2, ?_⟩
          cases ht : tt { s0 with env := env } with
          | ok b =>
            simp only [ht] at hcr
            intro H3 M3 g3
            cases b with
            | false =>
              rw [if_neg Bool.false_ne_true]
              have gg := gc.trans (gy.trans g3)
              have h1 := (gy.trans g3).same _ _ hHD
              exact ⟨M3, acc, dacc, gg, (gy.trans g3).keepNone hHD hMD, h1, rD.up (gy.trans g3).mm, Nat.le_succ_of_le hal, hcr⟩
            | true =>
              rw [if_pos rfl]
              refine ⟨_, m, M3, G, R2.grow g3, ?_⟩
              cases hte : te { s0 with env := env } with
              | ok y =>
                simp only [hte] at hcr
                intro yv H4 M4 g4 ry
                have g34 := gy.trans (g3.trans g4)
                have h4 := g34.same _ _ hHD
                have hM4 := g34.keepNone hHD hMD
                refine ⟨acc, h4, by rw [sizeLine_eq]; omega, M4, acc ++ [yv], dacc ++ [y], ?_, hM4, upd_same, (rD.up g34.mm).append (.cons ry .nil), by simp; omega, ?_⟩
                · have gg := gc.trans g34
                  refine ⟨fun b o e => ?_, gg.mm, fun b o e => ?_, gg.new⟩
                  · have hb : b ≠ D := fun z => by rw [z, hD] at e; cases e
                    rw [upd_ne hb]
                    exact gg.same _ _ e
                  · have hb : b ≠ D := fun z => by rw [z, hM4] at e; cases e
                    rw [upd_ne hb]
                    exact gg.mh _ _ e
                · rw [← hcr]
                  unfold PR.bind
                  cases compLX t tt te s0 (ds.drop (i + 1)) with
                  | ok rest => simp
                  | exc e => rfl
                  | stuck => rfl
              | exc e =>
                simp only [hte, PR.bind] at hcr
                rw [← hcr] at q
                intro cls dd H4 M4 g4 xr
                exact q cls dd H4 M4 (g1.trans (gc.trans (gy.trans (g3.trans g4)))) xr
              | stuck =>
                simp only [hte, PR.bind] at hcr
                rw [← hcr] at q
                exact q.elim
          | exc e =>
            simp only [ht, PR.bind] at hcr
            rw [← hcr] at q
            exact q.elim
          | stuck =>
            simp only [ht, PR.bind] at hcr
            rw [← hcr] at q
            exact q.elim
      · have hie : i = ds.length := by omega
        subst hie
        refine .inl ⟨iti.2 (Nat.le_refl _), ?_⟩
        rw [List.drop_length, compLX] at hcr
        simp only [PR.bind, List.append_nil] at hcr
        rw [← hcr] at q
        exact q _ Hc Mi (g1.trans gc) ⟨D, _, rfl, hHD, .lst rD, hMD, g1.same.free hD⟩
    · rw [if_neg hl] at q
      exact q.elim
  | exc e => intro q; exact q
  | stuck => intro q; exact q
variable {elt tg iter : Expr} {ifs : List Expr} {scope : Scope} {own : List (Str × Nat)} {pos : Pos} {f : Sta → PR (List D)} {t : Tg} {tt : Sta → PR Bool} {te : Sta → PR D}
theorem ev_lcX (hs1 : X.stack = X.env :: X.outer) (hf : X.env.frame = some X.env.locals) (tk : Takes X W) (hc : X.calm = true) (hN : X.N.Nodup) (hi : PIc X T W tg iter f) (ok : BlkOk X.N X.env.scope scope own) (hv : ∀ i ∈ t.ixs, i ∈ own.map (·.2))
    (hg : ∀ (s : Shared) (H : Hp) (C : Addr) (cl : List (Str × Addr)) (fp : List Addr), PG (X.blk s H scope (compEnvC scope cl C X.env) fp) tg (tgR X.K t))
    (ht : ∀ (s : Shared) (H : Hp) (C : Addr) (cl : List (Str × Addr)) (fp : List Addr), PTsv (X.blk s H scope (compEnvC scope cl C X.env) fp) T W0 ifs tt)
    (he : ∀ (s : Shared) (H : Hp) (C : Addr) (cl : List (Str × Addr)) (fp : List Addr) (pn : List (Addr × Obj)) (xe : Value → Shared → Prop) (W' : WX), Takes ((X.blk s H scope (compEnvC scope cl C X.env) fp).tr pn xe) W' → PDv ((X.blk s H scope (compEnvC scope cl C X.env) fp).tr pn xe) T W' elt te) (hs : ∀ x, foldedSetIterable iter X.env x = pure x := by intro _; rfl) :
    PEv X T W (.ListComp elt [⟨tg, iter, ifs, 0⟩] scope pos) (pCompX f t (own.map (·.2)) tt te) :=
  PE.wk (pe_lcX (te := fun W' => tD X T W' te) hs1 hf tk hc hN hi ok hg ht (fun s H C cl fp pn xe W' z => he s H C cl fp pn xe W' z) hs) fun σ H Q h => tLcX_of hv h
end

/-! ### equations -/
section
variable {env : List Slot} {st : List Ob}
def xCX (t : Tg) (tt : Sta → PR Bool) (te : Sta → PR D) (s : Sta) : PR (List D) → PR RV
  | .ok ds => if ds.length ≤ 16777216 then xC2 (compLX t tt te s ds) else .stuck
  | .exc e => .exc e
  | .stuck => .stuck
theorem e_pCompX (f : Sta → PR (List D)) (t : Tg) (vs : List Nat) (tt : Sta → PR Bool) (te : Sta → PR D) : pCompX f t vs tt te ⟨env, st⟩ = xCX t tt te ⟨wipeE env vs, st⟩ (f ⟨env, st⟩) := by
  unfold pCompX PR.bind xCX xC2
  cases f ⟨env, st⟩ with
  | ok ds =>
    simp only []
    split
    · cases compLX t tt te ⟨wipeE env vs, st⟩ ds <;> rfl
    · rfl
  | exc e => rfl
  | stuck => rfl
theorem e_xCX {t : Tg} {tt : Sta → PR Bool} {te : Sta → PR D} {s : Sta} {ds : List D} (h : ds.length ≤ 16777216) : xCX t tt te s (.ok ds) = xC2 (compLX t tt te s ds) := if_pos h
theorem e_xC2e (e : Ex) : xC2 (.exc e) = .exc e := Eq.trans rfl rfl
theorem e_xCose {α : Type} (x : α) (e : Ex) : xCons (.ok x) (.exc e) = .exc e := Eq.trans rfl rfl
theorem e_xCoe {α : Type} (e : Ex) (r : PR (List α)) : xCons (.exc e) r = .exc e := Eq.trans rfl rfl
theorem e_xTpe (e : Ex) : xTp (.exc e) = .exc e := Eq.trans rfl rfl
theorem e_xLse (e : Ex) : xLs (.exc e) = .exc e := Eq.trans rfl rfl
theorem e_xGe {α : Type} (g : List D → Option α) (e : Ex) : xG g (.exc e) = .exc e := Eq.trans rfl rfl
theorem e_xUe (n : Nat) (sem : Sem) (e : Ex) : xU n sem (.exc e) = .exc e := Eq.trans rfl rfl
theorem s_xApe (i : Nat) (ds : List D) (e : Ex) : xAp i env st (some (.own (.list ds))) (.exc e) = .exc e ⟨env, st⟩ := Eq.trans rfl rfl
end
end MP

/-! MP 16: min, max of a tuple; sorted(set(tuple of numbers)); sorted of a list of pairs of tuples of numbers. -/
namespace MP
open PySem PySem.Spec PyProof.Rows L2

/-! ### min(t), max(t), t a tuple of numbers -/
section
variable {X : Cx}
def lmin (n : Int) (ns : List Int) : Int := PySem.W.minOf n ns
def lmax (n : Int) (ns : List Int) : Int := PySem.W.maxOf n ns
theorem lmin_lt (c : Int) : ∀ (ns : List Int) (n : Int), lmin n ns < c ↔ n < c ∨ ∃ x ∈ ns, x < c
  | [], n => by
    show n < c ↔ _
    simp
  | x :: ns, n => by
    have e : lmin n (x :: ns) = lmin (if decide (x < n) = true then x else n) ns := rfl
    rw [e, lmin_lt c ns]
    by_cases h : x < n
    · rw [decide_eq_true h, if_pos rfl]
      constructor
      · rintro (h1 | ⟨y, hy, h1⟩)
        · exact .inr ⟨x, List.mem_cons_self .., h1⟩
        · exact .inr ⟨y, List.mem_cons_of_mem _ hy, h1⟩
      · rintro (h1 | ⟨y, hy, h1⟩)
        · exact .inl (by omega)
        · rcases List.mem_cons.mp hy with rfl | hy
          · exact .inl h1
          · exact .inr ⟨y, hy, h1⟩
    · rw [decide_eq_false h, if_neg Bool.false_ne_true]
      constructor
      · rintro (h1 | ⟨y, hy, h1⟩)
        · exact .inl h1
        · exact .inr ⟨y, List.mem_cons_of_mem _ hy, h1⟩
      · rintro (h1 | ⟨y, hy, h1⟩)
        · exact .inl h1
        · rcases List.mem_cons.mp hy with rfl | hy
          · exact .inl (by omega)
          · exact .inr ⟨y, hy, h1⟩
theorem lmax_lt (c : Int) : ∀ (ns : List Int) (n : Int), c ≤ lmax n ns ↔ c ≤ n ∨ ∃ x ∈ ns, c ≤ x
  | [], n => by
    show c ≤ n ↔ _
    simp
  | x :: ns, n => by
    have e : lmax n (x :: ns) = lmax (if decide (n < x) = true then x else n) ns := rfl
    rw [e, lmax_lt c ns]
    by_cases h : n < x
    · rw [decide_eq_true h, if_pos rfl]
      constructor
      · rintro (h1 | ⟨y, hy, h1⟩)
        · exact .inr ⟨x, List.mem_cons_self .., h1⟩
        · exact .inr ⟨y, List.mem_cons_of_mem _ hy, h1⟩
      · rintro (h1 | ⟨y, hy, h1⟩)
        · exact .inl (by omega)
        · rcases List.mem_cons.mp hy with rfl | hy
          · exact .inl h1
          · exact .inr ⟨y, hy, h1⟩
    · rw [decide_eq_false h, if_neg Bool.false_ne_true]
      constructor
      · rintro (h1 | ⟨y, hy, h1⟩)
        · exact .inl h1
        · exact .inr ⟨y, List.mem_cons_of_mem _ hy, h1⟩
      · rintro (h1 | ⟨y, hy, h1⟩)
        · exact .inl h1
        · rcases List.mem_cons.mp hy with rfl | hy
          · exact .inl (by omega)
          · exact .inr ⟨y, hy, h1⟩
theorem holds_is {h : Heap} {v : Value} {n : Int} (H : PySem.W.Holds h v n) : ∃ t, v = .int n t := by
  have := PySem.W.HoldAll.toInts (h := h) (vs := [v]) (ns := [n]) (PySem.W.HoldAll.cons H PySem.W.HoldAll.nil)
  cases this with
  | cons n t _ => exact ⟨t, rfl⟩
def rMinT (K : PySem.W.Frag) (f : Int → List Int → Int) : List V → Hp → VK → Prop := fun vs H Q => ∃ (a : Addr) (n : Int) (ns : List Int), vs = [V.ref a] ∧ SqT K H a ((n :: ns).map V.int) ∧ Q (.int (f n ns)) H
theorem cr_minT (hc : X.calm = true) (hu : X.A.units + 65 < cLine) : CallR X (.builtin "min") (rMinT X.K lmin) := by
  intro pins s σ H vs us Q I r h
  obtain ⟨a, n, ns, rfl, hs, q⟩ := h
  obtain ⟨its, rv, pl, hz⟩ := I.tuple hs
  rw [Vals.ref1 r]
  refine PySem.W.min_tuple_datum (x := n) (xs := ns) (I.ok.hd hc) pl (PySem.W.HoldAll.of_ints (by simpa using rv.ints)) (by show X.A.units + 1 + 0 < cLine; omega) fun i v h' tk hi hv hk => ?_
  obtain ⟨t, rfl⟩ := holds_is hv
  exact ⟨.int _, H, I.kept hk, ⟨_, rfl⟩, q⟩
theorem cr_maxT (hc : X.calm = true) (hu : X.A.units + 65 < cLine) : CallR X (.builtin "max") (rMinT X.K lmax) := by
  intro pins s σ H vs us Q I r h
  obtain ⟨a, n, ns, rfl, hs, q⟩ := h
  obtain ⟨its, rv, pl, hz⟩ := I.tuple hs
  rw [Vals.ref1 r]
  refine PySem.W.max_tuple_datum (x := n) (xs := ns) (I.ok.hd hc) pl (PySem.W.HoldAll.of_ints (by simpa using rv.ints)) (by show X.A.units + 1 + 0 < cLine; omega) fun i v h' tk hi hv hk => ?_
  obtain ⟨t, rfl⟩ := holds_is hv
  exact ⟨.int _, H, I.kept hk, ⟨_, rfl⟩, q⟩
def gMT (f : Int → List Int → Int) : List D → Option RV
  | [.tup ds] => match intsOf ds with
    | some (n :: ns) => some (sh (.int (f n ns)))
    | _ => none
  | _ => none
def gMinT : List D → Option RV := gMT lmin
def gMaxT : List D → Option RV := gMT lmax
theorem ok_mt {b : Value} {f : Int → List Int → Int} (hr : CallR X b (rMinT X.K f)) : CallOk X b (gMT f) := by
  refine ⟨_, hr, fun m M H ys ds res Q s a e k => ?_⟩
  unfold gMT at e
  split at e
  · rename_i d
    cases a with
    | cons a1 an =>
      cases an
      cases hi : intsOf d with
      | none => rw [hi] at e; cases e
      | some ns =>
        rw [hi] at e
        cases ns with
        | nil => cases e
        | cons n ns =>
          cases e
          rw [intsOf_eq hi] at a1
          obtain ⟨b, xs, rfl, h1, r1, _⟩ := a1.tup s
          rw [DRs.ints_of r1] at h1
          exact ⟨b, n, ns, rfl, h1, k _ H M (Grow.refl s) (.int _)⟩
  · cases e
theorem ok_minT (hc : X.calm = true) (hu : X.A.units + 65 < cLine) : CallOk X (.builtin "min") gMinT := ok_mt (cr_minT hc hu)
theorem ok_maxT (hc : X.calm = true) (hu : X.A.units + 65 < cLine) : CallOk X (.builtin "max") gMaxT := ok_mt (cr_maxT hc hu)
theorem g_minT (n : Int) (ns : List Int) : gMinT [.tup ((n :: ns).map D.int)] = some ⟨.sh, .int (lmin n ns)⟩ := by
  unfold gMinT gMT
  simp only [intsOf_map]
theorem g_maxT (n : Int) (ns : List Int) : gMaxT [.tup ((n :: ns).map D.int)] = some ⟨.sh, .int (lmax n ns)⟩ := by
  unfold gMaxT gMT
  simp only [intsOf_map]
end

/-! ### sorted(set(t)) -/
section
variable {X : Cx} {T : Tab} {W : WX} {a : Expr} {fa : Sta → PR RV} {p p2 q pos : Pos}
def tSrtSetN (K : PySem.W.Frag) (ta : TE) : TE := fun σ H Q => ta σ H fun x H1 => ∃ (l : Addr) (ns : List Int), x = V.ref l ∧ SqT K H1 l (ns.map V.int) ∧ ns.length < 60 ∧
  ∀ (ms : List Int) (p : Addr), ms.Pairwise (· < ·) → (∀ k, k ∈ ms ↔ k ∈ ns) → H1 p = none → Q (.ref p) (upd H1 p (.lst (ms.map V.int)))
theorem pe_srtSetN {ta : TE} (hc : X.calm = true) (hg : Gl X "sorted") (hm : X.mg "sorted" = none) (hg2 : Gl X "set") (hm2 : X.mg "set" = none) (ha : PE X a ta)
    (na : starEach [a] X.env = (false, eval a X.env) :: starEach [] X.env := by rfl) : PE X (.Call (.Name "sorted" p) [.Call (.Name "set" p2) [a] [] q] [] pos) (tSrtSetN X.K ta) := by
  refine ⟨fun pins s σ H Q I h => ?_⟩
  refine Call_ (ld_blt I hg hm (u := .builtin "sorted") (by decide +kernel) ?_)
  refine PyProof.Rows.callWith_builtin1 (PyProof.Rows.args_cons ?_ rfl) rfl rfl
  refine Call_ (ld_blt I hg2 hm2 PyProof.Rows.boot_set ?_)
  refine PyProof.Rows.callWith_type1 (PyProof.Rows.args_cons (thn (ha.run pins s σ H _ I h) fun v s1 ⟨x, H1, I1, r1, q1⟩ => PyProof.Rows.args_nil ?_) na) na rfl
  obtain ⟨l, ns, rfl, hq, h1, q1⟩ := q1
  cases r1
  obtain ⟨its, r, pl, hz⟩ := I1.tuple hq
  refine call_set_tupI ns (I1.ok.hd hc) pl (by simpa using r.ints) (by unfold scanBound; omega) fun h' tk c hS hcl hk => ?_
  refine PyProof.Rows.args_nil ?_
  have I2 : Inv X pins σ H1 { s1 with heap := h', toks := tk } := I1.kept fun b o e => hk b o e
  refine sorted_set hS (I2.ok.hd hc) (by omega) fun s' p out c ms k g o hp hg' hi hs hm' hl => ?_
  have hlen : (ms.map V.int).length ≤ sizeLine := by rw [List.length_map, hl, sizeLine_eq]; omega
  have hn : H1 p = none := I2.hok.fresh hp
  have J : Inv X pins σ (upd H1 p (.lst (ms.map V.int))) { ({ s1 with heap := h', toks := tk } : Shared) with heap := s'.heap, gens := s'.gens, drawn := s'.drawn, toks := s'.toks } :=
    I2.call (ch := []) (Un.laid k hp hn) (I2.hok.laid k hp ⟨hlen, out.toList, c, vals_of_ints hi, hg'⟩) (by rw [g]; exact I2.bare) (fun _ z => nomatch z)
  have e : s' = { s1 with heap := s'.heap, gens := s'.gens, drawn := s'.drawn, toks := s'.toks } := by
    cases s'
    cases s1
    cases o
    rfl
  rw [e]
  exact ⟨.ref p, _, J, rfl, q1 ms p hs (fun k => by rw [hm' k, decide_eq_true_eq]) hn⟩
def gSrtSet : D → Option RV
  | .tup ds => (intsOf ds).bind fun ns => if ns.length < 60 then some (fr (.list ((sortI (ddp ns)).map D.int))) else none
  | _ => none
theorem lt_le {ms : List Int} (h : ms.Pairwise (· < ·)) : ms.Pairwise (· ≤ ·) := h.imp fun h => Int.le_of_lt h
theorem srt_eq {ms ns : List Int} (h : ms.Pairwise (· < ·)) (hm : ∀ k, k ∈ ms ↔ k ∈ ns) : ms = sortI (ddp ns) :=
  sortI_eq ((List.perm_ext_iff_of_nodup (h.imp fun h => Int.ne_of_lt h) (nodup_ddp ns)).mpr fun k => by rw [mem_ddp, hm]) (lt_le h)
theorem ev_srtSet (hc : X.calm = true) (hg : Gl X "sorted") (hm : X.mg "sorted" = none) (hg2 : Gl X "set") (hm2 : X.mg "set" = none) (ha : PEv X T W a fa)
    (na : starEach [a] X.env = (false, eval a X.env) :: starEach [] X.env := by rfl) : PEv X T W (.Call (.Name "sorted" p) [.Call (.Name "set" p2) [a] [] q] [] pos) (p1 gSrtSet fa) := by
  refine PE.wk (pe_srtSetN hc hg hm hg2 hm2 ha na) ?_
  rintro σ H Q ⟨s, m, M, G, R, q⟩
  refine ⟨s, m, M, G, R, ?_⟩
  revert q
  unfold p1 PR.bind
  cases fa s with
  | ok r1 =>
    intro q y1 H1 M1 g1 rr1
    dsimp only at q
    obtain ⟨k, d⟩ := r1
    cases hg : gSrtSet d with
    | none => simp only [hg, PR.of] at q
    | some res =>
      simp only [hg, PR.of] at q
      cases d <;> try (cases hg; done)
      rename_i ds
      dsimp only [gSrtSet] at hg
      cases hi : intsOf ds with
      | none => rw [hi] at hg; cases hg
      | some ns =>
        rw [hi, Option.bind_some] at hg
        by_cases hl : ns.length < 60
        · rw [if_pos hl] at hg
          cases hg
          rw [intsOf_eq hi] at rr1
          obtain ⟨b, xs, rfl, h1, r1, _⟩ := rr1.arg.tup g1.mh
          rw [DRs.ints_of r1] at h1
          refine ⟨b, ns, rfl, h1, hl, fun ms p h2 h3 h4 => ?_⟩
          rw [srt_eq h2 h3]
          exact q _ _ M1 (g1.trans (Grow.fresh g1.mh h4)) ⟨p, _, rfl, upd_same, .lst DRs.ints, g1.mh.free h4, g1.same.free h4⟩
        · rw [if_neg hl] at hg
          cases hg
  | exc e => intro q; exact q
  | stuck => intro q; exact q
theorem g_srtSet {ns : List Int} (h : ns.length < 60) : gSrtSet (.tup (ns.map D.int)) = some ⟨.fr, .list ((sortI (ddp ns)).map D.int)⟩ := by
  unfold gSrtSet
  simp only [intsOf_map, Option.bind_some]
  rw [if_pos h]
end

/-! ### sorted(list of pairs of tuples of numbers) -/
abbrev PP := List Int × List Int
def mkP (p : PP) : D := .tup [.tup (p.1.map D.int), .tup (p.2.map D.int)]
def ppOf : D → Option PP
  | .tup [.tup a, .tup b] => (intsOf a).bind fun x => (intsOf b).map fun y => (x, y)
  | _ => none
theorem ppOf_eq {d : D} {p : PP} (h : ppOf d = some p) : d = mkP p := by
  unfold ppOf at h
  split at h
  · rename_i a b
    cases ha : intsOf a with
    | none => rw [ha] at h; cases h
    | some x =>
      cases hb : intsOf b with
      | none => rw [ha, hb] at h; cases h
      | some y =>
        rw [ha, hb] at h
        cases h
        rw [intsOf_eq ha, intsOf_eq hb]
        rfl
  · cases h
theorem ppOf_mk (p : PP) : ppOf (mkP p) = some p := by
  show ((intsOf (p.1.map D.int)).bind fun x => (intsOf (p.2.map D.int)).map fun y => (x, y)) = some p
  rw [intsOf_map, intsOf_map]
  rfl
def ppsOf : List D → Option (List PP)
  | [] => some []
  | d :: ds => (ppOf d).bind fun p => (ppsOf ds).map fun r => p :: r
theorem ppsOf_eq : ∀ {ds : List D} {ps : List PP}, ppsOf ds = some ps → ds = ps.map mkP
  | [], ps, h => by cases h; rfl
  | d :: ds, ps, h => by
    unfold ppsOf at h
    cases hp : ppOf d with
    | none => rw [hp] at h; cases h
    | some p =>
      cases hr : ppsOf ds with
      | none => rw [hp, hr] at h; cases h
      | some r =>
        rw [hp, hr] at h
        cases h
        rw [ppOf_eq hp, ppsOf_eq hr]
        rfl
theorem ppsOf_map : ∀ ps : List PP, ppsOf (ps.map mkP) = some ps
  | [] => rfl
  | p :: ps => by
    rw [List.map_cons, ppsOf, ppOf_mk, ppsOf_map ps]
    rfl
theorem pys_ints : ∀ ns : List Int, pys (ns.map D.int) = ns.map PyData.int
  | [] => by rw [List.map_nil, pys]; rfl
  | n :: ns => by
    rw [List.map_cons, pys, pys_ints ns, D.py]
    rfl
def encP (p : PP) : PyData := .tuple [.tuple (p.1.map PyData.int), .tuple (p.2.map PyData.int)]
theorem encP_eq (p : PP) : (mkP p).py = encP p := by
  unfold mkP encP
  rw [D.py, pys, pys, pys, D.py, D.py, pys_ints, pys_ints]
theorem alikeP (p p' : PP) : PySem.W.alike (encP p) (encP p') = true := by
  unfold encP
  simp only [PySem.W.alike, PySem.W.alikeAll, PySem.W.alike_ints, Bool.and_self]
theorem depthP (p : PP) : (encP p).depth ≤ 2 := by
  unfold encP
  simp only [PyData.depth, PyData.depthAll, PySem.W.depth_ints]
  decide
def sortP (ps : List PP) : List PP := ps.mergeSort (PySem.W.dataLe false encP)
theorem canP (p : PP) : PyData.canLay0 (mkP p).py = true := by
  have h : ∀ ns : List Int, PyData.canLayAll0 (ns.map PyData.int) = true := fun ns => by
    induction ns with
    | nil => rw [List.map_nil, PyData.canLayAll0]
    | cons n ns ih => rw [List.map_cons, PyData.canLayAll0, ih, PyData.canLay0]; rfl
  rw [encP_eq]
  unfold encP
  simp only [PyData.canLay0, PyData.canLayAll0, h, Bool.and_self]
section
variable {X : Cx}
def rSortP (K : PySem.W.Frag) : List V → Hp → VK → Prop := fun vs H Q => ∃ (a : Addr) (xs : List V) (ps : List PP) (P : V → PP → Prop), vs = [V.ref a] ∧ SqL K H a xs ∧ Paired (fun x p => Dp K H x (encP p) ∧ P x p) xs ps ∧
  ∀ (ys : List V) (p : Addr), Paired P ys (sortP ps) → H p = none → Q (.ref p) (upd H p (.lst ys))
theorem each_paired {α β : Type} {R : α → β → Prop} : ∀ {as : List α} {bs : List β}, PySem.W.EachIs R as bs → Paired R as bs
  | _, _, .nil => .nil
  | _, _, .cons h t => .cons h (each_paired t)
theorem each_two {pins : List (Addr × Obj)} {σ : L2.St} {H : Hp} {s : Shared} (I : Inv X pins σ H s) {P : V → PP → Prop} : ∀ {xs : List V} {its : List Value} {ps : List PP}, Vals xs its → Paired (fun x p => Dp X.K H x (encP p) ∧ P x p) xs ps →
    PySem.W.EachIs (fun v p => ∃ x, RelV x v ∧ P x p) its ps ∧ PySem.W.EachIs (fun v p => ∃ as, Reads s.heap v (encP p) as) its ps
  | _, _, _, .nil, .nil => ⟨.nil, .nil⟩
  | _, _, _, .cons r t, .cons h t2 => by
    obtain ⟨h1, h2⟩ := each_two I t t2
    exact ⟨.cons ⟨_, r, h.2⟩ h1, .cons (Dp.reads I _ _ _ h.1 r) h2⟩
theorem split_paired {P : V → PP → Prop} : ∀ {out : List Value} {ps : List PP}, Paired (fun v p => ∃ x, RelV x v ∧ P x p) out ps → ∃ ys, Vals ys out ∧ Paired P ys ps
  | _, _, .nil => ⟨[], .nil, .nil⟩
  | _, _, .cons h t => by
    obtain ⟨x, h1, h2⟩ := h
    obtain ⟨ys, h3, h4⟩ := split_paired t
    exact ⟨x :: ys, .cons h1 h3, .cons h2 h4⟩
theorem cr_sortP (hu : X.A.units + 65 < cLine) : CallR X (.builtin "sorted") (rSortP X.K) := by
  intro pins s σ H vs us Q I r h
  obtain ⟨a, xs, ps, P, rfl, hs, hp, q⟩ := h
  obtain ⟨its, rv, hl, hz⟩ := I.list hs
  rw [Vals.ref1 r]
  obtain ⟨e1, e2⟩ := each_two I rv hp
  have hlen : ps.length ≤ sizeLine := by
    rw [← e1.length, ← rv.length]
    exact hz
  refine PySem.W.sorted_data (vs := its) hl.isList e1 e2 (PySem.W.AllAlike.of alikeP) (PySem.W.Sortable.tuples fun b => ⟨_, _, rfl⟩) hlen (fun b _ => by have := depthP b; omega) fun out ho he => ?_
  obtain ⟨ys, h1, h2⟩ := split_paired (each_paired he)
  obtain ⟨ep, he'⟩ := PyProof.Rows.sortedAll_at s.heap its out.toArray
  have hyl : ys.length ≤ sizeLine := by rw [h1.length, ho]; exact hlen
  exact ⟨.ref _, upd H (s.heap.objs.size + 1) (.lst ys), I.laid (t' := s.toks) (fun _ _ => PyProof.Rows.sortedAll_old) (Nat.le_succ _) ⟨hyl, out, ep, h1, he'⟩, rfl, q ys _ h2 (I.hok.fresh (Nat.le_succ _))⟩
def gSortP : List D → Option RV
  | [d] => (lstOf d).bind fun ds => (ppsOf ds).map fun ps => fr (.list ((sortP ps).map mkP))
  | _ => none
theorem drs_P {K : PySem.W.Frag} {m : List Addr} {M H : Hp} (s : Same M H) : ∀ {xs : List V} {ps : List PP}, DRs K m M xs (ps.map mkP) → Paired (fun x p => Dp K H x (encP p) ∧ DR K m M x (mkP p)) xs ps
  | _, [], h => by
    rw [List.map_nil] at h
    cases h
    exact .nil
  | _, p :: ps, h => by
    rw [List.map_cons] at h
    cases h with
    | cons h1 h2 =>
      refine .cons ⟨?_, h1⟩ (drs_P s h2)
      rw [← encP_eq]
      exact DR.dp _ _ (h1.mono (MLe.refl _) s) (canP p)
theorem paired_drs {K : PySem.W.Frag} {m : List Addr} {M : Hp} : ∀ {ys : List V} {ps : List PP}, Paired (fun x p => DR K m M x (mkP p)) ys ps → DRs K m M ys (ps.map mkP)
  | _, _, .nil => .nil
  | _, _, .cons h t => .cons h (paired_drs t)
theorem ok_sortP (hu : X.A.units + 65 < cLine) : CallOk X (.builtin "sorted") gSortP := by
  refine ⟨_, cr_sortP hu, fun m M H ys ds res Q s a e k => ?_⟩
  unfold gSortP at e
  split at e
  · rename_i d
    cases a with
    | cons a1 an =>
      cases an
      cases hl : lstOf d with
      | none => rw [hl] at e; cases e
      | some ds =>
        rw [hl] at e
        cases hi : ppsOf ds with
        | none => simp only [Option.bind_some, hi] at e; cases e
        | some ps =>
          simp only [Option.bind_some, hi, Option.map_some] at e
          cases e
          obtain ⟨p, xs, rfl, h1, r1⟩ := a1.lst hl s
          rw [ppsOf_eq hi] at r1
          refine ⟨p, xs, ps, fun x p => DR X.K m M x (mkP p), rfl, h1, drs_P s r1, fun ys q hp hq => ?_⟩
          exact k _ _ M (Grow.fresh s hq) ⟨q, _, rfl, upd_same, .lst (paired_drs hp), s.free hq, hq⟩
  · cases e
theorem g_sortP (ps : List PP) : gSortP [.list (ps.map mkP)] = some ⟨.fr, .list ((sortP ps).map mkP)⟩ := by
  unfold gSortP
  simp only [lstOf, Option.bind_some, ppsOf_map, Option.map_some]
end
theorem rise_one (hlt : ∀ p q : PP, p.1 < q.1 → PySem.W.dataLt (encP p) (encP q) = true) : ∀ {qs rs : List PP}, rs.Perm qs → rs.Pairwise (fun a b => PySem.W.dataLe false encP a b = true) → qs.Pairwise (fun p q => p.1 < q.1) → rs = qs
  | [], rs, hp, _, _ => hp.eq_nil
  | x :: qs, rs, hp, hr, hq => by
    cases rs with
    | nil => exact absurd hp.symm.eq_nil (by simp)
    | cons y rs =>
      have hxy : y = x := by
        have hy : y ∈ x :: qs := hp.mem_iff.mp (List.mem_cons_self ..)
        rcases List.mem_cons.mp hy with e | hy
        · exact e
        · have h1 := hlt x y ((List.pairwise_cons.mp hq).1 y hy)
          have hx : x ∈ y :: rs := hp.mem_iff.mpr (List.mem_cons_self ..)
          rcases List.mem_cons.mp hx with e | hx
          · exact e.symm
          · have h2 := (List.pairwise_cons.mp hr).1 x hx
            have h3 : (!PySem.W.dataLt (encP x) (encP y)) = true := h2
            rw [h1] at h3
            cases h3
      subst hxy
      rw [rise_one hlt (List.perm_cons y |>.mp hp) (List.pairwise_cons.mp hr).2 (List.pairwise_cons.mp hq).2]
/-- a strictly rising list, however mixed, comes out of the sort as itself -/
theorem sortP_of {ps qs : List PP} (hp : qs.Perm ps) (h : qs.Pairwise fun p q => p.1 < q.1) : sortP ps = qs := by
  have hle : ∀ p q : PP, PySem.W.dataLe false encP p q = !PySem.W.dataLt (encP q) (encP p) := fun _ _ => rfl
  have hlt : ∀ p q : PP, p.1 < q.1 → PySem.W.dataLt (encP p) (encP q) = true := fun p q hpq => by
    have hne : p.1 ≠ q.1 := fun e => by rw [e] at hpq; exact absurd hpq (List.lt_irrefl _)
    unfold encP
    rw [PySem.W.dataLt_pair (by simp [PySem.W.alike, PySem.W.alike_ints]) (by simp [PySem.W.alike, PySem.W.alike_ints])]
    have e : PyData.eqv (.tuple (p.1.map PyData.int)) (.tuple (q.1.map PyData.int)) = false := by
      have := PySem.W.Datum.eqv (α := PySem.W.Tup Int) ⟨p.1⟩ ⟨q.1⟩
      have e2 : PyData.eqv (.tuple (p.1.map PyData.int)) (.tuple (q.1.map PyData.int)) = decide ((⟨p.1⟩ : PySem.W.Tup Int) = ⟨q.1⟩) := this
      rw [e2]
      exact decide_eq_false fun z => hne (congrArg PySem.W.Tup.items z)
    rw [e, if_neg Bool.false_ne_true, PySem.W.dataLt_tuple]
    show PySem.W.rowLt (p.1.map PyData.int) (q.1.map PyData.int) = true
    rw [PySem.W.dataLt_ints]
    exact decide_eq_true hpq
  have hs := PySem.W.sort_pairwise (PySem.W.sortLe_total (PyProof.Rows.listOrd PyProof.Rows.itemOrd) false fun b : PP => PySem.W.keyToks (encP b)) ps
  exact rise_one hlt (((List.mergeSort_perm ps _).trans hp.symm)) hs h
end MP

/-! MP 17: a list of a name's own is walked. -/
namespace MP
open PySem PySem.Spec PyProof.Rows L2

section
variable {X : Cx} {T : Tab} {W : WX} {al : Bool} {m : List Addr} {M G H : Hp} {pos : Pos}
theorem Ext.up {al : Bool} {G G' : Hp} {m : List Addr} {M : Hp} {m' : List Addr} {M' : Hp} (e : Ext al G' m M m' M') (h : ∀ a, G' a = Option.none → G a = Option.none) : Ext al G m M m' M' :=
  ⟨e.ml, e.nl, e.mm, fun a o q => (e.new a o q).imp id (h a)⟩
/-- a name's own list is put away: the heap keeps it -/
theorem Rel.hide {s : Sta} {σ : L2.St} {i : Nat} {ds : List D} (R : Rel X.K T m M G H s σ) (hs : s.env[i]? = some (.own (.list ds))) :
    ∃ b xs, σ[i]? = some (some (.ref b)) ∧ H b = some (.lst xs) ∧ DRs X.K m M xs ds ∧ M b = Option.none ∧ G b = Option.none ∧ Rel X.K T m M (upd G b (.lst xs)) H ⟨s.env.set i (.hid b), s.st⟩ σ := by
  obtain ⟨mh, gh, ⟨f1, f2, h1, h2, nd, dj⟩⟩ := R
  obtain ⟨g0, g1, g2, y, ef, ey, ⟨b, o, ef1, rfl, hb, hd⟩, k⟩ := h1.split hs
  cases hd with
  | lst hd =>
    rename_i xs
    subst ef ef1
    have dja := dj b (by simp)
    have eσ : σ = σ.set i (some (.ref b)) := by
      apply List.ext_getElem?
      intro j
      by_cases hj : i = j
      · subst hj
        rw [List.getElem?_set_self (by rw [← h1.len]; exact (List.getElem?_eq_some_iff.mp hs).1)]
        exact ey
      · rw [List.getElem?_set_ne hj]
    have k2 := k m M H (.hid b) (some (.ref b)) [] (MLe.refl _) (Same.refl _) (fun c hc => rfl) ⟨rfl, rfl⟩
    rw [← eσ] at k2
    have perm : List.Perm ((g0 ++ [b] ++ g2) ++ f2) (b :: ((g0 ++ [] ++ g2) ++ f2)) := by
      simp only [List.append_assoc, List.singleton_append, List.nil_append]
      exact List.perm_middle
    have nd' := List.nodup_cons.mp (perm.nodup_iff.mp nd)
    refine ⟨b, xs, ey, hb, hd, dja.1, dja.2, mh, fun c u e => ?_, g0 ++ [] ++ g2, f2, k2, h2, nd'.2, fun c hc => ?_⟩
    · by_cases z : c = b
      · subst z; rw [upd_same] at e; rw [← e]; exact hb
      · rw [upd_ne z] at e; exact gh _ _ e
    · have z : c ≠ b := fun z => nd'.1 (by rw [← z]; exact hc)
      have := dj c (perm.mem_iff.mpr (List.mem_cons_of_mem _ hc))
      exact ⟨this.1, by rw [upd_ne z]; exact this.2⟩
/-- and fetched again -/
theorem Rel.fetch {m' : List Addr} {M' H' : Hp} {s : Sta} {σ : L2.St} {i : Nat} {b : Addr} {xs : List V} {ds : List D} (R : Rel X.K T m' M' (upd G b (.lst xs)) H' s σ) (hs : s.env[i]? = some (.hid b)) (hd : DRs X.K m' M' xs ds) (hM : M' b = Option.none) (hG : G b = Option.none) :
    Rel X.K T m' M' G H' ⟨s.env.set i (.own (.list ds)), s.st⟩ σ := by
  obtain ⟨mh, gh, ⟨f1, f2, h1, h2, nd, dj⟩⟩ := R
  obtain ⟨g0, g1, g2, y, ef, ey, ⟨ef1, rfl⟩, k⟩ := h1.split hs
  subst ef ef1
  have hb : H' b = some (.lst xs) := gh _ _ upd_same
  have eσ : σ = σ.set i (some (.ref b)) := by
    apply List.ext_getElem?
    intro j
    by_cases hj : i = j
    · subst hj
      rw [List.getElem?_set_self (by rw [← h1.len]; exact (List.getElem?_eq_some_iff.mp hs).1)]
      exact ey
    · rw [List.getElem?_set_ne hj]
  have k2 := k m' M' H' (.own (.list ds)) (some (.ref b)) [b] (MLe.refl _) (Same.refl _) (fun c hc => rfl) ⟨b, _, rfl, rfl, hb, .lst hd⟩
  rw [← eσ] at k2
  have perm : List.Perm ((g0 ++ [b] ++ g2) ++ f2) (b :: ((g0 ++ [] ++ g2) ++ f2)) := by
    simp only [List.append_assoc, List.singleton_append, List.nil_append]
    exact List.perm_middle
  have ne : ∀ c, c ∈ (g0 ++ [] ++ g2) ++ f2 → c ≠ b := fun c hc z => by
    have := (dj c hc).2
    rw [z, upd_same] at this
    cases this
  refine ⟨mh, fun c u e => ?_, g0 ++ [b] ++ g2, f2, k2, h2, ?_, fun c hc => ?_⟩
  · refine gh _ _ ?_
    rw [upd_ne (fun z => by rw [z, hG] at e; cases e)]
    exact e
  · rw [perm.nodup_iff, List.nodup_cons]
    exact ⟨fun z => ne b z rfl, nd⟩
  · rcases List.mem_cons.mp (perm.mem_iff.mp hc) with rfl | z
    · exact ⟨hM, hG⟩
    · have := dj c z
      rw [upd_ne (ne c z)] at this
      exact this

open Classical in
/-- what comes of a block, whatever the address of the list that was put away -/
noncomputable def unhid (i : Nat) (d : D) (F : Addr → Fl) : Fl :=
  if h : ∃ s : Sta, i < s.env.length ∧ ∀ a, F a = .nx ⟨s.env.set i (.hid a), s.st⟩ then .nx ⟨h.choose.env.set i (.own d), h.choose.st⟩
  else if h : ∃ rs : Slot × List Ob, ∀ a, ∃ env, F a = .ret rs.1 ⟨env, rs.2⟩ then .ret h.choose.1 ⟨[], h.choose.2⟩
  else .stuck
noncomputable def sForO (i : Nat) (t : Tg) (g : Sta → Fl) : Sta → Fl := fun s => match s.env[i]? with
  | some (.own (.list ds)) => unhid i (.list ds) fun a => loopL t g ds ⟨s.env.set i (.hid a), s.st⟩
  | _ => .stuck
theorem unhid_nx {i : Nat} {d : D} {F : Addr → Fl} (env : List Slot) (st : List Ob) (hi : i < env.length) (h : ∀ a, F a = .nx ⟨env.set i (.hid a), st⟩) : unhid i d F = .nx ⟨env.set i (.own d), st⟩ := by
  have hx : ∃ s : Sta, i < s.env.length ∧ ∀ a, F a = .nx ⟨s.env.set i (.hid a), s.st⟩ := ⟨⟨env, st⟩, hi, h⟩
  unfold unhid
  rw [dif_pos hx]
  have h1 := hx.choose_spec.2 0
  rw [h 0] at h1
  injection h1 with h1
  injection h1 with h1 h2
  rw [← h2]
  have : env.set i (.own d) = (env.set i (.hid 0)).set i (.own d) := by rw [List.set_set]
  rw [this, h1, List.set_set]
theorem unhid_ret {i : Nat} {d : D} {F : Addr → Fl} (r : Slot) (st : List Ob) (h : ∀ a, ∃ env, F a = .ret r ⟨env, st⟩) : unhid i d F = .ret r ⟨[], st⟩ := by
  have h0 : ¬ ∃ s : Sta, i < s.env.length ∧ ∀ a, F a = .nx ⟨s.env.set i (.hid a), s.st⟩ := by
    rintro ⟨s, _, h1⟩
    obtain ⟨env, h2⟩ := h 0
    rw [h1 0] at h2
    cases h2
  have hx : ∃ rs : Slot × List Ob, ∀ a, ∃ env, F a = .ret rs.1 ⟨env, rs.2⟩ := ⟨(r, st), h⟩
  unfold unhid
  rw [dif_neg h0, dif_pos hx]
  obtain ⟨e1, h1⟩ := hx.choose_spec 0
  obtain ⟨e2, h2⟩ := h 0
  rw [h2] at h1
  injection h1 with h1 h3
  injection h3 with h3 h4
  rw [← h1, ← h4]
theorem s_forO {i : Nat} {x : Str} {px : Pos} {tg : Expr} {body : List Stmt} {t : Tg} {g : Sta → Fl} (hp : PassesOwn (model X.prog X.w) X.A X.env X.xe) (hc : X.calm = true) (hi : PE X (.Name x px) (tVar i)) (hg : PG X tg (tgR X.K t)) (hb : SEv X T W al body g)
    (hs : ∀ y, foldedSetIterable (.Name x px) X.env y = pure y := by intro _; rfl) : SE1 X T W al (.For tg (.Name x px) body [] pos) (sForO i t g) := by
  refine PS.wk (ps_for hp hc (pi_seq hi) hg hb hs) ?_
  rintro D σ H ⟨s, m, M, G, R, a, q⟩
  unfold sForO at q
  split at q
  · rename_i ds hs0
    obtain ⟨b, xs, hσ, hb0, hd0, hM, hG, R1⟩ := R.hide hs0
    have hup : ∀ a, upd G b (.lst xs) a = Option.none → G a = Option.none := fun a h => by
      by_cases z : a = b
      · subst z; exact hG
      · rw [upd_ne z] at h; exact h
    refine ⟨_, hσ, b, rfl, .inl ⟨⟨xs, SqL.of hb0⟩, ?_⟩⟩
    -- the ends of the whole, told with the list put away
    have fin : ∀ (fl : Fl), loopL t g ds ⟨s.env.set i (.hid b), s.st⟩ = fl → FlP X T W al (upd G b (.lst xs)) m M D fl := by
      intro fl efl
      unfold unhid at q
      split at q
      · rename_i hx
        obtain ⟨hil, hF⟩ := hx.choose_spec
        have efl := (hF b).symm.trans efl
        subst efl
        intro σ' H' m' M' e' a' R'
        have hM' : M' b = Option.none := by
          cases z : M' b with
          | none => rfl
          | some o =>
            rcases e'.new b o z with w | w
            · rw [hM] at w; cases w
            · rw [upd_same] at w; cases w
        have R2 := R'.fetch (i := i) (b := b) (ds := ds) (by show (hx.choose.env.set i (.hid b))[i]? = _; rw [List.getElem?_set_self hil]) (DRs.mono e'.ml e'.mm _ _ hd0) hM' hG
        refine q σ' H' m' M' (e'.up hup) a' ?_
        have e : (hx.choose.env.set i (Slot.hid b)).set i (.own (.list ds)) = hx.choose.env.set i (.own (.list ds)) := List.set_set ..
        rw [e] at R2
        exact R2
      · split at q
        · rename_i hx
          obtain ⟨env, hF⟩ := hx.choose_spec b
          have efl := hF.symm.trans efl
          subst efl
          intro y H' m' M' e' a' R'
          refine q y H' m' M' (e'.up hup) a' ?_
          obtain ⟨mh, gh, ⟨f1, f2, h1, h2, nd, dj⟩⟩ := R'
          refine ⟨mh, fun c u e => gh _ _ ?_, f1, f2, h1, h2, nd, fun c hc => ⟨(dj c hc).1, hup c (dj c hc).2⟩⟩
          rw [upd_ne (fun z => by rw [z, hG] at e; cases e)]
          exact e
        · exact q.elim
    have q := fin _ rfl
    refine ⟨fun i μ σ' H' => μ = ds.length - i ∧ i ≤ ds.length ∧ ∃ s' m' M', Ext al (upd G b (.lst xs)) m M m' M' ∧ AL al m' s' ∧ Rel X.K T m' M' (upd G b (.lst xs)) H' s' σ' ∧ FlP X T W al (upd G b (.lst xs)) m' M' D (loopL t g (ds.drop i) s'),
      ⟨ds.length, rfl, Nat.zero_le _, ⟨s.env.set i (.hid b), s.st⟩, m, M, Ext.refl .., a, R1, q⟩, ?_⟩
    rintro i μ σ' H' ⟨rfl, hi', s', m', M', e', a', R', q'⟩
    have hbH : ∀ {H2 : Hp}, Same (upd G b (.lst xs)) H2 → SqL X.K H2 b xs := fun h => SqL.of (h _ _ upd_same)
    have hlen := hd0.length
    by_cases hlt : i < ds.length
    · have hd : ds[i]? = some ds[i] := by simp [hlt]
      have hdrop : ds.drop i = ds[i] :: ds.drop (i + 1) := List.drop_eq_getElem_cons hlt
      generalize ds[i] = d at hd hdrop
      obtain ⟨v, hv, rv⟩ := hd0.get hd
      rw [hdrop, loopL] at q'
      cases hb' : t.bind d s'.env with
      | none => rw [hb'] at q'; exact q'.elim
      | some env =>
        simp only [hb'] at q'
        refine .inr ⟨⟨xs, v, hbH R'.gh, hv⟩, fun σ' H' => ∃ s' m' M', Ext al (upd G b (.lst xs)) m M m' M' ∧ AL al m' s' ∧ Rel X.K T m' M' (upd G b (.lst xs)) H' s' σ' ∧ FlP X T W al (upd G b (.lst xs)) m' M' D (loopL t g (ds.drop (i + 1)) s'),
          fun σ2 H2 hN => ⟨ds.length - (i + 1), by omega, rfl, hlt, hN⟩, fun x H2 hy => ?_⟩
        obtain ⟨rfl, hy⟩ := hy
        have hy2 := hy xs (hbH R'.gh)
        rw [hv] at hy2
        cases hy2
        have rx' : DR X.K m' M' v d := DR.mono e'.ml e'.mm _ _ rv
        refine tgR_of (T := T) (G := upd G b (.lst xs)) hb' rx' R' (Off.refl t.ixs σ') (fun _ h => h) fun σ3 R3 _ => ?_
        refine ⟨_, m', M', _, R3, a', ?_⟩
        cases hgo : g { s' with env := env } with
        | nx s4 =>
          simp only [hgo] at q'
          exact fun σ5 H5 m5 M5 e5 a5 R5 => ⟨s4, m5, M5, e'.trans e5, a5, R5, FlP.ext q' e5⟩
        | cont s4 =>
          simp only [hgo] at q'
          exact fun σ5 H5 m5 M5 e5 a5 R5 => ⟨s4, m5, M5, e'.trans e5, a5, R5, FlP.ext q' e5⟩
        | brk s4 =>
          simp only [hgo] at q'
          exact fun σ5 H5 m5 M5 e5 a5 R5 => q' σ5 H5 m5 M5 e5 a5 R5
        | ret r s4 =>
          simp only [hgo] at q'
          exact fun y H5 m5 M5 e5 a5 R5 => q' y H5 m5 M5 e5 a5 R5
        | exc x s4 =>
          simp only [hgo] at q'
          exact fun cls dd σ5 H5 m5 M5 e5 a5 R5 => q' cls dd σ5 H5 m5 M5 e5 a5 R5
        | stuck => simp only [hgo] at q'; exact q'.elim
    · have hie : i = ds.length := by omega
      subst hie
      rw [List.drop_length, loopL] at q'
      exact .inl ⟨⟨xs, hbH R'.gh, by omega⟩, q' σ' H' m' M' (Ext.refl ..) a' R'⟩
  · exact q.elim
end
end MP
namespace MP
open PySem PySem.Spec PyProof.Rows L2
theorem sqO {P : Fl → Prop} {i : Nat} {t : Tg} {g g2 : Sta → Fl} {env : List Slot} {st : List Ob} {ds : List D} (env' : List Slot) (st' : List Ob) (h0 : env[i]? = some (.own (.list ds))) (hi : i < env'.length)
    (h : ∀ a, loopL t g ds ⟨env.set i (.hid a), st⟩ = .nx ⟨env'.set i (.hid a), st'⟩) (k : P (g2 ⟨env'.set i (.own (.list ds)), st'⟩)) : P (sSeq (sForO i t g) g2 ⟨env, st⟩) := by
  have e : sForO i t g ⟨env, st⟩ = .nx ⟨env'.set i (.own (.list ds)), st'⟩ := by
    unfold sForO
    rw [h0]
    exact unhid_nx env' st' hi h
  exact sq e k
/-- the name of a loop behind some turns -/
def lastV (x : Slot) (ds : List D) : Slot := match ds.getLast? with
  | some d => .v d
  | none => x
theorem lastV_0 (x : Slot) : lastV x [] = x := rfl
theorem lastV_snoc (x : Slot) (ds : List D) (d : D) : lastV x (ds ++ [d]) = .v d := by unfold lastV; simp
theorem lastV_take {x : Slot} {ds : List D} {i : Nat} {d : D} (h : ds[i]? = some d) : lastV x (ds.take (i + 1)) = .v d := by
  rw [List.take_succ, h]
  exact lastV_snoc x _ d
/-- a loop whose turns change their own name alone -/
theorem loop_same {i : Nat} {g : Sta → Fl} {ds : List D} {env : List Slot} {st : List Ob} (h : ∀ d ∈ ds, g ⟨env.set i (.v d), st⟩ = .nx ⟨env.set i (.v d), st⟩) (x : Slot) (hx : env[i]? = some x) :
    loopL (.nm i) g ds ⟨env, st⟩ = .nx ⟨env.set i (lastV x ds), st⟩ := by
  obtain ⟨s', h1, h2⟩ := loopE (t := .nm i) (g := g) (s := ⟨env, st⟩) ds (fun j s => s = ⟨env.set i (lastV x (ds.take j)), st⟩) (by
    rw [List.take_zero, lastV_0]
    have : env = env.set i x := by
      apply List.ext_getElem?
      intro j
      by_cases hj : i = j
      · subst hj
        rw [List.getElem?_set_self (List.getElem?_eq_some_iff.mp hx).1]
        exact hx
      · rw [List.getElem?_set_ne hj]
    rw [← this]) (by
    rintro j d s hd rfl
    refine ⟨_, b_nm .., ?_⟩
    have e := h d (List.mem_of_getElem? hd)
    rw [lastV_take hd]
    show Turn _ _ (g ⟨(env.set i (lastV x (ds.take j))).set i (.v d), st⟩)
    rw [List.set_set, e]
    rfl)
  rw [h1, h2, List.take_length]
end MP

namespace L_k03
open PySem L2 MP
/-! ## what the printer has written: the text by places, the names of each def, its body by content -/
def top (i : Nat) : Stmt := PySem.Challenge.pw_chordbed_k03_readings_that_can_be.main.body.getD i (.Pass ⟨0, 0, 0, 0⟩)
abbrev s_l_cell : Stmt := top 23
abbrev s_l_take : Stmt := top 24
abbrev s_l_frame : Stmt := top 25
abbrev s_l_turned : Stmt := top 33
abbrev s_keys_in : Stmt := top 16
abbrev s_hung : Stmt := top 13
abbrev s_reads : Stmt := top 14
abbrev s_checked_keys : Stmt := top 17
abbrev s_pieces : Stmt := top 18
abbrev s_l_wires : Stmt := top 27
abbrev s_l_reading : Stmt := top 28
abbrev s_l_sets : Stmt := top 29
abbrev s_l_can : Stmt := top 34
abbrev s_l_pieces : Stmt := top 36
abbrev s_l_downs : Stmt := top 26
abbrev s_l_classes : Stmt := top 32
abbrev s_without : Stmt := top 19
abbrev s_seen : Stmt := top 20
abbrev s_why : Stmt := top 21
abbrev s_l_refused : Stmt := top 35
abbrev s_l_whole : Stmt := top 30
abbrev s_l_row : Stmt := top 31
abbrev s_law : Stmt := top 37
def ct_BedError : Str → Option Bool := fun x => List.lookup x [("NoReading", true)]
theorem ct_BedError_NoReading : ct_BedError "NoReading" = some true := by decide +kernel
def tab_NoChord : List (Str × Bool) := [("NoReading", false)]
theorem gi_NoChord_NoReading (fs : List (Str × D)) : gIsx tab_NoChord (.xv "NoReading" fs) = some ⟨.sh, .bool false⟩ := isx_eq (by decide +kernel)
def tab_NoBed : List (Str × Bool) := [("NoReading", false)]
theorem gi_NoBed_NoReading (fs : List (Str × D)) : gIsx tab_NoBed (.xv "NoReading" fs) = some ⟨.sh, .bool false⟩ := isx_eq (by decide +kernel)
def tab_NoReading : List (Str × Bool) := [("NoReading", true)]
theorem gi_NoReading_NoReading (fs : List (Str × D)) : gIsx tab_NoReading (.xv "NoReading" fs) = some ⟨.sh, .bool true⟩ := isx_eq (by decide +kernel)
def tab_NoFrame : List (Str × Bool) := [("NoReading", false)]
theorem gi_NoFrame_NoReading (fs : List (Str × D)) : gIsx tab_NoFrame (.xv "NoReading" fs) = some ⟨.sh, .bool false⟩ := isx_eq (by decide +kernel)
def tab_NoBook : List (Str × Bool) := [("NoReading", false)]
theorem gi_NoBook_NoReading (fs : List (Str × D)) : gIsx tab_NoBook (.xv "NoReading" fs) = some ⟨.sh, .bool false⟩ := isx_eq (by decide +kernel)
def tab_NoKeys : List (Str × Bool) := [("NoReading", false)]
theorem gi_NoKeys_NoReading (fs : List (Str × D)) : gIsx tab_NoKeys (.xv "NoReading" fs) = some ⟨.sh, .bool false⟩ := isx_eq (by decide +kernel)
def tab_TooMany : List (Str × Bool) := [("NoReading", false)]
theorem gi_TooMany_NoReading (fs : List (Str × D)) : gIsx tab_TooMany (.xv "NoReading" fs) = some ⟨.sh, .bool false⟩ := isx_eq (by decide +kernel)
def tab_NoText : List (Str × Bool) := [("NoReading", false)]
theorem gi_NoText_NoReading (fs : List (Str × D)) : gIsx tab_NoText (.xv "NoReading" fs) = some ⟨.sh, .bool false⟩ := isx_eq (by decide +kernel)
def tab_NoRow : List (Str × Bool) := [("NoReading", false)]
theorem gi_NoRow_NoReading (fs : List (Str × D)) : gIsx tab_NoRow (.xv "NoReading" fs) = some ⟨.sh, .bool false⟩ := isx_eq (by decide +kernel)
def tab_NoWord : List (Str × Bool) := [("NoReading", false)]
theorem gi_NoWord_NoReading (fs : List (Str × D)) : gIsx tab_NoWord (.xv "NoReading" fs) = some ⟨.sh, .bool false⟩ := isx_eq (by decide +kernel)
def tab_ValueError : List (Str × Bool) := [("NoReading", true)]
theorem gi_ValueError_NoReading (fs : List (Str × D)) : gIsx tab_ValueError (.xv "NoReading" fs) = some ⟨.sh, .bool true⟩ := isx_eq (by decide +kernel)
def b_l_cell : Sta → Fl :=
  sSeq (sIf (pB (p2 gLt (pVar 1) (pCall gLen (pCons (pVar 0) (pNil))))) (sRet (p2 gIx (pVar 0) (pVar 1))) (sNil)) (sRet (pC (.int 0)))
def sem_l_cell : MP.Sem := runB 2 b_l_cell
def lp_l_take_1 : Sta → Fl :=
  sSetV 0 (pD (p2 gDiv (pVar 0) (pC (.int 1000))))
def b_l_take : Sta → Fl :=
  sSeq (sIf (pOr (pB (p2 gLt (pVar 0) (pC (.int 0)))) (pB (p2 gGe (pVar 0) (p2 gPow (pC (.int 10)) (pC (.int 18)))))) (sSeq (sFor (pRng gRng1 (pCons (pVar 1) (pNil))) (.nm 4) (lp_l_take_1)) (sRet (p2 gMod (pVar 0) (pVar 2)))) (sNil)) (sSeq (sSetV 3 (pD (p2 gTimes (p2 gPlus (p2 gPlus (p2 gMod (pVar 0) (pC (.int 1000033))) (p2 gTimes (pC (.int 77)) (pVar 1))) (pC (.int 5))) (p2 gPlus (p2 gTimes (pVar 1) (pVar 1)) (pC (.int 40009)))))) (sRet (p2 gMod (p2 gDiv (p2 gMod (p2 gPlus (p2 gTimes (p2 gMod (pVar 3) (pC (.int 998857))) (pC (.int 30011))) (pVar 1)) (pC (.int 999983))) (pC (.int 3))) (pVar 2))))
def sem_l_take : MP.Sem := runB 5 b_l_take
def lp_l_frame_1 : Sta → Fl :=
  sAppF 6 (fPop 5 (pUser 3 sem_l_take (pCons (pD (pUser 2 sem_l_cell (pCons (pD (pVar 0)) (pCons (pD (p2 gPlus (pC (.int 1)) (pVar 7))) (pNil))))) (pCons (pD (pC (.int 4))) (pCons (pD (pCall gLen (pCons (pVar 5) (pNil)))) (pNil))))))
def b_l_frame : Sta → Fl :=
  sSeq (sSetV 2 (pD (pUser 2 sem_l_cell (pCons (pD (pVar 0)) (pCons (pD (pC (.int 0))) (pNil)))))) (sSeq (sSetV 3 (pD (p2 gPlus (pC (.int 1)) (pUser 3 sem_l_take (pCons (pD (pVar 2)) (pCons (pD (pC (.int 1))) (pCons (pD (pC (.int 6))) (pNil)))))))) (sSeq (sSetV 4 (pD (p2 gPlus (pC (.int 1)) (pUser 3 sem_l_take (pCons (pD (pVar 2)) (pCons (pD (pC (.int 2))) (pCons (pD (pC (.int 6))) (pNil)))))))) (sSeq (sSetO 5 (pComp (pRng gRng1 (pCons (p2 gTimes (pVar 3) (pVar 4)) (pNil))) (.nm 8) [8] (pYes) (pD (pCall gDivmod (pCons (pVar 8) (pCons (pVar 4) (pNil))))))) (sSeq (sSetO 6 (pLst (pNil))) (sSeq (sFor (pRng gRng1 (pCons (pCall gMin (pCons (pCall gLen (pCons (pVar 5) (pNil))) (pCons (p2 gPlus (pC (.int 1)) (pUser 3 sem_l_take (pCons (pD (pVar 2)) (pCons (pD (pC (.int 3))) (pCons (pD (pVar 1)) (pNil)))))) (pNil)))) (pNil))) (.nm 7) (lp_l_frame_1)) (sRet (pTup (pCons (pD (pVar 3)) (pCons (pD (pVar 4)) (pCons (pD (pCall gTuple (pCons (pVar 6) (pNil)))) (pNil)))))))))))
def sem_l_frame : MP.Sem := runB 9 b_l_frame
def st_l_turned_1 : Sta → Fl :=
  sSetV 3 (pD (pUser 2 sem_l_cell (pCons (pD (pVar 0)) (pCons (pD (pC (.int 14))) (pNil)))))
def st_l_turned_2 : Sta → Fl :=
  sSetV 4 (pD (pUser 3 sem_l_take (pCons (pD (pVar 3)) (pCons (pD (pC (.int 5))) (pCons (pD (pCall gLen (pCons (pVar 2) (pNil)))) (pNil))))))
def st_l_turned_3 : Sta → Fl :=
  sSetV 5 (pD (pUser 3 sem_l_take (pCons (pD (pVar 3)) (pCons (pD (pC (.int 6))) (pCons (pD (pC (.int 9))) (pNil))))))
def st_l_turned_4 : Sta → Fl :=
  sSetV 6 (pD (p2 gIx (pVar 2) (pVar 4)))
def st_l_turned_5 : Sta → Fl :=
  sIf (pB (p2 gLt (pVar 5) (pC (.int 2)))) (sSetV 6 (pD (p2 gXor (pVar 6) (p2 gShl (pC (.int 1)) (pUser 3 sem_l_take (pCons (pD (pVar 3)) (pCons (pD (pC (.int 7))) (pCons (pD (p2 gIx (pVar 1) (pC (.int 1)))) (pNil))))))))) (sNil)
def st_l_turned_6 : Sta → Fl :=
  sIf (pB (p2 gEq (pVar 5) (pC (.int 2)))) (sSetV 6 (pD (p2 gIx (pLst (pCons (pD (p1 gNeg (pC (.int 1)))) (pCons (pD (p2 gShl (pC (.int 1)) (p2 gIx (pVar 1) (pC (.int 1))))) (pCons (pD (p2 gSub (p2 gSub (pC (.int 0)) (pVar 6)) (pC (.int 1)))) (pCons (pD (p2 gPow (pC (.int 10)) (pC (.int 18)))) (pNil)))))) (pUser 3 sem_l_take (pCons (pD (pVar 3)) (pCons (pD (pC (.int 7))) (pCons (pD (pC (.int 4))) (pNil)))))))) (sNil)
def st_l_turned_7 : Sta → Fl :=
  sIf (pB (p2 gEq (pVar 5) (pC (.int 3)))) (sRet (p2 gPlus (pSl (pVar 2) (pNo) (pSome (pVar 4))) (pSl (pVar 2) (pSome (p2 gPlus (pVar 4) (pC (.int 1)))) (pNo)))) (sNil)
def st_l_turned_8 : Sta → Fl :=
  sIf (pB (p2 gEq (pVar 5) (pC (.int 4)))) (sRet (p2 gPlus (p2 gPlus (pSl (pVar 2) (pNo) (pSome (pVar 4))) (pTup (pCons (pD (pVar 6)) (pNil)))) (pSl (pVar 2) (pSome (pVar 4)) (pNo)))) (sNil)
def st_l_turned_9 : Sta → Fl :=
  sIf (pB (p2 gEq (pVar 5) (pC (.int 5)))) (sRet (pCall gTuple (pCons (pComp (pRng gRng1 (pCons (p2 gIx (pVar 1) (pC (.int 0))) (pNil))) (.nm 7) [7] (pYes) (pD (pUser 3 sem_l_take (pCons (pD (pVar 3)) (pCons (pD (p2 gPlus (pC (.int 20)) (pVar 7))) (pCons (pD (p2 gShl (pC (.int 1)) (p2 gIx (pVar 1) (pC (.int 1))))) (pNil))))))) (pNil)))) (sNil)
def st_l_turned_10 : Sta → Fl :=
  sRet (p2 gPlus (p2 gPlus (pSl (pVar 2) (pNo) (pSome (pVar 4))) (pTup (pCons (pD (pVar 6)) (pNil)))) (pSl (pVar 2) (pSome (p2 gPlus (pVar 4) (pC (.int 1)))) (pNo)))
def b_l_turned : Sta → Fl :=
  sSeq st_l_turned_1 (sSeq st_l_turned_2 (sSeq st_l_turned_3 (sSeq st_l_turned_4 (sSeq st_l_turned_5 (sSeq st_l_turned_6 (sSeq st_l_turned_7 (sSeq st_l_turned_8 (sSeq st_l_turned_9 (st_l_turned_10)))))))))
def sem_l_turned : MP.Sem := runB 8 b_l_turned
def b_keys_in : Sta → Fl :=
  sSeq (sSetV 2 (pD (p2 gIx (pVar 0) (pC (.int 2))))) (sRet (pCall gTuple (pCons (pComp (pRng gRng1 (pCons (pCall gLen (pCons (pVar 2) (pNil))) (pNil))) (.nm 3) [3] (pB (p2 gEq (p2 gAnd (p2 gShr (p2 gIx (pVar 1) (p2 gIx (p2 gIx (pVar 2) (pVar 3)) (pC (.int 0)))) (p2 gIx (p2 gIx (pVar 2) (pVar 3)) (pC (.int 1)))) (pC (.int 1))) (pC (.int 1)))) (pD (pVar 3))) (pNil))))
def sem_keys_in : MP.Sem := runB 4 b_keys_in
def lp_hung_1 : Sta → Fl :=
  sSeq (sSetV 7 (pD (p2 gIx (pVar 2) (p2 gIx (p2 gIx (pVar 6) (pVar 3)) (pC (.int 0)))))) (sSeq (sSetV 8 (pD (p2 gIx (pVar 2) (p2 gPlus (pVar 4) (p2 gIx (p2 gIx (pVar 6) (pVar 3)) (pC (.int 1))))))) (sThaw 2 (sSetO 2 (pComp (pSeqR (pVar 2)) (.nm 9) [9] (pYes) (pD (pIf (pB (p2 gEq (pVar 9) (pVar 8))) (pVar 7) (pVar 9)))))))
def b_hung : Sta → Fl :=
  sSeq (sTup (.tp [4, 5, 6]) (pD (pVar 0))) (sSeq (sSetV 2 (pD (pLRng gRng1 (pCons (p2 gPlus (pVar 4) (pVar 5)) pNil)))) (sSeq (sFor (pSeq (pD (pVar 1))) (.nm 3) (lp_hung_1)) (sRet (pTup (pCons (pD (pSl (pVar 2) (pNo) (pSome (pVar 4)))) (pCons (pD (pSl (pVar 2) (pSome (pVar 4)) (pNo))) (pNil)))))))
def sem_hung : MP.Sem := runB 10 b_hung
def lp_reads_1 : Sta → Fl :=
  sIf (pB (p2 gEq (p2 gIx (pVar 5) (pVar 7)) (pVar 3))) (sSetV 6 (pD (p2 gOr (pVar 6) (p2 gShl (pC (.int 1)) (pVar 7))))) (sNil)
def lp_reads_2 : Sta → Fl :=
  sSeq (sSetV 6 (pD (pC (.int 0)))) (sSeq (sFor (pRng gRng1 (pCons (pCall gLen (pCons (pVar 5) (pNil))) (pNil))) (.nm 7) (lp_reads_1)) (sApp 2 (pD (pVar 6))))
def b_reads : Sta → Fl :=
  sSeq (sTup (.tp [4, 5]) (pD (pUser 2 sem_hung (pCons (pD (pVar 0)) (pCons (pD (pVar 1)) (pNil)))))) (sSeq (sSetO 2 (pLst (pNil))) (sSeq (sFor (pSeq (pD (pVar 4))) (.nm 3) (lp_reads_2)) (sRet (pCall gTuple (pCons (pVar 2) (pNil))))))
def sem_reads : MP.Sem := runB 8 b_reads
def lp_checked_keys_1 : Sta → Fl :=
  sIf (pNot (pB (p3 gLe gLt (pC (.int 0)) (pVar 2) (p2 gShl (pC (.int 1)) (p2 gIx (pVar 0) (pC (.int 1))))))) (sRaiseN "NoReading") (sNil)
def b_checked_keys : Sta → Fl :=
  sSeq (sIf (pB (p2 gNe (pCall gLen (pCons (pVar 1) (pNil))) (p2 gIx (pVar 0) (pC (.int 0))))) (sRaiseN "NoReading") (sNil)) (sSeq (sFor (pSeq (pD (pVar 1))) (.nm 2) (lp_checked_keys_1)) (sSeq (sSetV 3 (pD (pUser 2 sem_keys_in (pCons (pD (pVar 0)) (pCons (pD (pVar 1)) (pNil)))))) (sSeq (sIf (pB (p2 gNe (pUser 2 sem_reads (pCons (pD (pVar 0)) (pCons (pD (pVar 3)) (pNil)))) (pCall gTuple (pCons (pVar 1) (pNil))))) (sRaiseN "NoReading") (sNil)) (sRet (pVar 3)))))
def sem_checked_keys : MP.Sem := runB 4 b_checked_keys
def lp_pieces_1 : Sta → Fl :=
  sIf (pB (p2 gGt (pVar 3) (pC (.int 0)))) (sSeq (sSetV 4 (pD (pCall gTuple (pCons (pComp (pRng gRng1 (pCons (p2 gIx (pVar 0) (pC (.int 0))) (pNil))) (.nm 5) [5] (pB (p2 gEq (p2 gIx (pVar 1) (pVar 5)) (pVar 3))) (pD (pVar 5))) (pNil))))) (sApp 2 (pD (pTup (pCons (pD (pVar 4)) (pCons (pD (pCall gTuple (pCons (pComp (pRng gRng1 (pCons (p2 gIx (pVar 0) (pC (.int 1))) (pNil))) (.nm 6) [6] (pB (p2 gEq (p2 gAnd (p2 gShr (pVar 3) (pVar 6)) (pC (.int 1))) (pC (.int 1)))) (pD (pVar 6))) (pNil)))) (pNil))))))) (sNil)
def st_pieces_1 : Sta → Fl :=
  sExpr (pUser 2 sem_checked_keys (pCons (pD (pVar 0)) (pCons (pD (pVar 1)) (pNil))))
def st_pieces_2 : Sta → Fl :=
  sSetO 2 (pLst (pNil))
def st_pieces_3 : Sta → Fl :=
  sFor (pSeq (pD (p1 gSrtSet (pVar 1)))) (.nm 3) (lp_pieces_1)
def st_pieces_4 : Sta → Fl :=
  sRet (pCall gSortP (pCons (pVar 2) (pNil)))
def b_pieces : Sta → Fl :=
  sSeq st_pieces_1 (sSeq st_pieces_2 (sSeq st_pieces_3 (st_pieces_4)))
def sem_pieces : MP.Sem := runB 7 b_pieces
def lp_l_wires_1 : Sta → Fl :=
  sSeq (sIf (pAnd (pB (p2 gIn (p2 gIx (p2 gIx (pVar 6) (pVar 10)) (pC (.int 0))) (pVar 7))) (pB (p2 gNin (p2 gIx (p2 gIx (pVar 6) (pVar 10)) (pC (.int 1))) (pVar 8)))) (sApp 8 (pD (p2 gIx (p2 gIx (pVar 6) (pVar 10)) (pC (.int 1))))) (sNil)) (sIf (pAnd (pB (p2 gIn (p2 gIx (p2 gIx (pVar 6) (pVar 10)) (pC (.int 1))) (pVar 8))) (pB (p2 gNin (p2 gIx (p2 gIx (pVar 6) (pVar 10)) (pC (.int 0))) (pVar 7)))) (sApp 7 (pD (p2 gIx (p2 gIx (pVar 6) (pVar 10)) (pC (.int 0))))) (sNil))
def lp_l_wires_2 : Sta → Fl :=
  sFor (pSeq (pD (pVar 1))) (.nm 10) (lp_l_wires_1)
def lp_l_wires_3 : Sta → Fl :=
  sSeq (sSetO 7 (pLst (pCons (pD (pVar 3)) (pNil)))) (sSeq (sSetO 8 (pLst (pNil))) (sSeq (sFor (pRng gRng1 (pCons (pCall gLen (pCons (pVar 1) (pNil))) (pNil))) (.nm 9) (lp_l_wires_2)) (sApp 2 (pD (pTup (pCons (pD (pCall gSorted (pCons (pVar 7) (pNil)))) (pCons (pD (pCall gSorted (pCons (pVar 8) (pNil)))) (pNil))))))))
def b_l_wires : Sta → Fl :=
  sSeq (sTup (.tp [4, 5, 6]) (pD (pVar 0))) (sSeq (sSetO 2 (pLst (pNil))) (sSeq (sFor (pRng gRng1 (pCons (pVar 4) (pNil))) (.nm 3) (lp_l_wires_3)) (sRetS 2)))
def sem_l_wires : MP.Sem := runB 11 b_l_wires
def lp_l_reading_1 : Sta → Fl :=
  sSetV 5 (pD (p2 gPlus (pVar 5) (p2 gShl (pC (.int 1)) (pVar 6))))
def lp_l_reading_2 : Sta → Fl :=
  sSeq (sSetV 5 (pD (pC (.int 0)))) (sSeq (sFor (pSeq (pD (pVar 4))) (.nm 6) (lp_l_reading_1)) (sApp 2 (pD (pVar 5))))
def b_l_reading : Sta → Fl :=
  sSeq (sSetO 2 (pLst (pNil))) (sSeq (sFor (pSeq (pD (pUser 2 sem_l_wires (pCons (pD (pVar 0)) (pCons (pD (pVar 1)) (pNil)))))) (.tp [3, 4]) (lp_l_reading_2)) (sRet (pCall gTuple (pCons (pVar 2) (pNil)))))
def sem_l_reading : MP.Sem := runB 7 b_l_reading
def lp_l_sets_1 : Sta → Fl :=
  sApp 1 (pD (pCall gTuple (pCons (pComp (pRng gRng1 (pCons (pVar 0) (pNil))) (.nm 3) [3] (pB (p2 gEq (p2 gAnd (p2 gShr (pVar 2) (pVar 3)) (pC (.int 1))) (pC (.int 1)))) (pD (pVar 3))) (pNil))))
def b_l_sets : Sta → Fl :=
  sSeq (sSetO 1 (pLst (pNil))) (sSeq (sFor (pRng gRng1 (pCons (p2 gShl (pC (.int 1)) (pVar 0)) (pNil))) (.nm 2) (lp_l_sets_1)) (sRetS 1))
def sem_l_sets : MP.Sem := runB 4 b_l_sets
def st_l_can_1 : Sta → Fl :=
  sSetV 2 (pD (p2 gIx (pVar 0) (pC (.int 2))))
def st_l_can_2 : Sta → Fl :=
  sIf (pB (p2 gLt (pCall gLen (pCons (pVar 2) (pNil))) (pC (.int 7)))) (sRet (p2 gIn (pVar 1) (pComp (pSeqR (pUser 1 sem_l_sets (pCons (pD (pCall gLen (pCons (pVar 2) (pNil)))) (pNil)))) (.nm 3) [3] (pYes) (pD (pUser 2 sem_l_reading (pCons (pD (pVar 0)) (pCons (pD (pVar 3)) (pNil)))))))) (sNil)
def st_l_can_3 : Sta → Fl :=
  sIf (pOr (pB (p2 gNe (pCall gLen (pCons (pVar 1) (pNil))) (p2 gIx (pVar 0) (pC (.int 0))))) (pOr (pB (p2 gLt (pCall gMinT (pCons (pVar 1) (pNil))) (pC (.int 0)))) (pB (p2 gGe (pCall gMaxT (pCons (pVar 1) (pNil))) (p2 gShl (pC (.int 1)) (p2 gIx (pVar 0) (pC (.int 1)))))))) (sRet (pC (.bool false))) (sNil)
def st_l_can_4 : Sta → Fl :=
  sThaw 3 (sSetO 3 (pComp (pRng gRng1 (pCons (pCall gLen (pCons (pVar 2) (pNil))) (pNil))) (.nm 4) [4] (pB (p2 gEq (p2 gAnd (p2 gShr (p2 gIx (pVar 1) (p2 gIx (p2 gIx (pVar 2) (pVar 4)) (pC (.int 0)))) (p2 gIx (p2 gIx (pVar 2) (pVar 4)) (pC (.int 1)))) (pC (.int 1))) (pC (.int 1)))) (pD (pVar 4))))
def st_l_can_5 : Sta → Fl :=
  sRet (p2 gEq (pUser 2 sem_l_reading (pCons (pD (pVar 0)) (pCons (pD (pCall gTuple (pCons (pVar 3) (pNil)))) (pNil)))) (pVar 1))
def b_l_can : Sta → Fl :=
  sSeq st_l_can_1 (sSeq st_l_can_2 (sSeq st_l_can_3 (sSeq st_l_can_4 (st_l_can_5))))
def sem_l_can : MP.Sem := runB 5 b_l_can
def lp_l_pieces_1 : Sta → Fl :=
  sSeq (sSetV 4 (pD (pCall gTuple (pCons (pComp (pRng gRng1 (pCons (p2 gIx (pVar 0) (pC (.int 0))) (pNil))) (.nm 6) [6] (pB (p2 gEq (p2 gIx (pVar 1) (pVar 6)) (p2 gIx (pVar 1) (pVar 3)))) (pD (pVar 6))) (pNil))))) (sSeq (sSetV 5 (pD (pCall gTuple (pCons (pComp (pRng gRng1 (pCons (p2 gIx (pVar 0) (pC (.int 1))) (pNil))) (.nm 7) [7] (pB (p2 gEq (p2 gAnd (p2 gShr (p2 gIx (pVar 1) (pVar 3)) (pVar 7)) (pC (.int 1))) (pC (.int 1)))) (pD (pVar 7))) (pNil))))) (sIf (pAnd (pB (p2 gGt (pCall gLen (pCons (pVar 5) (pNil))) (pC (.int 0)))) (pB (p2 gEq (p2 gIx (pVar 4) (pC (.int 0))) (pVar 3)))) (sApp 2 (pD (pTup (pCons (pD (pVar 4)) (pCons (pD (pVar 5)) (pNil)))))) (sNil)))
def st_l_pieces_1 : Sta → Fl :=
  sSetO 2 (pLst (pNil))
def st_l_pieces_2 : Sta → Fl :=
  sFor (pRng gRng1 (pCons (p2 gIx (pVar 0) (pC (.int 0))) (pNil))) (.nm 3) (lp_l_pieces_1)
def st_l_pieces_3 : Sta → Fl :=
  sRetS 2
def b_l_pieces : Sta → Fl :=
  sSeq st_l_pieces_1 (sSeq st_l_pieces_2 (st_l_pieces_3))
def sem_l_pieces : MP.Sem := runB 8 b_l_pieces
def lp_l_downs_1 : Sta → Fl :=
  sIf (pB (p2 gLt (pUser 3 sem_l_take (pCons (pD (pVar 0)) (pCons (pD (p2 gPlus (pC (.int 10)) (pVar 3))) (pCons (pD (pC (.int 5))) (pNil))))) (pC (.int 2)))) (sApp 2 (pD (pVar 3))) (sNil)
def b_l_downs : Sta → Fl :=
  sSeq (sSetO 2 (pLst (pNil))) (sSeq (sFor (pRng gRng1 (pCons (pVar 1) (pNil))) (.nm 3) (lp_l_downs_1)) (sRet (pCall gTuple (pCons (pVar 2) (pNil)))))
def sem_l_downs : MP.Sem := runB 4 b_l_downs
def b_l_classes : Sta → Fl :=
  sSeq (sSetV 1 (pD (pLst (pCons (pD (p1 (gIsx tab_NoFrame) (pVar 0))) (pCons (pD (p1 (gIsx tab_NoReading) (pVar 0))) (pCons (pD (p1 (gIsx tab_NoBed) (pVar 0))) (pCons (pD (p1 (gIsx tab_NoChord) (pVar 0))) (pNil)))))))) (sSeq (sSetV 1 (pD (p2 gPlus (pVar 1) (pLst (pCons (pD (p1 (gIsx tab_NoText) (pVar 0))) (pCons (pD (p1 (gIsx tab_TooMany) (pVar 0))) (pCons (pD (p1 (gIsx tab_NoKeys) (pVar 0))) (pCons (pD (p1 (gIsx tab_NoBook) (pVar 0))) (pNil))))))))) (sSeq (sSetV 1 (pD (p2 gPlus (pVar 1) (pLst (pCons (pD (p1 (gIsx tab_NoWord) (pVar 0))) (pCons (pD (p1 (gIsx tab_NoRow) (pVar 0))) (pNil))))))) (sSeq (sIf (pOr (pNot (pB (p1 (gIsx tab_ValueError) (pVar 0)))) (pB (p2 gNe (pMt gCount (pVar 1) (pC (.bool true))) (pC (.int 1))))) (sRet (p1 gNeg (pC (.int 1)))) (sNil)) (sRet (pMt gIndex (pVar 1) (pC (.bool true)))))))
def sem_l_classes : MP.Sem := runB 2 b_l_classes
def b_without : Sta → Fl :=
  sRet (pCall gTuple (pCons (pComp (pSeqR (pVar 0)) (.nm 2) [2] (pB (p2 gNe (pVar 2) (pVar 1))) (pD (pVar 2))) (pNil)))
def sem_without : MP.Sem := runB 3 b_without
def lp_seen_1 : Sta → Fl :=
  sIf (pB (p2 gNin (pVar 4) (pVar 2))) (sApp 3 (pD (pC (.str "up")))) (sIf (pB (p2 gEq (pUser 2 sem_reads (pCons (pD (pVar 0)) (pCons (pD (pUser 2 sem_without (pCons (pD (pVar 2)) (pCons (pD (pVar 4)) (pNil))))) (pNil)))) (pCall gTuple (pCons (pVar 1) (pNil))))) (sApp 3 (pD (pC (.str "unsure")))) (sApp 3 (pD (pC (.str "sure")))))
def b_seen : Sta → Fl :=
  sSeq (sSetV 2 (pD (pUser 2 sem_checked_keys (pCons (pD (pVar 0)) (pCons (pD (pVar 1)) (pNil)))))) (sSeq (sSetO 3 (pLst (pNil))) (sSeq (sFor (pRng gRng1 (pCons (pCall gLen (pCons (p2 gIx (pVar 0) (pC (.int 2))) (pNil))) (pNil))) (.nm 4) (lp_seen_1)) (sRet (pCall gTuple (pCons (pVar 3) (pNil))))))
def sem_seen : MP.Sem := runB 5 b_seen
def st_why_1 : Sta → Fl :=
  sSetV 3 (pD (pUser 2 sem_checked_keys (pCons (pD (pVar 0)) (pCons (pD (pVar 1)) (pNil)))))
def st_why_2 : Sta → Fl :=
  sIf (pB (p2 gNin (pVar 2) (pVar 3))) (sRet (pC .none)) (sNil)
def st_why_3 : Sta → Fl :=
  sSetV 4 (pD (pUser 2 sem_without (pCons (pD (pVar 3)) (pCons (pD (pVar 2)) (pNil)))))
def st_why_4 : Sta → Fl :=
  sIf (pB (p2 gEq (pUser 2 sem_reads (pCons (pD (pVar 0)) (pCons (pD (pVar 4)) (pNil)))) (pCall gTuple (pCons (pVar 1) (pNil))))) (sRet (pTup (pCons (pD (pVar 3)) (pCons (pD (pVar 4)) (pNil))))) (sNil)
def st_why_5 : Sta → Fl :=
  sTup (.tp [7, 8]) (pD (pUser 2 sem_hung (pCons (pD (pVar 0)) (pCons (pD (pVar 4)) (pNil)))))
def st_why_6 : Sta → Fl :=
  sSetV 5 (pD (p2 gIx (pVar 7) (p2 gIx (p2 gIx (p2 gIx (pVar 0) (pC (.int 2))) (pVar 2)) (pC (.int 0)))))
def st_why_7 : Sta → Fl :=
  sSetV 6 (pD (pCall gTuple (pCons (pComp (pRng gRng1 (pCons (p2 gIx (pVar 0) (pC (.int 0))) (pNil))) (.nm 9) [9] (pB (p2 gEq (p2 gIx (pVar 7) (pVar 9)) (pVar 5))) (pD (pVar 9))) (pNil))))
def st_why_8 : Sta → Fl :=
  sRet (pTup (pCons (pD (pVar 6)) (pCons (pD (pCall gTuple (pCons (pComp (pRng gRng1 (pCons (p2 gIx (pVar 0) (pC (.int 1))) (pNil))) (.nm 10) [10] (pB (p2 gEq (p2 gIx (pVar 8) (pVar 10)) (pVar 5))) (pD (pVar 10))) (pNil)))) (pNil))))
def b_why : Sta → Fl :=
  sSeq st_why_1 (sSeq st_why_2 (sSeq st_why_3 (sSeq st_why_4 (sSeq st_why_5 (sSeq st_why_6 (sSeq st_why_7 (st_why_8)))))))
def sem_why : MP.Sem := runB 11 b_why
def st_l_refused_1 : Sta → Fl :=
  sSetV 4 (pD (pC .none))
def st_l_refused_2 : Sta → Fl :=
  sTryV ct_BedError 5 4 (sIf (pB (p2 gEq (pVar 2) (pC (.int 0)))) (sExpr (pUser 2 sem_pieces (pCons (pD (pVar 0)) (pCons (pD (pVar 1)) (pNil))))) (sIf (pB (p2 gEq (pVar 2) (pC (.int 1)))) (sExpr (pUser 2 sem_seen (pCons (pD (pVar 0)) (pCons (pD (pVar 1)) (pNil))))) (sExpr (pUser 3 sem_why (pCons (pD (pVar 0)) (pCons (pD (pVar 1)) (pCons (pD (pVar 3)) (pNil))))))))
def st_l_refused_3 : Sta → Fl :=
  sRet (pAndV (p2 gIsNot (pVar 4) (pC .none)) (p2 gEq (pUser 1 sem_l_classes (pCons (pD (pVar 4)) (pNil))) (pC (.int 1))))
def b_l_refused : Sta → Fl :=
  sSeq st_l_refused_1 (sSeq st_l_refused_2 (st_l_refused_3))
def sem_l_refused : MP.Sem := runB 6 b_l_refused
def b_l_whole : Sta → Fl :=
  sRet (pAndV (pIsi "int" (pVar 0)) (pNotV (pIsi "bool" (pVar 0))))
def sem_l_whole : MP.Sem := runB 1 b_l_whole
def b_l_row : Sta → Fl :=
  sRet (pAndV (pIsi "tuple" (pVar 0)) (pCall gAll (pCons (pComp (pSeqR (pVar 0)) (.nm 1) [1] (pYes) (pD (pUser 1 sem_l_whole (pCons (pD (pVar 1)) (pNil))))) (pNil))))
def sem_l_row : MP.Sem := runB 2 b_l_row
noncomputable def lp_law_1 : Sta → Fl :=
  sIf (pOr (pNot (pB (pIsi "tuple" (pVar 5)))) (pOr (pNot (pB (pUser 1 sem_l_row (pCons (pD (p2 gIx (pVar 5) (pC (.int 0)))) (pNil))))) (pNot (pB (pUser 1 sem_l_row (pCons (pD (p2 gIx (pVar 5) (pC (.int 1)))) (pNil))))))) (sRet (pC (.bool false))) (sNil)
noncomputable def st_law_1 : Sta → Fl :=
  sSetV 1 (pD (pUser 2 sem_l_frame (pCons (pD (pVar 0)) (pCons (pD (p2 gIx (pLst (pCons (pD (pC (.int 6))) (pCons (pD (pC (.int 12))) (pNil)))) (pUser 3 sem_l_take (pCons (pD (pUser 2 sem_l_cell (pCons (pD (pVar 0)) (pCons (pD (pC (.int 14))) (pNil))))) (pCons (pD (pC (.int 8))) (pCons (pD (pC (.int 2))) (pNil))))))) (pNil)))))
noncomputable def st_law_2 : Sta → Fl :=
  sSetV 2 (pD (pCall gLen (pCons (p2 gIx (pVar 1) (pC (.int 2))) (pNil))))
noncomputable def st_law_3 : Sta → Fl :=
  sSetV 3 (pD (pUser 3 sem_l_turned (pCons (pD (pVar 0)) (pCons (pD (pVar 1)) (pCons (pD (pUser 2 sem_l_reading (pCons (pD (pVar 1)) (pCons (pD (pUser 2 sem_l_downs (pCons (pD (pUser 2 sem_l_cell (pCons (pD (pVar 0)) (pCons (pD (pC (.int 13))) (pNil))))) (pCons (pD (pVar 2)) (pNil))))) (pNil))))) (pNil))))))
noncomputable def st_law_4 : Sta → Fl :=
  sIf (pNot (pB (pUser 2 sem_l_can (pCons (pD (pVar 1)) (pCons (pD (pVar 3)) (pNil)))))) (sSeq (sSetV 6 (pD (pUser 3 sem_l_take (pCons (pD (pUser 2 sem_l_cell (pCons (pD (pVar 0)) (pCons (pD (pC (.int 14))) (pNil))))) (pCons (pD (pC (.int 9))) (pCons (pD (pVar 2)) (pNil))))))) (sRet (pCall gAll (pCons (pComp (pRng gRng1 (pCons (pC (.int 3)) (pNil))) (.nm 7) [7] (pYes) (pD (pUser 4 sem_l_refused (pCons (pD (pVar 1)) (pCons (pD (pVar 3)) (pCons (pD (pVar 7)) (pCons (pD (pVar 6)) (pNil)))))))) (pNil))))) (sNil)
noncomputable def st_law_5 : Sta → Fl :=
  sSetO 4 (pUser 2 sem_pieces (pCons (pD (pVar 1)) (pCons (pD (pVar 3)) (pNil))))
noncomputable def st_law_6 : Sta → Fl :=
  sIf (pOr (pNot (pB (pIsi "list" (pVar 4)))) (pB (p2 gNe (pVar 4) (pUser 2 sem_l_pieces (pCons (pD (pVar 1)) (pCons (pD (pVar 3)) (pNil))))))) (sRet (pC (.bool false))) (sNil)
noncomputable def st_law_7 : Sta → Fl :=
  sForO 4 (.nm 5) (lp_law_1)
noncomputable def st_law_8 : Sta → Fl :=
  sApp 4 (pD (pTup (pCons (pD (pTup (pNil))) (pCons (pD (pTup (pNil))) (pNil)))))
noncomputable def st_law_9 : Sta → Fl :=
  sRet (p2 gEq (pUser 2 sem_pieces (pCons (pD (pVar 1)) (pCons (pD (pVar 3)) (pNil)))) (pUser 2 sem_l_pieces (pCons (pD (pVar 1)) (pCons (pD (pVar 3)) (pNil)))))
noncomputable def b_law : Sta → Fl :=
  sSeq st_law_1 (sSeq st_law_2 (sSeq st_law_3 (sSeq st_law_4 (sSeq st_law_5 (sSeq st_law_6 (sSeq st_law_7 (sSeq st_law_8 (st_law_9))))))))
noncomputable def sem_law : MP.Sem := runB 8 b_law
end L_k03

namespace L_k03
open PySem L2 MP
/-! ## each def as the machine has it -/
def fnames : List Str := ["place", "layer", "key", "row", "most", "word"]
def tab (ca : Nat → Addr) : Tab := ⟨ca, nmOf fnames, nmOf_inj (by decide +kernel) (by decide +kernel)⟩
theorem T_ne {ca : Nat → Addr} {x : Str} (h : x ∉ fnames) (hs : x.cps.size < 1000) : ∀ i, (tab ca).nm i ≠ x := nmOf_ne h hs
/-- what stands at the names of the top -/
structure Gb (K : PySem.W.Frag) (mg : Str → Option Value) : Prop where
  g_ValueError : mg "ValueError" = none
  g_all : mg "all" = none
  g_bool : mg "bool" = none
  g_divmod : mg "divmod" = none
  g_int : mg "int" = none
  g_isinstance : mg "isinstance" = none
  g_len : mg "len" = none
  g_list : mg "list" = none
  g_max : mg "max" = none
  g_min : mg "min" = none
  g_range : mg "range" = none
  g_set : mg "set" = none
  g_sorted : mg "sorted" = none
  g_tuple : mg "tuple" = none
/-- what is told of the exceptions -/
structure Xb (P : Program) (w : World) (K : PySem.W.Frag) (mg : Str → Option Value) (base : Heap) : Prop where
  x_NoReading : ExcN K mg "NoReading"
  t_BedError : CatX K mg "BedError" ct_BedError
  i_NoChord : IsX K mg "NoChord" tab_NoChord
  i_NoBed : IsX K mg "NoBed" tab_NoBed
  i_NoReading : IsX K mg "NoReading" tab_NoReading
  i_NoFrame : IsX K mg "NoFrame" tab_NoFrame
  i_NoBook : IsX K mg "NoBook" tab_NoBook
  i_NoKeys : IsX K mg "NoKeys" tab_NoKeys
  i_TooMany : IsX K mg "TooMany" tab_TooMany
  i_NoText : IsX K mg "NoText" tab_NoText
  i_NoRow : IsX K mg "NoRow" tab_NoRow
  i_NoWord : IsX K mg "NoWord" tab_NoWord
  i_ValueError : IsxOk K tab_ValueError (.type "ValueError")
section
variable {P : Program} {w : World} {K : PySem.W.Frag} {mg : Str → Option Value} {base : Heap} {ca : Nat → Addr}
theorem sc_l_cell : FnScope ["_law_script", "_law_k"] ["_law_script", "_law_k"] (defScope s_l_cell) := ⟨rfl, rfl, rfl, by decide +kernel, rfl, by decide +kernel, by decide +kernel⟩
theorem sc_l_take : FnScope ["_law_cell_here", "_law_salt", "_law_many", "_law_number", "_law_turn"] ["_law_cell_here", "_law_salt", "_law_many"] (defScope s_l_take) := ⟨rfl, rfl, rfl, by decide +kernel, rfl, by decide +kernel, by decide +kernel⟩
theorem sc_l_frame : FnScope ["_law_script", "_law_most", "_law_first", "_law_rows", "_law_columns", "_law_left", "_law_spots", "_law_k", "_law_number"] ["_law_script", "_law_most"] (defScope s_l_frame) := ⟨rfl, rfl, rfl, by decide +kernel, rfl, by decide +kernel, by decide +kernel⟩
theorem sc_l_turned : FnScope ["_law_script", "_law_frame_here", "_law_reading_here", "_law_cell_here", "_law_at", "_law_way", "_law_number", "_law_row_here"] ["_law_script", "_law_frame_here", "_law_reading_here"] (defScope s_l_turned) := ⟨rfl, rfl, rfl, by decide +kernel, rfl, by decide +kernel, by decide +kernel⟩
theorem sc_keys_in : FnScope ["frame", "reading", "spots", "key"] ["frame", "reading"] (defScope s_keys_in) := ⟨rfl, rfl, rfl, by decide +kernel, rfl, by decide +kernel, by decide +kernel⟩
theorem sc_hung : FnScope ["frame", "keys", "marks", "key", "rows", "columns", "spots", "one", "other", "mark"] ["frame", "keys"] (defScope s_hung) := ⟨rfl, rfl, rfl, by decide +kernel, rfl, by decide +kernel, by decide +kernel⟩
theorem sc_reads : FnScope ["frame", "keys", "found", "mark", "rows", "columns", "number", "column"] ["frame", "keys"] (defScope s_reads) := ⟨rfl, rfl, rfl, by decide +kernel, rfl, by decide +kernel, by decide +kernel⟩
theorem sc_checked_keys : FnScope ["frame", "reading", "number", "keys"] ["frame", "reading"] (defScope s_checked_keys) := ⟨rfl, rfl, rfl, by decide +kernel, rfl, by decide +kernel, by decide +kernel⟩
theorem sc_pieces : FnScope ["frame", "reading", "found", "number", "rows", "row", "column"] ["frame", "reading"] (defScope s_pieces) := ⟨rfl, rfl, rfl, by decide +kernel, rfl, by decide +kernel, by decide +kernel⟩
theorem sc_l_wires : FnScope ["_law_frame_here", "_law_keys", "_law_found", "_law_row_here", "_law_rows", "_law_columns", "_law_spots", "_law_near", "_law_far", "_law_turn", "_law_key"] ["_law_frame_here", "_law_keys"] (defScope s_l_wires) := ⟨rfl, rfl, rfl, by decide +kernel, rfl, by decide +kernel, by decide +kernel⟩
theorem sc_l_reading : FnScope ["_law_frame_here", "_law_keys", "_law_found", "_law_near", "_law_far", "_law_number", "_law_column"] ["_law_frame_here", "_law_keys"] (defScope s_l_reading) := ⟨rfl, rfl, rfl, by decide +kernel, rfl, by decide +kernel, by decide +kernel⟩
theorem sc_l_sets : FnScope ["_law_many", "_law_found", "_law_mask", "_law_key"] ["_law_many"] (defScope s_l_sets) := ⟨rfl, rfl, rfl, by decide +kernel, rfl, by decide +kernel, by decide +kernel⟩
theorem sc_l_can : FnScope ["_law_frame_here", "_law_reading_here", "_law_spots", "_law_keys", "_law_key"] ["_law_frame_here", "_law_reading_here"] (defScope s_l_can) := ⟨rfl, rfl, rfl, by decide +kernel, rfl, by decide +kernel, by decide +kernel⟩
theorem sc_l_pieces : FnScope ["_law_frame_here", "_law_reading_here", "_law_found", "_law_row_here", "_law_near", "_law_far", "_law_other", "_law_column"] ["_law_frame_here", "_law_reading_here"] (defScope s_l_pieces) := ⟨rfl, rfl, rfl, by decide +kernel, rfl, by decide +kernel, by decide +kernel⟩
theorem sc_l_downs : FnScope ["_law_cell_here", "_law_many", "_law_keys", "_law_key"] ["_law_cell_here", "_law_many"] (defScope s_l_downs) := ⟨rfl, rfl, rfl, by decide +kernel, rfl, by decide +kernel, by decide +kernel⟩
theorem sc_l_classes : FnScope ["_law_e", "_law_found"] ["_law_e"] (defScope s_l_classes) := ⟨rfl, rfl, rfl, by decide +kernel, rfl, by decide +kernel, by decide +kernel⟩
theorem sc_without : FnScope ["keys", "key", "other"] ["keys", "key"] (defScope s_without) := ⟨rfl, rfl, rfl, by decide +kernel, rfl, by decide +kernel, by decide +kernel⟩
theorem sc_seen : FnScope ["frame", "reading", "keys", "found", "key"] ["frame", "reading"] (defScope s_seen) := ⟨rfl, rfl, rfl, by decide +kernel, rfl, by decide +kernel, by decide +kernel⟩
theorem sc_why : FnScope ["frame", "reading", "key", "keys", "others", "mark", "here", "rows", "columns", "row", "column"] ["frame", "reading", "key"] (defScope s_why) := ⟨rfl, rfl, rfl, by decide +kernel, rfl, by decide +kernel, by decide +kernel⟩
theorem sc_l_refused : FnScope ["_law_frame_here", "_law_reading_here", "_law_way", "_law_key", "_law_caught", "_law_e"] ["_law_frame_here", "_law_reading_here", "_law_way", "_law_key"] (defScope s_l_refused) := ⟨rfl, rfl, rfl, by decide +kernel, rfl, by decide +kernel, by decide +kernel⟩
theorem sc_l_whole : FnScope ["_law_number"] ["_law_number"] (defScope s_l_whole) := ⟨rfl, rfl, rfl, by decide +kernel, rfl, by decide +kernel, by decide +kernel⟩
theorem sc_l_row : FnScope ["_law_found", "_law_number"] ["_law_found"] (defScope s_l_row) := ⟨rfl, rfl, rfl, by decide +kernel, rfl, by decide +kernel, by decide +kernel⟩
theorem sc_law : FnScope ["_law_script", "_law_frame_here", "_law_many", "_law_reading_here", "_law_found", "_law_piece", "_law_key", "_law_way"] ["_law_script"] (defScope s_law) := ⟨rfl, rfl, rfl, by decide +kernel, rfl, by decide +kernel, by decide +kernel⟩
theorem ok_l_cell {f : Addr} {fd : FuncData} (al : Bool) (F : Fun K "_law_cell" "_law_cell" s_l_cell f fd) (B : Gb K mg) : FnOk P w K mg base (L2.CX P w) 1 f fd ["_law_script", "_law_k"] (spF K (tab ca) al 2 sem_l_cell) :=
  fn_ok F sc_l_cell fun cdv A outer s H E1 hr =>
    (ss_cons (s_if (et_cmp ok_lt (ev_var (pv 1)) (ev_callB ok_len rfl B.g_len (by decide +kernel) (ar_cons (ev_var (pv 0)) ar_nil)) (by first | exact nomark _ | rfl)) (ss_one (s_ret (ev_ix (ev_var (pv 0)) (ev_var (pv 1)) (fun _ _ => rfl)))) ss_nil) (ss_one (s_ret ev_int)))
theorem ok_l_take {f : Addr} {fd : FuncData} (al : Bool) (F : Fun K "_law_take" "_law_take" s_l_take f fd) (B : Gb K mg) : FnOk P w K mg base (L2.CX P w) 1 f fd ["_law_cell_here", "_law_salt", "_law_many"] (spF K (tab ca) al 3 sem_l_take) :=
  fn_ok F sc_l_take fun cdv A outer s H E1 hr =>
    (ss_cons (s_if (et_w (ew_or (et_cmp ok_lt (ev_var (pv 0)) ev_int (by first | exact nomark _ | rfl)) (ew_or1 (et_cmp ok_ge (ev_var (pv 0)) (ev_bin ok_pow ev_int ev_int) (by first | exact nomark _ | rfl))))) (ss_cons (s_for (t := .nm 4) (passes_of rfl) rfl (iv_range1 rfl B.g_range (ar_cons (ev_var (pv 1)) ar_nil)) (pg_name (i := 4) sc_l_take.nd rfl (by first | exact Or.inl rfl | exact Or.inr rfl)) (ss_one (s_setV (i := 0) sc_l_take.nd rfl (by first | exact Or.inl rfl | exact Or.inr rfl) (pd_of (ev_bin ok_div (ev_var (pv 0)) ev_int))))) (ss_one (s_ret (ev_bin ok_mod (ev_var (pv 0)) (ev_var (pv 2)))))) ss_nil) (ss_cons (s_setV (i := 3) sc_l_take.nd rfl (by first | exact Or.inl rfl | exact Or.inr rfl) (pd_of (ev_bin ok_times (ev_bin ok_plus (ev_bin ok_plus (ev_bin ok_mod (ev_var (pv 0)) ev_int) (ev_bin ok_times ev_int (ev_var (pv 1)))) ev_int) (ev_bin ok_plus (ev_bin ok_times (ev_var (pv 1)) (ev_var (pv 1))) ev_int)))) (ss_one (s_ret (ev_bin ok_mod (ev_bin ok_div (ev_bin ok_mod (ev_bin ok_plus (ev_bin ok_times (ev_bin ok_mod (ev_var (pv 3)) ev_int) ev_int) (ev_var (pv 1))) ev_int) ev_int) (ev_var (pv 2)))))))
theorem ok_l_frame {f : Addr} {fd : FuncData} (al : Bool) (F : Fun K "_law_frame" "_law_frame" s_l_frame f fd) (B : Gb K mg) (c_l_cell : ∀ al, Callee P w K mg base (tab ca) "_law_cell" al 1 2 sem_l_cell) (c_l_take : ∀ al, Callee P w K mg base (tab ca) "_law_take" al 1 3 sem_l_take) : FnOk P w K mg base (L2.CX P w) 2 f fd ["_law_script", "_law_most"] (spF K (tab ca) al 2 sem_l_frame) :=
  fn_ok F sc_l_frame fun cdv A outer s H E1 hr =>
    (ss_cons (s_setV (i := 2) sc_l_frame.nd rfl (by first | exact Or.inl rfl | exact Or.inr rfl) (pd_of (ev_user (c_l_cell false) (hr.mono (by decide)) rfl (takes_of rfl rfl rfl rfl) (as_cons (pd_of (ev_var (pv 0))) (as_cons (pd_of ev_int) as_nil))))) (ss_cons (s_setV (i := 3) sc_l_frame.nd rfl (by first | exact Or.inl rfl | exact Or.inr rfl) (pd_of (ev_bin ok_plus ev_int (ev_user (c_l_take false) (hr.mono (by decide)) rfl (takes_of rfl rfl rfl rfl) (as_cons (pd_of (ev_var (pv 2))) (as_cons (pd_of ev_int) (as_cons (pd_of ev_int) as_nil))))))) (ss_cons (s_setV (i := 4) sc_l_frame.nd rfl (by first | exact Or.inl rfl | exact Or.inr rfl) (pd_of (ev_bin ok_plus ev_int (ev_user (c_l_take false) (hr.mono (by decide)) rfl (takes_of rfl rfl rfl rfl) (as_cons (pd_of (ev_var (pv 2))) (as_cons (pd_of ev_int) (as_cons (pd_of ev_int) as_nil))))))) (ss_cons (s_setLc (i := 5) (own := [("_law_number", 8)]) rfl sc_l_frame.nd rfl rfl (sw_true rfl rfl rfl (by decide +kernel)) (ic_of (iv_range1 rfl B.g_range (ar_cons (ev_bin ok_times (ev_var (pv 3)) (ev_var (pv 4))) ar_nil))) (blkOk_by (own := [("_law_number", 8)]) (N := ["_law_script", "_law_most", "_law_first", "_law_rows", "_law_columns", "_law_left", "_law_spots", "_law_k", "_law_number"]) (sc := defScope s_l_frame) (by decide +kernel)) (t := .nm 8) (by decide) (fun _ _ _ _ _ => (pg_name (i := 8) sc_l_frame.nd rfl (by first | exact Or.inl rfl | exact Or.inr rfl))) (fun _ _ _ _ _ => ets_nil) (fun _ _ _ _ _ => (pd_of (ev_callB ok_divmod rfl B.g_divmod (by decide +kernel) (ar_cons (ev_var (pv 8)) (ar_cons (ev_var (pv 4)) ar_nil)))))) (ss_cons (s_setO (i := 6) sc_l_frame.nd rfl (by first | exact Or.inl rfl | exact Or.inr rfl) (ev_lst as_nil)) (ss_cons (s_for (t := .nm 7) (passes_of rfl) rfl (iv_range1 rfl B.g_range (ar_cons (ev_callB (ok_min rfl) rfl B.g_min (by decide +kernel) (ar_cons (ev_callB ok_len rfl B.g_len (by decide +kernel) (ar_cons (ev_var (pv 5)) ar_nil)) (ar_cons (ev_bin ok_plus ev_int (ev_user (c_l_take false) (hr.mono (by decide)) rfl (takes_of rfl rfl rfl rfl) (as_cons (pd_of (ev_var (pv 2))) (as_cons (pd_of ev_int) (as_cons (pd_of (ev_var (pv 1))) as_nil))))) ar_nil))) ar_nil)) (pg_name (i := 7) sc_l_frame.nd rfl (by first | exact Or.inl rfl | exact Or.inr rfl)) (ss_one (s_appF (i := 6) (pv 6) (fe_pop (i := 5) (pv 5) (ev_user (c_l_take false) (hr.mono (by decide)) rfl (takes_of rfl rfl rfl rfl) (as_cons (pd_of (ev_user (c_l_cell false) (hr.mono (by decide)) rfl (takes_of rfl rfl rfl rfl) (as_cons (pd_of (ev_var (pv 0))) (as_cons (pd_of (ev_bin ok_plus ev_int (ev_var (pv 7)))) as_nil)))) (as_cons (pd_of ev_int) (as_cons (pd_of (ev_callB ok_len rfl B.g_len (by decide +kernel) (ar_cons (ev_var (pv 5)) ar_nil))) as_nil)))))))) (ss_one (s_ret (ev_tup (as_cons (pd_of (ev_var (pv 3))) (as_cons (pd_of (ev_var (pv 4))) (as_cons (pd_of (ev_callTy ok_tuple rfl B.g_tuple (by decide +kernel) (ar_cons (ev_var (pv 6)) ar_nil))) as_nil))))))))))))
theorem ok_l_turned {f : Addr} {fd : FuncData} (al : Bool) (F : Fun K "_law_turned" "_law_turned" s_l_turned f fd) (B : Gb K mg) (c_l_cell : ∀ al, Callee P w K mg base (tab ca) "_law_cell" al 1 2 sem_l_cell) (c_l_take : ∀ al, Callee P w K mg base (tab ca) "_law_take" al 1 3 sem_l_take) : FnOk P w K mg base (L2.CX P w) 2 f fd ["_law_script", "_law_frame_here", "_law_reading_here"] (spF K (tab ca) al 3 sem_l_turned) :=
  fn_ok F sc_l_turned fun cdv A outer s H E1 hr =>
    (ss_cons (s_setV (i := 3) sc_l_turned.nd rfl (by first | exact Or.inl rfl | exact Or.inr rfl) (pd_of (ev_user (c_l_cell false) (hr.mono (by decide)) rfl (takes_of rfl rfl rfl rfl) (as_cons (pd_of (ev_var (pv 0))) (as_cons (pd_of ev_int) as_nil))))) (ss_cons (s_setV (i := 4) sc_l_turned.nd rfl (by first | exact Or.inl rfl | exact Or.inr rfl) (pd_of (ev_user (c_l_take false) (hr.mono (by decide)) rfl (takes_of rfl rfl rfl rfl) (as_cons (pd_of (ev_var (pv 3))) (as_cons (pd_of ev_int) (as_cons (pd_of (ev_callB ok_len rfl B.g_len (by decide +kernel) (ar_cons (ev_var (pv 2)) ar_nil))) as_nil)))))) (ss_cons (s_setV (i := 5) sc_l_turned.nd rfl (by first | exact Or.inl rfl | exact Or.inr rfl) (pd_of (ev_user (c_l_take false) (hr.mono (by decide)) rfl (takes_of rfl rfl rfl rfl) (as_cons (pd_of (ev_var (pv 3))) (as_cons (pd_of ev_int) (as_cons (pd_of ev_int) as_nil)))))) (ss_cons (s_setV (i := 6) sc_l_turned.nd rfl (by first | exact Or.inl rfl | exact Or.inr rfl) (pd_of (ev_ix (ev_var (pv 2)) (ev_var (pv 4)) (fun _ _ => rfl)))) (ss_cons (s_if (et_cmp ok_lt (ev_var (pv 5)) ev_int (by first | exact nomark _ | rfl)) (ss_one (s_setV (i := 6) sc_l_turned.nd rfl (by first | exact Or.inl rfl | exact Or.inr rfl) (pd_of (ev_bin ok_xor (ev_var (pv 6)) (ev_bin ok_shl ev_int (ev_user (c_l_take false) (hr.mono (by decide)) rfl (takes_of rfl rfl rfl rfl) (as_cons (pd_of (ev_var (pv 3))) (as_cons (pd_of ev_int) (as_cons (pd_of (ev_ix (ev_var (pv 1)) ev_int (fun _ _ => rfl))) as_nil))))))))) ss_nil) (ss_cons (s_if (et_cmp (ok_eq (hu64 hr)) (ev_var (pv 5)) ev_int (by first | exact nomark _ | rfl)) (ss_one (s_setV (i := 6) sc_l_turned.nd rfl (by first | exact Or.inl rfl | exact Or.inr rfl) (pd_of (ev_ix (ev_lst (as_cons (pd_of (ev_un ok_neg ev_int)) (as_cons (pd_of (ev_bin ok_shl ev_int (ev_ix (ev_var (pv 1)) ev_int (fun _ _ => rfl)))) (as_cons (pd_of (ev_bin ok_sub (ev_bin ok_sub ev_int (ev_var (pv 6))) ev_int)) (as_cons (pd_of (ev_bin ok_pow ev_int ev_int)) as_nil))))) (ev_user (c_l_take false) (hr.mono (by decide)) rfl (takes_of rfl rfl rfl rfl) (as_cons (pd_of (ev_var (pv 3))) (as_cons (pd_of ev_int) (as_cons (pd_of ev_int) as_nil)))) (fun _ _ => rfl))))) ss_nil) (ss_cons (s_if (et_cmp (ok_eq (hu64 hr)) (ev_var (pv 5)) ev_int (by first | exact nomark _ | rfl)) (ss_one (s_ret (ev_bin ok_plus (ev_sl (ev_var (pv 2)) eo_none (eo_some (ev_var (pv 4)))) (ev_sl (ev_var (pv 2)) (eo_some (ev_bin ok_plus (ev_var (pv 4)) ev_int)) eo_none)))) ss_nil) (ss_cons (s_if (et_cmp (ok_eq (hu64 hr)) (ev_var (pv 5)) ev_int (by first | exact nomark _ | rfl)) (ss_one (s_ret (ev_bin ok_plus (ev_bin ok_plus (ev_sl (ev_var (pv 2)) eo_none (eo_some (ev_var (pv 4)))) (ev_tup (as_cons (pd_of (ev_var (pv 6))) as_nil))) (ev_sl (ev_var (pv 2)) (eo_some (ev_var (pv 4))) eo_none)))) ss_nil) (ss_cons (s_if (et_cmp (ok_eq (hu64 hr)) (ev_var (pv 5)) ev_int (by first | exact nomark _ | rfl)) (ss_one (s_ret (ev_callTy ok_tuple rfl B.g_tuple (by decide +kernel) (ar_cons (ev_lc (own := [("_law_row_here", 7)]) rfl sc_l_turned.nd (ic_of (iv_range1 rfl B.g_range (ar_cons (ev_ix (ev_var (pv 1)) ev_int (fun _ _ => rfl)) ar_nil))) (blkOk_by (own := [("_law_row_here", 7)]) (N := ["_law_script", "_law_frame_here", "_law_reading_here", "_law_cell_here", "_law_at", "_law_way", "_law_number", "_law_row_here"]) (sc := defScope s_l_turned) (by decide +kernel)) (t := .nm 7) (by decide) (fun _ _ _ _ _ => (pg_name (i := 7) sc_l_turned.nd rfl (by first | exact Or.inl rfl | exact Or.inr rfl))) (fun _ _ _ _ _ => ets_nil) (fun _ _ _ _ _ => (pd_of (ev_user (c_l_take false) (hr.mono (by decide)) rfl takes0 (as_cons (pd_of (ev_var (pv 3))) (as_cons (pd_of (ev_bin ok_plus ev_int (ev_var (pv 7)))) (as_cons (pd_of (ev_bin ok_shl ev_int (ev_ix (ev_var (pv 1)) ev_int (fun _ _ => rfl)))) as_nil))))))) ar_nil)))) ss_nil) (ss_one (s_ret (ev_bin ok_plus (ev_bin ok_plus (ev_sl (ev_var (pv 2)) eo_none (eo_some (ev_var (pv 4)))) (ev_tup (as_cons (pd_of (ev_var (pv 6))) as_nil))) (ev_sl (ev_var (pv 2)) (eo_some (ev_bin ok_plus (ev_var (pv 4)) ev_int)) eo_none)))))))))))))
theorem ok_keys_in {f : Addr} {fd : FuncData} (al : Bool) (F : Fun K "keys_in" "keys_in" s_keys_in f fd) (B : Gb K mg) : FnOk P w K mg base (L2.CX P w) 1 f fd ["frame", "reading"] (spF K (tab ca) al 2 sem_keys_in) :=
  fn_ok F sc_keys_in fun cdv A outer s H E1 hr =>
    (ss_cons (s_setV (i := 2) sc_keys_in.nd rfl (by first | exact Or.inl rfl | exact Or.inr rfl) (pd_of (ev_ix (ev_var (pv 0)) ev_int (fun _ _ => rfl)))) (ss_one (s_ret (ev_callTy ok_tuple rfl B.g_tuple (by decide +kernel) (ar_cons (ev_lc (own := [("key", 3)]) rfl sc_keys_in.nd (ic_of (iv_range1 rfl B.g_range (ar_cons (ev_callB ok_len rfl B.g_len (by decide +kernel) (ar_cons (ev_var (pv 2)) ar_nil)) ar_nil))) (blkOk_by (own := [("key", 3)]) (N := ["frame", "reading", "spots", "key"]) (sc := defScope s_keys_in) (by decide +kernel)) (t := .nm 3) (by decide) (fun _ _ _ _ _ => (pg_name (i := 3) sc_keys_in.nd rfl (by first | exact Or.inl rfl | exact Or.inr rfl))) (fun _ _ _ _ _ => (ets_one (et_cmp (ok_eq (hu64 hr)) (ev_bin ok_and (ev_bin ok_shr (ev_ix (ev_var (pv 1)) (ev_ix (ev_ix (ev_var (pv 2)) (ev_var (pv 3)) (fun _ _ => rfl)) ev_int (fun _ _ => rfl)) (fun _ _ => rfl)) (ev_ix (ev_ix (ev_var (pv 2)) (ev_var (pv 3)) (fun _ _ => rfl)) ev_int (fun _ _ => rfl))) ev_int) ev_int (by first | exact nomark _ | rfl)))) (fun _ _ _ _ _ => (pd_of (ev_var (pv 3))))) ar_nil)))))
theorem ok_hung {f : Addr} {fd : FuncData} (al : Bool) (F : Fun K "hung" "hung" s_hung f fd) (B : Gb K mg) : FnOk P w K mg base (L2.CX P w) 1 f fd ["frame", "keys"] (spF K (tab ca) al 2 sem_hung) :=
  fn_ok F sc_hung fun cdv A outer s H E1 hr =>
    (ss_cons (s_tup (t := .tp [4, 5, 6]) (pd_of (ev_var (pv 0))) (pg_tup rfl (pgs_cons (pg_name (i := 4) sc_hung.nd rfl (by first | exact Or.inl rfl | exact Or.inr rfl)) (pgs_cons (pg_name (i := 5) sc_hung.nd rfl (by first | exact Or.inl rfl | exact Or.inr rfl)) (pgs_cons (pg_name (i := 6) sc_hung.nd rfl (by first | exact Or.inl rfl | exact Or.inr rfl)) pgs_nil))))) (ss_cons (s_setV (i := 2) sc_hung.nd rfl (by first | exact Or.inl rfl | exact Or.inr rfl) (pd_of (ev_lrng1 rfl rfl B.g_list rfl B.g_range (ev_bin ok_plus (ev_var (pv 4)) (ev_var (pv 5)))))) (ss_cons (s_for (t := .nm 3) (passes_of rfl) rfl (iv_seq (pd_of (ev_var (pv 1)))) (pg_name (i := 3) sc_hung.nd rfl (by first | exact Or.inl rfl | exact Or.inr rfl)) (ss_cons (s_setV (i := 7) sc_hung.nd rfl (by first | exact Or.inl rfl | exact Or.inr rfl) (pd_of (ev_ix (ev_var (pv 2)) (ev_ix (ev_ix (ev_var (pv 6)) (ev_var (pv 3)) (fun _ _ => rfl)) ev_int (fun _ _ => rfl)) (fun _ _ => rfl)))) (ss_cons (s_setV (i := 8) sc_hung.nd rfl (by first | exact Or.inl rfl | exact Or.inr rfl) (pd_of (ev_ix (ev_var (pv 2)) (ev_bin ok_plus (ev_var (pv 4)) (ev_ix (ev_ix (ev_var (pv 6)) (ev_var (pv 3)) (fun _ _ => rfl)) ev_int (fun _ _ => rfl))) (fun _ _ => rfl)))) (ss_one (s_thaw (i := 2) (s_setLc (i := 2) (own := [("mark", 9)]) rfl sc_hung.nd rfl rfl (sw_true rfl rfl rfl (by decide +kernel)) (ic_seq (ev_var (pv 2))) (blkOk_by (own := [("mark", 9)]) (N := ["frame", "keys", "marks", "key", "rows", "columns", "spots", "one", "other", "mark"]) (sc := defScope s_hung) (by decide +kernel)) (t := .nm 9) (by decide) (fun _ _ _ _ _ => (pg_name (i := 9) sc_hung.nd rfl (by first | exact Or.inl rfl | exact Or.inr rfl))) (fun _ _ _ _ _ => ets_nil) (fun _ _ _ _ _ => (pd_of (ev_if (et_cmp (ok_eq (hu64 hr)) (ev_var (pv 9)) (ev_var (pv 8)) (by first | exact nomark _ | rfl)) (ev_var (pv 7)) (ev_var (pv 9))))))))))) (ss_one (s_ret (ev_tup (as_cons (pd_of (ev_sl (ev_var (pv 2)) eo_none (eo_some (ev_var (pv 4))))) (as_cons (pd_of (ev_sl (ev_var (pv 2)) (eo_some (ev_var (pv 4))) eo_none)) as_nil))))))))
theorem ok_reads {f : Addr} {fd : FuncData} (al : Bool) (F : Fun K "reads" "reads" s_reads f fd) (B : Gb K mg) (c_hung : ∀ al, Callee P w K mg base (tab ca) "hung" al 1 2 sem_hung) : FnOk P w K mg base (L2.CX P w) 2 f fd ["frame", "keys"] (spF K (tab ca) al 2 sem_reads) :=
  fn_ok F sc_reads fun cdv A outer s H E1 hr =>
    (ss_cons (s_tup (t := .tp [4, 5]) (pd_of (ev_user (c_hung false) (hr.mono (by decide)) rfl (takes_of rfl rfl rfl rfl) (as_cons (pd_of (ev_var (pv 0))) (as_cons (pd_of (ev_var (pv 1))) as_nil)))) (pg_tup rfl (pgs_cons (pg_name (i := 4) sc_reads.nd rfl (by first | exact Or.inl rfl | exact Or.inr rfl)) (pgs_cons (pg_name (i := 5) sc_reads.nd rfl (by first | exact Or.inl rfl | exact Or.inr rfl)) pgs_nil)))) (ss_cons (s_setO (i := 2) sc_reads.nd rfl (by first | exact Or.inl rfl | exact Or.inr rfl) (ev_lst as_nil)) (ss_cons (s_for (t := .nm 3) (passes_of rfl) rfl (iv_seq (pd_of (ev_var (pv 4)))) (pg_name (i := 3) sc_reads.nd rfl (by first | exact Or.inl rfl | exact Or.inr rfl)) (ss_cons (s_setV (i := 6) sc_reads.nd rfl (by first | exact Or.inl rfl | exact Or.inr rfl) (pd_of ev_int)) (ss_cons (s_for (t := .nm 7) (passes_of rfl) rfl (iv_range1 rfl B.g_range (ar_cons (ev_callB ok_len rfl B.g_len (by decide +kernel) (ar_cons (ev_var (pv 5)) ar_nil)) ar_nil)) (pg_name (i := 7) sc_reads.nd rfl (by first | exact Or.inl rfl | exact Or.inr rfl)) (ss_one (s_if (et_cmp (ok_eq (hu64 hr)) (ev_ix (ev_var (pv 5)) (ev_var (pv 7)) (fun _ _ => rfl)) (ev_var (pv 3)) (by first | exact nomark _ | rfl)) (ss_one (s_setV (i := 6) sc_reads.nd rfl (by first | exact Or.inl rfl | exact Or.inr rfl) (pd_of (ev_bin ok_or (ev_var (pv 6)) (ev_bin ok_shl ev_int (ev_var (pv 7))))))) ss_nil))) (ss_one (s_app (i := 2) (pv 2) (pd_of (ev_var (pv 6)))))))) (ss_one (s_ret (ev_callTy ok_tuple rfl B.g_tuple (by decide +kernel) (ar_cons (ev_var (pv 2)) ar_nil)))))))
theorem ok_checked_keys {f : Addr} {fd : FuncData} (al : Bool) (F : Fun K "checked_keys" "checked_keys" s_checked_keys f fd) (E : Xb P w K mg base) (B : Gb K mg) (c_keys_in : ∀ al, Callee P w K mg base (tab ca) "keys_in" al 1 2 sem_keys_in) (c_reads : ∀ al, Callee P w K mg base (tab ca) "reads" al 2 2 sem_reads) : FnOk P w K mg base (L2.CX P w) 3 f fd ["frame", "reading"] (spF K (tab ca) al 2 sem_checked_keys) :=
  fn_ok F sc_checked_keys fun cdv A outer s H E1 hr =>
    (ss_cons (s_if (et_cmp (ok_ne (hu64 hr)) (ev_callB ok_len rfl B.g_len (by decide +kernel) (ar_cons (ev_var (pv 1)) ar_nil)) (ev_ix (ev_var (pv 0)) ev_int (fun _ _ => rfl)) (by first | exact nomark _ | rfl)) (ss_one (s_raiseN E.x_NoReading rfl (takes_of rfl rfl rfl rfl) rfl)) ss_nil) (ss_cons (s_for (t := .nm 2) (passes_of rfl) rfl (iv_seq (pd_of (ev_var (pv 1)))) (pg_name (i := 2) sc_checked_keys.nd rfl (by first | exact Or.inl rfl | exact Or.inr rfl)) (ss_one (s_if (et_not (et_chain ok_le ok_lt ev_int (ev_var (pv 2)) (ev_bin ok_shl ev_int (ev_ix (ev_var (pv 0)) ev_int (fun _ _ => rfl))))) (ss_one (s_raiseN E.x_NoReading rfl (takes_of rfl rfl rfl rfl) rfl)) ss_nil))) (ss_cons (s_setV (i := 3) sc_checked_keys.nd rfl (by first | exact Or.inl rfl | exact Or.inr rfl) (pd_of (ev_user (c_keys_in false) (hr.mono (by decide)) rfl (takes_of rfl rfl rfl rfl) (as_cons (pd_of (ev_var (pv 0))) (as_cons (pd_of (ev_var (pv 1))) as_nil))))) (ss_cons (s_if (et_cmp (ok_ne (hu64 hr)) (ev_user (c_reads false) (hr.mono (by decide)) rfl (takes_of rfl rfl rfl rfl) (as_cons (pd_of (ev_var (pv 0))) (as_cons (pd_of (ev_var (pv 3))) as_nil))) (ev_callTy ok_tuple rfl B.g_tuple (by decide +kernel) (ar_cons (ev_var (pv 1)) ar_nil)) (by first | exact nomark _ | rfl)) (ss_one (s_raiseN E.x_NoReading rfl (takes_of rfl rfl rfl rfl) rfl)) ss_nil) (ss_one (s_ret (ev_var (pv 3))))))))
theorem ok_pieces {f : Addr} {fd : FuncData} (al : Bool) (F : Fun K "pieces" "pieces" s_pieces f fd) (B : Gb K mg) (c_checked_keys : ∀ al, Callee P w K mg base (tab ca) "checked_keys" al 3 2 sem_checked_keys) : FnOk P w K mg base (L2.CX P w) 4 f fd ["frame", "reading"] (spF K (tab ca) al 2 sem_pieces) :=
  fn_ok F sc_pieces fun cdv A outer s H E1 hr =>
    (ss_cons (s_expr (ev_user (c_checked_keys false) (hr.mono (by decide)) rfl (takes_of rfl rfl rfl rfl) (as_cons (pd_of (ev_var (pv 0))) (as_cons (pd_of (ev_var (pv 1))) as_nil)))) (ss_cons (s_setO (i := 2) sc_pieces.nd rfl (by first | exact Or.inl rfl | exact Or.inr rfl) (ev_lst as_nil)) (ss_cons (s_for (t := .nm 3) (passes_of rfl) rfl (iv_seq (pd_of (ev_srtSet rfl rfl B.g_sorted rfl B.g_set (ev_var (pv 1))))) (pg_name (i := 3) sc_pieces.nd rfl (by first | exact Or.inl rfl | exact Or.inr rfl)) (ss_one (s_if (et_cmp ok_gt (ev_var (pv 3)) ev_int (by first | exact nomark _ | rfl)) (ss_cons (s_setV (i := 4) sc_pieces.nd rfl (by first | exact Or.inl rfl | exact Or.inr rfl) (pd_of (ev_callTy ok_tuple rfl B.g_tuple (by decide +kernel) (ar_cons (ev_lc (own := [("row", 5)]) rfl sc_pieces.nd (ic_of (iv_range1 rfl B.g_range (ar_cons (ev_ix (ev_var (pv 0)) ev_int (fun _ _ => rfl)) ar_nil))) (blkOk_by (own := [("row", 5)]) (N := ["frame", "reading", "found", "number", "rows", "row", "column"]) (sc := defScope s_pieces) (by decide +kernel)) (t := .nm 5) (by decide) (fun _ _ _ _ _ => (pg_name (i := 5) sc_pieces.nd rfl (by first | exact Or.inl rfl | exact Or.inr rfl))) (fun _ _ _ _ _ => (ets_one (et_cmp (ok_eq (hu64 hr)) (ev_ix (ev_var (pv 1)) (ev_var (pv 5)) (fun _ _ => rfl)) (ev_var (pv 3)) (by first | exact nomark _ | rfl)))) (fun _ _ _ _ _ => (pd_of (ev_var (pv 5))))) ar_nil)))) (ss_one (s_app (i := 2) (pv 2) (pd_of (ev_tup (as_cons (pd_of (ev_var (pv 4))) (as_cons (pd_of (ev_callTy ok_tuple rfl B.g_tuple (by decide +kernel) (ar_cons (ev_lc (own := [("column", 6)]) rfl sc_pieces.nd (ic_of (iv_range1 rfl B.g_range (ar_cons (ev_ix (ev_var (pv 0)) ev_int (fun _ _ => rfl)) ar_nil))) (blkOk_by (own := [("column", 6)]) (N := ["frame", "reading", "found", "number", "rows", "row", "column"]) (sc := defScope s_pieces) (by decide +kernel)) (t := .nm 6) (by decide) (fun _ _ _ _ _ => (pg_name (i := 6) sc_pieces.nd rfl (by first | exact Or.inl rfl | exact Or.inr rfl))) (fun _ _ _ _ _ => (ets_one (et_cmp (ok_eq (hu64 hr)) (ev_bin ok_and (ev_bin ok_shr (ev_var (pv 3)) (ev_var (pv 6))) ev_int) ev_int (by first | exact nomark _ | rfl)))) (fun _ _ _ _ _ => (pd_of (ev_var (pv 6))))) ar_nil))) as_nil))))))) ss_nil))) (ss_one (s_ret (ev_callB (ok_sortP (hu65 hr)) rfl B.g_sorted (by decide +kernel) (ar_cons (ev_var (pv 2)) ar_nil)))))))
theorem ok_l_wires {f : Addr} {fd : FuncData} (al : Bool) (F : Fun K "_law_wires" "_law_wires" s_l_wires f fd) (B : Gb K mg) : FnOk P w K mg base (L2.CX P w) 1 f fd ["_law_frame_here", "_law_keys"] (spF K (tab ca) al 2 sem_l_wires) :=
  fn_ok F sc_l_wires fun cdv A outer s H E1 hr =>
    (ss_cons (s_tup (t := .tp [4, 5, 6]) (pd_of (ev_var (pv 0))) (pg_tup rfl (pgs_cons (pg_name (i := 4) sc_l_wires.nd rfl (by first | exact Or.inl rfl | exact Or.inr rfl)) (pgs_cons (pg_name (i := 5) sc_l_wires.nd rfl (by first | exact Or.inl rfl | exact Or.inr rfl)) (pgs_cons (pg_name (i := 6) sc_l_wires.nd rfl (by first | exact Or.inl rfl | exact Or.inr rfl)) pgs_nil))))) (ss_cons (s_setO (i := 2) sc_l_wires.nd rfl (by first | exact Or.inl rfl | exact Or.inr rfl) (ev_lst as_nil)) (ss_cons (s_for (t := .nm 3) (passes_of rfl) rfl (iv_range1 rfl B.g_range (ar_cons (ev_var (pv 4)) ar_nil)) (pg_name (i := 3) sc_l_wires.nd rfl (by first | exact Or.inl rfl | exact Or.inr rfl)) (ss_cons (s_setO (i := 7) sc_l_wires.nd rfl (by first | exact Or.inl rfl | exact Or.inr rfl) (ev_lst (as_cons (pd_of (ev_var (pv 3))) as_nil))) (ss_cons (s_setO (i := 8) sc_l_wires.nd rfl (by first | exact Or.inl rfl | exact Or.inr rfl) (ev_lst as_nil)) (ss_cons (s_for (t := .nm 9) (passes_of rfl) rfl (iv_range1 rfl B.g_range (ar_cons (ev_callB ok_len rfl B.g_len (by decide +kernel) (ar_cons (ev_var (pv 1)) ar_nil)) ar_nil)) (pg_name (i := 9) sc_l_wires.nd rfl (by first | exact Or.inl rfl | exact Or.inr rfl)) (ss_one (s_for (t := .nm 10) (passes_of rfl) rfl (iv_seq (pd_of (ev_var (pv 1)))) (pg_name (i := 10) sc_l_wires.nd rfl (by first | exact Or.inl rfl | exact Or.inr rfl)) (ss_cons (s_if (et_w (ew_and (et_cmp (ok_in (hu65 hr)) (ev_ix (ev_ix (ev_var (pv 6)) (ev_var (pv 10)) (fun _ _ => rfl)) ev_int (fun _ _ => rfl)) (ev_var (pv 7)) (by first | exact nomark _ | rfl)) (ew_and1 (et_cmp (ok_nin (hu65 hr)) (ev_ix (ev_ix (ev_var (pv 6)) (ev_var (pv 10)) (fun _ _ => rfl)) ev_int (fun _ _ => rfl)) (ev_var (pv 8)) (by first | exact nomark _ | rfl))))) (ss_one (s_app (i := 8) (pv 8) (pd_of (ev_ix (ev_ix (ev_var (pv 6)) (ev_var (pv 10)) (fun _ _ => rfl)) ev_int (fun _ _ => rfl))))) ss_nil) (ss_one (s_if (et_w (ew_and (et_cmp (ok_in (hu65 hr)) (ev_ix (ev_ix (ev_var (pv 6)) (ev_var (pv 10)) (fun _ _ => rfl)) ev_int (fun _ _ => rfl)) (ev_var (pv 8)) (by first | exact nomark _ | rfl)) (ew_and1 (et_cmp (ok_nin (hu65 hr)) (ev_ix (ev_ix (ev_var (pv 6)) (ev_var (pv 10)) (fun _ _ => rfl)) ev_int (fun _ _ => rfl)) (ev_var (pv 7)) (by first | exact nomark _ | rfl))))) (ss_one (s_app (i := 7) (pv 7) (pd_of (ev_ix (ev_ix (ev_var (pv 6)) (ev_var (pv 10)) (fun _ _ => rfl)) ev_int (fun _ _ => rfl))))) ss_nil)))))) (ss_one (s_app (i := 2) (pv 2) (pd_of (ev_tup (as_cons (pd_of (ev_callB ok_sorted rfl B.g_sorted (by decide +kernel) (ar_cons (ev_var (pv 7)) ar_nil))) (as_cons (pd_of (ev_callB ok_sorted rfl B.g_sorted (by decide +kernel) (ar_cons (ev_var (pv 8)) ar_nil))) as_nil)))))))))) (ss_one (s_retS (i := 2) (pv 2))))))
theorem ok_l_reading {f : Addr} {fd : FuncData} (al : Bool) (F : Fun K "_law_reading" "_law_reading" s_l_reading f fd) (B : Gb K mg) (c_l_wires : ∀ al, Callee P w K mg base (tab ca) "_law_wires" al 1 2 sem_l_wires) : FnOk P w K mg base (L2.CX P w) 2 f fd ["_law_frame_here", "_law_keys"] (spF K (tab ca) al 2 sem_l_reading) :=
  fn_ok F sc_l_reading fun cdv A outer s H E1 hr =>
    (ss_cons (s_setO (i := 2) sc_l_reading.nd rfl (by first | exact Or.inl rfl | exact Or.inr rfl) (ev_lst as_nil)) (ss_cons (s_for (t := .tp [3, 4]) (passes_of rfl) rfl (iv_seq (pd_of (ev_user (c_l_wires false) (hr.mono (by decide)) rfl (takes_of rfl rfl rfl rfl) (as_cons (pd_of (ev_var (pv 0))) (as_cons (pd_of (ev_var (pv 1))) as_nil))))) (pg_tup rfl (pgs_cons (pg_name (i := 3) sc_l_reading.nd rfl (by first | exact Or.inl rfl | exact Or.inr rfl)) (pgs_cons (pg_name (i := 4) sc_l_reading.nd rfl (by first | exact Or.inl rfl | exact Or.inr rfl)) pgs_nil))) (ss_cons (s_setV (i := 5) sc_l_reading.nd rfl (by first | exact Or.inl rfl | exact Or.inr rfl) (pd_of ev_int)) (ss_cons (s_for (t := .nm 6) (passes_of rfl) rfl (iv_seq (pd_of (ev_var (pv 4)))) (pg_name (i := 6) sc_l_reading.nd rfl (by first | exact Or.inl rfl | exact Or.inr rfl)) (ss_one (s_setV (i := 5) sc_l_reading.nd rfl (by first | exact Or.inl rfl | exact Or.inr rfl) (pd_of (ev_bin ok_plus (ev_var (pv 5)) (ev_bin ok_shl ev_int (ev_var (pv 6)))))))) (ss_one (s_app (i := 2) (pv 2) (pd_of (ev_var (pv 5)))))))) (ss_one (s_ret (ev_callTy ok_tuple rfl B.g_tuple (by decide +kernel) (ar_cons (ev_var (pv 2)) ar_nil))))))
theorem ok_l_sets {f : Addr} {fd : FuncData} (al : Bool) (F : Fun K "_law_sets" "_law_sets" s_l_sets f fd) (B : Gb K mg) : FnOk P w K mg base (L2.CX P w) 1 f fd ["_law_many"] (spF K (tab ca) al 1 sem_l_sets) :=
  fn_ok F sc_l_sets fun cdv A outer s H E1 hr =>
    (ss_cons (s_setO (i := 1) sc_l_sets.nd rfl (by first | exact Or.inl rfl | exact Or.inr rfl) (ev_lst as_nil)) (ss_cons (s_for (t := .nm 2) (passes_of rfl) rfl (iv_range1 rfl B.g_range (ar_cons (ev_bin ok_shl ev_int (ev_var (pv 0))) ar_nil)) (pg_name (i := 2) sc_l_sets.nd rfl (by first | exact Or.inl rfl | exact Or.inr rfl)) (ss_one (s_app (i := 1) (pv 1) (pd_of (ev_callTy ok_tuple rfl B.g_tuple (by decide +kernel) (ar_cons (ev_lc (own := [("_law_key", 3)]) rfl sc_l_sets.nd (ic_of (iv_range1 rfl B.g_range (ar_cons (ev_var (pv 0)) ar_nil))) (blkOk_by (own := [("_law_key", 3)]) (N := ["_law_many", "_law_found", "_law_mask", "_law_key"]) (sc := defScope s_l_sets) (by decide +kernel)) (t := .nm 3) (by decide) (fun _ _ _ _ _ => (pg_name (i := 3) sc_l_sets.nd rfl (by first | exact Or.inl rfl | exact Or.inr rfl))) (fun _ _ _ _ _ => (ets_one (et_cmp (ok_eq (hu64 hr)) (ev_bin ok_and (ev_bin ok_shr (ev_var (pv 2)) (ev_var (pv 3))) ev_int) ev_int (by first | exact nomark _ | rfl)))) (fun _ _ _ _ _ => (pd_of (ev_var (pv 3))))) ar_nil)))))) (ss_one (s_retS (i := 1) (pv 1)))))
theorem ok_l_can {f : Addr} {fd : FuncData} (al : Bool) (F : Fun K "_law_can" "_law_can" s_l_can f fd) (B : Gb K mg) (c_l_sets : ∀ al, Callee P w K mg base (tab ca) "_law_sets" al 1 1 sem_l_sets) (c_l_reading : ∀ al, Callee P w K mg base (tab ca) "_law_reading" al 2 2 sem_l_reading) : FnOk P w K mg base (L2.CX P w) 3 f fd ["_law_frame_here", "_law_reading_here"] (spF K (tab ca) al 2 sem_l_can) :=
  fn_ok F sc_l_can fun cdv A outer s H E1 hr =>
    (ss_cons (s_setV (i := 2) sc_l_can.nd rfl (by first | exact Or.inl rfl | exact Or.inr rfl) (pd_of (ev_ix (ev_var (pv 0)) ev_int (fun _ _ => rfl)))) (ss_cons (s_if (et_cmp ok_lt (ev_callB ok_len rfl B.g_len (by decide +kernel) (ar_cons (ev_var (pv 2)) ar_nil)) ev_int (by first | exact nomark _ | rfl)) (ss_one (s_ret (ev_cmp (ok_in (hu65 hr)) (ev_var (pv 1)) (ev_lc (own := [("_law_keys", 3)]) rfl sc_l_can.nd (ic_seq (ev_user (c_l_sets false) (hr.mono (by decide)) rfl (takes_of rfl rfl rfl rfl) (as_cons (pd_of (ev_callB ok_len rfl B.g_len (by decide +kernel) (ar_cons (ev_var (pv 2)) ar_nil))) as_nil))) (blkOk_by (own := [("_law_keys", 3)]) (N := ["_law_frame_here", "_law_reading_here", "_law_spots", "_law_keys", "_law_key"]) (sc := defScope s_l_can) (by decide +kernel)) (t := .nm 3) (by decide) (fun _ _ _ _ _ => (pg_name (i := 3) sc_l_can.nd rfl (by first | exact Or.inl rfl | exact Or.inr rfl))) (fun _ _ _ _ _ => ets_nil) (fun _ _ _ _ _ => (pd_of (ev_user (c_l_reading false) (hr.mono (by decide)) rfl takes0 (as_cons (pd_of (ev_var (pv 0))) (as_cons (pd_of (ev_var (pv 3))) as_nil)))))) (by first | exact nomark _ | rfl)))) ss_nil) (ss_cons (s_if (et_w (ew_or (et_cmp (ok_ne (hu64 hr)) (ev_callB ok_len rfl B.g_len (by decide +kernel) (ar_cons (ev_var (pv 1)) ar_nil)) (ev_ix (ev_var (pv 0)) ev_int (fun _ _ => rfl)) (by first | exact nomark _ | rfl)) (ew_or (et_cmp ok_lt (ev_callB (ok_minT rfl (hu65 hr)) rfl B.g_min (by decide +kernel) (ar_cons (ev_var (pv 1)) ar_nil)) ev_int (by first | exact nomark _ | rfl)) (ew_or1 (et_cmp ok_ge (ev_callB (ok_maxT rfl (hu65 hr)) rfl B.g_max (by decide +kernel) (ar_cons (ev_var (pv 1)) ar_nil)) (ev_bin ok_shl ev_int (ev_ix (ev_var (pv 0)) ev_int (fun _ _ => rfl))) (by first | exact nomark _ | rfl)))))) (ss_one (s_ret ev_bl)) ss_nil) (ss_cons (s_thaw (i := 3) (s_setLc (i := 3) (own := [("_law_key", 4)]) rfl sc_l_can.nd rfl rfl (sw_true rfl rfl rfl (by decide +kernel)) (ic_of (iv_range1 rfl B.g_range (ar_cons (ev_callB ok_len rfl B.g_len (by decide +kernel) (ar_cons (ev_var (pv 2)) ar_nil)) ar_nil))) (blkOk_by (own := [("_law_key", 4)]) (N := ["_law_frame_here", "_law_reading_here", "_law_spots", "_law_keys", "_law_key"]) (sc := defScope s_l_can) (by decide +kernel)) (t := .nm 4) (by decide) (fun _ _ _ _ _ => (pg_name (i := 4) sc_l_can.nd rfl (by first | exact Or.inl rfl | exact Or.inr rfl))) (fun _ _ _ _ _ => (ets_one (et_cmp (ok_eq (hu64 hr)) (ev_bin ok_and (ev_bin ok_shr (ev_ix (ev_var (pv 1)) (ev_ix (ev_ix (ev_var (pv 2)) (ev_var (pv 4)) (fun _ _ => rfl)) ev_int (fun _ _ => rfl)) (fun _ _ => rfl)) (ev_ix (ev_ix (ev_var (pv 2)) (ev_var (pv 4)) (fun _ _ => rfl)) ev_int (fun _ _ => rfl))) ev_int) ev_int (by first | exact nomark _ | rfl)))) (fun _ _ _ _ _ => (pd_of (ev_var (pv 4)))))) (ss_one (s_ret (ev_cmp (ok_eq (hu64 hr)) (ev_user (c_l_reading false) (hr.mono (by decide)) rfl (takes_of rfl rfl rfl rfl) (as_cons (pd_of (ev_var (pv 0))) (as_cons (pd_of (ev_callTy ok_tuple rfl B.g_tuple (by decide +kernel) (ar_cons (ev_var (pv 3)) ar_nil))) as_nil))) (ev_var (pv 1)) (by first | exact nomark _ | rfl))))))))
theorem ok_l_pieces {f : Addr} {fd : FuncData} (al : Bool) (F : Fun K "_law_pieces" "_law_pieces" s_l_pieces f fd) (B : Gb K mg) : FnOk P w K mg base (L2.CX P w) 1 f fd ["_law_frame_here", "_law_reading_here"] (spF K (tab ca) al 2 sem_l_pieces) :=
  fn_ok F sc_l_pieces fun cdv A outer s H E1 hr =>
    (ss_cons (s_setO (i := 2) sc_l_pieces.nd rfl (by first | exact Or.inl rfl | exact Or.inr rfl) (ev_lst as_nil)) (ss_cons (s_for (t := .nm 3) (passes_of rfl) rfl (iv_range1 rfl B.g_range (ar_cons (ev_ix (ev_var (pv 0)) ev_int (fun _ _ => rfl)) ar_nil)) (pg_name (i := 3) sc_l_pieces.nd rfl (by first | exact Or.inl rfl | exact Or.inr rfl)) (ss_cons (s_setV (i := 4) sc_l_pieces.nd rfl (by first | exact Or.inl rfl | exact Or.inr rfl) (pd_of (ev_callTy ok_tuple rfl B.g_tuple (by decide +kernel) (ar_cons (ev_lc (own := [("_law_other", 6)]) rfl sc_l_pieces.nd (ic_of (iv_range1 rfl B.g_range (ar_cons (ev_ix (ev_var (pv 0)) ev_int (fun _ _ => rfl)) ar_nil))) (blkOk_by (own := [("_law_other", 6)]) (N := ["_law_frame_here", "_law_reading_here", "_law_found", "_law_row_here", "_law_near", "_law_far", "_law_other", "_law_column"]) (sc := defScope s_l_pieces) (by decide +kernel)) (t := .nm 6) (by decide) (fun _ _ _ _ _ => (pg_name (i := 6) sc_l_pieces.nd rfl (by first | exact Or.inl rfl | exact Or.inr rfl))) (fun _ _ _ _ _ => (ets_one (et_cmp (ok_eq (hu64 hr)) (ev_ix (ev_var (pv 1)) (ev_var (pv 6)) (fun _ _ => rfl)) (ev_ix (ev_var (pv 1)) (ev_var (pv 3)) (fun _ _ => rfl)) (by first | exact nomark _ | rfl)))) (fun _ _ _ _ _ => (pd_of (ev_var (pv 6))))) ar_nil)))) (ss_cons (s_setV (i := 5) sc_l_pieces.nd rfl (by first | exact Or.inl rfl | exact Or.inr rfl) (pd_of (ev_callTy ok_tuple rfl B.g_tuple (by decide +kernel) (ar_cons (ev_lc (own := [("_law_column", 7)]) rfl sc_l_pieces.nd (ic_of (iv_range1 rfl B.g_range (ar_cons (ev_ix (ev_var (pv 0)) ev_int (fun _ _ => rfl)) ar_nil))) (blkOk_by (own := [("_law_column", 7)]) (N := ["_law_frame_here", "_law_reading_here", "_law_found", "_law_row_here", "_law_near", "_law_far", "_law_other", "_law_column"]) (sc := defScope s_l_pieces) (by decide +kernel)) (t := .nm 7) (by decide) (fun _ _ _ _ _ => (pg_name (i := 7) sc_l_pieces.nd rfl (by first | exact Or.inl rfl | exact Or.inr rfl))) (fun _ _ _ _ _ => (ets_one (et_cmp (ok_eq (hu64 hr)) (ev_bin ok_and (ev_bin ok_shr (ev_ix (ev_var (pv 1)) (ev_var (pv 3)) (fun _ _ => rfl)) (ev_var (pv 7))) ev_int) ev_int (by first | exact nomark _ | rfl)))) (fun _ _ _ _ _ => (pd_of (ev_var (pv 7))))) ar_nil)))) (ss_one (s_if (et_w (ew_and (et_cmp ok_gt (ev_callB ok_len rfl B.g_len (by decide +kernel) (ar_cons (ev_var (pv 5)) ar_nil)) ev_int (by first | exact nomark _ | rfl)) (ew_and1 (et_cmp (ok_eq (hu64 hr)) (ev_ix (ev_var (pv 4)) ev_int (fun _ _ => rfl)) (ev_var (pv 3)) (by first | exact nomark _ | rfl))))) (ss_one (s_app (i := 2) (pv 2) (pd_of (ev_tup (as_cons (pd_of (ev_var (pv 4))) (as_cons (pd_of (ev_var (pv 5))) as_nil)))))) ss_nil))))) (ss_one (s_retS (i := 2) (pv 2)))))
theorem ok_l_downs {f : Addr} {fd : FuncData} (al : Bool) (F : Fun K "_law_downs" "_law_downs" s_l_downs f fd) (B : Gb K mg) (c_l_take : ∀ al, Callee P w K mg base (tab ca) "_law_take" al 1 3 sem_l_take) : FnOk P w K mg base (L2.CX P w) 2 f fd ["_law_cell_here", "_law_many"] (spF K (tab ca) al 2 sem_l_downs) :=
  fn_ok F sc_l_downs fun cdv A outer s H E1 hr =>
    (ss_cons (s_setO (i := 2) sc_l_downs.nd rfl (by first | exact Or.inl rfl | exact Or.inr rfl) (ev_lst as_nil)) (ss_cons (s_for (t := .nm 3) (passes_of rfl) rfl (iv_range1 rfl B.g_range (ar_cons (ev_var (pv 1)) ar_nil)) (pg_name (i := 3) sc_l_downs.nd rfl (by first | exact Or.inl rfl | exact Or.inr rfl)) (ss_one (s_if (et_cmp ok_lt (ev_user (c_l_take false) (hr.mono (by decide)) rfl (takes_of rfl rfl rfl rfl) (as_cons (pd_of (ev_var (pv 0))) (as_cons (pd_of (ev_bin ok_plus ev_int (ev_var (pv 3)))) (as_cons (pd_of ev_int) as_nil)))) ev_int (by first | exact nomark _ | rfl)) (ss_one (s_app (i := 2) (pv 2) (pd_of (ev_var (pv 3))))) ss_nil))) (ss_one (s_ret (ev_callTy ok_tuple rfl B.g_tuple (by decide +kernel) (ar_cons (ev_var (pv 2)) ar_nil))))))
theorem ok_l_classes {f : Addr} {fd : FuncData} (al : Bool) (F : Fun K "_law_classes" "_law_classes" s_l_classes f fd) (E : Xb P w K mg base) (B : Gb K mg) : FnOk P w K mg base (L2.CX P w) 1 f fd ["_law_e"] (spF K (tab ca) al 1 sem_l_classes) :=
  fn_ok F sc_l_classes fun cdv A outer s H E1 hr =>
    (ss_cons (s_setV (i := 1) sc_l_classes.nd rfl (by first | exact Or.inl rfl | exact Or.inr rfl) (pd_of (ev_lst (as_cons (pd_of (ev_isxO E.i_NoFrame rfl (ev_var (pv 0)) rfl B.g_isinstance)) (as_cons (pd_of (ev_isxO E.i_NoReading rfl (ev_var (pv 0)) rfl B.g_isinstance)) (as_cons (pd_of (ev_isxO E.i_NoBed rfl (ev_var (pv 0)) rfl B.g_isinstance)) (as_cons (pd_of (ev_isxO E.i_NoChord rfl (ev_var (pv 0)) rfl B.g_isinstance)) as_nil))))))) (ss_cons (s_setV (i := 1) sc_l_classes.nd rfl (by first | exact Or.inl rfl | exact Or.inr rfl) (pd_of (ev_bin ok_plus (ev_var (pv 1)) (ev_lst (as_cons (pd_of (ev_isxO E.i_NoText rfl (ev_var (pv 0)) rfl B.g_isinstance)) (as_cons (pd_of (ev_isxO E.i_TooMany rfl (ev_var (pv 0)) rfl B.g_isinstance)) (as_cons (pd_of (ev_isxO E.i_NoKeys rfl (ev_var (pv 0)) rfl B.g_isinstance)) (as_cons (pd_of (ev_isxO E.i_NoBook rfl (ev_var (pv 0)) rfl B.g_isinstance)) as_nil)))))))) (ss_cons (s_setV (i := 1) sc_l_classes.nd rfl (by first | exact Or.inl rfl | exact Or.inr rfl) (pd_of (ev_bin ok_plus (ev_var (pv 1)) (ev_lst (as_cons (pd_of (ev_isxO E.i_NoWord rfl (ev_var (pv 0)) rfl B.g_isinstance)) (as_cons (pd_of (ev_isxO E.i_NoRow rfl (ev_var (pv 0)) rfl B.g_isinstance)) as_nil)))))) (ss_cons (s_if (et_w (ew_or (et_not (et_val (ev_isxB rfl B.g_ValueError (by decide +kernel) E.i_ValueError (ev_var (pv 0)) rfl B.g_isinstance))) (ew_or1 (et_cmp (ok_ne (hu64 hr)) (ev_count (ev_var (pv 1)) ev_bl) ev_int (by first | exact nomark _ | rfl))))) (ss_one (s_ret (ev_un ok_neg ev_int))) ss_nil) (ss_one (s_ret (ev_index (ev_var (pv 1)) ev_bl)))))))
theorem ok_without {f : Addr} {fd : FuncData} (al : Bool) (F : Fun K "without" "without" s_without f fd) (B : Gb K mg) : FnOk P w K mg base (L2.CX P w) 1 f fd ["keys", "key"] (spF K (tab ca) al 2 sem_without) :=
  fn_ok F sc_without fun cdv A outer s H E1 hr =>
    (ss_one (s_ret (ev_callTy ok_tuple rfl B.g_tuple (by decide +kernel) (ar_cons (ev_lc (own := [("other", 2)]) rfl sc_without.nd (ic_seq (ev_var (pv 0))) (blkOk_by (own := [("other", 2)]) (N := ["keys", "key", "other"]) (sc := defScope s_without) (by decide +kernel)) (t := .nm 2) (by decide) (fun _ _ _ _ _ => (pg_name (i := 2) sc_without.nd rfl (by first | exact Or.inl rfl | exact Or.inr rfl))) (fun _ _ _ _ _ => (ets_one (et_cmp (ok_ne (hu64 hr)) (ev_var (pv 2)) (ev_var (pv 1)) (by first | exact nomark _ | rfl)))) (fun _ _ _ _ _ => (pd_of (ev_var (pv 2))))) ar_nil))))
theorem ok_seen {f : Addr} {fd : FuncData} (al : Bool) (F : Fun K "seen" "seen" s_seen f fd) (B : Gb K mg) (c_checked_keys : ∀ al, Callee P w K mg base (tab ca) "checked_keys" al 3 2 sem_checked_keys) (c_reads : ∀ al, Callee P w K mg base (tab ca) "reads" al 2 2 sem_reads) (c_without : ∀ al, Callee P w K mg base (tab ca) "without" al 1 2 sem_without) : FnOk P w K mg base (L2.CX P w) 4 f fd ["frame", "reading"] (spF K (tab ca) al 2 sem_seen) :=
  fn_ok F sc_seen fun cdv A outer s H E1 hr =>
    (ss_cons (s_setV (i := 2) sc_seen.nd rfl (by first | exact Or.inl rfl | exact Or.inr rfl) (pd_of (ev_user (c_checked_keys false) (hr.mono (by decide)) rfl (takes_of rfl rfl rfl rfl) (as_cons (pd_of (ev_var (pv 0))) (as_cons (pd_of (ev_var (pv 1))) as_nil))))) (ss_cons (s_setO (i := 3) sc_seen.nd rfl (by first | exact Or.inl rfl | exact Or.inr rfl) (ev_lst as_nil)) (ss_cons (s_for (t := .nm 4) (passes_of rfl) rfl (iv_range1 rfl B.g_range (ar_cons (ev_callB ok_len rfl B.g_len (by decide +kernel) (ar_cons (ev_ix (ev_var (pv 0)) ev_int (fun _ _ => rfl)) ar_nil)) ar_nil)) (pg_name (i := 4) sc_seen.nd rfl (by first | exact Or.inl rfl | exact Or.inr rfl)) (ss_one (s_if (et_cmp (ok_nin (hu65 hr)) (ev_var (pv 4)) (ev_var (pv 2)) (by first | exact nomark _ | rfl)) (ss_one (s_app (i := 3) (pv 3) (pd_of ev_str))) (ss_one (s_if (et_cmp (ok_eq (hu64 hr)) (ev_user (c_reads false) (hr.mono (by decide)) rfl (takes_of rfl rfl rfl rfl) (as_cons (pd_of (ev_var (pv 0))) (as_cons (pd_of (ev_user (c_without false) (hr.mono (by decide)) rfl (takes_of rfl rfl rfl rfl) (as_cons (pd_of (ev_var (pv 2))) (as_cons (pd_of (ev_var (pv 4))) as_nil)))) as_nil))) (ev_callTy ok_tuple rfl B.g_tuple (by decide +kernel) (ar_cons (ev_var (pv 1)) ar_nil)) (by first | exact nomark _ | rfl)) (ss_one (s_app (i := 3) (pv 3) (pd_of ev_str))) (ss_one (s_app (i := 3) (pv 3) (pd_of ev_str)))))))) (ss_one (s_ret (ev_callTy ok_tuple rfl B.g_tuple (by decide +kernel) (ar_cons (ev_var (pv 3)) ar_nil)))))))
theorem ok_why {f : Addr} {fd : FuncData} (al : Bool) (F : Fun K "why" "why" s_why f fd) (B : Gb K mg) (c_checked_keys : ∀ al, Callee P w K mg base (tab ca) "checked_keys" al 3 2 sem_checked_keys) (c_without : ∀ al, Callee P w K mg base (tab ca) "without" al 1 2 sem_without) (c_reads : ∀ al, Callee P w K mg base (tab ca) "reads" al 2 2 sem_reads) (c_hung : ∀ al, Callee P w K mg base (tab ca) "hung" al 1 2 sem_hung) : FnOk P w K mg base (L2.CX P w) 4 f fd ["frame", "reading", "key"] (spF K (tab ca) al 3 sem_why) :=
  fn_ok F sc_why fun cdv A outer s H E1 hr =>
    (ss_cons (s_setV (i := 3) sc_why.nd rfl (by first | exact Or.inl rfl | exact Or.inr rfl) (pd_of (ev_user (c_checked_keys false) (hr.mono (by decide)) rfl (takes_of rfl rfl rfl rfl) (as_cons (pd_of (ev_var (pv 0))) (as_cons (pd_of (ev_var (pv 1))) as_nil))))) (ss_cons (s_if (et_cmp (ok_nin (hu65 hr)) (ev_var (pv 2)) (ev_var (pv 3)) (by first | exact nomark _ | rfl)) (ss_one (s_ret ev_non)) ss_nil) (ss_cons (s_setV (i := 4) sc_why.nd rfl (by first | exact Or.inl rfl | exact Or.inr rfl) (pd_of (ev_user (c_without false) (hr.mono (by decide)) rfl (takes_of rfl rfl rfl rfl) (as_cons (pd_of (ev_var (pv 3))) (as_cons (pd_of (ev_var (pv 2))) as_nil))))) (ss_cons (s_if (et_cmp (ok_eq (hu64 hr)) (ev_user (c_reads false) (hr.mono (by decide)) rfl (takes_of rfl rfl rfl rfl) (as_cons (pd_of (ev_var (pv 0))) (as_cons (pd_of (ev_var (pv 4))) as_nil))) (ev_callTy ok_tuple rfl B.g_tuple (by decide +kernel) (ar_cons (ev_var (pv 1)) ar_nil)) (by first | exact nomark _ | rfl)) (ss_one (s_ret (ev_tup (as_cons (pd_of (ev_var (pv 3))) (as_cons (pd_of (ev_var (pv 4))) as_nil))))) ss_nil) (ss_cons (s_tup (t := .tp [7, 8]) (pd_of (ev_user (c_hung false) (hr.mono (by decide)) rfl (takes_of rfl rfl rfl rfl) (as_cons (pd_of (ev_var (pv 0))) (as_cons (pd_of (ev_var (pv 4))) as_nil)))) (pg_tup rfl (pgs_cons (pg_name (i := 7) sc_why.nd rfl (by first | exact Or.inl rfl | exact Or.inr rfl)) (pgs_cons (pg_name (i := 8) sc_why.nd rfl (by first | exact Or.inl rfl | exact Or.inr rfl)) pgs_nil)))) (ss_cons (s_setV (i := 5) sc_why.nd rfl (by first | exact Or.inl rfl | exact Or.inr rfl) (pd_of (ev_ix (ev_var (pv 7)) (ev_ix (ev_ix (ev_ix (ev_var (pv 0)) ev_int (fun _ _ => rfl)) (ev_var (pv 2)) (fun _ _ => rfl)) ev_int (fun _ _ => rfl)) (fun _ _ => rfl)))) (ss_cons (s_setV (i := 6) sc_why.nd rfl (by first | exact Or.inl rfl | exact Or.inr rfl) (pd_of (ev_callTy ok_tuple rfl B.g_tuple (by decide +kernel) (ar_cons (ev_lc (own := [("row", 9)]) rfl sc_why.nd (ic_of (iv_range1 rfl B.g_range (ar_cons (ev_ix (ev_var (pv 0)) ev_int (fun _ _ => rfl)) ar_nil))) (blkOk_by (own := [("row", 9)]) (N := ["frame", "reading", "key", "keys", "others", "mark", "here", "rows", "columns", "row", "column"]) (sc := defScope s_why) (by decide +kernel)) (t := .nm 9) (by decide) (fun _ _ _ _ _ => (pg_name (i := 9) sc_why.nd rfl (by first | exact Or.inl rfl | exact Or.inr rfl))) (fun _ _ _ _ _ => (ets_one (et_cmp (ok_eq (hu64 hr)) (ev_ix (ev_var (pv 7)) (ev_var (pv 9)) (fun _ _ => rfl)) (ev_var (pv 5)) (by first | exact nomark _ | rfl)))) (fun _ _ _ _ _ => (pd_of (ev_var (pv 9))))) ar_nil)))) (ss_one (s_ret (ev_tup (as_cons (pd_of (ev_var (pv 6))) (as_cons (pd_of (ev_callTy ok_tuple rfl B.g_tuple (by decide +kernel) (ar_cons (ev_lc (own := [("column", 10)]) rfl sc_why.nd (ic_of (iv_range1 rfl B.g_range (ar_cons (ev_ix (ev_var (pv 0)) ev_int (fun _ _ => rfl)) ar_nil))) (blkOk_by (own := [("column", 10)]) (N := ["frame", "reading", "key", "keys", "others", "mark", "here", "rows", "columns", "row", "column"]) (sc := defScope s_why) (by decide +kernel)) (t := .nm 10) (by decide) (fun _ _ _ _ _ => (pg_name (i := 10) sc_why.nd rfl (by first | exact Or.inl rfl | exact Or.inr rfl))) (fun _ _ _ _ _ => (ets_one (et_cmp (ok_eq (hu64 hr)) (ev_ix (ev_var (pv 8)) (ev_var (pv 10)) (fun _ _ => rfl)) (ev_var (pv 5)) (by first | exact nomark _ | rfl)))) (fun _ _ _ _ _ => (pd_of (ev_var (pv 10))))) ar_nil))) as_nil))))))))))))
theorem ok_l_refused {f : Addr} {fd : FuncData} (al : Bool) (F : Fun K "_law_refused" "_law_refused" s_l_refused f fd) (E : Xb P w K mg base) (B : Gb K mg) (c_pieces : ∀ al, Callee P w K mg base (tab ca) "pieces" al 4 2 sem_pieces) (c_seen : ∀ al, Callee P w K mg base (tab ca) "seen" al 4 2 sem_seen) (c_why : ∀ al, Callee P w K mg base (tab ca) "why" al 4 3 sem_why) (c_l_classes : ∀ al, Callee P w K mg base (tab ca) "_law_classes" al 1 1 sem_l_classes) : FnOk P w K mg base (L2.CX P w) 5 f fd ["_law_frame_here", "_law_reading_here", "_law_way", "_law_key"] (spF K (tab ca) al 4 sem_l_refused) :=
  fn_ok F sc_l_refused fun cdv A outer s H E1 hr =>
    (ss_cons (s_setV (i := 4) sc_l_refused.nd rfl (by first | exact Or.inl rfl | exact Or.inr rfl) (pd_of ev_non)) (ss_cons (s_tryC (i := 5) (j := 4) E.t_BedError rfl rfl rfl rfl sc_l_refused.nd rfl rfl rfl (by first | exact Or.inl rfl | exact Or.inr rfl) (by decide) (takes_of rfl rfl rfl rfl) (fun W1 pn xe tk1 po1 => (ss_one (s_if (et_cmp (ok_eq (hu64 hr)) (ev_var (pv 2)) ev_int (by first | exact nomark _ | rfl)) (ss_one (s_expr (ev_user (c_pieces false) (hr.mono (by decide)) rfl tk1 (as_cons (pd_of (ev_var (pv 0))) (as_cons (pd_of (ev_var (pv 1))) as_nil))))) (ss_one (s_if (et_cmp (ok_eq (hu64 hr)) (ev_var (pv 2)) ev_int (by first | exact nomark _ | rfl)) (ss_one (s_expr (ev_user (c_seen false) (hr.mono (by decide)) rfl tk1 (as_cons (pd_of (ev_var (pv 0))) (as_cons (pd_of (ev_var (pv 1))) as_nil))))) (ss_one (s_expr (ev_user (c_why false) (hr.mono (by decide)) rfl tk1 (as_cons (pd_of (ev_var (pv 0))) (as_cons (pd_of (ev_var (pv 1))) (as_cons (pd_of (ev_var (pv 3))) as_nil)))))))))))) (ss_one (s_ret (ev_and (ev_cmp ok_isnot (ev_var (pv 4)) ev_non (by first | exact nomark _ | rfl)) (ev_one (ev_cmp (ok_eq (hu64 hr)) (ev_user (c_l_classes false) (hr.mono (by decide)) rfl (takes_of rfl rfl rfl rfl) (as_cons (pd_of (ev_var (pv 4))) as_nil)) ev_int (by first | exact nomark _ | rfl))))))))
theorem ok_l_whole {f : Addr} {fd : FuncData} (al : Bool) (F : Fun K "_law_whole" "_law_whole" s_l_whole f fd) (B : Gb K mg) : FnOk P w K mg base (L2.CX P w) 1 f fd ["_law_number"] (spF K (tab ca) al 1 sem_l_whole) :=
  fn_ok F sc_l_whole fun cdv A outer s H E1 hr =>
    (ss_one (s_ret (ev_and (ev_isi (n := "int") (by decide) (ev_var (pv 0)) rfl B.g_isinstance rfl B.g_int (by decide +kernel)) (ev_one (ev_not (ev_isi (n := "bool") (by decide) (ev_var (pv 0)) rfl B.g_isinstance rfl B.g_bool (by decide +kernel)))))))
theorem ok_l_row {f : Addr} {fd : FuncData} (al : Bool) (F : Fun K "_law_row" "_law_row" s_l_row f fd) (B : Gb K mg) (c_l_whole : ∀ al, Callee P w K mg base (tab ca) "_law_whole" al 1 1 sem_l_whole) : FnOk P w K mg base (L2.CX P w) 2 f fd ["_law_found"] (spF K (tab ca) al 1 sem_l_row) :=
  fn_ok F sc_l_row fun cdv A outer s H E1 hr =>
    (ss_one (s_ret (ev_and (ev_isi (n := "tuple") (by decide) (ev_var (pv 0)) rfl B.g_isinstance rfl B.g_tuple (by decide +kernel)) (ev_one (ev_callB (ok_all rfl) rfl B.g_all (by decide +kernel) (ar_cons (ev_lc (own := [("_law_number", 1)]) rfl sc_l_row.nd (ic_seq (ev_var (pv 0))) (blkOk_by (own := [("_law_number", 1)]) (N := ["_law_found", "_law_number"]) (sc := defScope s_l_row) (by decide +kernel)) (t := .nm 1) (by decide) (fun _ _ _ _ _ => (pg_name (i := 1) sc_l_row.nd rfl (by first | exact Or.inl rfl | exact Or.inr rfl))) (fun _ _ _ _ _ => ets_nil) (fun _ _ _ _ _ => (pd_of (ev_user (c_l_whole false) (hr.mono (by decide)) rfl takes0 (as_cons (pd_of (ev_var (pv 1))) as_nil))))) ar_nil))))))
theorem ok_law {f : Addr} {fd : FuncData} (al : Bool) (F : Fun K "law" "law" s_law f fd) (B : Gb K mg) (c_l_frame : ∀ al, Callee P w K mg base (tab ca) "_law_frame" al 2 2 sem_l_frame) (c_l_take : ∀ al, Callee P w K mg base (tab ca) "_law_take" al 1 3 sem_l_take) (c_l_cell : ∀ al, Callee P w K mg base (tab ca) "_law_cell" al 1 2 sem_l_cell) (c_l_turned : ∀ al, Callee P w K mg base (tab ca) "_law_turned" al 2 3 sem_l_turned) (c_l_reading : ∀ al, Callee P w K mg base (tab ca) "_law_reading" al 2 2 sem_l_reading) (c_l_downs : ∀ al, Callee P w K mg base (tab ca) "_law_downs" al 2 2 sem_l_downs) (c_l_refused : ∀ al, Callee P w K mg base (tab ca) "_law_refused" al 5 4 sem_l_refused) (c_l_can : ∀ al, Callee P w K mg base (tab ca) "_law_can" al 3 2 sem_l_can) (c_pieces : ∀ al, Callee P w K mg base (tab ca) "pieces" al 4 2 sem_pieces) (c_l_pieces : ∀ al, Callee P w K mg base (tab ca) "_law_pieces" al 1 2 sem_l_pieces) (c_l_row : ∀ al, Callee P w K mg base (tab ca) "_law_row" al 2 1 sem_l_row) : FnOk P w K mg base (L2.CX P w) 6 f fd ["_law_script"] (spF K (tab ca) al 1 sem_law) :=
  fn_ok F sc_law fun cdv A outer s H E1 hr =>
    (ss_cons (s_setV (i := 1) sc_law.nd rfl (by first | exact Or.inl rfl | exact Or.inr rfl) (pd_of (ev_user (c_l_frame false) (hr.mono (by decide)) rfl (takes_of rfl rfl rfl rfl) (as_cons (pd_of (ev_var (pv 0))) (as_cons (pd_of (ev_ix (ev_lst (as_cons (pd_of ev_int) (as_cons (pd_of ev_int) as_nil))) (ev_user (c_l_take false) (hr.mono (by decide)) rfl (takes_of rfl rfl rfl rfl) (as_cons (pd_of (ev_user (c_l_cell false) (hr.mono (by decide)) rfl (takes_of rfl rfl rfl rfl) (as_cons (pd_of (ev_var (pv 0))) (as_cons (pd_of ev_int) as_nil)))) (as_cons (pd_of ev_int) (as_cons (pd_of ev_int) as_nil)))) (fun _ _ => rfl))) as_nil))))) (ss_cons (s_setV (i := 2) sc_law.nd rfl (by first | exact Or.inl rfl | exact Or.inr rfl) (pd_of (ev_callB ok_len rfl B.g_len (by decide +kernel) (ar_cons (ev_ix (ev_var (pv 1)) ev_int (fun _ _ => rfl)) ar_nil)))) (ss_cons (s_setV (i := 3) sc_law.nd rfl (by first | exact Or.inl rfl | exact Or.inr rfl) (pd_of (ev_user (c_l_turned false) (hr.mono (by decide)) rfl (takes_of rfl rfl rfl rfl) (as_cons (pd_of (ev_var (pv 0))) (as_cons (pd_of (ev_var (pv 1))) (as_cons (pd_of (ev_user (c_l_reading false) (hr.mono (by decide)) rfl (takes_of rfl rfl rfl rfl) (as_cons (pd_of (ev_var (pv 1))) (as_cons (pd_of (ev_user (c_l_downs false) (hr.mono (by decide)) rfl (takes_of rfl rfl rfl rfl) (as_cons (pd_of (ev_user (c_l_cell false) (hr.mono (by decide)) rfl (takes_of rfl rfl rfl rfl) (as_cons (pd_of (ev_var (pv 0))) (as_cons (pd_of ev_int) as_nil)))) (as_cons (pd_of (ev_var (pv 2))) as_nil)))) as_nil)))) as_nil)))))) (ss_cons (s_if (et_not (et_val (ev_user (c_l_can false) (hr.mono (by decide)) rfl (takes_of rfl rfl rfl rfl) (as_cons (pd_of (ev_var (pv 1))) (as_cons (pd_of (ev_var (pv 3))) as_nil))))) (ss_cons (s_setV (i := 6) sc_law.nd rfl (by first | exact Or.inl rfl | exact Or.inr rfl) (pd_of (ev_user (c_l_take false) (hr.mono (by decide)) rfl (takes_of rfl rfl rfl rfl) (as_cons (pd_of (ev_user (c_l_cell false) (hr.mono (by decide)) rfl (takes_of rfl rfl rfl rfl) (as_cons (pd_of (ev_var (pv 0))) (as_cons (pd_of ev_int) as_nil)))) (as_cons (pd_of ev_int) (as_cons (pd_of (ev_var (pv 2))) as_nil)))))) (ss_one (s_ret (ev_callB (ok_all rfl) rfl B.g_all (by decide +kernel) (ar_cons (ev_lc (own := [("_law_way", 7)]) rfl sc_law.nd (ic_of (iv_range1 rfl B.g_range (ar_cons ev_int ar_nil))) (blkOk_by (own := [("_law_way", 7)]) (N := ["_law_script", "_law_frame_here", "_law_many", "_law_reading_here", "_law_found", "_law_piece", "_law_key", "_law_way"]) (sc := defScope s_law) (by decide +kernel)) (t := .nm 7) (by decide) (fun _ _ _ _ _ => (pg_name (i := 7) sc_law.nd rfl (by first | exact Or.inl rfl | exact Or.inr rfl))) (fun _ _ _ _ _ => ets_nil) (fun _ _ _ _ _ => (pd_of (ev_user (c_l_refused false) (hr.mono (by decide)) rfl takes0 (as_cons (pd_of (ev_var (pv 1))) (as_cons (pd_of (ev_var (pv 3))) (as_cons (pd_of (ev_var (pv 7))) (as_cons (pd_of (ev_var (pv 6))) as_nil)))))))) ar_nil))))) ss_nil) (ss_cons (s_setO (i := 4) sc_law.nd rfl (by first | exact Or.inl rfl | exact Or.inr rfl) (ev_user (c_pieces false) (hr.mono (by decide)) rfl (takes_of rfl rfl rfl rfl) (as_cons (pd_of (ev_var (pv 1))) (as_cons (pd_of (ev_var (pv 3))) as_nil)))) (ss_cons (s_if (et_w (ew_or (et_not (et_val (ev_isi (n := "list") (by decide) (ev_var (pv 4)) rfl B.g_isinstance rfl B.g_list (by decide +kernel)))) (ew_or1 (et_cmp (ok_ne (hu64 hr)) (ev_var (pv 4)) (ev_user (c_l_pieces false) (hr.mono (by decide)) rfl (takes_of rfl rfl rfl rfl) (as_cons (pd_of (ev_var (pv 1))) (as_cons (pd_of (ev_var (pv 3))) as_nil))) (by first | exact nomark _ | rfl))))) (ss_one (s_ret ev_bl)) ss_nil) (ss_cons (s_forO (i := 4) (t := .nm 5) (passes_of rfl) rfl (pv 4) (pg_name (i := 5) sc_law.nd rfl (by first | exact Or.inl rfl | exact Or.inr rfl)) (ss_one (s_if (et_w (ew_or (et_not (et_val (ev_isi (n := "tuple") (by decide) (ev_var (pv 5)) rfl B.g_isinstance rfl B.g_tuple (by decide +kernel)))) (ew_or (et_not (et_val (ev_user (c_l_row false) (hr.mono (by decide)) rfl (takes_of rfl rfl rfl rfl) (as_cons (pd_of (ev_ix (ev_var (pv 5)) ev_int (fun _ _ => rfl))) as_nil)))) (ew_or1 (et_not (et_val (ev_user (c_l_row false) (hr.mono (by decide)) rfl (takes_of rfl rfl rfl rfl) (as_cons (pd_of (ev_ix (ev_var (pv 5)) ev_int (fun _ _ => rfl))) as_nil)))))))) (ss_one (s_ret ev_bl)) ss_nil))) (ss_cons (s_app (i := 4) (pv 4) (pd_of (ev_tup (as_cons (pd_of (ev_tup as_nil)) (as_cons (pd_of (ev_tup as_nil)) as_nil))))) (ss_one (s_ret (ev_cmp (ok_eq (hu64 hr)) (ev_user (c_pieces false) (hr.mono (by decide)) rfl (takes_of rfl rfl rfl rfl) (as_cons (pd_of (ev_var (pv 1))) (as_cons (pd_of (ev_var (pv 3))) as_nil))) (ev_user (c_l_pieces false) (hr.mono (by decide)) rfl (takes_of rfl rfl rfl rfl) (as_cons (pd_of (ev_var (pv 1))) (as_cons (pd_of (ev_var (pv 3))) as_nil))) (by first | exact nomark _ | rfl))))))))))))
end
end L_k03

namespace L_k03
open PySem L2 MP
def evEqs := And.intro (And.intro (And.intro (And.intro (And.intro (And.intro (And.intro (@MP.of_some) (And.intro (@MP.map_some) (@MP.e_lv))) (And.intro (@MP.e_lo) (And.intro (@MP.e_pD) (@MP.e_xDs)))) (And.intro (And.intro (@MP.e_xDf) (And.intro (@MP.e_pC) (@MP.e_pYes))) (And.intro (And.intro (@MP.e_pVar) (@MP.e_p2)) (And.intro (@MP.e_x2) (@MP.e_p1))))) (And.intro (And.intro (And.intro (@MP.e_x1) (And.intro (@MP.e_pB) (@MP.e_xB))) (And.intro (And.intro (@MP.e_pNot) (@MP.e_xNot)) (And.intro (@MP.e_pAnd) (@MP.e_xAndT)))) (And.intro (And.intro (@MP.e_xAndF) (And.intro (@MP.e_pOr) (@MP.e_xOrT))) (And.intro (And.intro (@MP.e_xOrF) (@MP.e_pAndV)) (And.intro (@MP.e_xAndVT) (@MP.e_xAndVF)))))) (And.intro (And.intro (And.intro (And.intro (@MP.e_pNotV) (And.intro (@MP.e_xNotV) (@MP.e_pIf))) (And.intro (And.intro (@MP.e_xIfT) (@MP.e_xIfF)) (And.intro (@MP.e_p3) (@MP.e_x3)))) (And.intro (And.intro (@MP.e_x3bT) (And.intro (@MP.e_x3bF) (@MP.e_pNil))) (And.intro (And.intro (@MP.e_pCons) (@MP.e_xCons)) (And.intro (@MP.e_pTup) (@MP.e_xTp))))) (And.intro (And.intro (And.intro (@MP.e_pLst) (And.intro (@MP.e_xLs) (@MP.e_pNo))) (And.intro (And.intro (@MP.e_pSome) (@MP.e_xSo)) (And.intro (@MP.e_pSl) (@MP.e_xSl)))) (And.intro (And.intro (@MP.e_pCall) (And.intro (@MP.e_xG) (@MP.e_pSeq))) (And.intro (And.intro (@MP.e_xSq) (@MP.e_pSeqR)) (And.intro (@MP.e_xSqR) (@MP.e_pRng))))))) (And.intro (And.intro (And.intro (And.intro (And.intro (@MP.e_pComp) (And.intro (@MP.e_xC) (@MP.e_xC2))) (And.intro (@MP.e_pUser) (And.intro (@MP.e_xU) (@MP.e_xFv)))) (And.intro (And.intro (@MP.e_xFo) (And.intro (@MP.e_xFe) (@MP.e_pFld))) (And.intro (And.intro (@MP.e_c0) (@MP.e_c1)) (And.intro (@MP.g_add) (@MP.g_catS))))) (And.intro (And.intro (And.intro (@MP.g_catL) (And.intro (@MP.g_catT) (@MP.g_sub))) (And.intro (And.intro (@MP.g_mul) (@MP.g_rep)) (And.intro (@MP.g_div) (@MP.g_mod)))) (And.intro (And.intro (@MP.g_pow) (And.intro (@MP.g_shl) (@MP.g_shr))) (And.intro (And.intro (@MP.g_and) (@MP.g_orI)) (And.intro (@MP.g_neg) (@MP.g_lt)))))) (And.intro (And.intro (And.intro (And.intro (@MP.g_le) (And.intro (@MP.g_gt) (@MP.g_ge))) (And.intro (And.intro (@MP.g_eqI) (@MP.g_eqS)) (And.intro (@MP.g_eqBo) (@MP.g_neI)))) (And.intro (And.intro (@MP.g_neS) (And.intro (@MP.g_neBo) (@MP.g_isNot))) (And.intro (And.intro (@MP.n_none) (@MP.n_int)) (And.intro (@MP.n_str) (@MP.n_tup))))) (And.intro (And.intro (And.intro (@MP.n_list) (And.intro (@MP.n_bool) (@MP.g_min))) (And.intro (And.intro (@MP.g_lenL) (@MP.g_lenK)) (And.intro (@MP.g_lenT) (@MP.g_tupL)))) (And.intro (And.intro (@MP.g_tupT) (And.intro (@MP.q_list) (@MP.q_lk))) (And.intro (And.intro (@MP.q_tup) (@MP.g_rng1)) (And.intro (@MP.g_ixL) (@MP.g_ixK)))))))) (And.intro (And.intro (And.intro (And.intro (And.intro (And.intro (@MP.g_ixT) (And.intro (@MP.g_slL) (@MP.g_slK))) (And.intro (@MP.g_slT) (And.intro (@MP.s_Nil) (@MP.s_Seq)))) (And.intro (And.intro (@MP.s_xSn) (And.intro (@MP.s_xSr) (@MP.s_xSb))) (And.intro (And.intro (@MP.s_xSc) (@MP.s_xSe)) (And.intro (@MP.s_Expr) (@MP.s_xEx))))) (And.intro (And.intro (And.intro (@MP.s_SetV) (And.intro (@MP.s_xSV) (@MP.s_SetO))) (And.intro (And.intro (@MP.s_xSOs) (@MP.s_xSOf)) (And.intro (@MP.s_Ret) (@MP.s_xRts)))) (And.intro (And.intro (@MP.s_xRtf) (And.intro (@MP.s_RetS) (@MP.s_xRSo))) (And.intro (And.intro (@MP.s_xRSv) (@MP.s_If)) (And.intro (@MP.s_xIfT) (@MP.s_xIfF)))))) (And.intro (And.intro (And.intro (And.intro (@MP.s_Tup) (And.intro (@MP.s_xTu) (@MP.s_xTb))) (And.intro (And.intro (@MP.s_For) (@MP.s_xFor)) (And.intro (@MP.s_App) (@MP.s_xAp)))) (And.intro (And.intro (@MP.s_Thaw) (And.intro (@MP.s_xTh) (@MP.s_xFzo))) (And.intro (And.intro (@MP.s_xFzv) (@MP.fe_ok)) (And.intro (@MP.r_run) (@MP.r_un))))) (And.intro (And.intro (And.intro (@MP.r_un0) (And.intro (@MP.r_nx) (@MP.r_ret))) (And.intro (And.intro (@MP.r_exc) (@MP.b_nm)) (And.intro (@MP.b_tp2) (@MP.b_tp3)))) (And.intro (And.intro (@MP.fe_pop) (And.intro (@MP.s_appF) (@MP.g_divmod))) (And.intro (And.intro (@MP.g_sorted) (@MP.g_allB)) (And.intro (@MP.e_pLRng) (@MP.e_xLR))))))) (And.intro (And.intro (And.intro (And.intro (And.intro (@MP.f_Pop) (And.intro (@MP.f_xPop) (@MP.s_AppF))) (And.intro (And.intro (@MP.s_xAF0) (@MP.s_xAF)) (And.intro (@MP.s_xAF2) (@MP.g_inI)))) (And.intro (And.intro (@MP.g_ninI) (And.intro (@MP.g_inT) (@MP.g_ninT))) (And.intro (And.intro (@MP.g_ninST) (@MP.e_c2)) (And.intro (@MP.e_c3) (@MP.e_c4))))) (And.intro (And.intro (And.intro (@MP.e_c5) (And.intro (@MP.e_pIsi) (@MP.s_tryV))) (And.intro (And.intro (@MP.s_raise) (@MP.s_raiseN)) (And.intro (@MP.e_pMt) (@MP.e_xMtL)))) (And.intro (And.intro (@MP.e_xMtK) (And.intro (@MP.g_xor) (@MP.s_RaiseN))) (And.intro (And.intro (@MP.s_TryV) (@MP.s_xTVn)) (And.intro (@MP.s_xTVr) (@MP.s_xTVe)))))) (And.intro (And.intro (And.intro (And.intro (@MP.s_tryC) (And.intro (@MP.e_xDe) (@MP.e_x1e))) (And.intro (And.intro (@MP.e_x2e) (@MP.e_xBe)) (And.intro (@MP.s_xExe) (@MP.s_xSVe)))) (And.intro (And.intro (@MP.s_xSOe) (And.intro (@MP.s_xRte) (@MP.s_xIfe))) (And.intro (And.intro (@MP.s_xTue) (@MP.s_xThe)) (And.intro (@MP.fe_exc) (@MP.n_xv))))) (And.intro (And.intro (And.intro (@MP.s_ins) (And.intro (@MP.e_xC2e) (@MP.e_xCose))) (And.intro (And.intro (@MP.e_xCoe) (@MP.e_xTpe)) (And.intro (@MP.e_xLse) (@MP.e_xGe)))) (And.intro (And.intro (@MP.e_xUe) (And.intro (@MP.s_xApe) (@MP.g_minT))) (And.intro (And.intro (@MP.g_maxT) (@MP.g_srtSet)) (And.intro (@MP.g_sortP) (@MP.s_forO))))))))
/-! ## numbers, lists of numbers -/
def zs (ns : List Int) : List D := ns.map D.int
theorem zs_at (xs : List Int) (i : Nat) (h : i < xs.length) : (zs xs)[i]? = some (.int (xs.getD i 0)) := by
  unfold zs
  rw [List.getElem?_map, List.getElem?_eq_getElem h, List.getD_eq_getElem?_getD, List.getElem?_eq_getElem h]
  rfl
theorem zs_len (xs : List Int) : (zs xs).length = xs.length := by unfold zs; simp
def nD (ms : List Nat) : List D := ms.map fun m : Nat => D.int (m : Int)
def nI (ms : List Nat) : List Int := ms.map fun m : Nat => (m : Int)
theorem nD_nI (ms : List Nat) : nD ms = (nI ms).map D.int := by unfold nD nI; rw [List.map_map]; rfl
theorem nD_len (ms : List Nat) : (nD ms).length = ms.length := by unfold nD; simp
theorem nD_snoc (ms : List Nat) (m : Nat) : nD ms ++ [.int m] = nD (ms ++ [m]) := by unfold nD; simp
theorem nD_at (ms : List Nat) (i : Nat) (h : i < ms.length) : (nD ms)[i]? = some (.int (ms.getD i 0 : Nat)) := by
  unfold nD
  rw [List.getElem?_map, List.getElem?_eq_getElem h, List.getD_eq_getElem?_getD, List.getElem?_eq_getElem h]
  rfl
theorem nD_get (ms : List Nat) (i : Nat) (d : D) (h : (nD ms)[i]? = some d) : ∃ m, ms[i]? = some m ∧ d = .int (m : Nat) := by
  unfold nD at h
  rw [List.getElem?_map] at h
  cases hm : ms[i]? with
  | none => rw [hm] at h; cases h
  | some m => rw [hm] at h; exact ⟨m, rfl, (Option.some.inj h).symm⟩
theorem mem_nI (m : Nat) (ms : List Nat) : ((m : Int) ∈ nI ms) = (m ∈ ms) := by
  unfold nI
  apply propext
  rw [List.mem_map]
  constructor
  · rintro ⟨a, h, e⟩
    have : a = m := by omega
    exact this ▸ h
  · exact fun h => ⟨m, h, rfl⟩
theorem in_nD (m : Nat) (ms : List Nat) : gIn (.int m) (.list (nD ms)) = some ⟨.sh, .bool (decide (m ∈ ms))⟩ := by
  rw [nD_nI, g_inI]
  simp only [mem_nI]
theorem nin_nD (m : Nat) (ms : List Nat) : gNin (.int m) (.list (nD ms)) = some ⟨.sh, .bool (!decide (m ∈ ms))⟩ := by
  rw [nD_nI, g_ninI]
  simp only [mem_nI]
def sortN (ms : List Nat) : List Nat := (sortI (nI ms)).map Int.toNat
theorem sort_nD (ms : List Nat) : (sortN ms).Perm ms ∧ gSorted [.list (nD ms)] = some ⟨.fr, .list (nD (sortN ms))⟩ := by
  unfold sortN
  have p := sortI_perm (nI ms)
  have h : ∀ is : List Int, (∀ i ∈ is, 0 ≤ i) → is = nI (is.map Int.toNat) := by
    intro is hi
    unfold nI
    rw [List.map_map]
    conv => lhs; rw [← List.map_id is]
    refine List.map_congr_left fun a ha => ?_
    have := hi a ha
    show a = ((a.toNat : Nat) : Int)
    omega
  have hs : sortI (nI ms) = nI ((sortI (nI ms)).map Int.toNat) := h _ fun i hi => by
    have := p.subset hi
    unfold nI at this
    obtain ⟨m, _, rfl⟩ := List.mem_map.mp this
    omega
  refine ⟨?_, ?_⟩
  · have q := p.map Int.toNat
    have e : (nI ms).map Int.toNat = ms := by
      unfold nI
      rw [List.map_map]
      conv => rhs; rw [← List.map_id ms]
      exact List.map_congr_left fun a _ => by show ((a : Int)).toNat = a; omega
    rw [e] at q
    exact q
  · rw [nD_nI, g_sorted, nD_nI, ← hs]
/-! ## cells -/
theorem m_cell (ns : List Int) (k : Int) (h : 0 ≤ k) : sem_l_cell [.lk (zs ns), .int k] [] = .ok (.v (.int (ns.getD k.toNat 0))) [] := by
  unfold sem_l_cell b_l_cell
  have hl := zs_len ns
  by_cases hk : k < ns.length
  · have e := zs_at ns k.toNat (by omega)
    have e2 : atI (zs ns) k = some (.int (ns.getD k.toNat 0)) := by rw [atPos _ h, e]
    simp (disch := (first | assumption | with_reducible rfl | decide +kernel | exact Or.inl (by decide +kernel) | exact Or.inr (by decide +kernel) | omega | (simp only [List.length_cons, List.length_nil, List.length_append, List.length_map, List.length_replicate, List.length_range] <;> omega) | rfl)) only [evEqs, List.getElem?_cons_zero, List.getElem?_cons_succ, List.getElem?_nil, List.set_cons_zero, List.set_cons_succ, List.map_cons, List.map_nil, List.length_cons, List.length_nil, List.length_append, List.cons_append, List.nil_append, List.length_map, List.length_singleton, Nat.reduceBEq, Nat.reduceAdd, Nat.reduceSub, Nat.reduceMul, Nat.reduceEqDiff, Nat.reduceLeDiff, Nat.reduceLT, if_false, if_true, ite_true, ite_false, ↓reduceIte, Bool.not_true, Bool.not_false, Bool.false_eq_true, decide_true, decide_false, eq_self, and_true, true_and, and_self, Nat.zero_le, Nat.zero_add, Option.bind_some, Option.bind_none, Nat.lt_irrefl, Int.reduceToNat, Int.reducePow, Int.reduceNeg, Int.reduceMul, Int.reduceAdd, Int.reduceSub, Int.reduceLT, Int.reduceLE, Int.reduceEq, beq_self_eq_true, wipeE, MP.at0, MP.at1, MP.at2, MP.atLit, hl, hk, e2]
  · have e : ns.getD k.toNat 0 = 0 := by rw [List.getD_eq_getElem?_getD, List.getElem?_eq_none (by omega)]; rfl
    simp (disch := (first | assumption | with_reducible rfl | decide +kernel | exact Or.inl (by decide +kernel) | exact Or.inr (by decide +kernel) | omega | (simp only [List.length_cons, List.length_nil, List.length_append, List.length_map, List.length_replicate, List.length_range] <;> omega) | rfl)) only [evEqs, List.getElem?_cons_zero, List.getElem?_cons_succ, List.getElem?_nil, List.set_cons_zero, List.set_cons_succ, List.map_cons, List.map_nil, List.length_cons, List.length_nil, List.length_append, List.cons_append, List.nil_append, List.length_map, List.length_singleton, Nat.reduceBEq, Nat.reduceAdd, Nat.reduceSub, Nat.reduceMul, Nat.reduceEqDiff, Nat.reduceLeDiff, Nat.reduceLT, if_false, if_true, ite_true, ite_false, ↓reduceIte, Bool.not_true, Bool.not_false, Bool.false_eq_true, decide_true, decide_false, eq_self, and_true, true_and, and_self, Nat.zero_le, Nat.zero_add, Option.bind_some, Option.bind_none, Nat.lt_irrefl, Int.reduceToNat, Int.reducePow, Int.reduceNeg, Int.reduceMul, Int.reduceAdd, Int.reduceSub, Int.reduceLT, Int.reduceLE, Int.reduceEq, beq_self_eq_true, wipeE, MP.at0, MP.at1, MP.at2, MP.atLit, hl, hk, e]
theorem m_take_in (salt : Nat) (c : Int) (x1 x2 x3 x4 : Slot) : ∃ (c' : Int) (x4' : Slot), loopL (.nm 4) lp_l_take_1 (rng 0 (salt : Int)) ⟨[.v (.int c), x1, x2, x3, x4], []⟩ = .nx ⟨[.v (.int c'), x1, x2, x3, x4'], []⟩ := by
  obtain ⟨s', h1, c', x4', rfl⟩ := loopE (t := .nm 4) (g := lp_l_take_1) (s := ⟨[.v (.int c), x1, x2, x3, x4], []⟩) (rng 0 (salt : Int)) (fun i s => ∃ (c' : Int) (x4' : Slot), s = ⟨[.v (.int c'), x1, x2, x3, x4'], []⟩) ⟨_, _, rfl⟩ (by
    rintro i d s hd ⟨c', x4', rfl⟩
    refine ⟨_, b_nm .., ?_⟩
    unfold lp_l_take_1
    simp (disch := (first | assumption | with_reducible rfl | decide +kernel | exact Or.inl (by decide +kernel) | exact Or.inr (by decide +kernel) | omega | (simp only [List.length_cons, List.length_nil, List.length_append, List.length_map, List.length_replicate, List.length_range] <;> omega) | rfl)) only [evEqs, List.getElem?_cons_zero, List.getElem?_cons_succ, List.getElem?_nil, List.set_cons_zero, List.set_cons_succ, List.map_cons, List.map_nil, List.length_cons, List.length_nil, List.length_append, List.cons_append, List.nil_append, List.length_map, List.length_singleton, Nat.reduceBEq, Nat.reduceAdd, Nat.reduceSub, Nat.reduceMul, Nat.reduceEqDiff, Nat.reduceLeDiff, Nat.reduceLT, if_false, if_true, ite_true, ite_false, ↓reduceIte, Bool.not_true, Bool.not_false, Bool.false_eq_true, decide_true, decide_false, eq_self, and_true, true_and, and_self, Nat.zero_le, Nat.zero_add, Option.bind_some, Option.bind_none, Nat.lt_irrefl, Int.reduceToNat, Int.reducePow, Int.reduceNeg, Int.reduceMul, Int.reduceAdd, Int.reduceSub, Int.reduceLT, Int.reduceLE, Int.reduceEq, beq_self_eq_true, wipeE, MP.at0, MP.at1, MP.at2, MP.atLit]
    exact ⟨_, _, rfl⟩)
  exact ⟨c', x4', h1⟩
theorem m_take (c : Int) (salt : Nat) (hs : salt ≤ 1000) (many : Nat) (hm : 0 < many) : ∃ v : Nat, v < many ∧ sem_l_take [.int c, .int salt, .int many] [] = .ok (.v (.int v)) [] := by
  have nn : ∀ i : Int, ∃ v : Nat, v < many ∧ i % (many : Int) = (v : Int) := fun i => ⟨(i % (many : Int)).toNat, by
    have a := Int.emod_nonneg i (show (many : Int) ≠ 0 by omega)
    have b := Int.emod_lt_of_pos i (show (0 : Int) < many by omega)
    omega, by
    have a := Int.emod_nonneg i (show (many : Int) ≠ 0 by omega)
    omega⟩
  unfold sem_l_take
  refine run_ex (Q := fun r => ∃ v : Nat, v < many ∧ r = .ok (.v (.int v)) []) [.v (.int c), .v (.int salt), .v (.int many), .un, .un] rfl ?_
  unfold b_l_take
  obtain ⟨c', x4', h1⟩ := m_take_in salt c (.v (.int salt)) (.v (.int many)) .un .un
  by_cases h2 : c < 0
  · obtain ⟨v, hv, e⟩ := nn c'
    refine ⟨v, hv, ?_⟩
    simp (disch := (first | assumption | with_reducible rfl | decide +kernel | exact Or.inl (by decide +kernel) | exact Or.inr (by decide +kernel) | omega | (simp only [List.length_cons, List.length_nil, List.length_append, List.length_map, List.length_replicate, List.length_range] <;> omega) | rfl)) only [evEqs, List.getElem?_cons_zero, List.getElem?_cons_succ, List.getElem?_nil, List.set_cons_zero, List.set_cons_succ, List.map_cons, List.map_nil, List.length_cons, List.length_nil, List.length_append, List.cons_append, List.nil_append, List.length_map, List.length_singleton, Nat.reduceBEq, Nat.reduceAdd, Nat.reduceSub, Nat.reduceMul, Nat.reduceEqDiff, Nat.reduceLeDiff, Nat.reduceLT, if_false, if_true, ite_true, ite_false, ↓reduceIte, Bool.not_true, Bool.not_false, Bool.false_eq_true, decide_true, decide_false, eq_self, and_true, true_and, and_self, Nat.zero_le, Nat.zero_add, Option.bind_some, Option.bind_none, Nat.lt_irrefl, Int.reduceToNat, Int.reducePow, Int.reduceNeg, Int.reduceMul, Int.reduceAdd, Int.reduceSub, Int.reduceLT, Int.reduceLE, Int.reduceEq, beq_self_eq_true, wipeE, MP.at0, MP.at1, MP.at2, MP.atLit, h2, h1, e]
  · by_cases h3 : 1000000000000000000 ≤ c
    · obtain ⟨v, hv, e⟩ := nn c'
      refine ⟨v, hv, ?_⟩
      simp (disch := (first | assumption | with_reducible rfl | decide +kernel | exact Or.inl (by decide +kernel) | exact Or.inr (by decide +kernel) | omega | (simp only [List.length_cons, List.length_nil, List.length_append, List.length_map, List.length_replicate, List.length_range] <;> omega) | rfl)) only [evEqs, List.getElem?_cons_zero, List.getElem?_cons_succ, List.getElem?_nil, List.set_cons_zero, List.set_cons_succ, List.map_cons, List.map_nil, List.length_cons, List.length_nil, List.length_append, List.cons_append, List.nil_append, List.length_map, List.length_singleton, Nat.reduceBEq, Nat.reduceAdd, Nat.reduceSub, Nat.reduceMul, Nat.reduceEqDiff, Nat.reduceLeDiff, Nat.reduceLT, if_false, if_true, ite_true, ite_false, ↓reduceIte, Bool.not_true, Bool.not_false, Bool.false_eq_true, decide_true, decide_false, eq_self, and_true, true_and, and_self, Nat.zero_le, Nat.zero_add, Option.bind_some, Option.bind_none, Nat.lt_irrefl, Int.reduceToNat, Int.reducePow, Int.reduceNeg, Int.reduceMul, Int.reduceAdd, Int.reduceSub, Int.reduceLT, Int.reduceLE, Int.reduceEq, beq_self_eq_true, wipeE, MP.at0, MP.at1, MP.at2, MP.atLit, h2, h3, h1, e]
    · obtain ⟨y, hy⟩ : ∃ y : Int, y = (((c % 1000033 + 77 * salt + 5) * (salt * salt + 40009)) % 998857 * 30011 + salt) % 999983 / 3 := ⟨_, rfl⟩
      obtain ⟨v, hv, e⟩ := nn y
      refine ⟨v, hv, ?_⟩
      rw [hy] at e
      simp (disch := (first | assumption | with_reducible rfl | decide +kernel | exact Or.inl (by decide +kernel) | exact Or.inr (by decide +kernel) | omega | (simp only [List.length_cons, List.length_nil, List.length_append, List.length_map, List.length_replicate, List.length_range] <;> omega) | rfl)) only [evEqs, List.getElem?_cons_zero, List.getElem?_cons_succ, List.getElem?_nil, List.set_cons_zero, List.set_cons_succ, List.map_cons, List.map_nil, List.length_cons, List.length_nil, List.length_append, List.cons_append, List.nil_append, List.length_map, List.length_singleton, Nat.reduceBEq, Nat.reduceAdd, Nat.reduceSub, Nat.reduceMul, Nat.reduceEqDiff, Nat.reduceLeDiff, Nat.reduceLT, if_false, if_true, ite_true, ite_false, ↓reduceIte, Bool.not_true, Bool.not_false, Bool.false_eq_true, decide_true, decide_false, eq_self, and_true, true_and, and_self, Nat.zero_le, Nat.zero_add, Option.bind_some, Option.bind_none, Nat.lt_irrefl, Int.reduceToNat, Int.reducePow, Int.reduceNeg, Int.reduceMul, Int.reduceAdd, Int.reduceSub, Int.reduceLT, Int.reduceLE, Int.reduceEq, beq_self_eq_true, wipeE, MP.at0, MP.at1, MP.at2, MP.atLit, h2, h3, e]
/-! ## a frame: rows, columns, spots -/
def spD (e : Nat × Nat) : D := .tup [.int (e.1 : Nat), .int (e.2 : Nat)]
def spsD (es : List (Nat × Nat)) : List D := es.map spD
def frD (R C : Nat) (es : List (Nat × Nat)) : D := .tup [.int R, .int C, .tup (spsD es)]
theorem spsD_len (es : List (Nat × Nat)) : (spsD es).length = es.length := by unfold spsD; simp
theorem spsD_at (es : List (Nat × Nat)) (i : Nat) (h : i < es.length) : (spsD es)[i]? = some (spD (es.getD i (0, 0))) := by
  unfold spsD
  rw [List.getElem?_map, List.getElem?_eq_getElem h, List.getD_eq_getElem?_getD, List.getElem?_eq_getElem h]
  rfl
def Fits (R C : Nat) (es : List (Nat × Nat)) : Prop := ∀ e ∈ es, e.1 < R ∧ e.2 < C
theorem Fits.at {R C : Nat} {es : List (Nat × Nat)} (h : Fits R C es) (i : Nat) (hi : i < es.length) : (es.getD i (0, 0)).1 < R ∧ (es.getD i (0, 0)).2 < C := by
  have e : es.getD i (0, 0) = es[i] := by rw [List.getD_eq_getElem?_getD, List.getElem?_eq_getElem hi]; rfl
  rw [e]
  exact h _ (List.getElem_mem hi)
theorem spsD_erase (es : List (Nat × Nat)) (v : Nat) : (spsD es).eraseIdx v = spsD (es.eraseIdx v) := by
  unfold spsD
  induction es generalizing v with
  | nil => rfl
  | cons e es ih =>
    cases v with
    | zero => rfl
    | succ v => show spD e :: (es.map spD).eraseIdx v = spD e :: (es.eraseIdx v).map spD; rw [ih v]
theorem spsD_getD (es : List (Nat × Nat)) (v : Nat) (h : v < es.length) : (spsD es).getD v .none = spD (es.getD v (0, 0)) := by
  rw [List.getD_eq_getElem?_getD, spsD_at es v h]; rfl
theorem spsD_snoc (es : List (Nat × Nat)) (e : Nat × Nat) : spsD es ++ [spD e] = spsD (es ++ [e]) := by unfold spsD; simp
theorem erase_nd (l : List (Nat × Nat)) (h : l.Nodup) (v : Nat) (hv : v < l.length) : (l.eraseIdx v).Nodup ∧ l.getD v (0, 0) ∉ l.eraseIdx v ∧ l.getD v (0, 0) ∈ l := by
  have e : l.getD v (0, 0) = l[v] := by rw [List.getD_eq_getElem?_getD, List.getElem?_eq_getElem hv]; rfl
  refine ⟨h.sublist (List.eraseIdx_sublist ..), ?_, by rw [e]; exact List.getElem_mem hv⟩
  rw [e, List.eraseIdx_eq_take_drop_succ]
  have hs : l = l.take v ++ l[v] :: l.drop (v + 1) := by rw [List.getElem_cons_drop, List.take_append_drop]
  rw [hs] at h
  have h2 := List.nodup_append.mp h
  have h3 := List.nodup_cons.mp h2.2.1
  intro hm
  rcases List.mem_append.mp hm with hm | hm
  · exact h2.2.2 _ hm _ (List.mem_cons_self ..) rfl
  · exact h3.1 hm
theorem m_div (n C : Nat) (hC : 0 < C ∧ C ≤ 6) (env : List Slot) (h8 : 8 < env.length) (h4 : env[4]? = some (.v (.int C))) : compL (.nm 8) pYes (pD (pCall gDivmod (pCons (pVar 8) (pCons (pVar 4) (pNil))))) ⟨env, []⟩ (rng 0 (n : Int)) = .ok (spsD ((List.range n).map fun k => (k / C, k % C))) := by
  have e : spsD ((List.range n).map fun k => (k / C, k % C)) = (rng 0 (n : Int)).map fun d => match d with
    | .int i => .tup [.int (i / C), .int (i % C)]
    | d => d := by
    rw [rng_0]
    unfold spsD
    rw [List.map_map, List.map_map]
    refine List.map_congr_left fun k _ => ?_
    show D.tup [.int ((k / C : Nat) : Int), .int ((k % C : Nat) : Int)] = D.tup [.int ((k : Int) / C), .int ((k : Int) % C)]
    rw [Int.natCast_ediv, Int.natCast_emod]
  rw [e]
  refine comp_eq _ _ fun d hd => ?_
  rw [rng_0] at hd
  obtain ⟨k, _, rfl⟩ := List.mem_map.mp hd
  refine ⟨_, b_nm .., ?_⟩
  have e8 : (env.set 8 (.v (.int (k : Int))))[8]? = some (.v (.int k)) := by rw [List.getElem?_set_self h8]
  have e4 : (env.set 8 (.v (.int (k : Int))))[4]? = some (.v (.int C)) := by rw [List.getElem?_set_ne (by decide), h4]
  simp (disch := (first | assumption | with_reducible rfl | decide +kernel | exact Or.inl (by decide +kernel) | exact Or.inr (by decide +kernel) | omega | (simp only [List.length_cons, List.length_nil, List.length_append, List.length_map, List.length_replicate, List.length_range] <;> omega) | rfl)) only [evEqs, List.getElem?_cons_zero, List.getElem?_cons_succ, List.getElem?_nil, List.set_cons_zero, List.set_cons_succ, List.map_cons, List.map_nil, List.length_cons, List.length_nil, List.length_append, List.cons_append, List.nil_append, List.length_map, List.length_singleton, Nat.reduceBEq, Nat.reduceAdd, Nat.reduceSub, Nat.reduceMul, Nat.reduceEqDiff, Nat.reduceLeDiff, Nat.reduceLT, if_false, if_true, ite_true, ite_false, ↓reduceIte, Bool.not_true, Bool.not_false, Bool.false_eq_true, decide_true, decide_false, eq_self, and_true, true_and, and_self, Nat.zero_le, Nat.zero_add, Option.bind_some, Option.bind_none, Nat.lt_irrefl, Int.reduceToNat, Int.reducePow, Int.reduceNeg, Int.reduceMul, Int.reduceAdd, Int.reduceSub, Int.reduceLT, Int.reduceLE, Int.reduceEq, beq_self_eq_true, wipeE, MP.at0, MP.at1, MP.at2, MP.atLit, e8, e4]
theorem m_frame (ns : List Int) (most : Nat) (hm : 0 < most ∧ most ≤ 12) : ∃ (R C : Nat) (es : List (Nat × Nat)), 0 < R ∧ R ≤ 6 ∧ 0 < C ∧ C ≤ 6 ∧ (Fits R C es ∧ es.Nodup) ∧ 0 < es.length ∧ es.length ≤ most ∧
    sem_l_frame [.lk (zs ns), .int most] [] = .ok (.v (frD R C es)) [] := by
  unfold sem_l_frame
  refine run_ex (Q := fun r => ∃ (R C : Nat) (es : List (Nat × Nat)), 0 < R ∧ R ≤ 6 ∧ 0 < C ∧ C ≤ 6 ∧ (Fits R C es ∧ es.Nodup) ∧ 0 < es.length ∧ es.length ≤ most ∧ r = .ok (.v (frD R C es)) []) [.v (.lk (zs ns)), .v (.int most), .un, .un, .un, .un, .un, .un, .un] rfl ?_
  unfold b_l_frame
  have c0 := m_cell ns 0 (by decide)
  generalize ns.getD (0 : Int).toNat 0 = c at c0
  obtain ⟨r, hr, e1⟩ := m_take c 1 (by decide) 6 (by decide)
  obtain ⟨k, hk, e2⟩ := m_take c 2 (by decide) 6 (by decide)
  obtain ⟨f, hf, e3⟩ := m_take c 3 (by decide) most hm.1
  have e1 : sem_l_take [.int c, .int 1, .int 6] [] = .ok (.v (.int r)) [] := e1
  have e2 : sem_l_take [.int c, .int 2, .int 6] [] = .ok (.v (.int k)) [] := e2
  have e3 : sem_l_take [.int c, .int 3, .int most] [] = .ok (.v (.int f)) [] := e3
  have hR : (1 : Int) + r = ((r + 1 : Nat) : Int) := by omega
  have hC : (1 : Int) + k = ((k + 1 : Nat) : Int) := by omega
  have hRC : (((r + 1 : Nat) : Int)) * ((k + 1 : Nat) : Int) = (((r + 1) * (k + 1) : Nat) : Int) := by rw [Int.natCast_mul]
  have hR1 : 0 < r + 1 := by omega
  have hR2 : r + 1 ≤ 6 := by omega
  have hC1 : 0 < k + 1 := by omega
  have hC2 : k + 1 ≤ 6 := by omega
  generalize r + 1 = R at hR hRC hR1 hR2
  generalize k + 1 = C at hC hRC hC1 hC2
  have hRCb : R * C ≤ 36 := Nat.mul_le_mul hR2 hC2
  have hRCp : 0 < R * C := Nat.mul_pos hR1 hC1
  refine sq (P := fun fl => ∃ (R C : Nat) (es : List (Nat × Nat)), 0 < R ∧ R ≤ 6 ∧ 0 < C ∧ C ≤ 6 ∧ (Fits R C es ∧ es.Nodup) ∧ 0 < es.length ∧ es.length ≤ most ∧ fl.fr = .ok (.v (frD R C es)) []) (s' := ⟨[.v (.lk (zs ns)), .v (.int most), .v (.int c), .un, .un, .un, .un, .un, .un], []⟩) (by simp (disch := (first | assumption | with_reducible rfl | decide +kernel | exact Or.inl (by decide +kernel) | exact Or.inr (by decide +kernel) | omega | (simp only [List.length_cons, List.length_nil, List.length_append, List.length_map, List.length_replicate, List.length_range] <;> omega) | rfl)) only [evEqs, List.getElem?_cons_zero, List.getElem?_cons_succ, List.getElem?_nil, List.set_cons_zero, List.set_cons_succ, List.map_cons, List.map_nil, List.length_cons, List.length_nil, List.length_append, List.cons_append, List.nil_append, List.length_map, List.length_singleton, Nat.reduceBEq, Nat.reduceAdd, Nat.reduceSub, Nat.reduceMul, Nat.reduceEqDiff, Nat.reduceLeDiff, Nat.reduceLT, if_false, if_true, ite_true, ite_false, ↓reduceIte, Bool.not_true, Bool.not_false, Bool.false_eq_true, decide_true, decide_false, eq_self, and_true, true_and, and_self, Nat.zero_le, Nat.zero_add, Option.bind_some, Option.bind_none, Nat.lt_irrefl, Int.reduceToNat, Int.reducePow, Int.reduceNeg, Int.reduceMul, Int.reduceAdd, Int.reduceSub, Int.reduceLT, Int.reduceLE, Int.reduceEq, beq_self_eq_true, wipeE, MP.at0, MP.at1, MP.at2, MP.atLit, c0]) ?_
  refine sq (P := fun fl => ∃ (R C : Nat) (es : List (Nat × Nat)), 0 < R ∧ R ≤ 6 ∧ 0 < C ∧ C ≤ 6 ∧ (Fits R C es ∧ es.Nodup) ∧ 0 < es.length ∧ es.length ≤ most ∧ fl.fr = .ok (.v (frD R C es)) []) (s' := ⟨[.v (.lk (zs ns)), .v (.int most), .v (.int c), .v (.int R), .un, .un, .un, .un, .un], []⟩) (by simp (disch := (first | assumption | with_reducible rfl | decide +kernel | exact Or.inl (by decide +kernel) | exact Or.inr (by decide +kernel) | omega | (simp only [List.length_cons, List.length_nil, List.length_append, List.length_map, List.length_replicate, List.length_range] <;> omega) | rfl)) only [evEqs, List.getElem?_cons_zero, List.getElem?_cons_succ, List.getElem?_nil, List.set_cons_zero, List.set_cons_succ, List.map_cons, List.map_nil, List.length_cons, List.length_nil, List.length_append, List.cons_append, List.nil_append, List.length_map, List.length_singleton, Nat.reduceBEq, Nat.reduceAdd, Nat.reduceSub, Nat.reduceMul, Nat.reduceEqDiff, Nat.reduceLeDiff, Nat.reduceLT, if_false, if_true, ite_true, ite_false, ↓reduceIte, Bool.not_true, Bool.not_false, Bool.false_eq_true, decide_true, decide_false, eq_self, and_true, true_and, and_self, Nat.zero_le, Nat.zero_add, Option.bind_some, Option.bind_none, Nat.lt_irrefl, Int.reduceToNat, Int.reducePow, Int.reduceNeg, Int.reduceMul, Int.reduceAdd, Int.reduceSub, Int.reduceLT, Int.reduceLE, Int.reduceEq, beq_self_eq_true, wipeE, MP.at0, MP.at1, MP.at2, MP.atLit, e1, hR]) ?_
  refine sq (P := fun fl => ∃ (R C : Nat) (es : List (Nat × Nat)), 0 < R ∧ R ≤ 6 ∧ 0 < C ∧ C ≤ 6 ∧ (Fits R C es ∧ es.Nodup) ∧ 0 < es.length ∧ es.length ≤ most ∧ fl.fr = .ok (.v (frD R C es)) []) (s' := ⟨[.v (.lk (zs ns)), .v (.int most), .v (.int c), .v (.int R), .v (.int C), .un, .un, .un, .un], []⟩) (by simp (disch := (first | assumption | with_reducible rfl | decide +kernel | exact Or.inl (by decide +kernel) | exact Or.inr (by decide +kernel) | omega | (simp only [List.length_cons, List.length_nil, List.length_append, List.length_map, List.length_replicate, List.length_range] <;> omega) | rfl)) only [evEqs, List.getElem?_cons_zero, List.getElem?_cons_succ, List.getElem?_nil, List.set_cons_zero, List.set_cons_succ, List.map_cons, List.map_nil, List.length_cons, List.length_nil, List.length_append, List.cons_append, List.nil_append, List.length_map, List.length_singleton, Nat.reduceBEq, Nat.reduceAdd, Nat.reduceSub, Nat.reduceMul, Nat.reduceEqDiff, Nat.reduceLeDiff, Nat.reduceLT, if_false, if_true, ite_true, ite_false, ↓reduceIte, Bool.not_true, Bool.not_false, Bool.false_eq_true, decide_true, decide_false, eq_self, and_true, true_and, and_self, Nat.zero_le, Nat.zero_add, Option.bind_some, Option.bind_none, Nat.lt_irrefl, Int.reduceToNat, Int.reducePow, Int.reduceNeg, Int.reduceMul, Int.reduceAdd, Int.reduceSub, Int.reduceLT, Int.reduceLE, Int.reduceEq, beq_self_eq_true, wipeE, MP.at0, MP.at1, MP.at2, MP.atLit, e2, hC]) ?_
  have hd := m_div (R * C) C ⟨hC1, hC2⟩ [.v (.lk (zs ns)), .v (.int most), .v (.int c), .v (.int R), .v (.int C), .un, .un, .un, .un] (by simp) rfl
  have hrl := rngLenN (R * C)
  have hfit : Fits R C ((List.range (R * C)).map fun k => (k / C, k % C)) := by
    intro e he
    obtain ⟨j, hj, rfl⟩ := List.mem_map.mp he
    have hj := List.mem_range.mp hj
    exact ⟨Nat.div_lt_of_lt_mul (by rw [Nat.mul_comm]; exact hj), Nat.mod_lt _ hC1⟩
  have hll : ((List.range (R * C)).map fun k => (k / C, k % C)).length = R * C := by simp
  have hnd : ((List.range (R * C)).map fun k => (k / C, k % C)).Nodup := by
    refine List.pairwise_map.mpr (List.nodup_range.imp fun {a b} h e => h ?_)
    injection e with e1 e2
    rw [← Nat.div_add_mod a C, ← Nat.div_add_mod b C, e1, e2]
  generalize ((List.range (R * C)).map fun k => (k / C, k % C)) = left at hd hfit hll hnd
  refine sq (P := fun fl => ∃ (R C : Nat) (es : List (Nat × Nat)), 0 < R ∧ R ≤ 6 ∧ 0 < C ∧ C ≤ 6 ∧ (Fits R C es ∧ es.Nodup) ∧ 0 < es.length ∧ es.length ≤ most ∧ fl.fr = .ok (.v (frD R C es)) []) (s' := ⟨[.v (.lk (zs ns)), .v (.int most), .v (.int c), .v (.int R), .v (.int C), .own (.list (spsD left)), .un, .un, .un], []⟩) (by simp (disch := (first | assumption | with_reducible rfl | decide +kernel | exact Or.inl (by decide +kernel) | exact Or.inr (by decide +kernel) | omega | (simp only [List.length_cons, List.length_nil, List.length_append, List.length_map, List.length_replicate, List.length_range] <;> omega) | rfl)) only [evEqs, List.getElem?_cons_zero, List.getElem?_cons_succ, List.getElem?_nil, List.set_cons_zero, List.set_cons_succ, List.map_cons, List.map_nil, List.length_cons, List.length_nil, List.length_append, List.cons_append, List.nil_append, List.length_map, List.length_singleton, Nat.reduceBEq, Nat.reduceAdd, Nat.reduceSub, Nat.reduceMul, Nat.reduceEqDiff, Nat.reduceLeDiff, Nat.reduceLT, if_false, if_true, ite_true, ite_false, ↓reduceIte, Bool.not_true, Bool.not_false, Bool.false_eq_true, decide_true, decide_false, eq_self, and_true, true_and, and_self, Nat.zero_le, Nat.zero_add, Option.bind_some, Option.bind_none, Nat.lt_irrefl, Int.reduceToNat, Int.reducePow, Int.reduceNeg, Int.reduceMul, Int.reduceAdd, Int.reduceSub, Int.reduceLT, Int.reduceLE, Int.reduceEq, beq_self_eq_true, wipeE, MP.at0, MP.at1, MP.at2, MP.atLit, hRC, hd]) ?_
  refine sq (P := fun fl => ∃ (R C : Nat) (es : List (Nat × Nat)), 0 < R ∧ R ≤ 6 ∧ 0 < C ∧ C ≤ 6 ∧ (Fits R C es ∧ es.Nodup) ∧ 0 < es.length ∧ es.length ≤ most ∧ fl.fr = .ok (.v (frD R C es)) []) (s' := ⟨[.v (.lk (zs ns)), .v (.int most), .v (.int c), .v (.int R), .v (.int C), .own (.list (spsD left)), .own (.list []), .un, .un], []⟩) (by simp (disch := (first | assumption | with_reducible rfl | decide +kernel | exact Or.inl (by decide +kernel) | exact Or.inr (by decide +kernel) | omega | (simp only [List.length_cons, List.length_nil, List.length_append, List.length_map, List.length_replicate, List.length_range] <;> omega) | rfl)) only [evEqs, List.getElem?_cons_zero, List.getElem?_cons_succ, List.getElem?_nil, List.set_cons_zero, List.set_cons_succ, List.map_cons, List.map_nil, List.length_cons, List.length_nil, List.length_append, List.cons_append, List.nil_append, List.length_map, List.length_singleton, Nat.reduceBEq, Nat.reduceAdd, Nat.reduceSub, Nat.reduceMul, Nat.reduceEqDiff, Nat.reduceLeDiff, Nat.reduceLT, if_false, if_true, ite_true, ite_false, ↓reduceIte, Bool.not_true, Bool.not_false, Bool.false_eq_true, decide_true, decide_false, eq_self, and_true, true_and, and_self, Nat.zero_le, Nat.zero_add, Option.bind_some, Option.bind_none, Nat.lt_irrefl, Int.reduceToNat, Int.reducePow, Int.reduceNeg, Int.reduceMul, Int.reduceAdd, Int.reduceSub, Int.reduceLT, Int.reduceLE, Int.reduceEq, beq_self_eq_true, wipeE, MP.at0, MP.at1, MP.at2, MP.atLit]) ?_
  have hsl := spsD_len left
  obtain ⟨n, hn1, hn2⟩ : ∃ n : Nat, (if 1 + (f : Int) < ((spsD left).length : Int) then 1 + (f : Int) else ((spsD left).length : Int)) = (n : Int) ∧ n ≤ R * C ∧ 0 < n ∧ n ≤ f + 1 := by
    by_cases h : 1 + (f : Int) < ((spsD left).length : Int)
    · exact ⟨f + 1, by rw [if_pos h]; omega, by omega, by omega, by omega⟩
    · exact ⟨R * C, by rw [if_neg h]; omega, by omega, by omega, by omega⟩
  refine forP (P := fun fl => ∃ (R C : Nat) (es : List (Nat × Nat)), 0 < R ∧ R ≤ 6 ∧ 0 < C ∧ C ≤ 6 ∧ (Fits R C es ∧ es.Nodup) ∧ 0 < es.length ∧ es.length ≤ most ∧ fl.fr = .ok (.v (frD R C es)) []) (rng 0 (n : Int))
    (fun i s => ∃ (left es : List (Nat × Nat)) (x7 : Slot), Fits R C left ∧ Fits R C es ∧ left.Nodup ∧ es.Nodup ∧ (∀ e ∈ es, e ∉ left) ∧ left.length + i = R * C ∧ es.length = i ∧ s = ⟨[.v (.lk (zs ns)), .v (.int most), .v (.int c), .v (.int R), .v (.int C), .own (.list (spsD left)), .own (.list (spsD es)), x7, .un], []⟩)
    (by simp (disch := (first | assumption | with_reducible rfl | decide +kernel | exact Or.inl (by decide +kernel) | exact Or.inr (by decide +kernel) | omega | (simp only [List.length_cons, List.length_nil, List.length_append, List.length_map, List.length_replicate, List.length_range] <;> omega) | rfl)) only [evEqs, List.getElem?_cons_zero, List.getElem?_cons_succ, List.getElem?_nil, List.set_cons_zero, List.set_cons_succ, List.map_cons, List.map_nil, List.length_cons, List.length_nil, List.length_append, List.cons_append, List.nil_append, List.length_map, List.length_singleton, Nat.reduceBEq, Nat.reduceAdd, Nat.reduceSub, Nat.reduceMul, Nat.reduceEqDiff, Nat.reduceLeDiff, Nat.reduceLT, if_false, if_true, ite_true, ite_false, ↓reduceIte, Bool.not_true, Bool.not_false, Bool.false_eq_true, decide_true, decide_false, eq_self, and_true, true_and, and_self, Nat.zero_le, Nat.zero_add, Option.bind_some, Option.bind_none, Nat.lt_irrefl, Int.reduceToNat, Int.reducePow, Int.reduceNeg, Int.reduceMul, Int.reduceAdd, Int.reduceSub, Int.reduceLT, Int.reduceLE, Int.reduceEq, beq_self_eq_true, wipeE, MP.at0, MP.at1, MP.at2, MP.atLit, e3, hn1]) ⟨left, [], .un, hfit, (fun e he => by cases he), hnd, List.nodup_nil, (fun e he => by cases he), by omega, rfl, rfl⟩ ?_ ?_
  · rintro i d s hdd ⟨left, es, x7, hf1, hf2, hd1, hd2, hd3, hl1, hl2, rfl⟩
    obtain ⟨rfl, hi⟩ := rngAt hdd
    have hsl := spsD_len left
    have hel := spsD_len es
    have c1 := m_cell ns (1 + i) (by omega)
    generalize ns.getD (1 + (i : Int)).toNat 0 = c' at c1
    obtain ⟨v, hv, e4⟩ := m_take c' 4 (by decide) left.length (by omega)
    have e4 : sem_l_take [.int c', .int 4, .int left.length] [] = .ok (.v (.int v)) [] := e4
    have e5 := spsD_getD left v hv
    refine ⟨_, b_nm .., ?_⟩
    unfold lp_l_frame_1
    simp (disch := (first | assumption | with_reducible rfl | decide +kernel | exact Or.inl (by decide +kernel) | exact Or.inr (by decide +kernel) | omega | (simp only [List.length_cons, List.length_nil, List.length_append, List.length_map, List.length_replicate, List.length_range] <;> omega) | rfl)) only [evEqs, List.getElem?_cons_zero, List.getElem?_cons_succ, List.getElem?_nil, List.set_cons_zero, List.set_cons_succ, List.map_cons, List.map_nil, List.length_cons, List.length_nil, List.length_append, List.cons_append, List.nil_append, List.length_map, List.length_singleton, Nat.reduceBEq, Nat.reduceAdd, Nat.reduceSub, Nat.reduceMul, Nat.reduceEqDiff, Nat.reduceLeDiff, Nat.reduceLT, if_false, if_true, ite_true, ite_false, ↓reduceIte, Bool.not_true, Bool.not_false, Bool.false_eq_true, decide_true, decide_false, eq_self, and_true, true_and, and_self, Nat.zero_le, Nat.zero_add, Option.bind_some, Option.bind_none, Nat.lt_irrefl, Int.reduceToNat, Int.reducePow, Int.reduceNeg, Int.reduceMul, Int.reduceAdd, Int.reduceSub, Int.reduceLT, Int.reduceLE, Int.reduceEq, beq_self_eq_true, wipeE, MP.at0, MP.at1, MP.at2, MP.atLit, c1, hsl, e4, Int.toNat_natCast, e5, spsD_erase, spsD_snoc]
    obtain ⟨hx1, hx2, hx3⟩ := erase_nd left hd1 v hv
    refine ⟨left.eraseIdx v, es ++ [left.getD v (0, 0)], _, fun e he => hf1 e (List.mem_of_mem_eraseIdx he), fun e he => ?_, hx1, ?_, fun e he => ?_, ?_, by simp [hl2], rfl⟩
    · rcases List.mem_append.mp he with he | he
      · exact hf2 e he
      · rw [List.mem_singleton] at he
        subst he
        exact hf1.at v hv
    · refine List.nodup_append.mpr ⟨hd2, by simp, fun a ha b hb => ?_⟩
      rw [List.mem_singleton] at hb
      subst hb
      exact fun k => hd3 a ha (k ▸ hx3)
    · rcases List.mem_append.mp he with he | he
      · exact fun k => hd3 e he (List.mem_of_mem_eraseIdx k)
      · rw [List.mem_singleton] at he
        subst he
        exact hx2
    · rw [List.length_eraseIdx_of_lt hv]
      omega
  · rintro s ⟨left, es, x7, hf1, hf2, hd1, hd2, hd3, hl1, hl2, rfl⟩
    rw [rngLenN] at hl2
    simp (disch := (first | assumption | with_reducible rfl | decide +kernel | exact Or.inl (by decide +kernel) | exact Or.inr (by decide +kernel) | omega | (simp only [List.length_cons, List.length_nil, List.length_append, List.length_map, List.length_replicate, List.length_range] <;> omega) | rfl)) only [evEqs, List.getElem?_cons_zero, List.getElem?_cons_succ, List.getElem?_nil, List.set_cons_zero, List.set_cons_succ, List.map_cons, List.map_nil, List.length_cons, List.length_nil, List.length_append, List.cons_append, List.nil_append, List.length_map, List.length_singleton, Nat.reduceBEq, Nat.reduceAdd, Nat.reduceSub, Nat.reduceMul, Nat.reduceEqDiff, Nat.reduceLeDiff, Nat.reduceLT, if_false, if_true, ite_true, ite_false, ↓reduceIte, Bool.not_true, Bool.not_false, Bool.false_eq_true, decide_true, decide_false, eq_self, and_true, true_and, and_self, Nat.zero_le, Nat.zero_add, Option.bind_some, Option.bind_none, Nat.lt_irrefl, Int.reduceToNat, Int.reducePow, Int.reduceNeg, Int.reduceMul, Int.reduceAdd, Int.reduceSub, Int.reduceLT, Int.reduceLE, Int.reduceEq, beq_self_eq_true, wipeE, MP.at0, MP.at1, MP.at2, MP.atLit]
    exact ⟨R, C, es, hR1, hR2, hC1, hC2, ⟨hf2, hd2⟩, by omega, by omega, rfl⟩
theorem m_downs (c : Int) (n : Nat) (hn : n ≤ 12) : ∃ ks : List Nat, (∀ k ∈ ks, k < n) ∧ ks.length ≤ n ∧ sem_l_downs [.int c, .int n] [] = .ok (.v (.tup (nD ks))) [] := by
  unfold sem_l_downs
  refine run_ex (Q := fun r => ∃ ks : List Nat, (∀ k ∈ ks, k < n) ∧ ks.length ≤ n ∧ r = .ok (.v (.tup (nD ks))) []) [.v (.int c), .v (.int n), .un, .un] rfl ?_
  unfold b_l_downs
  refine sq (P := fun fl => ∃ ks : List Nat, (∀ k ∈ ks, k < n) ∧ ks.length ≤ n ∧ fl.fr = .ok (.v (.tup (nD ks))) []) (s' := ⟨[.v (.int c), .v (.int n), .own (.list []), .un], []⟩) (by simp (disch := (first | assumption | with_reducible rfl | decide +kernel | exact Or.inl (by decide +kernel) | exact Or.inr (by decide +kernel) | omega | (simp only [List.length_cons, List.length_nil, List.length_append, List.length_map, List.length_replicate, List.length_range] <;> omega) | rfl)) only [evEqs, List.getElem?_cons_zero, List.getElem?_cons_succ, List.getElem?_nil, List.set_cons_zero, List.set_cons_succ, List.map_cons, List.map_nil, List.length_cons, List.length_nil, List.length_append, List.cons_append, List.nil_append, List.length_map, List.length_singleton, Nat.reduceBEq, Nat.reduceAdd, Nat.reduceSub, Nat.reduceMul, Nat.reduceEqDiff, Nat.reduceLeDiff, Nat.reduceLT, if_false, if_true, ite_true, ite_false, ↓reduceIte, Bool.not_true, Bool.not_false, Bool.false_eq_true, decide_true, decide_false, eq_self, and_true, true_and, and_self, Nat.zero_le, Nat.zero_add, Option.bind_some, Option.bind_none, Nat.lt_irrefl, Int.reduceToNat, Int.reducePow, Int.reduceNeg, Int.reduceMul, Int.reduceAdd, Int.reduceSub, Int.reduceLT, Int.reduceLE, Int.reduceEq, beq_self_eq_true, wipeE, MP.at0, MP.at1, MP.at2, MP.atLit]) ?_
  refine forP (P := fun fl => ∃ ks : List Nat, (∀ k ∈ ks, k < n) ∧ ks.length ≤ n ∧ fl.fr = .ok (.v (.tup (nD ks))) []) (rng 0 (n : Int)) (fun i s => ∃ (ks : List Nat) (x3 : Slot), (∀ k ∈ ks, k < n) ∧ ks.length ≤ i ∧ s = ⟨[.v (.int c), .v (.int n), .own (.list (nD ks)), x3], []⟩) (by simp (disch := (first | assumption | with_reducible rfl | decide +kernel | exact Or.inl (by decide +kernel) | exact Or.inr (by decide +kernel) | omega | (simp only [List.length_cons, List.length_nil, List.length_append, List.length_map, List.length_replicate, List.length_range] <;> omega) | rfl)) only [evEqs, List.getElem?_cons_zero, List.getElem?_cons_succ, List.getElem?_nil, List.set_cons_zero, List.set_cons_succ, List.map_cons, List.map_nil, List.length_cons, List.length_nil, List.length_append, List.cons_append, List.nil_append, List.length_map, List.length_singleton, Nat.reduceBEq, Nat.reduceAdd, Nat.reduceSub, Nat.reduceMul, Nat.reduceEqDiff, Nat.reduceLeDiff, Nat.reduceLT, if_false, if_true, ite_true, ite_false, ↓reduceIte, Bool.not_true, Bool.not_false, Bool.false_eq_true, decide_true, decide_false, eq_self, and_true, true_and, and_self, Nat.zero_le, Nat.zero_add, Option.bind_some, Option.bind_none, Nat.lt_irrefl, Int.reduceToNat, Int.reducePow, Int.reduceNeg, Int.reduceMul, Int.reduceAdd, Int.reduceSub, Int.reduceLT, Int.reduceLE, Int.reduceEq, beq_self_eq_true, wipeE, MP.at0, MP.at1, MP.at2, MP.atLit]) ⟨[], _, (fun k hk => by cases hk), Nat.le_refl _, rfl⟩ ?_ ?_
  · rintro i d s hd ⟨ks, x3, h1, h2, rfl⟩
    obtain ⟨rfl, hi⟩ := rngAt hd
    have hkl := nD_len ks
    obtain ⟨v, hv, e⟩ := m_take c (10 + i) (by omega) 5 (by decide)
    have e : sem_l_take [.int c, .int (10 + (i : Int)), .int 5] [] = .ok (.v (.int v)) [] := e
    refine ⟨_, b_nm .., ?_⟩
    unfold lp_l_downs_1
    by_cases h3 : (v : Int) < 2
    · simp (disch := (first | assumption | with_reducible rfl | decide +kernel | exact Or.inl (by decide +kernel) | exact Or.inr (by decide +kernel) | omega | (simp only [List.length_cons, List.length_nil, List.length_append, List.length_map, List.length_replicate, List.length_range] <;> omega) | rfl)) only [evEqs, List.getElem?_cons_zero, List.getElem?_cons_succ, List.getElem?_nil, List.set_cons_zero, List.set_cons_succ, List.map_cons, List.map_nil, List.length_cons, List.length_nil, List.length_append, List.cons_append, List.nil_append, List.length_map, List.length_singleton, Nat.reduceBEq, Nat.reduceAdd, Nat.reduceSub, Nat.reduceMul, Nat.reduceEqDiff, Nat.reduceLeDiff, Nat.reduceLT, if_false, if_true, ite_true, ite_false, ↓reduceIte, Bool.not_true, Bool.not_false, Bool.false_eq_true, decide_true, decide_false, eq_self, and_true, true_and, and_self, Nat.zero_le, Nat.zero_add, Option.bind_some, Option.bind_none, Nat.lt_irrefl, Int.reduceToNat, Int.reducePow, Int.reduceNeg, Int.reduceMul, Int.reduceAdd, Int.reduceSub, Int.reduceLT, Int.reduceLE, Int.reduceEq, beq_self_eq_true, wipeE, MP.at0, MP.at1, MP.at2, MP.atLit, e, h3, nD_snoc]
      refine ⟨ks ++ [i], _, fun k hk => ?_, by simp; omega, rfl⟩
      rcases List.mem_append.mp hk with hk | hk
      · exact h1 k hk
      · rw [List.mem_singleton] at hk; omega
    · simp (disch := (first | assumption | with_reducible rfl | decide +kernel | exact Or.inl (by decide +kernel) | exact Or.inr (by decide +kernel) | omega | (simp only [List.length_cons, List.length_nil, List.length_append, List.length_map, List.length_replicate, List.length_range] <;> omega) | rfl)) only [evEqs, List.getElem?_cons_zero, List.getElem?_cons_succ, List.getElem?_nil, List.set_cons_zero, List.set_cons_succ, List.map_cons, List.map_nil, List.length_cons, List.length_nil, List.length_append, List.cons_append, List.nil_append, List.length_map, List.length_singleton, Nat.reduceBEq, Nat.reduceAdd, Nat.reduceSub, Nat.reduceMul, Nat.reduceEqDiff, Nat.reduceLeDiff, Nat.reduceLT, if_false, if_true, ite_true, ite_false, ↓reduceIte, Bool.not_true, Bool.not_false, Bool.false_eq_true, decide_true, decide_false, eq_self, and_true, true_and, and_self, Nat.zero_le, Nat.zero_add, Option.bind_some, Option.bind_none, Nat.lt_irrefl, Int.reduceToNat, Int.reducePow, Int.reduceNeg, Int.reduceMul, Int.reduceAdd, Int.reduceSub, Int.reduceLT, Int.reduceLE, Int.reduceEq, beq_self_eq_true, wipeE, MP.at0, MP.at1, MP.at2, MP.atLit, e, h3]
      exact ⟨ks, _, h1, by omega, rfl⟩
  · rintro s ⟨ks, x3, h1, h2, rfl⟩
    rw [rngLenN] at h2
    simp (disch := (first | assumption | with_reducible rfl | decide +kernel | exact Or.inl (by decide +kernel) | exact Or.inr (by decide +kernel) | omega | (simp only [List.length_cons, List.length_nil, List.length_append, List.length_map, List.length_replicate, List.length_range] <;> omega) | rfl)) only [evEqs, List.getElem?_cons_zero, List.getElem?_cons_succ, List.getElem?_nil, List.set_cons_zero, List.set_cons_succ, List.map_cons, List.map_nil, List.length_cons, List.length_nil, List.length_append, List.cons_append, List.nil_append, List.length_map, List.length_singleton, Nat.reduceBEq, Nat.reduceAdd, Nat.reduceSub, Nat.reduceMul, Nat.reduceEqDiff, Nat.reduceLeDiff, Nat.reduceLT, if_false, if_true, ite_true, ite_false, ↓reduceIte, Bool.not_true, Bool.not_false, Bool.false_eq_true, decide_true, decide_false, eq_self, and_true, true_and, and_self, Nat.zero_le, Nat.zero_add, Option.bind_some, Option.bind_none, Nat.lt_irrefl, Int.reduceToNat, Int.reducePow, Int.reduceNeg, Int.reduceMul, Int.reduceAdd, Int.reduceSub, Int.reduceLT, Int.reduceLE, Int.reduceEq, beq_self_eq_true, wipeE, MP.at0, MP.at1, MP.at2, MP.atLit]
    exact ⟨ks, h1, h2, rfl⟩

/-! ## marks: what hangs together has one mark -/
def merge (R : Nat) (ms : List Nat) (e : Nat × Nat) : List Nat := ms.map fun m => if m = ms.getD (R + e.2) 0 then ms.getD e.1 0 else m
def marksF (R C : Nat) (es : List (Nat × Nat)) : List Nat := es.foldl (merge R) (List.range (R + C))
theorem merge_len (R : Nat) (ms : List Nat) (e : Nat × Nat) : (merge R ms e).length = ms.length := by unfold merge; simp
theorem fold_len (R : Nat) : ∀ (es : List (Nat × Nat)) (ms : List Nat), (es.foldl (merge R) ms).length = ms.length
  | [], _ => rfl
  | e :: es, ms => by rw [List.foldl_cons, fold_len R es, merge_len]
theorem marksF_len (R C : Nat) (es : List (Nat × Nat)) : (marksF R C es).length = R + C := by unfold marksF; rw [fold_len]; simp
theorem merge_at (R : Nat) (ms : List Nat) (e : Nat × Nat) (i : Nat) (h : i < ms.length) : (merge R ms e).getD i 0 = if ms.getD i 0 = ms.getD (R + e.2) 0 then ms.getD e.1 0 else ms.getD i 0 := by
  unfold merge
  rw [List.getD_eq_getElem?_getD, List.getElem?_map, List.getElem?_eq_getElem h, List.getD_eq_getElem?_getD (l := ms) (i := i), List.getElem?_eq_getElem h]
  rfl
/-- marks that are equal stay equal -/
theorem fold_eq (R : Nat) : ∀ (es : List (Nat × Nat)) (ms : List Nat) (u v : Nat), u < ms.length → v < ms.length → ms.getD u 0 = ms.getD v 0 → (es.foldl (merge R) ms).getD u 0 = (es.foldl (merge R) ms).getD v 0
  | [], _, _, _, _, _, h => h
  | e :: es, ms, u, v, hu, hv, h => by
    rw [List.foldl_cons]
    refine fold_eq R es _ u v (by rw [merge_len]; exact hu) (by rw [merge_len]; exact hv) ?_
    rw [merge_at R ms e u hu, merge_at R ms e v hv, h]
/-- the ends of a key have one mark -/
theorem fold_key (R : Nat) : ∀ (es : List (Nat × Nat)) (ms : List Nat) (e : Nat × Nat), e ∈ es → (∀ e ∈ es, e.1 < ms.length ∧ R + e.2 < ms.length) → (es.foldl (merge R) ms).getD e.1 0 = (es.foldl (merge R) ms).getD (R + e.2) 0
  | a :: es, ms, e, he, hb => by
    rw [List.foldl_cons]
    rcases List.mem_cons.mp he with rfl | he
    · have h := hb e (List.mem_cons_self ..)
      refine fold_eq R es _ _ _ (by rw [merge_len]; exact h.1) (by rw [merge_len]; exact h.2) ?_
      rw [merge_at R ms e _ h.1, merge_at R ms e _ h.2, if_pos rfl]
      split <;> rfl
    · exact fold_key R es _ e he fun e h => by
        rw [merge_len]
        exact hb e (List.mem_cons_of_mem _ h)
/-- what is closed under the keys is closed under marks -/
theorem fold_closed (R : Nat) (S : Nat → Prop) : ∀ (es : List (Nat × Nat)) (ms : List Nat), (∀ e ∈ es, (S e.1 ↔ S (R + e.2)) ∧ e.1 < ms.length ∧ R + e.2 < ms.length) →
    (∀ u v, u < ms.length → v < ms.length → ms.getD u 0 = ms.getD v 0 → (S u ↔ S v)) → ∀ u v, u < ms.length → v < ms.length → (es.foldl (merge R) ms).getD u 0 = (es.foldl (merge R) ms).getD v 0 → (S u ↔ S v)
  | [], _, _, h => h
  | e :: es, ms, hc, h => by
    rw [List.foldl_cons]
    have he := hc e (List.mem_cons_self ..)
    have := fold_closed R S es (merge R ms e) (fun a ha => by rw [merge_len]; exact hc a (List.mem_cons_of_mem _ ha)) (fun u v hu hv huv => by
      rw [merge_len] at hu hv
      rw [merge_at R ms e u hu, merge_at R ms e v hv] at huv
      split at huv
      · rename_i h1
        split at huv
        · rename_i h2
          exact h u v hu hv (h1.trans h2.symm)
        · have a := h u _ hu he.2.2 h1
          have b := h e.1 v he.2.1 hv huv
          exact a.trans (he.1.symm.trans b)
      · split at huv
        · rename_i h2
          have a := h v _ hv he.2.2 h2
          have b := h u e.1 hu he.2.1 huv
          exact b.trans (he.1.trans a.symm)
        · exact h u v hu hv huv)
    intro u v hu hv
    exact this u v (by rw [merge_len]; exact hu) (by rw [merge_len]; exact hv)
/-! ## wires: gone along, key by key -/
def stepW (st : List Nat × List Nat) (e : Nat × Nat) : List Nat × List Nat :=
  let far := if e.1 ∈ st.1 ∧ e.2 ∉ st.2 then st.2 ++ [e.2] else st.2
  let near := if e.2 ∈ far ∧ e.1 ∉ st.1 then st.1 ++ [e.1] else st.1
  (near, far)
def passW (es : List (Nat × Nat)) (st : List Nat × List Nat) : List Nat × List Nat := es.foldl stepW st
def wiresF (es : List (Nat × Nat)) : Nat → List Nat × List Nat → List Nat × List Nat
  | 0, st => st
  | n + 1, st => passW es (wiresF es n st)
theorem mem_if {c : Prop} [Decidable c] {x : Nat} {a b : List Nat} (h1 : x ∈ a) (h2 : x ∈ b) : x ∈ (if c then a else b) := by
  by_cases h : c
  · rw [if_pos h]; exact h1
  · rw [if_neg h]; exact h2
theorem if_mem {c : Prop} [Decidable c] {x : Nat} {a b : List Nat} (h : x ∈ (if c then a else b)) : (c ∧ x ∈ a) ∨ (¬ c ∧ x ∈ b) := by
  by_cases hc : c
  · rw [if_pos hc] at h; exact .inl ⟨hc, h⟩
  · rw [if_neg hc] at h; exact .inr ⟨hc, h⟩
theorem stepW_sub (st : List Nat × List Nat) (e : Nat × Nat) : (∀ x ∈ st.1, x ∈ (stepW st e).1) ∧ ∀ x ∈ st.2, x ∈ (stepW st e).2 :=
  ⟨fun _ hx => mem_if (List.mem_append_left _ hx) hx, fun _ hx => mem_if (List.mem_append_left _ hx) hx⟩
theorem passW_sub : ∀ (es : List (Nat × Nat)) (st : List Nat × List Nat), (∀ x ∈ st.1, x ∈ (passW es st).1) ∧ ∀ x ∈ st.2, x ∈ (passW es st).2
  | [], _ => ⟨fun _ h => h, fun _ h => h⟩
  | e :: es, st => by
    have a := stepW_sub st e
    have b := passW_sub es (stepW st e)
    exact ⟨fun x hx => b.1 x (a.1 x hx), fun x hx => b.2 x (a.2 x hx)⟩
/-- behind a step the key's ends are both reached or both not -/
theorem stepW_key (st : List Nat × List Nat) (e : Nat × Nat) (h : e.1 ∈ st.1 ∨ e.2 ∈ st.2) : e.1 ∈ (stepW st e).1 ∧ e.2 ∈ (stepW st e).2 := by
  unfold stepW
  dsimp only
  by_cases h1 : e.1 ∈ st.1
  · by_cases h2 : e.2 ∈ st.2
    · simp [h1, h2]
    · simp [h1, h2]
  · have h2 := h.resolve_left h1
    simp [h1, h2]
theorem stepW_idle (st : List Nat × List Nat) (e : Nat × Nat) (h : e.1 ∈ st.1 ↔ e.2 ∈ st.2) : stepW st e = st := by
  unfold stepW
  dsimp only
  by_cases h1 : e.1 ∈ st.1
  · have h2 := h.mp h1
    simp [h1, h2]
  · have h2 : e.2 ∉ st.2 := fun x => h1 (h.mpr x)
    simp [h1, h2]
def Closed (es : List (Nat × Nat)) (st : List Nat × List Nat) : Prop := ∀ e ∈ es, (e.1 ∈ st.1 ↔ e.2 ∈ st.2)
theorem passW_idle : ∀ (es : List (Nat × Nat)) (st : List Nat × List Nat), Closed es st → passW es st = st
  | [], _, _ => rfl
  | e :: es, st, h => by
    show passW es (stepW st e) = st
    rw [stepW_idle st e (h e (List.mem_cons_self ..))]
    exact passW_idle es st fun a ha => h a (List.mem_cons_of_mem _ ha)
theorem passW_key : ∀ (es : List (Nat × Nat)) (st : List Nat × List Nat) (e : Nat × Nat), e ∈ es → (e.1 ∈ st.1 ∨ e.2 ∈ st.2) → e.1 ∈ (passW es st).1 ∧ e.2 ∈ (passW es st).2
  | a :: es, st, e, he, h => by
    show e.1 ∈ (passW es (stepW st a)).1 ∧ e.2 ∈ (passW es (stepW st a)).2
    rcases List.mem_cons.mp he with rfl | he
    · have k := stepW_key st e h
      have s := passW_sub es (stepW st e)
      exact ⟨s.1 _ k.1, s.2 _ k.2⟩
    · have s := stepW_sub st a
      exact passW_key es _ e he (h.elim (fun x => .inl (s.1 _ x)) fun x => .inr (s.2 _ x))
/-- how many keys are reached at both ends -/
def inside (es : List (Nat × Nat)) (st : List Nat × List Nat) : Nat := (es.filter fun e => decide (e.1 ∈ st.1) && decide (e.2 ∈ st.2)).length
theorem filter_le {α : Type} (p q : α → Bool) : ∀ l : List α, (∀ x ∈ l, p x = true → q x = true) → (l.filter p).length ≤ (l.filter q).length
  | [], _ => Nat.le_refl _
  | a :: l, h => by
    have ih := filter_le p q l fun x hx => h x (List.mem_cons_of_mem _ hx)
    rw [List.filter_cons, List.filter_cons]
    by_cases hp : p a = true
    · rw [if_pos hp, if_pos (h a (List.mem_cons_self ..) hp)]
      simp only [List.length_cons]
      omega
    · rw [if_neg hp]
      split
      · simp only [List.length_cons]; omega
      · exact ih
theorem filter_lt {α : Type} (p q : α → Bool) : ∀ l : List α, (∀ x ∈ l, p x = true → q x = true) → ∀ a ∈ l, p a = false → q a = true → (l.filter p).length < (l.filter q).length
  | b :: l, h, a, ha, h1, h2 => by
    have hl : ∀ x ∈ l, p x = true → q x = true := fun x hx => h x (List.mem_cons_of_mem _ hx)
    rw [List.filter_cons, List.filter_cons]
    rcases List.mem_cons.mp ha with rfl | ha
    · rw [if_neg (by rw [h1]; decide), if_pos h2]
      have := filter_le p q l hl
      simp only [List.length_cons]
      omega
    · have ih := filter_lt p q l hl a ha h1 h2
      by_cases hp : p b = true
      · rw [if_pos hp, if_pos (h b (List.mem_cons_self ..) hp)]
        simp only [List.length_cons]
        omega
      · rw [if_neg hp]
        split
        · simp only [List.length_cons]; omega
        · exact ih
theorem inside_grow (es : List (Nat × Nat)) (st : List Nat × List Nat) (h : ¬ Closed es st) : inside es st < inside es (passW es st) := by
  have s := passW_sub es st
  have : ∃ e ∈ es, ¬ (e.1 ∈ st.1 ↔ e.2 ∈ st.2) := by
    refine Classical.byContradiction fun k => h fun e he => Classical.byContradiction fun k2 => k ⟨e, he, k2⟩
  obtain ⟨e, he, hn⟩ := this
  refine filter_lt _ _ es (fun x _ hx => ?_) e he ?_ ?_
  · simp only [Bool.and_eq_true, decide_eq_true_eq] at hx ⊢
    exact ⟨s.1 _ hx.1, s.2 _ hx.2⟩
  · rw [← Bool.not_eq_true]
    simp only [Bool.and_eq_true, decide_eq_true_eq]
    exact fun k => hn ⟨fun _ => k.2, fun _ => k.1⟩
  · have k : e.1 ∈ st.1 ∨ e.2 ∈ st.2 := by
      refine Classical.byContradiction fun k => hn ⟨fun x => (k (.inl x)).elim, fun x => (k (.inr x)).elim⟩
    have := passW_key es st e he k
    simp only [Bool.and_eq_true, decide_eq_true_eq]
    exact this
theorem wires_grow (es : List (Nat × Nat)) (st : List Nat × List Nat) : ∀ n, Closed es (wiresF es n st) ∨ n ≤ inside es (wiresF es n st)
  | 0 => .inr (Nat.zero_le _)
  | n + 1 => by
    show Closed es (passW es (wiresF es n st)) ∨ n + 1 ≤ inside es (passW es (wiresF es n st))
    by_cases h : Closed es (wiresF es n st)
    · rw [passW_idle es _ h]; exact .inl h
    · have := inside_grow es _ h
      rcases wires_grow es st n with h2 | h2
      · exact (h h2).elim
      · exact .inr (by omega)
theorem inside_all (es : List (Nat × Nat)) (st : List Nat × List Nat) (h : es.length ≤ inside es st) : Closed es st := by
  unfold inside at h
  intro e he
  have hf := List.length_filter_eq_length_iff.mp (Nat.le_antisymm (List.length_filter_le ..) h) e he
  simp only [Bool.and_eq_true, decide_eq_true_eq] at hf
  exact ⟨fun _ => hf.2, fun _ => hf.1⟩
theorem wires_closed (es : List (Nat × Nat)) (st : List Nat × List Nat) : Closed es (wiresF es es.length st) := (wires_grow es st es.length).elim id (inside_all es _)
/-- what is reached has the row's mark -/
structure WOk (R C : Nat) (es : List (Nat × Nat)) (r : Nat) (st : List Nat × List Nat) : Prop where
  n : ∀ x ∈ st.1, x < R ∧ (marksF R C es).getD x 0 = (marksF R C es).getD r 0
  f : ∀ x ∈ st.2, x < C ∧ (marksF R C es).getD (R + x) 0 = (marksF R C es).getD r 0
  nd : st.2.Nodup
  r : r ∈ st.1
theorem mark_key {R C : Nat} {es : List (Nat × Nat)} (h : Fits R C es) {e : Nat × Nat} (he : e ∈ es) : (marksF R C es).getD e.1 0 = (marksF R C es).getD (R + e.2) 0 :=
  fold_key R es _ e he fun a ha => by
    have := h a ha
    rw [List.length_range]
    omega
theorem WOk.step {R C : Nat} {es : List (Nat × Nat)} {r : Nat} {st : List Nat × List Nat} (h : Fits R C es) (w : WOk R C es r st) (e : Nat × Nat) (he : e ∈ es) : WOk R C es r (stepW st e) := by
  have hk := mark_key h he
  have hb := h e he
  obtain ⟨far, hfar⟩ : ∃ far, far = (if e.1 ∈ st.1 ∧ e.2 ∉ st.2 then st.2 ++ [e.2] else st.2) := ⟨_, rfl⟩
  have hs : stepW st e = (if e.2 ∈ far ∧ e.1 ∉ st.1 then st.1 ++ [e.1] else st.1, far) := by rw [hfar]; rfl
  have w2 : ∀ x ∈ far, x < C ∧ (marksF R C es).getD (R + x) 0 = (marksF R C es).getD r 0 := by
    intro x hx
    rw [hfar] at hx
    rcases if_mem hx with ⟨hc, hx⟩ | ⟨_, hx⟩
    · rcases List.mem_append.mp hx with hx | hx
      · exact w.f x hx
      · rw [List.mem_singleton] at hx
        subst hx
        exact ⟨hb.2, hk.symm.trans (w.n _ hc.1).2⟩
    · exact w.f x hx
  have nd2 : far.Nodup := by
    rw [hfar]
    by_cases hc : e.1 ∈ st.1 ∧ e.2 ∉ st.2
    · rw [if_pos hc]
      refine List.nodup_append.mpr ⟨w.nd, by simp, fun a ha b hb' => ?_⟩
      rw [List.mem_singleton] at hb'
      subst hb'
      exact fun k => hc.2 (k ▸ ha)
    · rw [if_neg hc]; exact w.nd
  rw [hs]
  refine ⟨fun x hx => ?_, w2, nd2, mem_if (List.mem_append_left _ w.r) w.r⟩
  rcases if_mem hx with ⟨hc, hx⟩ | ⟨_, hx⟩
  · rcases List.mem_append.mp hx with hx | hx
    · exact w.n x hx
    · rw [List.mem_singleton] at hx
      subst hx
      exact ⟨hb.1, hk.trans (w2 _ hc.1).2⟩
  · exact w.n x hx
theorem WOk.pass {R C : Nat} {es : List (Nat × Nat)} {r : Nat} (h : Fits R C es) : ∀ (l : List (Nat × Nat)) (st : List Nat × List Nat), (∀ e ∈ l, e ∈ es) → WOk R C es r st → WOk R C es r (passW l st)
  | [], _, _, w => w
  | e :: l, st, hs, w => WOk.pass h l _ (fun a ha => hs a (List.mem_cons_of_mem _ ha)) (w.step h e (hs e (List.mem_cons_self ..)))
theorem WOk.wires {R C : Nat} {es : List (Nat × Nat)} {r : Nat} (h : Fits R C es) {st : List Nat × List Nat} (w : WOk R C es r st) : ∀ n, WOk R C es r (wiresF es n st)
  | 0 => w
  | n + 1 => WOk.pass h es _ (fun _ x => x) (WOk.wires h w n)
def wires (es : List (Nat × Nat)) (r : Nat) : List Nat × List Nat := wiresF es es.length ([r], [])
theorem wires_ok {R C : Nat} {es : List (Nat × Nat)} {r : Nat} (h : Fits R C es) (hr : r < R) : WOk R C es r (wires es r) :=
  WOk.wires h ⟨fun x hx => by rw [List.mem_singleton] at hx; subst hx; exact ⟨hr, rfl⟩, (fun x hx => by cases hx), List.nodup_nil, List.mem_singleton.mpr rfl⟩ _
/-- the columns reached are those with the row's mark -/
theorem far_iff {R C : Nat} {es : List (Nat × Nat)} {r c : Nat} (h : Fits R C es) (hr : r < R) (hc : c < C) : c ∈ (wires es r).2 ↔ (marksF R C es).getD (R + c) 0 = (marksF R C es).getD r 0 := by
  have w := wires_ok h hr
  have cl := wires_closed es ([r], [])
  refine ⟨fun x => (w.f c x).2, fun x => ?_⟩
  let S : Nat → Prop := fun u => if u < R then u ∈ (wires es r).1 else u - R ∈ (wires es r).2
  have hS1 : ∀ u, u < R → (S u ↔ u ∈ (wires es r).1) := fun u hu => by show (if u < R then _ else _) ↔ _; rw [if_pos hu]
  have hS2 : ∀ u, (S (R + u) ↔ u ∈ (wires es r).2) := fun u => by show (if R + u < R then _ else _) ↔ _; rw [if_neg (by omega), Nat.add_sub_cancel_left]
  have k := fold_closed R S es (List.range (R + C)) (fun e he => by
    have hb := h e he
    rw [List.length_range]
    exact ⟨(hS1 _ hb.1).trans ((cl e he).trans (hS2 _).symm), by omega, by omega⟩) (fun u v hu hv huv => by
    rw [List.length_range] at hu hv
    have e1 : ∀ u, u < R + C → (List.range (R + C)).getD u 0 = u := fun u hu => by rw [List.getD_eq_getElem?_getD, List.getElem?_range hu]; rfl
    rw [e1 u hu, e1 v hv] at huv
    rw [huv]) (R + c) r (by rw [List.length_range]; omega) (by rw [List.length_range]; omega) x
  exact (hS2 c).mp (k.mpr ((hS1 r hr).mpr w.r))
/-! ## bits -/
def bitsum (p : Nat → Bool) : Nat → Nat
  | 0 => 0
  | n + 1 => bitsum p n + if p n then 2 ^ n else 0
theorem bitsum_lt (p : Nat → Bool) : ∀ n, bitsum p n < 2 ^ n
  | 0 => by show 0 < 1; omega
  | n + 1 => by
    have := bitsum_lt p n
    show bitsum p n + (if p n then 2 ^ n else 0) < 2 ^ (n + 1)
    rw [Nat.pow_succ]
    split <;> omega
theorem bitsum_congr {p q : Nat → Bool} : ∀ n, (∀ i, i < n → p i = q i) → bitsum p n = bitsum q n
  | 0, _ => rfl
  | n + 1, h => by
    show bitsum p n + _ = bitsum q n + _
    rw [bitsum_congr n fun i hi => h i (by omega), h n (by omega)]
theorem bitsum_none (n : Nat) : bitsum (fun _ => false) n = 0 := by
  induction n with
  | zero => rfl
  | succ n ih => show bitsum _ n + _ = 0; rw [ih]; rfl
theorem bitsum_ins (p : Nat → Bool) (a : Nat) (hp : p a = false) : ∀ n, bitsum (fun i => p i || decide (i = a)) n = bitsum p n + if a < n then 2 ^ a else 0
  | 0 => by simp [bitsum]
  | n + 1 => by
    show bitsum _ n + (if (p n || decide (n = a)) then 2 ^ n else 0) = bitsum p n + (if p n then 2 ^ n else 0) + _
    rw [bitsum_ins p a hp n]
    by_cases h : n = a
    · subst h
      rw [hp]
      simp
    · have e : (a < n + 1) = (a < n) := by apply propext; omega
      simp only [h, decide_false, Bool.or_false, e]
      omega
theorem sum_bits (C : Nat) : ∀ l : List Nat, l.Nodup → (∀ x ∈ l, x < C) → (l.map fun c => 2 ^ c).sum = bitsum (fun i => decide (i ∈ l)) C
  | [], _, _ => by
    rw [show (fun i : Nat => decide (i ∈ ([] : List Nat))) = fun _ => false by funext i; simp, bitsum_none]
    rfl
  | a :: l, nd, h => by
    have nd' := List.nodup_cons.mp nd
    rw [List.map_cons, List.sum_cons, sum_bits C l nd'.2 fun x hx => h x (List.mem_cons_of_mem _ hx)]
    have e : (fun i : Nat => decide (i ∈ a :: l)) = fun i => decide (i ∈ l) || decide (i = a) := by
      funext i
      simp only [List.mem_cons]
      by_cases h1 : i = a <;> by_cases h2 : i ∈ l <;> simp [h1, h2]
    rw [e, bitsum_ins _ a (by simp [nd'.1]), if_pos (h a (List.mem_cons_self ..))]
    omega

/-! ## the walks over a frame -/
theorem rng_nD (n : Nat) : rng 0 (n : Int) = nD (List.range n) := by rw [rng_0]; rfl
theorem nD_take (ms : List Nat) (n : Nat) : (nD ms).take n = nD (ms.take n) := by unfold nD; rw [List.map_take]
theorem nD_drop (ms : List Nat) (n : Nat) : (nD ms).drop n = nD (ms.drop n) := by unfold nD; rw [List.map_drop]
def edgesOf (es : List (Nat × Nat)) (ks : List Nat) : List (Nat × Nat) := ks.map fun k => es.getD k (0, 0)
theorem edges_len (es : List (Nat × Nat)) (ks : List Nat) : (edgesOf es ks).length = ks.length := by unfold edgesOf; simp
theorem edges_fit {R C : Nat} {es : List (Nat × Nat)} {ks : List Nat} (h : Fits R C es) (hk : ∀ k ∈ ks, k < es.length) : Fits R C (edgesOf es ks) := by
  intro e he
  unfold edgesOf at he
  obtain ⟨k, hk2, rfl⟩ := List.mem_map.mp he
  exact h.at k (hk k hk2)
theorem edges_take (es : List (Nat × Nat)) (ks : List Nat) (i k : Nat) (h : ks[i]? = some k) : (edgesOf es ks).take (i + 1) = (edgesOf es ks).take i ++ [es.getD k (0, 0)] := by
  rw [List.take_succ]
  unfold edgesOf
  rw [List.getElem?_map, h]
  rfl
theorem m_mergeC (ms : List Nat) (one other : Nat) (env : List Slot) (h9 : 9 < env.length) (h7 : env[7]? = some (.v (.int one))) (h8 : env[8]? = some (.v (.int other))) :
    compL (.nm 9) pYes (pD (pIf (pB (p2 gEq (pVar 9) (pVar 8))) (pVar 7) (pVar 9))) ⟨env, []⟩ (nD ms) = .ok (nD (ms.map fun m => if m = other then one else m)) := by
  have e : nD (ms.map fun m => if m = other then one else m) = (nD ms).map fun d => match d with
    | .int i => if i = other then .int one else .int i
    | d => d := by
    unfold nD
    rw [List.map_map, List.map_map]
    refine List.map_congr_left fun m _ => ?_
    show D.int (((if m = other then one else m : Nat)) : Int) = if (m : Int) = other then .int one else .int m
    by_cases h : m = other
    · rw [if_pos h, if_pos (by omega)]
    · rw [if_neg h, if_neg (by omega)]
  rw [e]
  refine comp_eq _ _ fun d hd => ?_
  unfold nD at hd
  obtain ⟨m, _, rfl⟩ := List.mem_map.mp hd
  refine ⟨_, b_nm .., ?_⟩
  have e9 : (env.set 9 (.v (.int (m : Int))))[9]? = some (.v (.int m)) := by rw [List.getElem?_set_self h9]
  have e7 : (env.set 9 (.v (.int (m : Int))))[7]? = some (.v (.int one)) := by rw [List.getElem?_set_ne (by decide), h7]
  have e8 : (env.set 9 (.v (.int (m : Int))))[8]? = some (.v (.int other)) := by rw [List.getElem?_set_ne (by decide), h8]
  by_cases h : (m : Int) = other
  · have h0 : m = other := by omega
    subst h0
    simp (disch := (first | assumption | with_reducible rfl | decide +kernel | exact Or.inl (by decide +kernel) | exact Or.inr (by decide +kernel) | omega | (simp only [List.length_cons, List.length_nil, List.length_append, List.length_map, List.length_replicate, List.length_range] <;> omega) | rfl)) only [evEqs, List.getElem?_cons_zero, List.getElem?_cons_succ, List.getElem?_nil, List.set_cons_zero, List.set_cons_succ, List.map_cons, List.map_nil, List.length_cons, List.length_nil, List.length_append, List.cons_append, List.nil_append, List.length_map, List.length_singleton, Nat.reduceBEq, Nat.reduceAdd, Nat.reduceSub, Nat.reduceMul, Nat.reduceEqDiff, Nat.reduceLeDiff, Nat.reduceLT, if_false, if_true, ite_true, ite_false, ↓reduceIte, Bool.not_true, Bool.not_false, Bool.false_eq_true, decide_true, decide_false, eq_self, and_true, true_and, and_self, Nat.zero_le, Nat.zero_add, Option.bind_some, Option.bind_none, Nat.lt_irrefl, Int.reduceToNat, Int.reducePow, Int.reduceNeg, Int.reduceMul, Int.reduceAdd, Int.reduceSub, Int.reduceLT, Int.reduceLE, Int.reduceEq, beq_self_eq_true, wipeE, MP.at0, MP.at1, MP.at2, MP.atLit, e9, e7, e8]
  · simp (disch := (first | assumption | with_reducible rfl | decide +kernel | exact Or.inl (by decide +kernel) | exact Or.inr (by decide +kernel) | omega | (simp only [List.length_cons, List.length_nil, List.length_append, List.length_map, List.length_replicate, List.length_range] <;> omega) | rfl)) only [evEqs, List.getElem?_cons_zero, List.getElem?_cons_succ, List.getElem?_nil, List.set_cons_zero, List.set_cons_succ, List.map_cons, List.map_nil, List.length_cons, List.length_nil, List.length_append, List.cons_append, List.nil_append, List.length_map, List.length_singleton, Nat.reduceBEq, Nat.reduceAdd, Nat.reduceSub, Nat.reduceMul, Nat.reduceEqDiff, Nat.reduceLeDiff, Nat.reduceLT, if_false, if_true, ite_true, ite_false, ↓reduceIte, Bool.not_true, Bool.not_false, Bool.false_eq_true, decide_true, decide_false, eq_self, and_true, true_and, and_self, Nat.zero_le, Nat.zero_add, Option.bind_some, Option.bind_none, Nat.lt_irrefl, Int.reduceToNat, Int.reducePow, Int.reduceNeg, Int.reduceMul, Int.reduceAdd, Int.reduceSub, Int.reduceLT, Int.reduceLE, Int.reduceEq, beq_self_eq_true, wipeE, MP.at0, MP.at1, MP.at2, MP.atLit, e9, e7, e8, h]
theorem m_hung (R C : Nat) (hR : R ≤ 6) (hC : C ≤ 6) (es : List (Nat × Nat)) (hf : Fits R C es) (ks : List Nat) (hk : ∀ k ∈ ks, k < es.length) :
    sem_hung [frD R C es, .tup (nD ks)] [] = .ok (.v (.tup [.list (nD ((marksF R C (edgesOf es ks)).take R)), .list (nD ((marksF R C (edgesOf es ks)).drop R))])) [] := by
  unfold sem_hung
  refine run_ex (Q := fun r => r = .ok (.v (.tup [.list (nD ((marksF R C (edgesOf es ks)).take R)), .list (nD ((marksF R C (edgesOf es ks)).drop R))])) []) [.v (frD R C es), .v (.tup (nD ks)), .un, .un, .un, .un, .un, .un, .un, .un] rfl ?_
  unfold b_hung
  have hRC : (R : Int) + C = ((R + C : Nat) : Int) := by omega
  have hrl := rngLenN (R + C)
  have hfit := edges_fit hf hk
  have hnl : (nD (List.range (R + C))).length = R + C := by rw [nD_len]; simp
  refine sqR (s' := ⟨[.v (frD R C es), .v (.tup (nD ks)), .un, .un, .v (.int R), .v (.int C), .v (.tup (spsD es)), .un, .un, .un], []⟩) (by simp (disch := (first | assumption | with_reducible rfl | decide +kernel | exact Or.inl (by decide +kernel) | exact Or.inr (by decide +kernel) | omega | (simp only [List.length_cons, List.length_nil, List.length_append, List.length_map, List.length_replicate, List.length_range] <;> omega) | rfl)) only [evEqs, List.getElem?_cons_zero, List.getElem?_cons_succ, List.getElem?_nil, List.set_cons_zero, List.set_cons_succ, List.map_cons, List.map_nil, List.length_cons, List.length_nil, List.length_append, List.cons_append, List.nil_append, List.length_map, List.length_singleton, Nat.reduceBEq, Nat.reduceAdd, Nat.reduceSub, Nat.reduceMul, Nat.reduceEqDiff, Nat.reduceLeDiff, Nat.reduceLT, if_false, if_true, ite_true, ite_false, ↓reduceIte, Bool.not_true, Bool.not_false, Bool.false_eq_true, decide_true, decide_false, eq_self, and_true, true_and, and_self, Nat.zero_le, Nat.zero_add, Option.bind_some, Option.bind_none, Nat.lt_irrefl, Int.reduceToNat, Int.reducePow, Int.reduceNeg, Int.reduceMul, Int.reduceAdd, Int.reduceSub, Int.reduceLT, Int.reduceLE, Int.reduceEq, beq_self_eq_true, wipeE, MP.at0, MP.at1, MP.at2, MP.atLit, frD]) ?_
  refine sqR (s' := ⟨[.v (frD R C es), .v (.tup (nD ks)), .v (.list (nD (List.range (R + C)))), .un, .v (.int R), .v (.int C), .v (.tup (spsD es)), .un, .un, .un], []⟩) (by simp (disch := (first | assumption | with_reducible rfl | decide +kernel | exact Or.inl (by decide +kernel) | exact Or.inr (by decide +kernel) | omega | (simp only [List.length_cons, List.length_nil, List.length_append, List.length_map, List.length_replicate, List.length_range] <;> omega) | rfl)) only [evEqs, List.getElem?_cons_zero, List.getElem?_cons_succ, List.getElem?_nil, List.set_cons_zero, List.set_cons_succ, List.map_cons, List.map_nil, List.length_cons, List.length_nil, List.length_append, List.cons_append, List.nil_append, List.length_map, List.length_singleton, Nat.reduceBEq, Nat.reduceAdd, Nat.reduceSub, Nat.reduceMul, Nat.reduceEqDiff, Nat.reduceLeDiff, Nat.reduceLT, if_false, if_true, ite_true, ite_false, ↓reduceIte, Bool.not_true, Bool.not_false, Bool.false_eq_true, decide_true, decide_false, eq_self, and_true, true_and, and_self, Nat.zero_le, Nat.zero_add, Option.bind_some, Option.bind_none, Nat.lt_irrefl, Int.reduceToNat, Int.reducePow, Int.reduceNeg, Int.reduceMul, Int.reduceAdd, Int.reduceSub, Int.reduceLT, Int.reduceLE, Int.reduceEq, beq_self_eq_true, wipeE, MP.at0, MP.at1, MP.at2, MP.atLit, hRC, rng_nD]) ?_
  refine forR (nD ks) (fun i s => ∃ x3 x7 x8, s = ⟨[.v (frD R C es), .v (.tup (nD ks)), .v (.list (nD (((edgesOf es ks).take i).foldl (merge R) (List.range (R + C))))), x3, .v (.int R), .v (.int C), .v (.tup (spsD es)), x7, x8, .un], []⟩) (by simp (disch := (first | assumption | with_reducible rfl | decide +kernel | exact Or.inl (by decide +kernel) | exact Or.inr (by decide +kernel) | omega | (simp only [List.length_cons, List.length_nil, List.length_append, List.length_map, List.length_replicate, List.length_range] <;> omega) | rfl)) only [evEqs, List.getElem?_cons_zero, List.getElem?_cons_succ, List.getElem?_nil, List.set_cons_zero, List.set_cons_succ, List.map_cons, List.map_nil, List.length_cons, List.length_nil, List.length_append, List.cons_append, List.nil_append, List.length_map, List.length_singleton, Nat.reduceBEq, Nat.reduceAdd, Nat.reduceSub, Nat.reduceMul, Nat.reduceEqDiff, Nat.reduceLeDiff, Nat.reduceLT, if_false, if_true, ite_true, ite_false, ↓reduceIte, Bool.not_true, Bool.not_false, Bool.false_eq_true, decide_true, decide_false, eq_self, and_true, true_and, and_self, Nat.zero_le, Nat.zero_add, Option.bind_some, Option.bind_none, Nat.lt_irrefl, Int.reduceToNat, Int.reducePow, Int.reduceNeg, Int.reduceMul, Int.reduceAdd, Int.reduceSub, Int.reduceLT, Int.reduceLE, Int.reduceEq, beq_self_eq_true, wipeE, MP.at0, MP.at1, MP.at2, MP.atLit]) ⟨_, _, _, rfl⟩ ?_ ?_
  · rintro i d s hd ⟨x3, x7, x8, rfl⟩
    obtain ⟨k, hk2, rfl⟩ := nD_get _ _ _ hd
    have hkl := hk k (List.mem_of_getElem? hk2)
    have hsp := spsD_at es k hkl
    have hb := hf.at k hkl
    have hte := edges_take es ks i k hk2
    rw [hte, List.foldl_append]
    generalize es.getD k (0, 0) = e at hsp hb
    have hml : (((edgesOf es ks).take i).foldl (merge R) (List.range (R + C))).length = R + C := by rw [fold_len]; simp
    generalize ((edgesOf es ks).take i).foldl (merge R) (List.range (R + C)) = ms at hml
    have hl := nD_len ms
    have e1 := nD_at ms e.1 (by omega)
    have e2 := nD_at ms (R + e.2) (by omega)
    have hRe : (R : Int) + (e.2 : Nat) = ((R + e.2 : Nat) : Int) := by omega
    have hc := m_mergeC ms (ms.getD e.1 0) (ms.getD (R + e.2) 0) [.v (frD R C es), .v (.tup (nD ks)), .v (.list (nD ms)), .v (.int k), .v (.int R), .v (.int C), .v (.tup (spsD es)), .v (.int (ms.getD e.1 0 : Nat)), .v (.int (ms.getD (R + e.2) 0 : Nat)), .un] (by simp) rfl rfl
    refine ⟨_, b_nm .., ?_⟩
    unfold lp_hung_1
    unfold spD at hsp
    simp (disch := (first | assumption | with_reducible rfl | decide +kernel | exact Or.inl (by decide +kernel) | exact Or.inr (by decide +kernel) | omega | (simp only [List.length_cons, List.length_nil, List.length_append, List.length_map, List.length_replicate, List.length_range] <;> omega) | rfl)) only [evEqs, List.getElem?_cons_zero, List.getElem?_cons_succ, List.getElem?_nil, List.set_cons_zero, List.set_cons_succ, List.map_cons, List.map_nil, List.length_cons, List.length_nil, List.length_append, List.cons_append, List.nil_append, List.length_map, List.length_singleton, Nat.reduceBEq, Nat.reduceAdd, Nat.reduceSub, Nat.reduceMul, Nat.reduceEqDiff, Nat.reduceLeDiff, Nat.reduceLT, if_false, if_true, ite_true, ite_false, ↓reduceIte, Bool.not_true, Bool.not_false, Bool.false_eq_true, decide_true, decide_false, eq_self, and_true, true_and, and_self, Nat.zero_le, Nat.zero_add, Option.bind_some, Option.bind_none, Nat.lt_irrefl, Int.reduceToNat, Int.reducePow, Int.reduceNeg, Int.reduceMul, Int.reduceAdd, Int.reduceSub, Int.reduceLT, Int.reduceLE, Int.reduceEq, beq_self_eq_true, wipeE, MP.at0, MP.at1, MP.at2, MP.atLit, atN, hsp, e1, hRe, e2, hc]
    exact ⟨_, _, _, rfl⟩
  · rintro s ⟨x3, x7, x8, rfl⟩
    rw [nD_len, List.take_of_length_le (by rw [edges_len]; exact Nat.le_refl _)]
    have hml := marksF_len R C (edgesOf es ks)
    show (sRet _ _).fr = _
    have e0 : ((edgesOf es ks).foldl (merge R) (List.range (R + C))) = marksF R C (edgesOf es ks) := rfl
    rw [e0]
    generalize marksF R C (edgesOf es ks) = ms at hml
    have c1 : cutD (nD ms) none (some (R : Int)) = nD (ms.take R) := by rw [cut_hi _ (by omega), Int.toNat_natCast, nD_take]
    have c2 : cutD (nD ms) (some (R : Int)) none = nD (ms.drop R) := by rw [cut_lo _ (by omega), Int.toNat_natCast, nD_drop]
    simp (disch := (first | assumption | with_reducible rfl | decide +kernel | exact Or.inl (by decide +kernel) | exact Or.inr (by decide +kernel) | omega | (simp only [List.length_cons, List.length_nil, List.length_append, List.length_map, List.length_replicate, List.length_range] <;> omega) | rfl)) only [evEqs, List.getElem?_cons_zero, List.getElem?_cons_succ, List.getElem?_nil, List.set_cons_zero, List.set_cons_succ, List.map_cons, List.map_nil, List.length_cons, List.length_nil, List.length_append, List.cons_append, List.nil_append, List.length_map, List.length_singleton, Nat.reduceBEq, Nat.reduceAdd, Nat.reduceSub, Nat.reduceMul, Nat.reduceEqDiff, Nat.reduceLeDiff, Nat.reduceLT, if_false, if_true, ite_true, ite_false, ↓reduceIte, Bool.not_true, Bool.not_false, Bool.false_eq_true, decide_true, decide_false, eq_self, and_true, true_and, and_self, Nat.zero_le, Nat.zero_add, Option.bind_some, Option.bind_none, Nat.lt_irrefl, Int.reduceToNat, Int.reducePow, Int.reduceNeg, Int.reduceMul, Int.reduceAdd, Int.reduceSub, Int.reduceLT, Int.reduceLE, Int.reduceEq, beq_self_eq_true, wipeE, MP.at0, MP.at1, MP.at2, MP.atLit, c1, c2]
def sameB (R C : Nat) (es : List (Nat × Nat)) (r c : Nat) : Bool := decide ((marksF R C es).getD (R + c) 0 = (marksF R C es).getD r 0)
theorem bit_or (a j : Nat) (h : a < 2 ^ j) : Builtin.bitOr (a : Int) (1 * 2 ^ j) = ((a + 2 ^ j : Nat) : Int) := by
  have e : (1 : Int) * 2 ^ j = ((2 ^ j : Nat) : Int) := by rw [Int.one_mul]; exact (Int.natCast_pow 2 j).symm
  rw [e, L2.bitOr_nn (by omega) (by omega), Int.toNat_natCast, Int.toNat_natCast]
  have := Nat.two_pow_add_eq_or_of_lt h 1
  rw [Nat.mul_one] at this
  rw [Nat.or_comm, ← this, Nat.add_comm]
theorem m_reads_in (R C : Nat) (hC : C ≤ 6) (es : List (Nat × Nat)) (r : Nat) (x0 x1 x2 x4 x7 : Slot) (cols : List Nat) (hcl : cols.length = C) (hcc : ∀ c, c < C → cols.getD c 0 = (marksF R C es).getD (R + c) 0) :
    ∃ x7', loopL (.nm 7) lp_reads_1 (rng 0 (C : Int)) ⟨[x0, x1, x2, .v (.int ((marksF R C es).getD r 0 : Nat)), x4, .v (.list (nD cols)), .v (.int 0), x7], []⟩ = .nx ⟨[x0, x1, x2, .v (.int ((marksF R C es).getD r 0 : Nat)), x4, .v (.list (nD cols)), .v (.int (bitsum (sameB R C es r) C : Nat)), x7'], []⟩ := by
  obtain ⟨s', h1, x7', rfl⟩ := loopE (t := .nm 7) (g := lp_reads_1) (s := ⟨[x0, x1, x2, .v (.int ((marksF R C es).getD r 0 : Nat)), x4, .v (.list (nD cols)), .v (.int 0), x7], []⟩) (rng 0 (C : Int))
    (fun i s => ∃ x7', s = ⟨[x0, x1, x2, .v (.int ((marksF R C es).getD r 0 : Nat)), x4, .v (.list (nD cols)), .v (.int (bitsum (sameB R C es r) i : Nat)), x7'], []⟩) ⟨_, rfl⟩ (by
    rintro c d s hd ⟨x7', rfl⟩
    obtain ⟨rfl, hc⟩ := rngAt hd
    have e1 := nD_at cols c (by omega)
    rw [hcc c (by omega)] at e1
    have hlt := bitsum_lt (sameB R C es r) c
    have ho := bit_or (bitsum (sameB R C es r) c) c hlt
    refine ⟨_, b_nm .., ?_⟩
    unfold lp_reads_1
    by_cases h : (marksF R C es).getD (R + c) 0 = (marksF R C es).getD r 0
    · have hs : bitsum (sameB R C es r) (c + 1) = bitsum (sameB R C es r) c + 2 ^ c := by
        show _ + (if sameB R C es r c then _ else _) = _
        rw [show sameB R C es r c = true from decide_eq_true h]
        rfl
      have h' : (((marksF R C es).getD (R + c) 0 : Nat) : Int) = ((marksF R C es).getD r 0 : Nat) := by rw [h]
      rw [hs]
      generalize bitsum (sameB R C es r) c = b at hlt ho
      simp (disch := (first | assumption | with_reducible rfl | decide +kernel | exact Or.inl (by decide +kernel) | exact Or.inr (by decide +kernel) | omega | (simp only [List.length_cons, List.length_nil, List.length_append, List.length_map, List.length_replicate, List.length_range] <;> omega) | rfl)) only [evEqs, List.getElem?_cons_zero, List.getElem?_cons_succ, List.getElem?_nil, List.set_cons_zero, List.set_cons_succ, List.map_cons, List.map_nil, List.length_cons, List.length_nil, List.length_append, List.cons_append, List.nil_append, List.length_map, List.length_singleton, Nat.reduceBEq, Nat.reduceAdd, Nat.reduceSub, Nat.reduceMul, Nat.reduceEqDiff, Nat.reduceLeDiff, Nat.reduceLT, if_false, if_true, ite_true, ite_false, ↓reduceIte, Bool.not_true, Bool.not_false, Bool.false_eq_true, decide_true, decide_false, eq_self, and_true, true_and, and_self, Nat.zero_le, Nat.zero_add, Option.bind_some, Option.bind_none, Nat.lt_irrefl, Int.reduceToNat, Int.reducePow, Int.reduceNeg, Int.reduceMul, Int.reduceAdd, Int.reduceSub, Int.reduceLT, Int.reduceLE, Int.reduceEq, beq_self_eq_true, wipeE, MP.at0, MP.at1, MP.at2, MP.atLit, atN, e1, h', Int.toNat_natCast, ho]
      exact ⟨_, rfl⟩
    · have hs : bitsum (sameB R C es r) (c + 1) = bitsum (sameB R C es r) c := by
        show _ + (if sameB R C es r c then _ else _) = _
        rw [show sameB R C es r c = false from decide_eq_false h]
        rfl
      have h' : ¬ (((marksF R C es).getD (R + c) 0 : Nat) : Int) = ((marksF R C es).getD r 0 : Nat) := by omega
      rw [hs]
      generalize bitsum (sameB R C es r) c = b
      simp (disch := (first | assumption | with_reducible rfl | decide +kernel | exact Or.inl (by decide +kernel) | exact Or.inr (by decide +kernel) | omega | (simp only [List.length_cons, List.length_nil, List.length_append, List.length_map, List.length_replicate, List.length_range] <;> omega) | rfl)) only [evEqs, List.getElem?_cons_zero, List.getElem?_cons_succ, List.getElem?_nil, List.set_cons_zero, List.set_cons_succ, List.map_cons, List.map_nil, List.length_cons, List.length_nil, List.length_append, List.cons_append, List.nil_append, List.length_map, List.length_singleton, Nat.reduceBEq, Nat.reduceAdd, Nat.reduceSub, Nat.reduceMul, Nat.reduceEqDiff, Nat.reduceLeDiff, Nat.reduceLT, if_false, if_true, ite_true, ite_false, ↓reduceIte, Bool.not_true, Bool.not_false, Bool.false_eq_true, decide_true, decide_false, eq_self, and_true, true_and, and_self, Nat.zero_le, Nat.zero_add, Option.bind_some, Option.bind_none, Nat.lt_irrefl, Int.reduceToNat, Int.reducePow, Int.reduceNeg, Int.reduceMul, Int.reduceAdd, Int.reduceSub, Int.reduceLT, Int.reduceLE, Int.reduceEq, beq_self_eq_true, wipeE, MP.at0, MP.at1, MP.at2, MP.atLit, atN, e1, h']
      exact ⟨_, rfl⟩)
  rw [rngLenN] at h1
  exact ⟨x7', h1⟩
def readF (R C : Nat) (es : List (Nat × Nat)) : List Nat := (List.range R).map fun r => bitsum (sameB R C es r) C
theorem m_reads (R C : Nat) (hR : R ≤ 6) (hC : C ≤ 6) (es : List (Nat × Nat)) (hf : Fits R C es) (ks : List Nat) (hk : ∀ k ∈ ks, k < es.length) :
    sem_reads [frD R C es, .tup (nD ks)] [] = .ok (.v (.tup (nD (readF R C (edgesOf es ks))))) [] := by
  have hh := m_hung R C hR hC es hf ks hk
  have hml := marksF_len R C (edgesOf es ks)
  unfold sem_reads
  refine run_ex (Q := fun r => r = .ok (.v (.tup (nD (readF R C (edgesOf es ks))))) []) [.v (frD R C es), .v (.tup (nD ks)), .un, .un, .un, .un, .un, .un] rfl ?_
  unfold b_reads
  obtain ⟨E, hE⟩ : ∃ E, E = edgesOf es ks := ⟨_, rfl⟩
  rw [← hE] at hh hml ⊢
  have hrows : (nD ((marksF R C E).take R)).length = R := by rw [nD_len, List.length_take, hml]; omega
  have hcols : ((marksF R C E).drop R).length = C := by rw [List.length_drop, hml]; omega
  have hcols2 : ((nD ((marksF R C E).drop R)).length : Int) = C := by rw [nD_len, hcols]
  have hcc : ∀ c, c < C → ((marksF R C E).drop R).getD c 0 = (marksF R C E).getD (R + c) 0 := fun c hc => by rw [List.getD_eq_getElem?_getD, List.getElem?_drop, List.getD_eq_getElem?_getD]
  refine sqR (s' := ⟨[.v (frD R C es), .v (.tup (nD ks)), .un, .un, .v (.list (nD ((marksF R C E).take R))), .v (.list (nD ((marksF R C E).drop R))), .un, .un], []⟩) (by simp (disch := (first | assumption | with_reducible rfl | decide +kernel | exact Or.inl (by decide +kernel) | exact Or.inr (by decide +kernel) | omega | (simp only [List.length_cons, List.length_nil, List.length_append, List.length_map, List.length_replicate, List.length_range] <;> omega) | rfl)) only [evEqs, List.getElem?_cons_zero, List.getElem?_cons_succ, List.getElem?_nil, List.set_cons_zero, List.set_cons_succ, List.map_cons, List.map_nil, List.length_cons, List.length_nil, List.length_append, List.cons_append, List.nil_append, List.length_map, List.length_singleton, Nat.reduceBEq, Nat.reduceAdd, Nat.reduceSub, Nat.reduceMul, Nat.reduceEqDiff, Nat.reduceLeDiff, Nat.reduceLT, if_false, if_true, ite_true, ite_false, ↓reduceIte, Bool.not_true, Bool.not_false, Bool.false_eq_true, decide_true, decide_false, eq_self, and_true, true_and, and_self, Nat.zero_le, Nat.zero_add, Option.bind_some, Option.bind_none, Nat.lt_irrefl, Int.reduceToNat, Int.reducePow, Int.reduceNeg, Int.reduceMul, Int.reduceAdd, Int.reduceSub, Int.reduceLT, Int.reduceLE, Int.reduceEq, beq_self_eq_true, wipeE, MP.at0, MP.at1, MP.at2, MP.atLit, hh]) ?_
  refine sqR (s' := ⟨[.v (frD R C es), .v (.tup (nD ks)), .own (.list []), .un, .v (.list (nD ((marksF R C E).take R))), .v (.list (nD ((marksF R C E).drop R))), .un, .un], []⟩) (by simp (disch := (first | assumption | with_reducible rfl | decide +kernel | exact Or.inl (by decide +kernel) | exact Or.inr (by decide +kernel) | omega | (simp only [List.length_cons, List.length_nil, List.length_append, List.length_map, List.length_replicate, List.length_range] <;> omega) | rfl)) only [evEqs, List.getElem?_cons_zero, List.getElem?_cons_succ, List.getElem?_nil, List.set_cons_zero, List.set_cons_succ, List.map_cons, List.map_nil, List.length_cons, List.length_nil, List.length_append, List.cons_append, List.nil_append, List.length_map, List.length_singleton, Nat.reduceBEq, Nat.reduceAdd, Nat.reduceSub, Nat.reduceMul, Nat.reduceEqDiff, Nat.reduceLeDiff, Nat.reduceLT, if_false, if_true, ite_true, ite_false, ↓reduceIte, Bool.not_true, Bool.not_false, Bool.false_eq_true, decide_true, decide_false, eq_self, and_true, true_and, and_self, Nat.zero_le, Nat.zero_add, Option.bind_some, Option.bind_none, Nat.lt_irrefl, Int.reduceToNat, Int.reducePow, Int.reduceNeg, Int.reduceMul, Int.reduceAdd, Int.reduceSub, Int.reduceLT, Int.reduceLE, Int.reduceEq, beq_self_eq_true, wipeE, MP.at0, MP.at1, MP.at2, MP.atLit]) ?_
  refine forR (nD ((marksF R C E).take R)) (fun i s => ∃ x3 x6 x7, s = ⟨[.v (frD R C es), .v (.tup (nD ks)), .own (.list (nD ((List.range i).map fun r => bitsum (sameB R C E r) C))), x3, .v (.list (nD ((marksF R C E).take R))), .v (.list (nD ((marksF R C E).drop R))), x6, x7], []⟩) (by simp (disch := (first | assumption | with_reducible rfl | decide +kernel | exact Or.inl (by decide +kernel) | exact Or.inr (by decide +kernel) | omega | (simp only [List.length_cons, List.length_nil, List.length_append, List.length_map, List.length_replicate, List.length_range] <;> omega) | rfl)) only [evEqs, List.getElem?_cons_zero, List.getElem?_cons_succ, List.getElem?_nil, List.set_cons_zero, List.set_cons_succ, List.map_cons, List.map_nil, List.length_cons, List.length_nil, List.length_append, List.cons_append, List.nil_append, List.length_map, List.length_singleton, Nat.reduceBEq, Nat.reduceAdd, Nat.reduceSub, Nat.reduceMul, Nat.reduceEqDiff, Nat.reduceLeDiff, Nat.reduceLT, if_false, if_true, ite_true, ite_false, ↓reduceIte, Bool.not_true, Bool.not_false, Bool.false_eq_true, decide_true, decide_false, eq_self, and_true, true_and, and_self, Nat.zero_le, Nat.zero_add, Option.bind_some, Option.bind_none, Nat.lt_irrefl, Int.reduceToNat, Int.reducePow, Int.reduceNeg, Int.reduceMul, Int.reduceAdd, Int.reduceSub, Int.reduceLT, Int.reduceLE, Int.reduceEq, beq_self_eq_true, wipeE, MP.at0, MP.at1, MP.at2, MP.atLit]) ⟨_, _, _, rfl⟩ ?_ ?_
  · rintro i d s hd ⟨x3, x6, x7, rfl⟩
    obtain ⟨m, hm, rfl⟩ := nD_get _ _ _ hd
    have hi : i < R := by
      have := (List.getElem?_eq_some_iff.mp hm).1
      rw [List.length_take] at this
      omega
    have hmv : m = (marksF R C E).getD i 0 := by
      rw [List.getElem?_take_of_lt hi] at hm
      rw [List.getD_eq_getElem?_getD, hm]
      rfl
    subst hmv
    obtain ⟨x7', hin⟩ := m_reads_in R C hC E i (.v (frD R C es)) (.v (.tup (nD ks))) (.own (.list (nD ((List.range i).map fun r => bitsum (sameB R C E r) C)))) (.v (.list (nD ((marksF R C E).take R)))) x7 ((marksF R C E).drop R) hcols hcc
    have hlen : (nD ((List.range i).map fun r => bitsum (sameB R C E r) C)).length = i := by rw [nD_len]; simp
    have hsn : (List.range (i + 1)).map (fun r => bitsum (sameB R C E r) C) = (List.range i).map (fun r => bitsum (sameB R C E r) C) ++ [bitsum (sameB R C E i) C] := by rw [List.range_succ, List.map_append]; rfl
    refine ⟨_, b_nm .., ?_⟩
    unfold lp_reads_2
    rw [hsn]
    simp (disch := (first | assumption | with_reducible rfl | decide +kernel | exact Or.inl (by decide +kernel) | exact Or.inr (by decide +kernel) | omega | (simp only [List.length_cons, List.length_nil, List.length_append, List.length_map, List.length_replicate, List.length_range] <;> omega) | rfl)) only [evEqs, List.getElem?_cons_zero, List.getElem?_cons_succ, List.getElem?_nil, List.set_cons_zero, List.set_cons_succ, List.map_cons, List.map_nil, List.length_cons, List.length_nil, List.length_append, List.cons_append, List.nil_append, List.length_map, List.length_singleton, Nat.reduceBEq, Nat.reduceAdd, Nat.reduceSub, Nat.reduceMul, Nat.reduceEqDiff, Nat.reduceLeDiff, Nat.reduceLT, if_false, if_true, ite_true, ite_false, ↓reduceIte, Bool.not_true, Bool.not_false, Bool.false_eq_true, decide_true, decide_false, eq_self, and_true, true_and, and_self, Nat.zero_le, Nat.zero_add, Option.bind_some, Option.bind_none, Nat.lt_irrefl, Int.reduceToNat, Int.reducePow, Int.reduceNeg, Int.reduceMul, Int.reduceAdd, Int.reduceSub, Int.reduceLT, Int.reduceLE, Int.reduceEq, beq_self_eq_true, wipeE, MP.at0, MP.at1, MP.at2, MP.atLit, hcols2, hin, nD_snoc]
    exact ⟨_, _, _, rfl⟩
  · rintro s ⟨x3, x6, x7, rfl⟩
    rw [hrows]
    unfold readF
    simp (disch := (first | assumption | with_reducible rfl | decide +kernel | exact Or.inl (by decide +kernel) | exact Or.inr (by decide +kernel) | omega | (simp only [List.length_cons, List.length_nil, List.length_append, List.length_map, List.length_replicate, List.length_range] <;> omega) | rfl)) only [evEqs, List.getElem?_cons_zero, List.getElem?_cons_succ, List.getElem?_nil, List.set_cons_zero, List.set_cons_succ, List.map_cons, List.map_nil, List.length_cons, List.length_nil, List.length_append, List.cons_append, List.nil_append, List.length_map, List.length_singleton, Nat.reduceBEq, Nat.reduceAdd, Nat.reduceSub, Nat.reduceMul, Nat.reduceEqDiff, Nat.reduceLeDiff, Nat.reduceLT, if_false, if_true, ite_true, ite_false, ↓reduceIte, Bool.not_true, Bool.not_false, Bool.false_eq_true, decide_true, decide_false, eq_self, and_true, true_and, and_self, Nat.zero_le, Nat.zero_add, Option.bind_some, Option.bind_none, Nat.lt_irrefl, Int.reduceToNat, Int.reducePow, Int.reduceNeg, Int.reduceMul, Int.reduceAdd, Int.reduceSub, Int.reduceLT, Int.reduceLE, Int.reduceEq, beq_self_eq_true, wipeE, MP.at0, MP.at1, MP.at2, MP.atLit]

/-! ## the law's own walk along the wires -/
theorem step_len (st : List Nat × List Nat) (e : Nat × Nat) : (stepW st e).1.length ≤ st.1.length + 1 ∧ (stepW st e).2.length ≤ st.2.length + 1 := by
  obtain ⟨far, hfar⟩ : ∃ far, far = (if e.1 ∈ st.1 ∧ e.2 ∉ st.2 then st.2 ++ [e.2] else st.2) := ⟨_, rfl⟩
  have hs : stepW st e = (if e.2 ∈ far ∧ e.1 ∉ st.1 then st.1 ++ [e.1] else st.1, far) := by rw [hfar]; rfl
  rw [hs]
  constructor
  · show (if e.2 ∈ far ∧ e.1 ∉ st.1 then st.1 ++ [e.1] else st.1).length ≤ _
    by_cases h : e.2 ∈ far ∧ e.1 ∉ st.1
    · rw [if_pos h]; simp
    · rw [if_neg h]; omega
  · show far.length ≤ _
    rw [hfar]
    by_cases h : e.1 ∈ st.1 ∧ e.2 ∉ st.2
    · rw [if_pos h]; simp
    · rw [if_neg h]; omega
theorem pass_len : ∀ (l : List (Nat × Nat)) (st : List Nat × List Nat), (passW l st).1.length ≤ st.1.length + l.length ∧ (passW l st).2.length ≤ st.2.length + l.length
  | [], st => ⟨Nat.le_refl _, Nat.le_refl _⟩
  | e :: l, st => by
    have a := step_len st e
    have b := pass_len l (stepW st e)
    show (passW l (stepW st e)).1.length ≤ _ ∧ (passW l (stepW st e)).2.length ≤ _
    simp only [List.length_cons]
    omega
theorem wires_len (es : List (Nat × Nat)) (st : List Nat × List Nat) : ∀ n, (wiresF es n st).1.length ≤ st.1.length + n * es.length ∧ (wiresF es n st).2.length ≤ st.2.length + n * es.length
  | 0 => by
    show st.1.length ≤ _ ∧ st.2.length ≤ _
    omega
  | n + 1 => by
    have a := wires_len es st n
    have b := pass_len es (wiresF es n st)
    show (passW es (wiresF es n st)).1.length ≤ _ ∧ (passW es (wiresF es n st)).2.length ≤ _
    rw [Nat.succ_mul]
    omega
theorem pass_snoc (l : List (Nat × Nat)) (e : Nat × Nat) (st : List Nat × List Nat) : passW (l ++ [e]) st = stepW (passW l st) e := by
  unfold passW
  rw [List.foldl_append]
  rfl
theorem m_wires_1 (es : List (Nat × Nat)) (k : Nat) (hk : k < es.length) (st : List Nat × List Nat) (h1 : st.1.length ≤ 1000) (h2 : st.2.length ≤ 1000) (x0 x1 x2 x3 x4 x5 x9 : Slot) :
    lp_l_wires_1 ⟨[x0, x1, x2, x3, x4, x5, .v (.tup (spsD es)), .own (.list (nD st.1)), .own (.list (nD st.2)), x9, .v (.int k)], []⟩ =
      .nx ⟨[x0, x1, x2, x3, x4, x5, .v (.tup (spsD es)), .own (.list (nD (stepW st (es.getD k (0, 0))).1)), .own (.list (nD (stepW st (es.getD k (0, 0))).2)), x9, .v (.int k)], []⟩ := by
  have hsp := spsD_at es k hk
  unfold spD at hsp
  generalize es.getD k (0, 0) = e at hsp
  obtain ⟨near, far⟩ := st
  obtain ⟨a, b⟩ := e
  have l1 := nD_len near
  have l2 := nD_len far
  simp only at h1 h2 hsp
  unfold lp_l_wires_1 stepW
  simp only []
  by_cases c1 : a ∈ near
  · by_cases c2 : b ∈ far
    · simp (disch := (first | assumption | with_reducible rfl | decide +kernel | exact Or.inl (by decide +kernel) | exact Or.inr (by decide +kernel) | omega | (simp only [List.length_cons, List.length_nil, List.length_append, List.length_map, List.length_replicate, List.length_range] <;> omega) | rfl)) only [evEqs, List.getElem?_cons_zero, List.getElem?_cons_succ, List.getElem?_nil, List.set_cons_zero, List.set_cons_succ, List.map_cons, List.map_nil, List.length_cons, List.length_nil, List.length_append, List.cons_append, List.nil_append, List.length_map, List.length_singleton, Nat.reduceBEq, Nat.reduceAdd, Nat.reduceSub, Nat.reduceMul, Nat.reduceEqDiff, Nat.reduceLeDiff, Nat.reduceLT, if_false, if_true, ite_true, ite_false, ↓reduceIte, Bool.not_true, Bool.not_false, Bool.false_eq_true, decide_true, decide_false, eq_self, and_true, true_and, and_self, Nat.zero_le, Nat.zero_add, Option.bind_some, Option.bind_none, Nat.lt_irrefl, Int.reduceToNat, Int.reducePow, Int.reduceNeg, Int.reduceMul, Int.reduceAdd, Int.reduceSub, Int.reduceLT, Int.reduceLE, Int.reduceEq, beq_self_eq_true, wipeE, MP.at0, MP.at1, MP.at2, MP.atLit, atN, hsp, in_nD, nin_nD, c1, c2, not_true_eq_false, and_false, and_true]
    · have hb : b ∈ far ++ [b] := by simp
      simp (disch := (first | assumption | with_reducible rfl | decide +kernel | exact Or.inl (by decide +kernel) | exact Or.inr (by decide +kernel) | omega | (simp only [List.length_cons, List.length_nil, List.length_append, List.length_map, List.length_replicate, List.length_range] <;> omega) | rfl)) only [evEqs, List.getElem?_cons_zero, List.getElem?_cons_succ, List.getElem?_nil, List.set_cons_zero, List.set_cons_succ, List.map_cons, List.map_nil, List.length_cons, List.length_nil, List.length_append, List.cons_append, List.nil_append, List.length_map, List.length_singleton, Nat.reduceBEq, Nat.reduceAdd, Nat.reduceSub, Nat.reduceMul, Nat.reduceEqDiff, Nat.reduceLeDiff, Nat.reduceLT, if_false, if_true, ite_true, ite_false, ↓reduceIte, Bool.not_true, Bool.not_false, Bool.false_eq_true, decide_true, decide_false, eq_self, and_true, true_and, and_self, Nat.zero_le, Nat.zero_add, Option.bind_some, Option.bind_none, Nat.lt_irrefl, Int.reduceToNat, Int.reducePow, Int.reduceNeg, Int.reduceMul, Int.reduceAdd, Int.reduceSub, Int.reduceLT, Int.reduceLE, Int.reduceEq, beq_self_eq_true, wipeE, MP.at0, MP.at1, MP.at2, MP.atLit, atN, hsp, in_nD, nin_nD, c1, c2, hb, nD_snoc, not_true_eq_false, not_false_eq_true, and_false, and_true]
  · by_cases c2 : b ∈ far
    · simp (disch := (first | assumption | with_reducible rfl | decide +kernel | exact Or.inl (by decide +kernel) | exact Or.inr (by decide +kernel) | omega | (simp only [List.length_cons, List.length_nil, List.length_append, List.length_map, List.length_replicate, List.length_range] <;> omega) | rfl)) only [evEqs, List.getElem?_cons_zero, List.getElem?_cons_succ, List.getElem?_nil, List.set_cons_zero, List.set_cons_succ, List.map_cons, List.map_nil, List.length_cons, List.length_nil, List.length_append, List.cons_append, List.nil_append, List.length_map, List.length_singleton, Nat.reduceBEq, Nat.reduceAdd, Nat.reduceSub, Nat.reduceMul, Nat.reduceEqDiff, Nat.reduceLeDiff, Nat.reduceLT, if_false, if_true, ite_true, ite_false, ↓reduceIte, Bool.not_true, Bool.not_false, Bool.false_eq_true, decide_true, decide_false, eq_self, and_true, true_and, and_self, Nat.zero_le, Nat.zero_add, Option.bind_some, Option.bind_none, Nat.lt_irrefl, Int.reduceToNat, Int.reducePow, Int.reduceNeg, Int.reduceMul, Int.reduceAdd, Int.reduceSub, Int.reduceLT, Int.reduceLE, Int.reduceEq, beq_self_eq_true, wipeE, MP.at0, MP.at1, MP.at2, MP.atLit, atN, hsp, in_nD, nin_nD, c1, c2, nD_snoc, not_true_eq_false, not_false_eq_true, and_false, and_true, false_and]
    · simp (disch := (first | assumption | with_reducible rfl | decide +kernel | exact Or.inl (by decide +kernel) | exact Or.inr (by decide +kernel) | omega | (simp only [List.length_cons, List.length_nil, List.length_append, List.length_map, List.length_replicate, List.length_range] <;> omega) | rfl)) only [evEqs, List.getElem?_cons_zero, List.getElem?_cons_succ, List.getElem?_nil, List.set_cons_zero, List.set_cons_succ, List.map_cons, List.map_nil, List.length_cons, List.length_nil, List.length_append, List.cons_append, List.nil_append, List.length_map, List.length_singleton, Nat.reduceBEq, Nat.reduceAdd, Nat.reduceSub, Nat.reduceMul, Nat.reduceEqDiff, Nat.reduceLeDiff, Nat.reduceLT, if_false, if_true, ite_true, ite_false, ↓reduceIte, Bool.not_true, Bool.not_false, Bool.false_eq_true, decide_true, decide_false, eq_self, and_true, true_and, and_self, Nat.zero_le, Nat.zero_add, Option.bind_some, Option.bind_none, Nat.lt_irrefl, Int.reduceToNat, Int.reducePow, Int.reduceNeg, Int.reduceMul, Int.reduceAdd, Int.reduceSub, Int.reduceLT, Int.reduceLE, Int.reduceEq, beq_self_eq_true, wipeE, MP.at0, MP.at1, MP.at2, MP.atLit, atN, hsp, in_nD, nin_nD, c1, c2, not_true_eq_false, not_false_eq_true, and_false, and_true, false_and]
theorem m_wires_2 (es : List (Nat × Nat)) (ks : List Nat) (hk : ∀ k ∈ ks, k < es.length) (hl : ks.length ≤ 12) (st : List Nat × List Nat) (h1 : st.1.length ≤ 500) (h2 : st.2.length ≤ 500) (x0 x2 x3 x4 x5 x9 x10 : Slot) :
    ∃ x10', lp_l_wires_2 ⟨[x0, .v (.tup (nD ks)), x2, x3, x4, x5, .v (.tup (spsD es)), .own (.list (nD st.1)), .own (.list (nD st.2)), x9, x10], []⟩ =
      .nx ⟨[x0, .v (.tup (nD ks)), x2, x3, x4, x5, .v (.tup (spsD es)), .own (.list (nD (passW (edgesOf es ks) st).1)), .own (.list (nD (passW (edgesOf es ks) st).2)), x9, x10'], []⟩ := by
  unfold lp_l_wires_2
  obtain ⟨s', e1, x10', rfl⟩ := forE (f := pSeq (pD (pVar 1))) (t := .nm 10) (g := lp_l_wires_1) (s := ⟨[x0, .v (.tup (nD ks)), x2, x3, x4, x5, .v (.tup (spsD es)), .own (.list (nD st.1)), .own (.list (nD st.2)), x9, x10], []⟩) (nD ks)
    (fun i s => ∃ x10', s = ⟨[x0, .v (.tup (nD ks)), x2, x3, x4, x5, .v (.tup (spsD es)), .own (.list (nD (passW ((edgesOf es ks).take i) st).1)), .own (.list (nD (passW ((edgesOf es ks).take i) st).2)), x9, x10'], []⟩) (by simp (disch := (first | assumption | with_reducible rfl | decide +kernel | exact Or.inl (by decide +kernel) | exact Or.inr (by decide +kernel) | omega | (simp only [List.length_cons, List.length_nil, List.length_append, List.length_map, List.length_replicate, List.length_range] <;> omega) | rfl)) only [evEqs, List.getElem?_cons_zero, List.getElem?_cons_succ, List.getElem?_nil, List.set_cons_zero, List.set_cons_succ, List.map_cons, List.map_nil, List.length_cons, List.length_nil, List.length_append, List.cons_append, List.nil_append, List.length_map, List.length_singleton, Nat.reduceBEq, Nat.reduceAdd, Nat.reduceSub, Nat.reduceMul, Nat.reduceEqDiff, Nat.reduceLeDiff, Nat.reduceLT, if_false, if_true, ite_true, ite_false, ↓reduceIte, Bool.not_true, Bool.not_false, Bool.false_eq_true, decide_true, decide_false, eq_self, and_true, true_and, and_self, Nat.zero_le, Nat.zero_add, Option.bind_some, Option.bind_none, Nat.lt_irrefl, Int.reduceToNat, Int.reducePow, Int.reduceNeg, Int.reduceMul, Int.reduceAdd, Int.reduceSub, Int.reduceLT, Int.reduceLE, Int.reduceEq, beq_self_eq_true, wipeE, MP.at0, MP.at1, MP.at2, MP.atLit]) ⟨_, rfl⟩ (by
    rintro i d s hd ⟨x10', rfl⟩
    obtain ⟨k, hk2, rfl⟩ := nD_get _ _ _ hd
    have hkl := hk k (List.mem_of_getElem? hk2)
    have hi := (List.getElem?_eq_some_iff.mp hk2).1
    have pl := pass_len ((edgesOf es ks).take i) st
    have tl : ((edgesOf es ks).take i).length ≤ 12 := by rw [List.length_take, edges_len]; omega
    have e := m_wires_1 es k hkl (passW ((edgesOf es ks).take i) st) (by omega) (by omega) x0 (.v (.tup (nD ks))) x2 x3 x4 x5 x9
    refine ⟨_, b_nm .., ?_⟩
    rw [edges_take es ks i k hk2, pass_snoc]
    simp (disch := (first | assumption | with_reducible rfl | decide +kernel | exact Or.inl (by decide +kernel) | exact Or.inr (by decide +kernel) | omega | (simp only [List.length_cons, List.length_nil, List.length_append, List.length_map, List.length_replicate, List.length_range] <;> omega) | rfl)) only [evEqs, List.getElem?_cons_zero, List.getElem?_cons_succ, List.getElem?_nil, List.set_cons_zero, List.set_cons_succ, List.map_cons, List.map_nil, List.length_cons, List.length_nil, List.length_append, List.cons_append, List.nil_append, List.length_map, List.length_singleton, Nat.reduceBEq, Nat.reduceAdd, Nat.reduceSub, Nat.reduceMul, Nat.reduceEqDiff, Nat.reduceLeDiff, Nat.reduceLT, if_false, if_true, ite_true, ite_false, ↓reduceIte, Bool.not_true, Bool.not_false, Bool.false_eq_true, decide_true, decide_false, eq_self, and_true, true_and, and_self, Nat.zero_le, Nat.zero_add, Option.bind_some, Option.bind_none, Nat.lt_irrefl, Int.reduceToNat, Int.reducePow, Int.reduceNeg, Int.reduceMul, Int.reduceAdd, Int.reduceSub, Int.reduceLT, Int.reduceLE, Int.reduceEq, beq_self_eq_true, wipeE, MP.at0, MP.at1, MP.at2, MP.atLit, e]
    exact ⟨_, rfl⟩)
  rw [nD_len, List.take_of_length_le (by rw [edges_len]; exact Nat.le_refl _)] at e1
  exact ⟨x10', e1⟩
def wireD (es : List (Nat × Nat)) (r : Nat) : D := .tup [.list (nD (sortN (wires es r).1)), .list (nD (sortN (wires es r).2))]
theorem m_wires_3 (es : List (Nat × Nat)) (ks : List Nat) (hk : ∀ k ∈ ks, k < es.length) (hl : ks.length ≤ 12) (r : Nat) (found : List D) (hfl : found.length ≤ 100) (x0 x4 x5 x7 x8 x9 x10 : Slot) :
    ∃ x7' x8' x9' x10', lp_l_wires_3 ⟨[x0, .v (.tup (nD ks)), .own (.list found), .v (.int r), x4, x5, .v (.tup (spsD es)), x7, x8, x9, x10], []⟩ =
      .nx ⟨[x0, .v (.tup (nD ks)), .own (.list (found ++ [wireD (edgesOf es ks) r])), .v (.int r), x4, x5, .v (.tup (spsD es)), x7', x8', x9', x10'], []⟩ := by
  have hkl := nD_len ks
  have e1 : ∃ x9' x10', loopL (.nm 9) lp_l_wires_2 (rng 0 (ks.length : Int)) ⟨[x0, .v (.tup (nD ks)), .own (.list found), .v (.int r), x4, x5, .v (.tup (spsD es)), .own (.list (nD [r])), .own (.list (nD [])), x9, x10], []⟩ =
      .nx ⟨[x0, .v (.tup (nD ks)), .own (.list found), .v (.int r), x4, x5, .v (.tup (spsD es)), .own (.list (nD (wires (edgesOf es ks) r).1)), .own (.list (nD (wires (edgesOf es ks) r).2)), x9', x10'], []⟩ := by
    obtain ⟨s', e1, x9', x10', rfl⟩ := loopE (t := .nm 9) (g := lp_l_wires_2) (s := ⟨[x0, .v (.tup (nD ks)), .own (.list found), .v (.int r), x4, x5, .v (.tup (spsD es)), .own (.list (nD [r])), .own (.list (nD [])), x9, x10], []⟩) (rng 0 (ks.length : Int))
      (fun i s => ∃ x9' x10', s = ⟨[x0, .v (.tup (nD ks)), .own (.list found), .v (.int r), x4, x5, .v (.tup (spsD es)), .own (.list (nD (wiresF (edgesOf es ks) i ([r], [])).1)), .own (.list (nD (wiresF (edgesOf es ks) i ([r], [])).2)), x9', x10'], []⟩) ⟨_, _, rfl⟩ (by
      rintro i d s hd ⟨x9', x10', rfl⟩
      obtain ⟨rfl, hi⟩ := rngAt hd
      have wl := wires_len (edgesOf es ks) ([r], []) i
      rw [edges_len] at wl
      have hm : i * ks.length ≤ 12 * 12 := Nat.mul_le_mul (by omega) hl
      simp only [List.length_cons, List.length_nil] at wl
      obtain ⟨x10'', e2⟩ := m_wires_2 es ks hk hl (wiresF (edgesOf es ks) i ([r], [])) (by omega) (by omega) x0 (.own (.list found)) (.v (.int r)) x4 x5 (.v (.int i)) x10'
      refine ⟨_, b_nm .., ?_⟩
      simp (disch := (first | assumption | with_reducible rfl | decide +kernel | exact Or.inl (by decide +kernel) | exact Or.inr (by decide +kernel) | omega | (simp only [List.length_cons, List.length_nil, List.length_append, List.length_map, List.length_replicate, List.length_range] <;> omega) | rfl)) only [evEqs, List.getElem?_cons_zero, List.getElem?_cons_succ, List.getElem?_nil, List.set_cons_zero, List.set_cons_succ, List.map_cons, List.map_nil, List.length_cons, List.length_nil, List.length_append, List.cons_append, List.nil_append, List.length_map, List.length_singleton, Nat.reduceBEq, Nat.reduceAdd, Nat.reduceSub, Nat.reduceMul, Nat.reduceEqDiff, Nat.reduceLeDiff, Nat.reduceLT, if_false, if_true, ite_true, ite_false, ↓reduceIte, Bool.not_true, Bool.not_false, Bool.false_eq_true, decide_true, decide_false, eq_self, and_true, true_and, and_self, Nat.zero_le, Nat.zero_add, Option.bind_some, Option.bind_none, Nat.lt_irrefl, Int.reduceToNat, Int.reducePow, Int.reduceNeg, Int.reduceMul, Int.reduceAdd, Int.reduceSub, Int.reduceLT, Int.reduceLE, Int.reduceEq, beq_self_eq_true, wipeE, MP.at0, MP.at1, MP.at2, MP.atLit, e2]
      exact ⟨_, _, rfl⟩)
    rw [rngLenN] at e1
    refine ⟨x9', x10', ?_⟩
    unfold wires
    rw [edges_len]
    exact e1
  obtain ⟨x9', x10', e1⟩ := e1
  have s1 := (sort_nD (wires (edgesOf es ks) r).1).2
  have s2 := (sort_nD (wires (edgesOf es ks) r).2).2
  have n1 : nD [r] = [.int (r : Nat)] := rfl
  have n2 : nD [] = [] := rfl
  rw [n1, n2] at e1
  unfold lp_l_wires_3
  refine ⟨.own (.list (nD (wires (edgesOf es ks) r).1)), .own (.list (nD (wires (edgesOf es ks) r).2)), x9', x10', ?_⟩
  simp (disch := (first | assumption | with_reducible rfl | decide +kernel | exact Or.inl (by decide +kernel) | exact Or.inr (by decide +kernel) | omega | (simp only [List.length_cons, List.length_nil, List.length_append, List.length_map, List.length_replicate, List.length_range] <;> omega) | rfl)) only [evEqs, List.getElem?_cons_zero, List.getElem?_cons_succ, List.getElem?_nil, List.set_cons_zero, List.set_cons_succ, List.map_cons, List.map_nil, List.length_cons, List.length_nil, List.length_append, List.cons_append, List.nil_append, List.length_map, List.length_singleton, Nat.reduceBEq, Nat.reduceAdd, Nat.reduceSub, Nat.reduceMul, Nat.reduceEqDiff, Nat.reduceLeDiff, Nat.reduceLT, if_false, if_true, ite_true, ite_false, ↓reduceIte, Bool.not_true, Bool.not_false, Bool.false_eq_true, decide_true, decide_false, eq_self, and_true, true_and, and_self, Nat.zero_le, Nat.zero_add, Option.bind_some, Option.bind_none, Nat.lt_irrefl, Int.reduceToNat, Int.reducePow, Int.reduceNeg, Int.reduceMul, Int.reduceAdd, Int.reduceSub, Int.reduceLT, Int.reduceLE, Int.reduceEq, beq_self_eq_true, wipeE, MP.at0, MP.at1, MP.at2, MP.atLit, hkl, e1, s1, s2, wireD]
theorem m_wires (R C : Nat) (hR : R ≤ 6) (es : List (Nat × Nat)) (ks : List Nat) (hk : ∀ k ∈ ks, k < es.length) (hl : ks.length ≤ 12) :
    sem_l_wires [frD R C es, .tup (nD ks)] [] = .ok (.own (.list ((List.range R).map (wireD (edgesOf es ks))))) [] := by
  unfold sem_l_wires
  refine run_ex (Q := fun r => r = .ok (.own (.list ((List.range R).map (wireD (edgesOf es ks))))) []) [.v (frD R C es), .v (.tup (nD ks)), .un, .un, .un, .un, .un, .un, .un, .un, .un] rfl ?_
  unfold b_l_wires
  refine sqR (s' := ⟨[.v (frD R C es), .v (.tup (nD ks)), .un, .un, .v (.int R), .v (.int C), .v (.tup (spsD es)), .un, .un, .un, .un], []⟩) (by simp (disch := (first | assumption | with_reducible rfl | decide +kernel | exact Or.inl (by decide +kernel) | exact Or.inr (by decide +kernel) | omega | (simp only [List.length_cons, List.length_nil, List.length_append, List.length_map, List.length_replicate, List.length_range] <;> omega) | rfl)) only [evEqs, List.getElem?_cons_zero, List.getElem?_cons_succ, List.getElem?_nil, List.set_cons_zero, List.set_cons_succ, List.map_cons, List.map_nil, List.length_cons, List.length_nil, List.length_append, List.cons_append, List.nil_append, List.length_map, List.length_singleton, Nat.reduceBEq, Nat.reduceAdd, Nat.reduceSub, Nat.reduceMul, Nat.reduceEqDiff, Nat.reduceLeDiff, Nat.reduceLT, if_false, if_true, ite_true, ite_false, ↓reduceIte, Bool.not_true, Bool.not_false, Bool.false_eq_true, decide_true, decide_false, eq_self, and_true, true_and, and_self, Nat.zero_le, Nat.zero_add, Option.bind_some, Option.bind_none, Nat.lt_irrefl, Int.reduceToNat, Int.reducePow, Int.reduceNeg, Int.reduceMul, Int.reduceAdd, Int.reduceSub, Int.reduceLT, Int.reduceLE, Int.reduceEq, beq_self_eq_true, wipeE, MP.at0, MP.at1, MP.at2, MP.atLit, frD]) ?_
  refine sqR (s' := ⟨[.v (frD R C es), .v (.tup (nD ks)), .own (.list []), .un, .v (.int R), .v (.int C), .v (.tup (spsD es)), .un, .un, .un, .un], []⟩) (by simp (disch := (first | assumption | with_reducible rfl | decide +kernel | exact Or.inl (by decide +kernel) | exact Or.inr (by decide +kernel) | omega | (simp only [List.length_cons, List.length_nil, List.length_append, List.length_map, List.length_replicate, List.length_range] <;> omega) | rfl)) only [evEqs, List.getElem?_cons_zero, List.getElem?_cons_succ, List.getElem?_nil, List.set_cons_zero, List.set_cons_succ, List.map_cons, List.map_nil, List.length_cons, List.length_nil, List.length_append, List.cons_append, List.nil_append, List.length_map, List.length_singleton, Nat.reduceBEq, Nat.reduceAdd, Nat.reduceSub, Nat.reduceMul, Nat.reduceEqDiff, Nat.reduceLeDiff, Nat.reduceLT, if_false, if_true, ite_true, ite_false, ↓reduceIte, Bool.not_true, Bool.not_false, Bool.false_eq_true, decide_true, decide_false, eq_self, and_true, true_and, and_self, Nat.zero_le, Nat.zero_add, Option.bind_some, Option.bind_none, Nat.lt_irrefl, Int.reduceToNat, Int.reducePow, Int.reduceNeg, Int.reduceMul, Int.reduceAdd, Int.reduceSub, Int.reduceLT, Int.reduceLE, Int.reduceEq, beq_self_eq_true, wipeE, MP.at0, MP.at1, MP.at2, MP.atLit]) ?_
  refine forR (rng 0 (R : Int)) (fun i s => ∃ x3 x7 x8 x9 x10, s = ⟨[.v (frD R C es), .v (.tup (nD ks)), .own (.list ((List.range i).map (wireD (edgesOf es ks)))), x3, .v (.int R), .v (.int C), .v (.tup (spsD es)), x7, x8, x9, x10], []⟩) (by simp (disch := (first | assumption | with_reducible rfl | decide +kernel | exact Or.inl (by decide +kernel) | exact Or.inr (by decide +kernel) | omega | (simp only [List.length_cons, List.length_nil, List.length_append, List.length_map, List.length_replicate, List.length_range] <;> omega) | rfl)) only [evEqs, List.getElem?_cons_zero, List.getElem?_cons_succ, List.getElem?_nil, List.set_cons_zero, List.set_cons_succ, List.map_cons, List.map_nil, List.length_cons, List.length_nil, List.length_append, List.cons_append, List.nil_append, List.length_map, List.length_singleton, Nat.reduceBEq, Nat.reduceAdd, Nat.reduceSub, Nat.reduceMul, Nat.reduceEqDiff, Nat.reduceLeDiff, Nat.reduceLT, if_false, if_true, ite_true, ite_false, ↓reduceIte, Bool.not_true, Bool.not_false, Bool.false_eq_true, decide_true, decide_false, eq_self, and_true, true_and, and_self, Nat.zero_le, Nat.zero_add, Option.bind_some, Option.bind_none, Nat.lt_irrefl, Int.reduceToNat, Int.reducePow, Int.reduceNeg, Int.reduceMul, Int.reduceAdd, Int.reduceSub, Int.reduceLT, Int.reduceLE, Int.reduceEq, beq_self_eq_true, wipeE, MP.at0, MP.at1, MP.at2, MP.atLit]) ⟨_, _, _, _, _, rfl⟩ ?_ ?_
  · rintro i d s hd ⟨x3, x7, x8, x9, x10, rfl⟩
    obtain ⟨rfl, hi⟩ := rngAt hd
    obtain ⟨x7', x8', x9', x10', e⟩ := m_wires_3 es ks hk hl i ((List.range i).map (wireD (edgesOf es ks))) (by simp; omega) (.v (frD R C es)) (.v (.int R)) (.v (.int C)) x7 x8 x9 x10
    refine ⟨_, b_nm .., ?_⟩
    rw [List.range_succ, List.map_append]
    simp (disch := (first | assumption | with_reducible rfl | decide +kernel | exact Or.inl (by decide +kernel) | exact Or.inr (by decide +kernel) | omega | (simp only [List.length_cons, List.length_nil, List.length_append, List.length_map, List.length_replicate, List.length_range] <;> omega) | rfl)) only [evEqs, List.getElem?_cons_zero, List.getElem?_cons_succ, List.getElem?_nil, List.set_cons_zero, List.set_cons_succ, List.map_cons, List.map_nil, List.length_cons, List.length_nil, List.length_append, List.cons_append, List.nil_append, List.length_map, List.length_singleton, Nat.reduceBEq, Nat.reduceAdd, Nat.reduceSub, Nat.reduceMul, Nat.reduceEqDiff, Nat.reduceLeDiff, Nat.reduceLT, if_false, if_true, ite_true, ite_false, ↓reduceIte, Bool.not_true, Bool.not_false, Bool.false_eq_true, decide_true, decide_false, eq_self, and_true, true_and, and_self, Nat.zero_le, Nat.zero_add, Option.bind_some, Option.bind_none, Nat.lt_irrefl, Int.reduceToNat, Int.reducePow, Int.reduceNeg, Int.reduceMul, Int.reduceAdd, Int.reduceSub, Int.reduceLT, Int.reduceLE, Int.reduceEq, beq_self_eq_true, wipeE, MP.at0, MP.at1, MP.at2, MP.atLit, e]
    exact ⟨_, _, _, _, _, rfl⟩
  · rintro s ⟨x3, x7, x8, x9, x10, rfl⟩
    rw [rngLenN]
    simp (disch := (first | assumption | with_reducible rfl | decide +kernel | exact Or.inl (by decide +kernel) | exact Or.inr (by decide +kernel) | omega | (simp only [List.length_cons, List.length_nil, List.length_append, List.length_map, List.length_replicate, List.length_range] <;> omega) | rfl)) only [evEqs, List.getElem?_cons_zero, List.getElem?_cons_succ, List.getElem?_nil, List.set_cons_zero, List.set_cons_succ, List.map_cons, List.map_nil, List.length_cons, List.length_nil, List.length_append, List.cons_append, List.nil_append, List.length_map, List.length_singleton, Nat.reduceBEq, Nat.reduceAdd, Nat.reduceSub, Nat.reduceMul, Nat.reduceEqDiff, Nat.reduceLeDiff, Nat.reduceLT, if_false, if_true, ite_true, ite_false, ↓reduceIte, Bool.not_true, Bool.not_false, Bool.false_eq_true, decide_true, decide_false, eq_self, and_true, true_and, and_self, Nat.zero_le, Nat.zero_add, Option.bind_some, Option.bind_none, Nat.lt_irrefl, Int.reduceToNat, Int.reducePow, Int.reduceNeg, Int.reduceMul, Int.reduceAdd, Int.reduceSub, Int.reduceLT, Int.reduceLE, Int.reduceEq, beq_self_eq_true, wipeE, MP.at0, MP.at1, MP.at2, MP.atLit]
def sumF (l : List Nat) : Nat := (l.map fun c => 2 ^ c).sum
theorem m_reading_in (far : List Nat) (hfar : ∀ c ∈ far, c ≤ 100) (x0 x1 x2 x3 x6 : Slot) : ∃ x6', loopL (.nm 6) lp_l_reading_1 (nD far) ⟨[x0, x1, x2, x3, .v (.list (nD far)), .v (.int 0), x6], []⟩ = .nx ⟨[x0, x1, x2, x3, .v (.list (nD far)), .v (.int (sumF far : Nat)), x6'], []⟩ := by
  obtain ⟨s', e1, x6', rfl⟩ := loopE (t := .nm 6) (g := lp_l_reading_1) (s := ⟨[x0, x1, x2, x3, .v (.list (nD far)), .v (.int 0), x6], []⟩) (nD far) (fun i s => ∃ x6', s = ⟨[x0, x1, x2, x3, .v (.list (nD far)), .v (.int (sumF (far.take i) : Nat)), x6'], []⟩) ⟨_, rfl⟩ (by
    rintro i d s hd ⟨x6', rfl⟩
    obtain ⟨c, hc, rfl⟩ := nD_get _ _ _ hd
    have hs : ((sumF (far.take (i + 1)) : Nat) : Int) = (sumF (far.take i) : Nat) + 1 * 2 ^ c := by
      rw [List.take_succ, hc]
      unfold sumF
      rw [List.map_append, List.sum_append]
      show (((_ + (2 ^ c + 0) : Nat)) : Int) = _
      rw [Int.natCast_add, Nat.add_zero, Int.natCast_pow, Int.one_mul]
      rfl
    generalize sumF (far.take i) = b at hs
    have hcb := hfar c (List.mem_of_getElem? hc)
    refine ⟨_, b_nm .., ?_⟩
    unfold lp_l_reading_1
    rw [hs]
    simp (disch := (first | assumption | with_reducible rfl | decide +kernel | exact Or.inl (by decide +kernel) | exact Or.inr (by decide +kernel) | omega | (simp only [List.length_cons, List.length_nil, List.length_append, List.length_map, List.length_replicate, List.length_range] <;> omega) | rfl)) only [evEqs, List.getElem?_cons_zero, List.getElem?_cons_succ, List.getElem?_nil, List.set_cons_zero, List.set_cons_succ, List.map_cons, List.map_nil, List.length_cons, List.length_nil, List.length_append, List.cons_append, List.nil_append, List.length_map, List.length_singleton, Nat.reduceBEq, Nat.reduceAdd, Nat.reduceSub, Nat.reduceMul, Nat.reduceEqDiff, Nat.reduceLeDiff, Nat.reduceLT, if_false, if_true, ite_true, ite_false, ↓reduceIte, Bool.not_true, Bool.not_false, Bool.false_eq_true, decide_true, decide_false, eq_self, and_true, true_and, and_self, Nat.zero_le, Nat.zero_add, Option.bind_some, Option.bind_none, Nat.lt_irrefl, Int.reduceToNat, Int.reducePow, Int.reduceNeg, Int.reduceMul, Int.reduceAdd, Int.reduceSub, Int.reduceLT, Int.reduceLE, Int.reduceEq, beq_self_eq_true, wipeE, MP.at0, MP.at1, MP.at2, MP.atLit, Int.toNat_natCast]
    exact ⟨_, rfl⟩)
  rw [nD_len, List.take_length] at e1
  exact ⟨x6', e1⟩
theorem sumF_perm {a b : List Nat} (h : a.Perm b) : sumF a = sumF b := by
  unfold sumF
  exact (h.map _).sum_nat
theorem m_reading (R C : Nat) (hR : R ≤ 6) (hC : C ≤ 6) (es : List (Nat × Nat)) (hf : Fits R C es) (ks : List Nat) (hk : ∀ k ∈ ks, k < es.length) (hl : ks.length ≤ 12) :
    sem_l_reading [frD R C es, .tup (nD ks)] [] = .ok (.v (.tup (nD (readF R C (edgesOf es ks))))) [] := by
  have hw := m_wires R C hR es ks hk hl
  have hfit := edges_fit hf hk
  unfold sem_l_reading
  refine run_ex (Q := fun r => r = .ok (.v (.tup (nD (readF R C (edgesOf es ks))))) []) [.v (frD R C es), .v (.tup (nD ks)), .un, .un, .un, .un, .un] rfl ?_
  unfold b_l_reading
  generalize edgesOf es ks = E at hw hfit
  have hlen : ((List.range R).map (wireD E)).length = R := by simp
  have hsum : ∀ r, r < R → sumF (sortN (wires E r).2) = bitsum (sameB R C E r) C := fun r hr => by
    have w := wires_ok hfit hr
    rw [sumF_perm (sort_nD (wires E r).2).1]
    show ((wires E r).2.map fun c => 2 ^ c).sum = _
    rw [sum_bits C _ w.nd fun x hx => (w.f x hx).1]
    refine bitsum_congr C fun c hc => ?_
    unfold sameB
    rw [decide_eq_decide]
    exact far_iff hfit hr hc
  refine sqR (s' := ⟨[.v (frD R C es), .v (.tup (nD ks)), .own (.list []), .un, .un, .un, .un], []⟩) (by simp (disch := (first | assumption | with_reducible rfl | decide +kernel | exact Or.inl (by decide +kernel) | exact Or.inr (by decide +kernel) | omega | (simp only [List.length_cons, List.length_nil, List.length_append, List.length_map, List.length_replicate, List.length_range] <;> omega) | rfl)) only [evEqs, List.getElem?_cons_zero, List.getElem?_cons_succ, List.getElem?_nil, List.set_cons_zero, List.set_cons_succ, List.map_cons, List.map_nil, List.length_cons, List.length_nil, List.length_append, List.cons_append, List.nil_append, List.length_map, List.length_singleton, Nat.reduceBEq, Nat.reduceAdd, Nat.reduceSub, Nat.reduceMul, Nat.reduceEqDiff, Nat.reduceLeDiff, Nat.reduceLT, if_false, if_true, ite_true, ite_false, ↓reduceIte, Bool.not_true, Bool.not_false, Bool.false_eq_true, decide_true, decide_false, eq_self, and_true, true_and, and_self, Nat.zero_le, Nat.zero_add, Option.bind_some, Option.bind_none, Nat.lt_irrefl, Int.reduceToNat, Int.reducePow, Int.reduceNeg, Int.reduceMul, Int.reduceAdd, Int.reduceSub, Int.reduceLT, Int.reduceLE, Int.reduceEq, beq_self_eq_true, wipeE, MP.at0, MP.at1, MP.at2, MP.atLit]) ?_
  refine forR ((List.range R).map (wireD E)) (fun i s => i ≤ R ∧ ∃ x3 x4 x5 x6, s = ⟨[.v (frD R C es), .v (.tup (nD ks)), .own (.list (nD ((List.range i).map fun r => bitsum (sameB R C E r) C))), x3, x4, x5, x6], []⟩) (by simp (disch := (first | assumption | with_reducible rfl | decide +kernel | exact Or.inl (by decide +kernel) | exact Or.inr (by decide +kernel) | omega | (simp only [List.length_cons, List.length_nil, List.length_append, List.length_map, List.length_replicate, List.length_range] <;> omega) | rfl)) only [evEqs, List.getElem?_cons_zero, List.getElem?_cons_succ, List.getElem?_nil, List.set_cons_zero, List.set_cons_succ, List.map_cons, List.map_nil, List.length_cons, List.length_nil, List.length_append, List.cons_append, List.nil_append, List.length_map, List.length_singleton, Nat.reduceBEq, Nat.reduceAdd, Nat.reduceSub, Nat.reduceMul, Nat.reduceEqDiff, Nat.reduceLeDiff, Nat.reduceLT, if_false, if_true, ite_true, ite_false, ↓reduceIte, Bool.not_true, Bool.not_false, Bool.false_eq_true, decide_true, decide_false, eq_self, and_true, true_and, and_self, Nat.zero_le, Nat.zero_add, Option.bind_some, Option.bind_none, Nat.lt_irrefl, Int.reduceToNat, Int.reducePow, Int.reduceNeg, Int.reduceMul, Int.reduceAdd, Int.reduceSub, Int.reduceLT, Int.reduceLE, Int.reduceEq, beq_self_eq_true, wipeE, MP.at0, MP.at1, MP.at2, MP.atLit, hw]) ⟨Nat.zero_le _, _, _, _, _, rfl⟩ ?_ ?_
  · rintro i d s hd ⟨hi, x3, x4, x5, x6, rfl⟩
    have hi2 : i < R := by
      have := (List.getElem?_eq_some_iff.mp hd).1
      rw [hlen] at this
      exact this
    rw [List.getElem?_map, List.getElem?_range hi2] at hd
    cases hd
    have hs := hsum i hi2
    have hfar : ∀ c ∈ sortN (wires E i).2, c ≤ 100 := fun c hc => by
      have := ((wires_ok hfit hi2).f c ((sort_nD (wires E i).2).1.subset hc)).1
      omega
    obtain ⟨x6', hin⟩ := m_reading_in (sortN (wires E i).2) hfar (.v (frD R C es)) (.v (.tup (nD ks))) (.own (.list (nD ((List.range i).map fun r => bitsum (sameB R C E r) C)))) (.v (.list (nD (sortN (wires E i).1)))) x6
    rw [hs] at hin
    have hlen2 : (nD ((List.range i).map fun r => bitsum (sameB R C E r) C)).length = i := by rw [nD_len]; simp
    have hsn : (List.range (i + 1)).map (fun r => bitsum (sameB R C E r) C) = (List.range i).map (fun r => bitsum (sameB R C E r) C) ++ [bitsum (sameB R C E i) C] := by rw [List.range_succ, List.map_append]; rfl
    unfold wireD
    refine ⟨_, b_tp2 .., ?_⟩
    unfold lp_l_reading_2
    rw [hsn]
    simp (disch := (first | assumption | with_reducible rfl | decide +kernel | exact Or.inl (by decide +kernel) | exact Or.inr (by decide +kernel) | omega | (simp only [List.length_cons, List.length_nil, List.length_append, List.length_map, List.length_replicate, List.length_range] <;> omega) | rfl)) only [evEqs, List.getElem?_cons_zero, List.getElem?_cons_succ, List.getElem?_nil, List.set_cons_zero, List.set_cons_succ, List.map_cons, List.map_nil, List.length_cons, List.length_nil, List.length_append, List.cons_append, List.nil_append, List.length_map, List.length_singleton, Nat.reduceBEq, Nat.reduceAdd, Nat.reduceSub, Nat.reduceMul, Nat.reduceEqDiff, Nat.reduceLeDiff, Nat.reduceLT, if_false, if_true, ite_true, ite_false, ↓reduceIte, Bool.not_true, Bool.not_false, Bool.false_eq_true, decide_true, decide_false, eq_self, and_true, true_and, and_self, Nat.zero_le, Nat.zero_add, Option.bind_some, Option.bind_none, Nat.lt_irrefl, Int.reduceToNat, Int.reducePow, Int.reduceNeg, Int.reduceMul, Int.reduceAdd, Int.reduceSub, Int.reduceLT, Int.reduceLE, Int.reduceEq, beq_self_eq_true, wipeE, MP.at0, MP.at1, MP.at2, MP.atLit, hin, nD_snoc]
    exact ⟨hi2, _, _, _, _, rfl⟩
  · rintro s ⟨hi, x3, x4, x5, x6, rfl⟩
    rw [hlen]
    unfold readF
    simp (disch := (first | assumption | with_reducible rfl | decide +kernel | exact Or.inl (by decide +kernel) | exact Or.inr (by decide +kernel) | omega | (simp only [List.length_cons, List.length_nil, List.length_append, List.length_map, List.length_replicate, List.length_range] <;> omega) | rfl)) only [evEqs, List.getElem?_cons_zero, List.getElem?_cons_succ, List.getElem?_nil, List.set_cons_zero, List.set_cons_succ, List.map_cons, List.map_nil, List.length_cons, List.length_nil, List.length_append, List.cons_append, List.nil_append, List.length_map, List.length_singleton, Nat.reduceBEq, Nat.reduceAdd, Nat.reduceSub, Nat.reduceMul, Nat.reduceEqDiff, Nat.reduceLeDiff, Nat.reduceLT, if_false, if_true, ite_true, ite_false, ↓reduceIte, Bool.not_true, Bool.not_false, Bool.false_eq_true, decide_true, decide_false, eq_self, and_true, true_and, and_self, Nat.zero_le, Nat.zero_add, Option.bind_some, Option.bind_none, Nat.lt_irrefl, Int.reduceToNat, Int.reducePow, Int.reduceNeg, Int.reduceMul, Int.reduceAdd, Int.reduceSub, Int.reduceLT, Int.reduceLE, Int.reduceEq, beq_self_eq_true, wipeE, MP.at0, MP.at1, MP.at2, MP.atLit]

/-! ## which keys hang together -/
theorem conn_mono {R C : Nat} {E1 E2 : List (Nat × Nat)} (h1 : Fits R C E1) (h2 : ∀ e ∈ E1, sameB R C E2 e.1 e.2 = true) {r c : Nat} (hr : r < R) (hc : c < C) (h : sameB R C E1 r c = true) : sameB R C E2 r c = true := by
  have k := fold_closed R (fun u => (marksF R C E2).getD u 0 = (marksF R C E2).getD r 0) E1 (List.range (R + C)) (fun e he => by
    have hb := h1 e he
    have hs : (marksF R C E2).getD (R + e.2) 0 = (marksF R C E2).getD e.1 0 := of_decide_eq_true (h2 e he)
    rw [List.length_range]
    exact ⟨by rw [hs], by omega, by omega⟩) (fun u v hu hv huv => by
    rw [List.length_range] at hu hv
    have e1 : ∀ u, u < R + C → (List.range (R + C)).getD u 0 = u := fun u hu => by rw [List.getD_eq_getElem?_getD, List.getElem?_range hu]; rfl
    rw [e1 u hu, e1 v hv] at huv
    rw [huv]) (R + c) r (by rw [List.length_range]; omega) (by rw [List.length_range]; omega) (of_decide_eq_true h)
  exact decide_eq_true (k.mpr rfl)
theorem conn_self {R C : Nat} {E : List (Nat × Nat)} (h : Fits R C E) {e : Nat × Nat} (he : e ∈ E) : sameB R C E e.1 e.2 = true := decide_eq_true (mark_key h he).symm
theorem conn_sub {R C : Nat} {E1 E2 : List (Nat × Nat)} (h1 : Fits R C E1) (hf2 : Fits R C E2) (h2 : ∀ e ∈ E1, e ∈ E2) {r c : Nat} (hr : r < R) (hc : c < C) (h : sameB R C E1 r c = true) : sameB R C E2 r c = true :=
  conn_mono h1 (fun _ he => conn_self hf2 (h2 _ he)) hr hc h
theorem readF_eq {R C : Nat} {E1 E2 : List (Nat × Nat)} (h : ∀ r c, r < R → c < C → sameB R C E1 r c = sameB R C E2 r c) : readF R C E1 = readF R C E2 := by
  unfold readF
  refine List.map_congr_left fun r hr => ?_
  exact bitsum_congr C fun c hc => h r c (List.mem_range.mp hr) hc
theorem bitsum_bit (p : Nat → Bool) : ∀ (n c : Nat), c < n → bitsum p n / 2 ^ c % 2 = if p c then 1 else 0
  | n + 1, c, h => by
    show (bitsum p n + if p n then 2 ^ n else 0) / 2 ^ c % 2 = _
    have hlt := bitsum_lt p n
    by_cases hc : c = n
    · subst hc
      cases p c with
      | true =>
        rw [if_pos rfl, if_pos rfl, Nat.add_div_right _ (Nat.two_pow_pos c), Nat.div_eq_of_lt hlt]
      | false =>
        rw [if_neg Bool.false_ne_true, if_neg Bool.false_ne_true, Nat.add_zero, Nat.div_eq_of_lt hlt]
    · have hc2 : c < n := by omega
      have ih := bitsum_bit p n c hc2
      cases p n with
      | true =>
        rw [if_pos rfl, show 2 ^ n = 2 ^ c * 2 ^ (n - c) by rw [← Nat.pow_add]; congr 1; omega, Nat.add_mul_div_left _ _ (Nat.two_pow_pos c)]
        obtain ⟨m, hm⟩ : ∃ m, n - c = m + 1 := ⟨n - c - 1, by omega⟩
        rw [hm, Nat.pow_succ, ← ih]
        omega
      | false => rw [if_neg Bool.false_ne_true, Nat.add_zero]; exact ih
theorem readF_at {R C : Nat} {E : List (Nat × Nat)} {r : Nat} (hr : r < R) : (readF R C E).getD r 0 = bitsum (sameB R C E r) C := by
  unfold readF
  rw [List.getD_eq_getElem?_getD, List.getElem?_map, List.getElem?_range hr]
  rfl
theorem readF_len (R C : Nat) (E : List (Nat × Nat)) : (readF R C E).length = R := by unfold readF; simp
theorem readF_inj {R C : Nat} {E1 E2 : List (Nat × Nat)} (h : readF R C E1 = readF R C E2) {r c : Nat} (hr : r < R) (hc : c < C) : sameB R C E1 r c = sameB R C E2 r c := by
  have e : bitsum (sameB R C E1 r) C = bitsum (sameB R C E2 r) C := by rw [← readF_at hr, ← readF_at hr, h]
  have b1 := bitsum_bit (sameB R C E1 r) C c hc
  have b2 := bitsum_bit (sameB R C E2 r) C c hc
  rw [e, b2] at b1
  revert b1
  cases sameB R C E1 r c <;> cases sameB R C E2 r c <;> simp
/-- the keys that a reading lets be down -/
def clF (R C : Nat) (es E : List (Nat × Nat)) : List Nat := (List.range es.length).filter fun k => sameB R C E (es.getD k (0, 0)).1 (es.getD k (0, 0)).2
theorem clF_mem {R C : Nat} {es E : List (Nat × Nat)} {k : Nat} : k ∈ clF R C es E ↔ k < es.length ∧ sameB R C E (es.getD k (0, 0)).1 (es.getD k (0, 0)).2 = true := by
  unfold clF
  rw [List.mem_filter, List.mem_range]
theorem clF_lt {R C : Nat} {es E : List (Nat × Nat)} : ∀ k ∈ clF R C es E, k < es.length := fun k h => (clF_mem.mp h).1
theorem edges_mem {es : List (Nat × Nat)} {ks : List Nat} {e : Nat × Nat} : e ∈ edgesOf es ks ↔ ∃ k ∈ ks, es.getD k (0, 0) = e := by unfold edgesOf; rw [List.mem_map]
section
variable {R C : Nat} {es : List (Nat × Nat)} (hf : Fits R C es) {ks : List Nat} (hk : ∀ k ∈ ks, k < es.length)
include hf hk
theorem cl_sub : ∀ k ∈ ks, k ∈ clF R C es (edgesOf es ks) := fun k h => clF_mem.mpr ⟨hk k h, conn_self (edges_fit hf hk) (edges_mem.mpr ⟨k, h, rfl⟩)⟩
/-- any set of keys between reads alike -/
theorem cl_between {ms : List Nat} (h1 : ∀ k ∈ ks, k ∈ ms) (h2 : ∀ k ∈ ms, k ∈ clF R C es (edgesOf es ks)) : readF R C (edgesOf es ms) = readF R C (edgesOf es ks) := by
  have hm : ∀ k ∈ ms, k < es.length := fun k h => clF_lt k (h2 k h)
  have f1 := edges_fit hf hk
  have f2 := edges_fit hf hm
  refine readF_eq fun r c hr hc => ?_
  have a : sameB R C (edgesOf es ms) r c = true → sameB R C (edgesOf es ks) r c = true := conn_mono f2 (fun e he => by
    obtain ⟨k, h, rfl⟩ := edges_mem.mp he
    exact (clF_mem.mp (h2 k h)).2) hr hc
  have b : sameB R C (edgesOf es ks) r c = true → sameB R C (edgesOf es ms) r c = true := conn_sub f1 f2 (fun e he => by
    obtain ⟨k, h, rfl⟩ := edges_mem.mp he
    exact edges_mem.mpr ⟨k, h1 k h, rfl⟩) hr hc
  cases h3 : sameB R C (edgesOf es ms) r c with
  | true => exact (a h3).symm
  | false =>
    cases h4 : sameB R C (edgesOf es ks) r c with
    | true => rw [b h4] at h3; cases h3
    | false => rfl
theorem cl_reads : readF R C (edgesOf es (clF R C es (edgesOf es ks))) = readF R C (edgesOf es ks) := cl_between hf hk (cl_sub hf hk) fun _ h => h
omit hf hk in
/-- what reads alike lies within -/
theorem alike_sub (hf : Fits R C es) {ms : List Nat} (hm : ∀ k ∈ ms, k < es.length) (h : readF R C (edgesOf es ms) = readF R C (edgesOf es ks)) : ∀ k ∈ ms, k ∈ clF R C es (edgesOf es ks) := fun k hk2 => by
  have hb := hf.at k (hm k hk2)
  refine clF_mem.mpr ⟨hm k hk2, ?_⟩
  rw [← readF_inj h hb.1 hb.2]
  exact conn_self (edges_fit hf hm) (edges_mem.mpr ⟨k, hk2, rfl⟩)
end
def wOut (ks : List Nat) (k : Nat) : List Nat := ks.filter fun o => !decide (o = k)
theorem wOut_mem {ks : List Nat} {k j : Nat} : j ∈ wOut ks k ↔ j ∈ ks ∧ j ≠ k := by
  unfold wOut
  rw [List.mem_filter]
  simp
inductive Wd where
  | up | sure | unsure
  deriving DecidableEq
def Wd.s : Wd → Str
  | .up => "up"
  | .sure => "sure"
  | .unsure => "unsure"
theorem Wd.s_eq (a b : Wd) : (a.s == b.s) = decide (a = b) := by cases a <;> cases b <;> decide
theorem Wd.s_inj {a b : Wd} : (a.s = b.s) = (a = b) := by
  apply propext
  constructor
  · intro h
    have := Wd.s_eq a b
    rw [h, beq_self_eq_true] at this
    exact of_decide_eq_true this.symm
  · rintro rfl; rfl
/-- what is told of a key -/
def wordF (R C : Nat) (es : List (Nat × Nat)) (E : List (Nat × Nat)) (k : Nat) : Wd :=
  if k ∈ clF R C es E then (if readF R C (edgesOf es (wOut (clF R C es E) k)) = readF R C E then .unsure else .sure) else .up
def wordsF (R C : Nat) (es : List (Nat × Nat)) (E : List (Nat × Nat)) : List Wd := (List.range es.length).map (wordF R C es E)
def wdD (ws : List Wd) : List D := ws.map fun w => D.str w.s
theorem wdD_len (ws : List Wd) : (wdD ws).length = ws.length := by unfold wdD; simp
theorem wdD_snoc (ws : List Wd) (w : Wd) : wdD ws ++ [.str w.s] = wdD (ws ++ [w]) := by unfold wdD; simp
theorem wordsF_len (R C : Nat) (es E : List (Nat × Nat)) : (wordsF R C es E).length = es.length := by unfold wordsF; simp
theorem wdD_at {R C : Nat} {es E : List (Nat × Nat)} {k : Nat} (h : k < es.length) : (wdD (wordsF R C es E))[k]? = some (.str (wordF R C es E k).s) := by
  unfold wdD wordsF
  rw [List.getElem?_map, List.getElem?_map, List.getElem?_range h]
  rfl
theorem bit_and1 (n : Nat) : Builtin.bitAnd (n : Int) 1 = ((n % 2 : Nat) : Int) := by
  rw [PyProof.Rows.bitAnd_m1]
  omega
theorem frD_0 (R C : Nat) (es : List (Nat × Nat)) : gIx (frD R C es) (.int 0) = some ⟨.sh, .int R⟩ := rfl
theorem frD_1 (R C : Nat) (es : List (Nat × Nat)) : gIx (frD R C es) (.int 1) = some ⟨.sh, .int C⟩ := rfl
theorem frD_2 (R C : Nat) (es : List (Nat × Nat)) : gIx (frD R C es) (.int 2) = some ⟨.sh, .tup (spsD es)⟩ := rfl
section
variable {R C : Nat} {es : List (Nat × Nat)} (hR : R ≤ 6) (hC : C ≤ 6) (hf : Fits R C es) (hn : es.length ≤ 12) {ks : List Nat} (hk : ∀ k ∈ ks, k < es.length)
include hR hC hf hn hk
theorem m_keys_in (E : List (Nat × Nat)) : sem_keys_in [frD R C es, .tup (nD (readF R C E))] [] = .ok (.v (.tup (nD (clF R C es E)))) [] := by
  have hl := spsD_len es
  have hrl := rngLenN es.length
  have hrd := readF_len R C E
  have hc : compL (.nm 3) (pB (p2 gEq (p2 gAnd (p2 gShr (p2 gIx (pVar 1) (p2 gIx (p2 gIx (pVar 2) (pVar 3)) (pC (.int 0)))) (p2 gIx (p2 gIx (pVar 2) (pVar 3)) (pC (.int 1)))) (pC (.int 1))) (pC (.int 1)))) (pD (pVar 3))
      ⟨[.v (frD R C es), .v (.tup (nD (readF R C E))), .v (.tup (spsD es)), .un], []⟩ (rng 0 (es.length : Int)) = .ok (nD (clF R C es E)) := by
    rw [rng_nD]
    unfold clF
    refine compN _ _ fun k hk2 => ⟨_, b_nm .., ?_, fun _ => ?_⟩
    · have hk3 := List.mem_range.mp hk2
      have hsp := spsD_at es k hk3
      have hb := hf.at k hk3
      unfold spD at hsp
      generalize es.getD k (0, 0) = e at hsp hb
      have e1 := nD_at (readF R C E) e.1 (by omega)
      rw [readF_at hb.1] at e1
      have hbit := bitsum_bit (sameB R C E e.1) C e.2 hb.2
      generalize bitsum (sameB R C E e.1) C = v at e1 hbit
      have e2 : ((v : Nat) : Int) / 2 ^ e.2 = ((v / 2 ^ e.2 : Nat) : Int) := by
        rw [Int.natCast_ediv, Int.natCast_pow]
        rfl
      have e3 : (((v / 2 ^ e.2 % 2 : Nat) : Int) = 1) = (sameB R C E e.1 e.2 = true) := by
        rw [hbit]
        cases sameB R C E e.1 e.2 <;> simp
      simp (disch := (first | assumption | with_reducible rfl | decide +kernel | exact Or.inl (by decide +kernel) | exact Or.inr (by decide +kernel) | omega | (simp only [List.length_cons, List.length_nil, List.length_append, List.length_map, List.length_replicate, List.length_range] <;> omega) | rfl)) only [evEqs, List.getElem?_cons_zero, List.getElem?_cons_succ, List.getElem?_nil, List.set_cons_zero, List.set_cons_succ, List.map_cons, List.map_nil, List.length_cons, List.length_nil, List.length_append, List.cons_append, List.nil_append, List.length_map, List.length_singleton, Nat.reduceBEq, Nat.reduceAdd, Nat.reduceSub, Nat.reduceMul, Nat.reduceEqDiff, Nat.reduceLeDiff, Nat.reduceLT, if_false, if_true, ite_true, ite_false, ↓reduceIte, Bool.not_true, Bool.not_false, Bool.false_eq_true, decide_true, decide_false, eq_self, and_true, true_and, and_self, Nat.zero_le, Nat.zero_add, Option.bind_some, Option.bind_none, Nat.lt_irrefl, Int.reduceToNat, Int.reducePow, Int.reduceNeg, Int.reduceMul, Int.reduceAdd, Int.reduceSub, Int.reduceLT, Int.reduceLE, Int.reduceEq, beq_self_eq_true, wipeE, MP.at0, MP.at1, MP.at2, MP.atLit, atN, hsp, e1, Int.toNat_natCast, e2, bit_and1, e3, Bool.decide_eq_true]
    · simp (disch := (first | assumption | with_reducible rfl | decide +kernel | exact Or.inl (by decide +kernel) | exact Or.inr (by decide +kernel) | omega | (simp only [List.length_cons, List.length_nil, List.length_append, List.length_map, List.length_replicate, List.length_range] <;> omega) | rfl)) only [evEqs, List.getElem?_cons_zero, List.getElem?_cons_succ, List.getElem?_nil, List.set_cons_zero, List.set_cons_succ, List.map_cons, List.map_nil, List.length_cons, List.length_nil, List.length_append, List.cons_append, List.nil_append, List.length_map, List.length_singleton, Nat.reduceBEq, Nat.reduceAdd, Nat.reduceSub, Nat.reduceMul, Nat.reduceEqDiff, Nat.reduceLeDiff, Nat.reduceLT, if_false, if_true, ite_true, ite_false, ↓reduceIte, Bool.not_true, Bool.not_false, Bool.false_eq_true, decide_true, decide_false, eq_self, and_true, true_and, and_self, Nat.zero_le, Nat.zero_add, Option.bind_some, Option.bind_none, Nat.lt_irrefl, Int.reduceToNat, Int.reducePow, Int.reduceNeg, Int.reduceMul, Int.reduceAdd, Int.reduceSub, Int.reduceLT, Int.reduceLE, Int.reduceEq, beq_self_eq_true, wipeE, MP.at0, MP.at1, MP.at2, MP.atLit]
  have hcl : (nD (clF R C es E)).length ≤ 12 := by
    rw [nD_len]
    unfold clF
    exact Nat.le_trans (List.length_filter_le ..) (by simp; omega)
  unfold sem_keys_in b_keys_in
  simp (disch := (first | assumption | with_reducible rfl | decide +kernel | exact Or.inl (by decide +kernel) | exact Or.inr (by decide +kernel) | omega | (simp only [List.length_cons, List.length_nil, List.length_append, List.length_map, List.length_replicate, List.length_range] <;> omega) | rfl)) only [evEqs, List.getElem?_cons_zero, List.getElem?_cons_succ, List.getElem?_nil, List.set_cons_zero, List.set_cons_succ, List.map_cons, List.map_nil, List.length_cons, List.length_nil, List.length_append, List.cons_append, List.nil_append, List.length_map, List.length_singleton, Nat.reduceBEq, Nat.reduceAdd, Nat.reduceSub, Nat.reduceMul, Nat.reduceEqDiff, Nat.reduceLeDiff, Nat.reduceLT, if_false, if_true, ite_true, ite_false, ↓reduceIte, Bool.not_true, Bool.not_false, Bool.false_eq_true, decide_true, decide_false, eq_self, and_true, true_and, and_self, Nat.zero_le, Nat.zero_add, Option.bind_some, Option.bind_none, Nat.lt_irrefl, Int.reduceToNat, Int.reducePow, Int.reduceNeg, Int.reduceMul, Int.reduceAdd, Int.reduceSub, Int.reduceLT, Int.reduceLE, Int.reduceEq, beq_self_eq_true, wipeE, MP.at0, MP.at1, MP.at2, MP.atLit, frD_2, hl, hc]
theorem m_checked : sem_checked_keys [frD R C es, .tup (nD (readF R C (edgesOf es ks)))] [] = .ok (.v (.tup (nD (clF R C es (edgesOf es ks))))) [] := by
  have hki := m_keys_in hR hC hf hn hk (edgesOf es ks)
  have hre := m_reads R C hR hC es hf (clF R C es (edgesOf es ks)) clF_lt
  rw [cl_reads hf hk] at hre
  have hrl := nD_len (readF R C (edgesOf es ks))
  have hrd := readF_len R C (edgesOf es ks)
  have hval : ∀ i v, (readF R C (edgesOf es ks))[i]? = some v → v < 2 ^ C := fun i v h => by
    unfold readF at h
    rw [List.getElem?_map] at h
    cases hr : (List.range R)[i]? with
    | none => rw [hr] at h; cases h
    | some r => rw [hr] at h; cases h; exact bitsum_lt _ C
  have hne := gNe_ints (readF R C (edgesOf es ks)) (readF R C (edgesOf es ks))
  generalize readF R C (edgesOf es ks) = rd at *
  unfold sem_checked_keys
  refine run_ex (Q := fun r => r = .ok (.v (.tup (nD (clF R C es (edgesOf es ks))))) []) [.v (frD R C es), .v (.tup (nD rd)), .un, .un] rfl ?_
  unfold b_checked_keys
  have hl2 : ((nD rd).length : Int) = R := by omega
  refine sqR (s' := ⟨[.v (frD R C es), .v (.tup (nD rd)), .un, .un], []⟩) (by simp (disch := (first | assumption | with_reducible rfl | decide +kernel | exact Or.inl (by decide +kernel) | exact Or.inr (by decide +kernel) | omega | (simp only [List.length_cons, List.length_nil, List.length_append, List.length_map, List.length_replicate, List.length_range] <;> omega) | rfl)) only [evEqs, List.getElem?_cons_zero, List.getElem?_cons_succ, List.getElem?_nil, List.set_cons_zero, List.set_cons_succ, List.map_cons, List.map_nil, List.length_cons, List.length_nil, List.length_append, List.cons_append, List.nil_append, List.length_map, List.length_singleton, Nat.reduceBEq, Nat.reduceAdd, Nat.reduceSub, Nat.reduceMul, Nat.reduceEqDiff, Nat.reduceLeDiff, Nat.reduceLT, if_false, if_true, ite_true, ite_false, ↓reduceIte, Bool.not_true, Bool.not_false, Bool.false_eq_true, decide_true, decide_false, eq_self, and_true, true_and, and_self, Nat.zero_le, Nat.zero_add, Option.bind_some, Option.bind_none, Nat.lt_irrefl, Int.reduceToNat, Int.reducePow, Int.reduceNeg, Int.reduceMul, Int.reduceAdd, Int.reduceSub, Int.reduceLT, Int.reduceLE, Int.reduceEq, beq_self_eq_true, wipeE, MP.at0, MP.at1, MP.at2, MP.atLit, frD_0, hl2]) ?_
  refine forR (nD rd) (fun i s => ∃ x2, s = ⟨[.v (frD R C es), .v (.tup (nD rd)), x2, .un], []⟩) (by simp (disch := (first | assumption | with_reducible rfl | decide +kernel | exact Or.inl (by decide +kernel) | exact Or.inr (by decide +kernel) | omega | (simp only [List.length_cons, List.length_nil, List.length_append, List.length_map, List.length_replicate, List.length_range] <;> omega) | rfl)) only [evEqs, List.getElem?_cons_zero, List.getElem?_cons_succ, List.getElem?_nil, List.set_cons_zero, List.set_cons_succ, List.map_cons, List.map_nil, List.length_cons, List.length_nil, List.length_append, List.cons_append, List.nil_append, List.length_map, List.length_singleton, Nat.reduceBEq, Nat.reduceAdd, Nat.reduceSub, Nat.reduceMul, Nat.reduceEqDiff, Nat.reduceLeDiff, Nat.reduceLT, if_false, if_true, ite_true, ite_false, ↓reduceIte, Bool.not_true, Bool.not_false, Bool.false_eq_true, decide_true, decide_false, eq_self, and_true, true_and, and_self, Nat.zero_le, Nat.zero_add, Option.bind_some, Option.bind_none, Nat.lt_irrefl, Int.reduceToNat, Int.reducePow, Int.reduceNeg, Int.reduceMul, Int.reduceAdd, Int.reduceSub, Int.reduceLT, Int.reduceLE, Int.reduceEq, beq_self_eq_true, wipeE, MP.at0, MP.at1, MP.at2, MP.atLit]) ⟨_, rfl⟩ ?_ ?_
  · rintro i d s hd ⟨x2, rfl⟩
    obtain ⟨v, hv, rfl⟩ := nD_get _ _ _ hd
    have hlt := hval i v hv
    have h1 : (0 : Int) ≤ (v : Int) := by omega
    have h2 : (v : Int) < 1 * 2 ^ C := by
      rw [Int.one_mul]
      have : ((v : Nat) : Int) < ((2 ^ C : Nat) : Int) := by omega
      rw [Int.natCast_pow] at this
      exact this
    refine ⟨_, b_nm .., ?_⟩
    unfold lp_checked_keys_1
    simp (disch := (first | assumption | with_reducible rfl | decide +kernel | exact Or.inl (by decide +kernel) | exact Or.inr (by decide +kernel) | omega | (simp only [List.length_cons, List.length_nil, List.length_append, List.length_map, List.length_replicate, List.length_range] <;> omega) | rfl)) only [evEqs, List.getElem?_cons_zero, List.getElem?_cons_succ, List.getElem?_nil, List.set_cons_zero, List.set_cons_succ, List.map_cons, List.map_nil, List.length_cons, List.length_nil, List.length_append, List.cons_append, List.nil_append, List.length_map, List.length_singleton, Nat.reduceBEq, Nat.reduceAdd, Nat.reduceSub, Nat.reduceMul, Nat.reduceEqDiff, Nat.reduceLeDiff, Nat.reduceLT, if_false, if_true, ite_true, ite_false, ↓reduceIte, Bool.not_true, Bool.not_false, Bool.false_eq_true, decide_true, decide_false, eq_self, and_true, true_and, and_self, Nat.zero_le, Nat.zero_add, Option.bind_some, Option.bind_none, Nat.lt_irrefl, Int.reduceToNat, Int.reducePow, Int.reduceNeg, Int.reduceMul, Int.reduceAdd, Int.reduceSub, Int.reduceLT, Int.reduceLE, Int.reduceEq, beq_self_eq_true, wipeE, MP.at0, MP.at1, MP.at2, MP.atLit, frD_1, Int.toNat_natCast, h1, h2]
    exact ⟨_, rfl⟩
  · rintro s ⟨x2, rfl⟩
    have hne : gNe (.tup (nD rd)) (.tup (nD rd)) = some ⟨.sh, .bool false⟩ := by
      have := hne
      simp only [decide_true, Bool.not_true] at this
      exact this
    simp (disch := (first | assumption | with_reducible rfl | decide +kernel | exact Or.inl (by decide +kernel) | exact Or.inr (by decide +kernel) | omega | (simp only [List.length_cons, List.length_nil, List.length_append, List.length_map, List.length_replicate, List.length_range] <;> omega) | rfl)) only [evEqs, List.getElem?_cons_zero, List.getElem?_cons_succ, List.getElem?_nil, List.set_cons_zero, List.set_cons_succ, List.map_cons, List.map_nil, List.length_cons, List.length_nil, List.length_append, List.cons_append, List.nil_append, List.length_map, List.length_singleton, Nat.reduceBEq, Nat.reduceAdd, Nat.reduceSub, Nat.reduceMul, Nat.reduceEqDiff, Nat.reduceLeDiff, Nat.reduceLT, if_false, if_true, ite_true, ite_false, ↓reduceIte, Bool.not_true, Bool.not_false, Bool.false_eq_true, decide_true, decide_false, eq_self, and_true, true_and, and_self, Nat.zero_le, Nat.zero_add, Option.bind_some, Option.bind_none, Nat.lt_irrefl, Int.reduceToNat, Int.reducePow, Int.reduceNeg, Int.reduceMul, Int.reduceAdd, Int.reduceSub, Int.reduceLT, Int.reduceLE, Int.reduceEq, beq_self_eq_true, wipeE, MP.at0, MP.at1, MP.at2, MP.atLit, hki, hre, hne]
omit hR hC hf hn hk in
theorem m_without (ks : List Nat) (hl : ks.length ≤ 100) (k : Nat) : sem_without [.tup (nD ks), .int k] [] = .ok (.v (.tup (nD (wOut ks k)))) [] := by
  have hkl := nD_len ks
  have hwl : (nD (wOut ks k)).length ≤ 100 := by
    rw [nD_len]
    exact Nat.le_trans (List.length_filter_le ..) hl
  have hc : compL (.nm 2) (pB (p2 gNe (pVar 2) (pVar 1))) (pD (pVar 2)) ⟨[.v (.tup (nD ks)), .v (.int k), .un], []⟩ (nD ks) = .ok (nD (wOut ks k)) := by
    unfold wOut
    refine compN _ _ fun j _ => ⟨_, b_nm .., ?_, fun _ => ?_⟩
    · have e : ((j : Int) = (k : Int)) = (j = k) := by apply propext; omega
      simp (disch := (first | assumption | with_reducible rfl | decide +kernel | exact Or.inl (by decide +kernel) | exact Or.inr (by decide +kernel) | omega | (simp only [List.length_cons, List.length_nil, List.length_append, List.length_map, List.length_replicate, List.length_range] <;> omega) | rfl)) only [evEqs, List.getElem?_cons_zero, List.getElem?_cons_succ, List.getElem?_nil, List.set_cons_zero, List.set_cons_succ, List.map_cons, List.map_nil, List.length_cons, List.length_nil, List.length_append, List.cons_append, List.nil_append, List.length_map, List.length_singleton, Nat.reduceBEq, Nat.reduceAdd, Nat.reduceSub, Nat.reduceMul, Nat.reduceEqDiff, Nat.reduceLeDiff, Nat.reduceLT, if_false, if_true, ite_true, ite_false, ↓reduceIte, Bool.not_true, Bool.not_false, Bool.false_eq_true, decide_true, decide_false, eq_self, and_true, true_and, and_self, Nat.zero_le, Nat.zero_add, Option.bind_some, Option.bind_none, Nat.lt_irrefl, Int.reduceToNat, Int.reducePow, Int.reduceNeg, Int.reduceMul, Int.reduceAdd, Int.reduceSub, Int.reduceLT, Int.reduceLE, Int.reduceEq, beq_self_eq_true, wipeE, MP.at0, MP.at1, MP.at2, MP.atLit, e]
    · simp (disch := (first | assumption | with_reducible rfl | decide +kernel | exact Or.inl (by decide +kernel) | exact Or.inr (by decide +kernel) | omega | (simp only [List.length_cons, List.length_nil, List.length_append, List.length_map, List.length_replicate, List.length_range] <;> omega) | rfl)) only [evEqs, List.getElem?_cons_zero, List.getElem?_cons_succ, List.getElem?_nil, List.set_cons_zero, List.set_cons_succ, List.map_cons, List.map_nil, List.length_cons, List.length_nil, List.length_append, List.cons_append, List.nil_append, List.length_map, List.length_singleton, Nat.reduceBEq, Nat.reduceAdd, Nat.reduceSub, Nat.reduceMul, Nat.reduceEqDiff, Nat.reduceLeDiff, Nat.reduceLT, if_false, if_true, ite_true, ite_false, ↓reduceIte, Bool.not_true, Bool.not_false, Bool.false_eq_true, decide_true, decide_false, eq_self, and_true, true_and, and_self, Nat.zero_le, Nat.zero_add, Option.bind_some, Option.bind_none, Nat.lt_irrefl, Int.reduceToNat, Int.reducePow, Int.reduceNeg, Int.reduceMul, Int.reduceAdd, Int.reduceSub, Int.reduceLT, Int.reduceLE, Int.reduceEq, beq_self_eq_true, wipeE, MP.at0, MP.at1, MP.at2, MP.atLit]
  unfold sem_without b_without
  simp (disch := (first | assumption | with_reducible rfl | decide +kernel | exact Or.inl (by decide +kernel) | exact Or.inr (by decide +kernel) | omega | (simp only [List.length_cons, List.length_nil, List.length_append, List.length_map, List.length_replicate, List.length_range] <;> omega) | rfl)) only [evEqs, List.getElem?_cons_zero, List.getElem?_cons_succ, List.getElem?_nil, List.set_cons_zero, List.set_cons_succ, List.map_cons, List.map_nil, List.length_cons, List.length_nil, List.length_append, List.cons_append, List.nil_append, List.length_map, List.length_singleton, Nat.reduceBEq, Nat.reduceAdd, Nat.reduceSub, Nat.reduceMul, Nat.reduceEqDiff, Nat.reduceLeDiff, Nat.reduceLT, if_false, if_true, ite_true, ite_false, ↓reduceIte, Bool.not_true, Bool.not_false, Bool.false_eq_true, decide_true, decide_false, eq_self, and_true, true_and, and_self, Nat.zero_le, Nat.zero_add, Option.bind_some, Option.bind_none, Nat.lt_irrefl, Int.reduceToNat, Int.reducePow, Int.reduceNeg, Int.reduceMul, Int.reduceAdd, Int.reduceSub, Int.reduceLT, Int.reduceLE, Int.reduceEq, beq_self_eq_true, wipeE, MP.at0, MP.at1, MP.at2, MP.atLit, hc]
theorem m_seen : sem_seen [frD R C es, .tup (nD (readF R C (edgesOf es ks)))] [] = .ok (.v (.tup (wdD (wordsF R C es (edgesOf es ks))))) [] := by
  have hck := m_checked hR hC hf hn hk
  have hsl := spsD_len es
  have hcl : (clF R C es (edgesOf es ks)).length ≤ 12 := by
    unfold clF
    exact Nat.le_trans (List.length_filter_le ..) (by simp; omega)
  unfold sem_seen
  refine run_ex (Q := fun r => r = .ok (.v (.tup (wdD (wordsF R C es (edgesOf es ks))))) []) [.v (frD R C es), .v (.tup (nD (readF R C (edgesOf es ks)))), .un, .un, .un] rfl ?_
  unfold b_seen
  refine sqR (s' := ⟨[.v (frD R C es), .v (.tup (nD (readF R C (edgesOf es ks)))), .v (.tup (nD (clF R C es (edgesOf es ks)))), .un, .un], []⟩) (by simp (disch := (first | assumption | with_reducible rfl | decide +kernel | exact Or.inl (by decide +kernel) | exact Or.inr (by decide +kernel) | omega | (simp only [List.length_cons, List.length_nil, List.length_append, List.length_map, List.length_replicate, List.length_range] <;> omega) | rfl)) only [evEqs, List.getElem?_cons_zero, List.getElem?_cons_succ, List.getElem?_nil, List.set_cons_zero, List.set_cons_succ, List.map_cons, List.map_nil, List.length_cons, List.length_nil, List.length_append, List.cons_append, List.nil_append, List.length_map, List.length_singleton, Nat.reduceBEq, Nat.reduceAdd, Nat.reduceSub, Nat.reduceMul, Nat.reduceEqDiff, Nat.reduceLeDiff, Nat.reduceLT, if_false, if_true, ite_true, ite_false, ↓reduceIte, Bool.not_true, Bool.not_false, Bool.false_eq_true, decide_true, decide_false, eq_self, and_true, true_and, and_self, Nat.zero_le, Nat.zero_add, Option.bind_some, Option.bind_none, Nat.lt_irrefl, Int.reduceToNat, Int.reducePow, Int.reduceNeg, Int.reduceMul, Int.reduceAdd, Int.reduceSub, Int.reduceLT, Int.reduceLE, Int.reduceEq, beq_self_eq_true, wipeE, MP.at0, MP.at1, MP.at2, MP.atLit, hck]) ?_
  refine sqR (s' := ⟨[.v (frD R C es), .v (.tup (nD (readF R C (edgesOf es ks)))), .v (.tup (nD (clF R C es (edgesOf es ks)))), .own (.list []), .un], []⟩) (by simp (disch := (first | assumption | with_reducible rfl | decide +kernel | exact Or.inl (by decide +kernel) | exact Or.inr (by decide +kernel) | omega | (simp only [List.length_cons, List.length_nil, List.length_append, List.length_map, List.length_replicate, List.length_range] <;> omega) | rfl)) only [evEqs, List.getElem?_cons_zero, List.getElem?_cons_succ, List.getElem?_nil, List.set_cons_zero, List.set_cons_succ, List.map_cons, List.map_nil, List.length_cons, List.length_nil, List.length_append, List.cons_append, List.nil_append, List.length_map, List.length_singleton, Nat.reduceBEq, Nat.reduceAdd, Nat.reduceSub, Nat.reduceMul, Nat.reduceEqDiff, Nat.reduceLeDiff, Nat.reduceLT, if_false, if_true, ite_true, ite_false, ↓reduceIte, Bool.not_true, Bool.not_false, Bool.false_eq_true, decide_true, decide_false, eq_self, and_true, true_and, and_self, Nat.zero_le, Nat.zero_add, Option.bind_some, Option.bind_none, Nat.lt_irrefl, Int.reduceToNat, Int.reducePow, Int.reduceNeg, Int.reduceMul, Int.reduceAdd, Int.reduceSub, Int.reduceLT, Int.reduceLE, Int.reduceEq, beq_self_eq_true, wipeE, MP.at0, MP.at1, MP.at2, MP.atLit]) ?_
  refine forR (rng 0 (es.length : Int)) (fun i s => ∃ x4, s = ⟨[.v (frD R C es), .v (.tup (nD (readF R C (edgesOf es ks)))), .v (.tup (nD (clF R C es (edgesOf es ks)))), .own (.list (wdD ((List.range i).map (wordF R C es (edgesOf es ks))))), x4], []⟩) (by simp (disch := (first | assumption | with_reducible rfl | decide +kernel | exact Or.inl (by decide +kernel) | exact Or.inr (by decide +kernel) | omega | (simp only [List.length_cons, List.length_nil, List.length_append, List.length_map, List.length_replicate, List.length_range] <;> omega) | rfl)) only [evEqs, List.getElem?_cons_zero, List.getElem?_cons_succ, List.getElem?_nil, List.set_cons_zero, List.set_cons_succ, List.map_cons, List.map_nil, List.length_cons, List.length_nil, List.length_append, List.cons_append, List.nil_append, List.length_map, List.length_singleton, Nat.reduceBEq, Nat.reduceAdd, Nat.reduceSub, Nat.reduceMul, Nat.reduceEqDiff, Nat.reduceLeDiff, Nat.reduceLT, if_false, if_true, ite_true, ite_false, ↓reduceIte, Bool.not_true, Bool.not_false, Bool.false_eq_true, decide_true, decide_false, eq_self, and_true, true_and, and_self, Nat.zero_le, Nat.zero_add, Option.bind_some, Option.bind_none, Nat.lt_irrefl, Int.reduceToNat, Int.reducePow, Int.reduceNeg, Int.reduceMul, Int.reduceAdd, Int.reduceSub, Int.reduceLT, Int.reduceLE, Int.reduceEq, beq_self_eq_true, wipeE, MP.at0, MP.at1, MP.at2, MP.atLit, frD_2, hsl]) ⟨_, rfl⟩ ?_ ?_
  · rintro i d s hd ⟨x4, rfl⟩
    obtain ⟨rfl, hi⟩ := rngAt hd
    have hlen : (wdD ((List.range i).map (wordF R C es (edgesOf es ks)))).length = i := by rw [wdD_len]; simp
    have hwo := m_without (clF R C es (edgesOf es ks)) (by omega) i
    have hre := m_reads R C hR hC es hf (wOut (clF R C es (edgesOf es ks)) i) (fun k h => clF_lt k (wOut_mem.mp h).1)
    have hsn : (List.range (i + 1)).map (wordF R C es (edgesOf es ks)) = (List.range i).map (wordF R C es (edgesOf es ks)) ++ [wordF R C es (edgesOf es ks) i] := by rw [List.range_succ, List.map_append]; rfl
    have hnin : gNin (.int i) (.tup (nD (clF R C es (edgesOf es ks)))) = some ⟨.sh, .bool (!decide (i ∈ clF R C es (edgesOf es ks)))⟩ := by
      rw [nD_nI, g_ninT]
      simp only [mem_nI]
    have heq : gEq (.tup (nD (readF R C (edgesOf es (wOut (clF R C es (edgesOf es ks)) i))))) (.tup (nD (readF R C (edgesOf es ks)))) = some ⟨.sh, .bool (decide (readF R C (edgesOf es (wOut (clF R C es (edgesOf es ks)) i)) = readF R C (edgesOf es ks)))⟩ := gEq_ints _ _
    refine ⟨_, b_nm .., ?_⟩
    unfold lp_seen_1
    rw [hsn]
    by_cases h1 : i ∈ clF R C es (edgesOf es ks)
    · by_cases h2 : readF R C (edgesOf es (wOut (clF R C es (edgesOf es ks)) i)) = readF R C (edgesOf es ks)
      · have hw : wordF R C es (edgesOf es ks) i = .unsure := by unfold wordF; rw [if_pos h1, if_pos h2]
        have hs := wdD_snoc ((List.range i).map (wordF R C es (edgesOf es ks))) .unsure
        have hs : wdD ((List.range i).map (wordF R C es (edgesOf es ks))) ++ [.str "unsure"] = _ := hs
        rw [hw]
        rw [h2] at hre heq
        simp only [decide_true] at heq
        simp (disch := (first | assumption | with_reducible rfl | decide +kernel | exact Or.inl (by decide +kernel) | exact Or.inr (by decide +kernel) | omega | (simp only [List.length_cons, List.length_nil, List.length_append, List.length_map, List.length_replicate, List.length_range] <;> omega) | rfl)) only [evEqs, List.getElem?_cons_zero, List.getElem?_cons_succ, List.getElem?_nil, List.set_cons_zero, List.set_cons_succ, List.map_cons, List.map_nil, List.length_cons, List.length_nil, List.length_append, List.cons_append, List.nil_append, List.length_map, List.length_singleton, Nat.reduceBEq, Nat.reduceAdd, Nat.reduceSub, Nat.reduceMul, Nat.reduceEqDiff, Nat.reduceLeDiff, Nat.reduceLT, if_false, if_true, ite_true, ite_false, ↓reduceIte, Bool.not_true, Bool.not_false, Bool.false_eq_true, decide_true, decide_false, eq_self, and_true, true_and, and_self, Nat.zero_le, Nat.zero_add, Option.bind_some, Option.bind_none, Nat.lt_irrefl, Int.reduceToNat, Int.reducePow, Int.reduceNeg, Int.reduceMul, Int.reduceAdd, Int.reduceSub, Int.reduceLT, Int.reduceLE, Int.reduceEq, beq_self_eq_true, wipeE, MP.at0, MP.at1, MP.at2, MP.atLit, hnin, h1, hwo, hre, heq, hs]
        exact ⟨_, rfl⟩
      · have hw : wordF R C es (edgesOf es ks) i = .sure := by unfold wordF; rw [if_pos h1, if_neg h2]
        have hs := wdD_snoc ((List.range i).map (wordF R C es (edgesOf es ks))) .sure
        have hs : wdD ((List.range i).map (wordF R C es (edgesOf es ks))) ++ [.str "sure"] = _ := hs
        rw [hw]
        simp (disch := (first | assumption | with_reducible rfl | decide +kernel | exact Or.inl (by decide +kernel) | exact Or.inr (by decide +kernel) | omega | (simp only [List.length_cons, List.length_nil, List.length_append, List.length_map, List.length_replicate, List.length_range] <;> omega) | rfl)) only [evEqs, List.getElem?_cons_zero, List.getElem?_cons_succ, List.getElem?_nil, List.set_cons_zero, List.set_cons_succ, List.map_cons, List.map_nil, List.length_cons, List.length_nil, List.length_append, List.cons_append, List.nil_append, List.length_map, List.length_singleton, Nat.reduceBEq, Nat.reduceAdd, Nat.reduceSub, Nat.reduceMul, Nat.reduceEqDiff, Nat.reduceLeDiff, Nat.reduceLT, if_false, if_true, ite_true, ite_false, ↓reduceIte, Bool.not_true, Bool.not_false, Bool.false_eq_true, decide_true, decide_false, eq_self, and_true, true_and, and_self, Nat.zero_le, Nat.zero_add, Option.bind_some, Option.bind_none, Nat.lt_irrefl, Int.reduceToNat, Int.reducePow, Int.reduceNeg, Int.reduceMul, Int.reduceAdd, Int.reduceSub, Int.reduceLT, Int.reduceLE, Int.reduceEq, beq_self_eq_true, wipeE, MP.at0, MP.at1, MP.at2, MP.atLit, hnin, h1, hwo, hre, heq, h2, hs]
        exact ⟨_, rfl⟩
    · have hw : wordF R C es (edgesOf es ks) i = .up := by unfold wordF; rw [if_neg h1]
      have hs := wdD_snoc ((List.range i).map (wordF R C es (edgesOf es ks))) .up
      have hs : wdD ((List.range i).map (wordF R C es (edgesOf es ks))) ++ [.str "up"] = _ := hs
      rw [hw]
      simp (disch := (first | assumption | with_reducible rfl | decide +kernel | exact Or.inl (by decide +kernel) | exact Or.inr (by decide +kernel) | omega | (simp only [List.length_cons, List.length_nil, List.length_append, List.length_map, List.length_replicate, List.length_range] <;> omega) | rfl)) only [evEqs, List.getElem?_cons_zero, List.getElem?_cons_succ, List.getElem?_nil, List.set_cons_zero, List.set_cons_succ, List.map_cons, List.map_nil, List.length_cons, List.length_nil, List.length_append, List.cons_append, List.nil_append, List.length_map, List.length_singleton, Nat.reduceBEq, Nat.reduceAdd, Nat.reduceSub, Nat.reduceMul, Nat.reduceEqDiff, Nat.reduceLeDiff, Nat.reduceLT, if_false, if_true, ite_true, ite_false, ↓reduceIte, Bool.not_true, Bool.not_false, Bool.false_eq_true, decide_true, decide_false, eq_self, and_true, true_and, and_self, Nat.zero_le, Nat.zero_add, Option.bind_some, Option.bind_none, Nat.lt_irrefl, Int.reduceToNat, Int.reducePow, Int.reduceNeg, Int.reduceMul, Int.reduceAdd, Int.reduceSub, Int.reduceLT, Int.reduceLE, Int.reduceEq, beq_self_eq_true, wipeE, MP.at0, MP.at1, MP.at2, MP.atLit, hnin, h1, hs]
      exact ⟨_, rfl⟩
  · rintro s ⟨x4, rfl⟩
    rw [rngLenN]
    unfold wordsF
    simp (disch := (first | assumption | with_reducible rfl | decide +kernel | exact Or.inl (by decide +kernel) | exact Or.inr (by decide +kernel) | omega | (simp only [List.length_cons, List.length_nil, List.length_append, List.length_map, List.length_replicate, List.length_range] <;> omega) | rfl)) only [evEqs, List.getElem?_cons_zero, List.getElem?_cons_succ, List.getElem?_nil, List.set_cons_zero, List.set_cons_succ, List.map_cons, List.map_nil, List.length_cons, List.length_nil, List.length_append, List.cons_append, List.nil_append, List.length_map, List.length_singleton, Nat.reduceBEq, Nat.reduceAdd, Nat.reduceSub, Nat.reduceMul, Nat.reduceEqDiff, Nat.reduceLeDiff, Nat.reduceLT, if_false, if_true, ite_true, ite_false, ↓reduceIte, Bool.not_true, Bool.not_false, Bool.false_eq_true, decide_true, decide_false, eq_self, and_true, true_and, and_self, Nat.zero_le, Nat.zero_add, Option.bind_some, Option.bind_none, Nat.lt_irrefl, Int.reduceToNat, Int.reducePow, Int.reduceNeg, Int.reduceMul, Int.reduceAdd, Int.reduceSub, Int.reduceLT, Int.reduceLE, Int.reduceEq, beq_self_eq_true, wipeE, MP.at0, MP.at1, MP.at2, MP.atLit]
end

/-! ## keys in rising order -/
def Asc (n : Nat) (ks : List Nat) : Prop := ks = (List.range n).filter fun k => decide (k ∈ ks)
theorem Asc.lt {n : Nat} {ks : List Nat} (h : Asc n ks) : ∀ k ∈ ks, k < n := fun k hk => by
  rw [h] at hk
  exact List.mem_range.mp (List.mem_filter.mp hk).1
theorem Asc.len {n : Nat} {ks : List Nat} (h : Asc n ks) : ks.length ≤ n := by
  rw [h]
  exact Nat.le_trans (List.length_filter_le ..) (by simp)
theorem asc_filter (n : Nat) (p : Nat → Bool) : Asc n ((List.range n).filter p) := by
  unfold Asc
  refine List.filter_congr fun k hk => ?_
  have : (k ∈ (List.range n).filter p) = (p k = true) := by
    apply propext
    rw [List.mem_filter]
    exact ⟨fun h => h.2, fun h => ⟨hk, h⟩⟩
  simp only [this, Bool.decide_eq_true]
theorem Asc.ext {n : Nat} {a b : List Nat} (ha : Asc n a) (hb : Asc n b) (h : ∀ k, k ∈ a ↔ k ∈ b) : a = b := by
  rw [ha, hb]
  refine List.filter_congr fun k _ => ?_
  rw [decide_eq_decide]
  exact h k
theorem asc_snoc {i : Nat} {ks : List Nat} (h : Asc i ks) : Asc (i + 1) (ks ++ [i]) := by
  unfold Asc
  rw [List.range_succ, List.filter_append]
  have e1 : (List.range i).filter (fun k => decide (k ∈ ks ++ [i])) = ks := by
    conv => rhs; rw [h]
    refine List.filter_congr fun k hk => ?_
    have := List.mem_range.mp hk
    rw [decide_eq_decide, List.mem_append, List.mem_singleton]
    exact ⟨fun x => x.elim id fun e => by omega, .inl⟩
  rw [e1]
  simp
theorem asc_keep {i : Nat} {ks : List Nat} (h : Asc i ks) : Asc (i + 1) ks := by
  unfold Asc
  rw [List.range_succ, List.filter_append]
  have e2 : [i].filter (fun k => decide (k ∈ ks)) = [] := by
    have : ¬ i ∈ ks := fun x => Nat.lt_irrefl _ (h.lt i x)
    simp [this]
  rw [e2, List.append_nil]
  exact h
theorem m_downsA (c : Int) (n : Nat) (hn : n ≤ 12) : ∃ ks : List Nat, Asc n ks ∧ sem_l_downs [.int c, .int n] [] = .ok (.v (.tup (nD ks))) [] := by
  unfold sem_l_downs
  refine run_ex (Q := fun r => ∃ ks : List Nat, Asc n ks ∧ r = .ok (.v (.tup (nD ks))) []) [.v (.int c), .v (.int n), .un, .un] rfl ?_
  unfold b_l_downs
  refine sq (P := fun fl => ∃ ks : List Nat, Asc n ks ∧ fl.fr = .ok (.v (.tup (nD ks))) []) (s' := ⟨[.v (.int c), .v (.int n), .own (.list []), .un], []⟩) (by simp (disch := (first | assumption | with_reducible rfl | decide +kernel | exact Or.inl (by decide +kernel) | exact Or.inr (by decide +kernel) | omega | (simp only [List.length_cons, List.length_nil, List.length_append, List.length_map, List.length_replicate, List.length_range] <;> omega) | rfl)) only [evEqs, List.getElem?_cons_zero, List.getElem?_cons_succ, List.getElem?_nil, List.set_cons_zero, List.set_cons_succ, List.map_cons, List.map_nil, List.length_cons, List.length_nil, List.length_append, List.cons_append, List.nil_append, List.length_map, List.length_singleton, Nat.reduceBEq, Nat.reduceAdd, Nat.reduceSub, Nat.reduceMul, Nat.reduceEqDiff, Nat.reduceLeDiff, Nat.reduceLT, if_false, if_true, ite_true, ite_false, ↓reduceIte, Bool.not_true, Bool.not_false, Bool.false_eq_true, decide_true, decide_false, eq_self, and_true, true_and, and_self, Nat.zero_le, Nat.zero_add, Option.bind_some, Option.bind_none, Nat.lt_irrefl, Int.reduceToNat, Int.reducePow, Int.reduceNeg, Int.reduceMul, Int.reduceAdd, Int.reduceSub, Int.reduceLT, Int.reduceLE, Int.reduceEq, beq_self_eq_true, wipeE, MP.at0, MP.at1, MP.at2, MP.atLit]) ?_
  refine forP (P := fun fl => ∃ ks : List Nat, Asc n ks ∧ fl.fr = .ok (.v (.tup (nD ks))) []) (rng 0 (n : Int)) (fun i s => i ≤ n ∧ ∃ (ks : List Nat) (x3 : Slot), Asc i ks ∧ s = ⟨[.v (.int c), .v (.int n), .own (.list (nD ks)), x3], []⟩) (by simp (disch := (first | assumption | with_reducible rfl | decide +kernel | exact Or.inl (by decide +kernel) | exact Or.inr (by decide +kernel) | omega | (simp only [List.length_cons, List.length_nil, List.length_append, List.length_map, List.length_replicate, List.length_range] <;> omega) | rfl)) only [evEqs, List.getElem?_cons_zero, List.getElem?_cons_succ, List.getElem?_nil, List.set_cons_zero, List.set_cons_succ, List.map_cons, List.map_nil, List.length_cons, List.length_nil, List.length_append, List.cons_append, List.nil_append, List.length_map, List.length_singleton, Nat.reduceBEq, Nat.reduceAdd, Nat.reduceSub, Nat.reduceMul, Nat.reduceEqDiff, Nat.reduceLeDiff, Nat.reduceLT, if_false, if_true, ite_true, ite_false, ↓reduceIte, Bool.not_true, Bool.not_false, Bool.false_eq_true, decide_true, decide_false, eq_self, and_true, true_and, and_self, Nat.zero_le, Nat.zero_add, Option.bind_some, Option.bind_none, Nat.lt_irrefl, Int.reduceToNat, Int.reducePow, Int.reduceNeg, Int.reduceMul, Int.reduceAdd, Int.reduceSub, Int.reduceLT, Int.reduceLE, Int.reduceEq, beq_self_eq_true, wipeE, MP.at0, MP.at1, MP.at2, MP.atLit]) ⟨Nat.zero_le _, [], _, rfl, rfl⟩ ?_ ?_
  · rintro i d s hd ⟨hin, ks, x3, h1, rfl⟩
    obtain ⟨rfl, hi⟩ := rngAt hd
    have hkl := nD_len ks
    have hal := h1.len
    obtain ⟨v, hv, e⟩ := m_take c (10 + i) (by omega) 5 (by decide)
    have e : sem_l_take [.int c, .int (10 + (i : Int)), .int 5] [] = .ok (.v (.int v)) [] := e
    refine ⟨_, b_nm .., ?_⟩
    unfold lp_l_downs_1
    by_cases h3 : (v : Int) < 2
    · simp (disch := (first | assumption | with_reducible rfl | decide +kernel | exact Or.inl (by decide +kernel) | exact Or.inr (by decide +kernel) | omega | (simp only [List.length_cons, List.length_nil, List.length_append, List.length_map, List.length_replicate, List.length_range] <;> omega) | rfl)) only [evEqs, List.getElem?_cons_zero, List.getElem?_cons_succ, List.getElem?_nil, List.set_cons_zero, List.set_cons_succ, List.map_cons, List.map_nil, List.length_cons, List.length_nil, List.length_append, List.cons_append, List.nil_append, List.length_map, List.length_singleton, Nat.reduceBEq, Nat.reduceAdd, Nat.reduceSub, Nat.reduceMul, Nat.reduceEqDiff, Nat.reduceLeDiff, Nat.reduceLT, if_false, if_true, ite_true, ite_false, ↓reduceIte, Bool.not_true, Bool.not_false, Bool.false_eq_true, decide_true, decide_false, eq_self, and_true, true_and, and_self, Nat.zero_le, Nat.zero_add, Option.bind_some, Option.bind_none, Nat.lt_irrefl, Int.reduceToNat, Int.reducePow, Int.reduceNeg, Int.reduceMul, Int.reduceAdd, Int.reduceSub, Int.reduceLT, Int.reduceLE, Int.reduceEq, beq_self_eq_true, wipeE, MP.at0, MP.at1, MP.at2, MP.atLit, e, h3, nD_snoc]
      exact ⟨by omega, ks ++ [i], _, asc_snoc h1, rfl⟩
    · simp (disch := (first | assumption | with_reducible rfl | decide +kernel | exact Or.inl (by decide +kernel) | exact Or.inr (by decide +kernel) | omega | (simp only [List.length_cons, List.length_nil, List.length_append, List.length_map, List.length_replicate, List.length_range] <;> omega) | rfl)) only [evEqs, List.getElem?_cons_zero, List.getElem?_cons_succ, List.getElem?_nil, List.set_cons_zero, List.set_cons_succ, List.map_cons, List.map_nil, List.length_cons, List.length_nil, List.length_append, List.cons_append, List.nil_append, List.length_map, List.length_singleton, Nat.reduceBEq, Nat.reduceAdd, Nat.reduceSub, Nat.reduceMul, Nat.reduceEqDiff, Nat.reduceLeDiff, Nat.reduceLT, if_false, if_true, ite_true, ite_false, ↓reduceIte, Bool.not_true, Bool.not_false, Bool.false_eq_true, decide_true, decide_false, eq_self, and_true, true_and, and_self, Nat.zero_le, Nat.zero_add, Option.bind_some, Option.bind_none, Nat.lt_irrefl, Int.reduceToNat, Int.reducePow, Int.reduceNeg, Int.reduceMul, Int.reduceAdd, Int.reduceSub, Int.reduceLT, Int.reduceLE, Int.reduceEq, beq_self_eq_true, wipeE, MP.at0, MP.at1, MP.at2, MP.atLit, e, h3]
      exact ⟨by omega, ks, _, asc_keep h1, rfl⟩
  · rintro s ⟨hin, ks, x3, h1, rfl⟩
    rw [rngLenN] at h1
    simp (disch := (first | assumption | with_reducible rfl | decide +kernel | exact Or.inl (by decide +kernel) | exact Or.inr (by decide +kernel) | omega | (simp only [List.length_cons, List.length_nil, List.length_append, List.length_map, List.length_replicate, List.length_range] <;> omega) | rfl)) only [evEqs, List.getElem?_cons_zero, List.getElem?_cons_succ, List.getElem?_nil, List.set_cons_zero, List.set_cons_succ, List.map_cons, List.map_nil, List.length_cons, List.length_nil, List.length_append, List.cons_append, List.nil_append, List.length_map, List.length_singleton, Nat.reduceBEq, Nat.reduceAdd, Nat.reduceSub, Nat.reduceMul, Nat.reduceEqDiff, Nat.reduceLeDiff, Nat.reduceLT, if_false, if_true, ite_true, ite_false, ↓reduceIte, Bool.not_true, Bool.not_false, Bool.false_eq_true, decide_true, decide_false, eq_self, and_true, true_and, and_self, Nat.zero_le, Nat.zero_add, Option.bind_some, Option.bind_none, Nat.lt_irrefl, Int.reduceToNat, Int.reducePow, Int.reduceNeg, Int.reduceMul, Int.reduceAdd, Int.reduceSub, Int.reduceLT, Int.reduceLE, Int.reduceEq, beq_self_eq_true, wipeE, MP.at0, MP.at1, MP.at2, MP.atLit]
    exact ⟨ks, h1, rfl⟩

theorem in_nT (m : Nat) (ms : List Nat) : gIn (.int m) (.tup (nD ms)) = some ⟨.sh, .bool (decide (m ∈ ms))⟩ := by
  rw [nD_nI, g_inT]
  simp only [mem_nI]
/-! ## all sets of keys -/
def maskK (n m : Nat) : List Nat := (List.range n).filter fun k => decide (m / 2 ^ k % 2 = 1)
def setsF (n : Nat) : List (List Nat) := (List.range (2 ^ n)).map (maskK n)
def setD (ks : List Nat) : D := .tup (nD ks)
theorem sets_asc {n : Nat} {ks : List Nat} (h : ks ∈ setsF n) : Asc n ks := by
  unfold setsF at h
  obtain ⟨m, _, rfl⟩ := List.mem_map.mp h
  exact asc_filter _ _
theorem sets_all {n : Nat} {ks : List Nat} (h : Asc n ks) : ks ∈ setsF n := by
  unfold setsF
  refine List.mem_map.mpr ⟨bitsum (fun k => decide (k ∈ ks)) n, List.mem_range.mpr (bitsum_lt _ n), ?_⟩
  unfold maskK
  conv => rhs; rw [h]
  refine List.filter_congr fun k hk => ?_
  rw [bitsum_bit _ n k (List.mem_range.mp hk)]
  by_cases h1 : k ∈ ks <;> simp [h1]
theorem m_maskC (n m : Nat) (x0 x1 : Slot) : compL (.nm 3) (pB (p2 gEq (p2 gAnd (p2 gShr (pVar 2) (pVar 3)) (pC (.int 1))) (pC (.int 1)))) (pD (pVar 3)) ⟨[x0, x1, .v (.int m), .un], []⟩ (rng 0 (n : Int)) = .ok (nD (maskK n m)) := by
  rw [rng_nD]
  unfold maskK
  refine compN _ _ fun k _ => ⟨_, b_nm .., ?_, fun _ => ?_⟩
  · have e2 : ((m : Nat) : Int) / 2 ^ k = ((m / 2 ^ k : Nat) : Int) := by
      rw [Int.natCast_ediv, Int.natCast_pow]
      rfl
    have e3 : (((m / 2 ^ k % 2 : Nat) : Int) = 1) = (m / 2 ^ k % 2 = 1) := by apply propext; omega
    simp (disch := (first | assumption | with_reducible rfl | decide +kernel | exact Or.inl (by decide +kernel) | exact Or.inr (by decide +kernel) | omega | (simp only [List.length_cons, List.length_nil, List.length_append, List.length_map, List.length_replicate, List.length_range] <;> omega) | rfl)) only [evEqs, List.getElem?_cons_zero, List.getElem?_cons_succ, List.getElem?_nil, List.set_cons_zero, List.set_cons_succ, List.map_cons, List.map_nil, List.length_cons, List.length_nil, List.length_append, List.cons_append, List.nil_append, List.length_map, List.length_singleton, Nat.reduceBEq, Nat.reduceAdd, Nat.reduceSub, Nat.reduceMul, Nat.reduceEqDiff, Nat.reduceLeDiff, Nat.reduceLT, if_false, if_true, ite_true, ite_false, ↓reduceIte, Bool.not_true, Bool.not_false, Bool.false_eq_true, decide_true, decide_false, eq_self, and_true, true_and, and_self, Nat.zero_le, Nat.zero_add, Option.bind_some, Option.bind_none, Nat.lt_irrefl, Int.reduceToNat, Int.reducePow, Int.reduceNeg, Int.reduceMul, Int.reduceAdd, Int.reduceSub, Int.reduceLT, Int.reduceLE, Int.reduceEq, beq_self_eq_true, wipeE, MP.at0, MP.at1, MP.at2, MP.atLit, Int.toNat_natCast, e2, bit_and1, e3]
  · simp (disch := (first | assumption | with_reducible rfl | decide +kernel | exact Or.inl (by decide +kernel) | exact Or.inr (by decide +kernel) | omega | (simp only [List.length_cons, List.length_nil, List.length_append, List.length_map, List.length_replicate, List.length_range] <;> omega) | rfl)) only [evEqs, List.getElem?_cons_zero, List.getElem?_cons_succ, List.getElem?_nil, List.set_cons_zero, List.set_cons_succ, List.map_cons, List.map_nil, List.length_cons, List.length_nil, List.length_append, List.cons_append, List.nil_append, List.length_map, List.length_singleton, Nat.reduceBEq, Nat.reduceAdd, Nat.reduceSub, Nat.reduceMul, Nat.reduceEqDiff, Nat.reduceLeDiff, Nat.reduceLT, if_false, if_true, ite_true, ite_false, ↓reduceIte, Bool.not_true, Bool.not_false, Bool.false_eq_true, decide_true, decide_false, eq_self, and_true, true_and, and_self, Nat.zero_le, Nat.zero_add, Option.bind_some, Option.bind_none, Nat.lt_irrefl, Int.reduceToNat, Int.reducePow, Int.reduceNeg, Int.reduceMul, Int.reduceAdd, Int.reduceSub, Int.reduceLT, Int.reduceLE, Int.reduceEq, beq_self_eq_true, wipeE, MP.at0, MP.at1, MP.at2, MP.atLit]
theorem m_sets (n : Nat) (hn : n ≤ 6) : sem_l_sets [.int n] [] = .ok (.own (.list ((setsF n).map setD))) [] := by
  unfold sem_l_sets
  refine run_ex (Q := fun r => r = .ok (.own (.list ((setsF n).map setD))) []) [.v (.int n), .un, .un, .un] rfl ?_
  unfold b_l_sets
  have h2 : (1 : Int) * 2 ^ n = ((2 ^ n : Nat) : Int) := by rw [Int.one_mul]; exact (Int.natCast_pow 2 n).symm
  have h3 : 2 ^ n ≤ 64 := Nat.pow_le_pow_right (n := 2) (by decide) hn
  generalize hN : 2 ^ n = N at h2 h3
  refine sqR (s' := ⟨[.v (.int n), .own (.list []), .un, .un], []⟩) (by simp (disch := (first | assumption | with_reducible rfl | decide +kernel | exact Or.inl (by decide +kernel) | exact Or.inr (by decide +kernel) | omega | (simp only [List.length_cons, List.length_nil, List.length_append, List.length_map, List.length_replicate, List.length_range] <;> omega) | rfl)) only [evEqs, List.getElem?_cons_zero, List.getElem?_cons_succ, List.getElem?_nil, List.set_cons_zero, List.set_cons_succ, List.map_cons, List.map_nil, List.length_cons, List.length_nil, List.length_append, List.cons_append, List.nil_append, List.length_map, List.length_singleton, Nat.reduceBEq, Nat.reduceAdd, Nat.reduceSub, Nat.reduceMul, Nat.reduceEqDiff, Nat.reduceLeDiff, Nat.reduceLT, if_false, if_true, ite_true, ite_false, ↓reduceIte, Bool.not_true, Bool.not_false, Bool.false_eq_true, decide_true, decide_false, eq_self, and_true, true_and, and_self, Nat.zero_le, Nat.zero_add, Option.bind_some, Option.bind_none, Nat.lt_irrefl, Int.reduceToNat, Int.reducePow, Int.reduceNeg, Int.reduceMul, Int.reduceAdd, Int.reduceSub, Int.reduceLT, Int.reduceLE, Int.reduceEq, beq_self_eq_true, wipeE, MP.at0, MP.at1, MP.at2, MP.atLit]) ?_
  refine forR (rng 0 (N : Int)) (fun i s => ∃ x2, s = ⟨[.v (.int n), .own (.list (((List.range i).map (maskK n)).map setD)), x2, .un], []⟩) (by simp (disch := (first | assumption | with_reducible rfl | decide +kernel | exact Or.inl (by decide +kernel) | exact Or.inr (by decide +kernel) | omega | (simp only [List.length_cons, List.length_nil, List.length_append, List.length_map, List.length_replicate, List.length_range] <;> omega) | rfl)) only [evEqs, List.getElem?_cons_zero, List.getElem?_cons_succ, List.getElem?_nil, List.set_cons_zero, List.set_cons_succ, List.map_cons, List.map_nil, List.length_cons, List.length_nil, List.length_append, List.cons_append, List.nil_append, List.length_map, List.length_singleton, Nat.reduceBEq, Nat.reduceAdd, Nat.reduceSub, Nat.reduceMul, Nat.reduceEqDiff, Nat.reduceLeDiff, Nat.reduceLT, if_false, if_true, ite_true, ite_false, ↓reduceIte, Bool.not_true, Bool.not_false, Bool.false_eq_true, decide_true, decide_false, eq_self, and_true, true_and, and_self, Nat.zero_le, Nat.zero_add, Option.bind_some, Option.bind_none, Nat.lt_irrefl, Int.reduceToNat, Int.reducePow, Int.reduceNeg, Int.reduceMul, Int.reduceAdd, Int.reduceSub, Int.reduceLT, Int.reduceLE, Int.reduceEq, beq_self_eq_true, wipeE, MP.at0, MP.at1, MP.at2, MP.atLit, Int.toNat_natCast, h2]) ⟨_, rfl⟩ ?_ ?_
  · rintro i d s hd ⟨x2, rfl⟩
    obtain ⟨rfl, hi⟩ := rngAt hd
    have hc := m_maskC n i (.v (.int n)) (.own (.list (((List.range i).map (maskK n)).map setD)))
    have hrl := rngLenN n
    have hlen : (((List.range i).map (maskK n)).map setD).length = i := by simp
    have hsn : ((List.range (i + 1)).map (maskK n)).map setD = ((List.range i).map (maskK n)).map setD ++ [.tup (nD (maskK n i))] := by rw [List.range_succ, List.map_append, List.map_append]; rfl
    have hml : (nD (maskK n i)).length ≤ 6 := by
      rw [nD_len]
      unfold maskK
      exact Nat.le_trans (List.length_filter_le ..) (by simp; omega)
    refine ⟨_, b_nm .., ?_⟩
    unfold lp_l_sets_1
    rw [hsn]
    simp (disch := (first | assumption | with_reducible rfl | decide +kernel | exact Or.inl (by decide +kernel) | exact Or.inr (by decide +kernel) | omega | (simp only [List.length_cons, List.length_nil, List.length_append, List.length_map, List.length_replicate, List.length_range] <;> omega) | rfl)) only [evEqs, List.getElem?_cons_zero, List.getElem?_cons_succ, List.getElem?_nil, List.set_cons_zero, List.set_cons_succ, List.map_cons, List.map_nil, List.length_cons, List.length_nil, List.length_append, List.cons_append, List.nil_append, List.length_map, List.length_singleton, Nat.reduceBEq, Nat.reduceAdd, Nat.reduceSub, Nat.reduceMul, Nat.reduceEqDiff, Nat.reduceLeDiff, Nat.reduceLT, if_false, if_true, ite_true, ite_false, ↓reduceIte, Bool.not_true, Bool.not_false, Bool.false_eq_true, decide_true, decide_false, eq_self, and_true, true_and, and_self, Nat.zero_le, Nat.zero_add, Option.bind_some, Option.bind_none, Nat.lt_irrefl, Int.reduceToNat, Int.reducePow, Int.reduceNeg, Int.reduceMul, Int.reduceAdd, Int.reduceSub, Int.reduceLT, Int.reduceLE, Int.reduceEq, beq_self_eq_true, wipeE, MP.at0, MP.at1, MP.at2, MP.atLit, hc]
    exact ⟨_, rfl⟩
  · rintro s ⟨x2, rfl⟩
    rw [rngLenN]
    unfold setsF
    rw [hN]
    simp (disch := (first | assumption | with_reducible rfl | decide +kernel | exact Or.inl (by decide +kernel) | exact Or.inr (by decide +kernel) | omega | (simp only [List.length_cons, List.length_nil, List.length_append, List.length_map, List.length_replicate, List.length_range] <;> omega) | rfl)) only [evEqs, List.getElem?_cons_zero, List.getElem?_cons_succ, List.getElem?_nil, List.set_cons_zero, List.set_cons_succ, List.map_cons, List.map_nil, List.length_cons, List.length_nil, List.length_append, List.cons_append, List.nil_append, List.length_map, List.length_singleton, Nat.reduceBEq, Nat.reduceAdd, Nat.reduceSub, Nat.reduceMul, Nat.reduceEqDiff, Nat.reduceLeDiff, Nat.reduceLT, if_false, if_true, ite_true, ite_false, ↓reduceIte, Bool.not_true, Bool.not_false, Bool.false_eq_true, decide_true, decide_false, eq_self, and_true, true_and, and_self, Nat.zero_le, Nat.zero_add, Option.bind_some, Option.bind_none, Nat.lt_irrefl, Int.reduceToNat, Int.reducePow, Int.reduceNeg, Int.reduceMul, Int.reduceAdd, Int.reduceSub, Int.reduceLT, Int.reduceLE, Int.reduceEq, beq_self_eq_true, wipeE, MP.at0, MP.at1, MP.at2, MP.atLit]

/-! ## any reading, and the keys that it reads -/
def kF (es : List (Nat × Nat)) (ms : List Nat) : List Nat := (List.range es.length).filter fun k => decide (ms.getD (es.getD k (0, 0)).1 0 / 2 ^ (es.getD k (0, 0)).2 % 2 = 1)
theorem kF_asc (es : List (Nat × Nat)) (ms : List Nat) : Asc es.length (kF es ms) := asc_filter _ _
theorem kF_read {R C : Nat} {es E : List (Nat × Nat)} (hf : Fits R C es) : kF es (readF R C E) = clF R C es E := by
  unfold kF clF
  refine List.filter_congr fun k hk => ?_
  have hb := hf.at k (List.mem_range.mp hk)
  rw [readF_at hb.1, bitsum_bit _ _ _ hb.2]
  cases sameB R C E (es.getD k (0, 0)).1 (es.getD k (0, 0)).2 <;> simp
theorem m_kC {R C : Nat} {es : List (Nat × Nat)} (hf : Fits R C es) (ms : List Nat) (hl : ms.length = R) (j : Nat) (hj : 2 < j) (env : List Slot) (h1 : env[1]? = some (.v (.tup (nD ms)))) (h2 : env[2]? = some (.v (.tup (spsD es)))) (hjl : j < env.length) :
    compL (.nm j) (pB (p2 gEq (p2 gAnd (p2 gShr (p2 gIx (pVar 1) (p2 gIx (p2 gIx (pVar 2) (pVar j)) (pC (.int 0)))) (p2 gIx (p2 gIx (pVar 2) (pVar j)) (pC (.int 1)))) (pC (.int 1))) (pC (.int 1)))) (pD (pVar j)) ⟨env, []⟩ (rng 0 (es.length : Int)) = .ok (nD (kF es ms)) := by
  rw [rng_nD]
  unfold kF
  refine compN _ _ fun k hk2 => ⟨_, b_nm .., ?_, fun _ => ?_⟩
  · have hk3 := List.mem_range.mp hk2
    have hsp := spsD_at es k hk3
    have hb := hf.at k hk3
    unfold spD at hsp
    generalize es.getD k (0, 0) = e at hsp hb
    have e1 := nD_at ms e.1 (by omega)
    generalize ms.getD e.1 0 = v at e1
    have e2 : ((v : Nat) : Int) / 2 ^ e.2 = ((v / 2 ^ e.2 : Nat) : Int) := by
      rw [Int.natCast_ediv, Int.natCast_pow]
      rfl
    have e3 : (((v / 2 ^ e.2 % 2 : Nat) : Int) = 1) = (v / 2 ^ e.2 % 2 = 1) := by apply propext; omega
    have ej : (env.set j (.v (.int (k : Int))))[j]? = some (.v (.int k)) := by rw [List.getElem?_set_self hjl]
    have ea : (env.set j (.v (.int (k : Int))))[1]? = some (.v (.tup (nD ms))) := by rw [List.getElem?_set_ne (by omega), h1]
    have eb : (env.set j (.v (.int (k : Int))))[2]? = some (.v (.tup (spsD es))) := by rw [List.getElem?_set_ne (by omega), h2]
    simp (disch := (first | assumption | with_reducible rfl | decide +kernel | exact Or.inl (by decide +kernel) | exact Or.inr (by decide +kernel) | omega | (simp only [List.length_cons, List.length_nil, List.length_append, List.length_map, List.length_replicate, List.length_range] <;> omega) | rfl)) only [evEqs, List.getElem?_cons_zero, List.getElem?_cons_succ, List.getElem?_nil, List.set_cons_zero, List.set_cons_succ, List.map_cons, List.map_nil, List.length_cons, List.length_nil, List.length_append, List.cons_append, List.nil_append, List.length_map, List.length_singleton, Nat.reduceBEq, Nat.reduceAdd, Nat.reduceSub, Nat.reduceMul, Nat.reduceEqDiff, Nat.reduceLeDiff, Nat.reduceLT, if_false, if_true, ite_true, ite_false, ↓reduceIte, Bool.not_true, Bool.not_false, Bool.false_eq_true, decide_true, decide_false, eq_self, and_true, true_and, and_self, Nat.zero_le, Nat.zero_add, Option.bind_some, Option.bind_none, Nat.lt_irrefl, Int.reduceToNat, Int.reducePow, Int.reduceNeg, Int.reduceMul, Int.reduceAdd, Int.reduceSub, Int.reduceLT, Int.reduceLE, Int.reduceEq, beq_self_eq_true, wipeE, MP.at0, MP.at1, MP.at2, MP.atLit, ej, ea, eb, atN, hsp, e1, Int.toNat_natCast, e2, bit_and1, e3]
  · have ej : (env.set j (.v (.int (k : Int))))[j]? = some (.v (.int k)) := by rw [List.getElem?_set_self hjl]
    simp (disch := (first | assumption | with_reducible rfl | decide +kernel | exact Or.inl (by decide +kernel) | exact Or.inr (by decide +kernel) | omega | (simp only [List.length_cons, List.length_nil, List.length_append, List.length_map, List.length_replicate, List.length_range] <;> omega) | rfl)) only [evEqs, List.getElem?_cons_zero, List.getElem?_cons_succ, List.getElem?_nil, List.set_cons_zero, List.set_cons_succ, List.map_cons, List.map_nil, List.length_cons, List.length_nil, List.length_append, List.cons_append, List.nil_append, List.length_map, List.length_singleton, Nat.reduceBEq, Nat.reduceAdd, Nat.reduceSub, Nat.reduceMul, Nat.reduceEqDiff, Nat.reduceLeDiff, Nat.reduceLT, if_false, if_true, ite_true, ite_false, ↓reduceIte, Bool.not_true, Bool.not_false, Bool.false_eq_true, decide_true, decide_false, eq_self, and_true, true_and, and_self, Nat.zero_le, Nat.zero_add, Option.bind_some, Option.bind_none, Nat.lt_irrefl, Int.reduceToNat, Int.reducePow, Int.reduceNeg, Int.reduceMul, Int.reduceAdd, Int.reduceSub, Int.reduceLT, Int.reduceLE, Int.reduceEq, beq_self_eq_true, wipeE, MP.at0, MP.at1, MP.at2, MP.atLit, ej]
theorem m_keysG {R C : Nat} {es : List (Nat × Nat)} (hf : Fits R C es) (hn : es.length ≤ 12) (ms : List Nat) (hl : ms.length = R) : sem_keys_in [frD R C es, .tup (nD ms)] [] = .ok (.v (.tup (nD (kF es ms)))) [] := by
  have hls := spsD_len es
  have hrl := rngLenN es.length
  have hc := m_kC hf ms hl 3 (by decide) [.v (frD R C es), .v (.tup (nD ms)), .v (.tup (spsD es)), .un] rfl rfl (by simp)
  have hcl : (nD (kF es ms)).length ≤ 12 := by
    rw [nD_len]
    exact Nat.le_trans (kF_asc es ms).len hn
  unfold sem_keys_in b_keys_in
  simp (disch := (first | assumption | with_reducible rfl | decide +kernel | exact Or.inl (by decide +kernel) | exact Or.inr (by decide +kernel) | omega | (simp only [List.length_cons, List.length_nil, List.length_append, List.length_map, List.length_replicate, List.length_range] <;> omega) | rfl)) only [evEqs, List.getElem?_cons_zero, List.getElem?_cons_succ, List.getElem?_nil, List.set_cons_zero, List.set_cons_succ, List.map_cons, List.map_nil, List.length_cons, List.length_nil, List.length_append, List.cons_append, List.nil_append, List.length_map, List.length_singleton, Nat.reduceBEq, Nat.reduceAdd, Nat.reduceSub, Nat.reduceMul, Nat.reduceEqDiff, Nat.reduceLeDiff, Nat.reduceLT, if_false, if_true, ite_true, ite_false, ↓reduceIte, Bool.not_true, Bool.not_false, Bool.false_eq_true, decide_true, decide_false, eq_self, and_true, true_and, and_self, Nat.zero_le, Nat.zero_add, Option.bind_some, Option.bind_none, Nat.lt_irrefl, Int.reduceToNat, Int.reducePow, Int.reduceNeg, Int.reduceMul, Int.reduceAdd, Int.reduceSub, Int.reduceLT, Int.reduceLE, Int.reduceEq, beq_self_eq_true, wipeE, MP.at0, MP.at1, MP.at2, MP.atLit, frD_2, hls, hc]
/-- the reading can be -/
def Can (R C : Nat) (es : List (Nat × Nat)) (rd : List Int) : Prop := ∃ ks, Asc es.length ks ∧ rd = nI (readF R C (edgesOf es ks))
def inR (C : Nat) (v : Int) : Prop := 0 ≤ v ∧ v < 1 * 2 ^ C
theorem nI_of {C : Nat} {rd : List Int} (h : ∀ v ∈ rd, inR C v) : rd = nI (rd.map Int.toNat) := by
  unfold nI
  rw [List.map_map]
  conv => lhs; rw [← List.map_id rd]
  refine List.map_congr_left fun a ha => ?_
  have := (h a ha).1
  show a = ((a.toNat : Nat) : Int)
  omega
theorem nI_inj {a b : List Nat} (h : nI a = nI b) : a = b := by
  unfold nI at h
  have := congrArg (List.map Int.toNat) h
  rw [List.map_map, List.map_map] at this
  have e : ∀ l : List Nat, l.map (Int.toNat ∘ fun m : Nat => (m : Int)) = l := fun l => by
    conv => rhs; rw [← List.map_id l]
    exact List.map_congr_left fun a _ => by show ((a : Int)).toNat = a; omega
  rw [e, e] at this
  exact this
theorem zs_nI (ms : List Nat) : zs (nI ms) = nD ms := (nD_nI ms).symm
def exC : Ex := ⟨"NoReading", []⟩
theorem read_in {R C : Nat} {E : List (Nat × Nat)} : ∀ v ∈ nI (readF R C E), inR C v := by
  intro v hv
  unfold nI readF at hv
  rw [List.map_map] at hv
  obtain ⟨r, _, rfl⟩ := List.mem_map.mp hv
  have := bitsum_lt (sameB R C E r) C
  refine ⟨by show (0 : Int) ≤ ((bitsum (sameB R C E r) C : Nat) : Int); omega, ?_⟩
  show ((bitsum (sameB R C E r) C : Nat) : Int) < 1 * 2 ^ C
  rw [Int.one_mul]
  have : ((bitsum (sameB R C E r) C : Nat) : Int) < ((2 ^ C : Nat) : Int) := by omega
  rw [Int.natCast_pow] at this
  exact this
/-- what the checks ask -/
theorem can_iff {R C : Nat} {es : List (Nat × Nat)} (hf : Fits R C es) (rd : List Int) : Can R C es rd ↔ rd.length = R ∧ (∀ v ∈ rd, inR C v) ∧ readF R C (edgesOf es (kF es (rd.map Int.toNat))) = rd.map Int.toNat := by
  constructor
  · rintro ⟨ks, ha, rfl⟩
    have e : (nI (readF R C (edgesOf es ks))).map Int.toNat = readF R C (edgesOf es ks) := nI_inj (nI_of read_in).symm
    refine ⟨by unfold nI; rw [List.length_map, readF_len], read_in, ?_⟩
    rw [e, kF_read hf, cl_reads hf ha.lt]
  · rintro ⟨h1, h2, h3⟩
    refine ⟨kF es (rd.map Int.toNat), kF_asc es _, ?_⟩
    rw [h3]
    exact nI_of h2
theorem m_checkedX {R C : Nat} (hR : R ≤ 6) (hC : C ≤ 6) {es : List (Nat × Nat)} (hf : Fits R C es) (hn : es.length ≤ 12) (rd : List Int) (h : ¬ Can R C es rd) : sem_checked_keys [frD R C es, .tup (zs rd)] [] = .exc exC [] := by
  have hl := zs_len rd
  unfold sem_checked_keys
  refine run_ex (Q := fun r => r = .exc exC []) [.v (frD R C es), .v (.tup (zs rd)), .un, .un] rfl ?_
  unfold b_checked_keys
  by_cases h1 : rd.length = R
  · have h1' : ((zs rd).length : Int) = R := by omega
    refine sqR (s' := ⟨[.v (frD R C es), .v (.tup (zs rd)), .un, .un], []⟩) (by simp (disch := (first | assumption | with_reducible rfl | decide +kernel | exact Or.inl (by decide +kernel) | exact Or.inr (by decide +kernel) | omega | (simp only [List.length_cons, List.length_nil, List.length_append, List.length_map, List.length_replicate, List.length_range] <;> omega) | rfl)) only [evEqs, List.getElem?_cons_zero, List.getElem?_cons_succ, List.getElem?_nil, List.set_cons_zero, List.set_cons_succ, List.map_cons, List.map_nil, List.length_cons, List.length_nil, List.length_append, List.cons_append, List.nil_append, List.length_map, List.length_singleton, Nat.reduceBEq, Nat.reduceAdd, Nat.reduceSub, Nat.reduceMul, Nat.reduceEqDiff, Nat.reduceLeDiff, Nat.reduceLT, if_false, if_true, ite_true, ite_false, ↓reduceIte, Bool.not_true, Bool.not_false, Bool.false_eq_true, decide_true, decide_false, eq_self, and_true, true_and, and_self, Nat.zero_le, Nat.zero_add, Option.bind_some, Option.bind_none, Nat.lt_irrefl, Int.reduceToNat, Int.reducePow, Int.reduceNeg, Int.reduceMul, Int.reduceAdd, Int.reduceSub, Int.reduceLT, Int.reduceLE, Int.reduceEq, beq_self_eq_true, wipeE, MP.at0, MP.at1, MP.at2, MP.atLit, frD_0, h1']) ?_
    refine sq_for (P := fun fl => fl.fr = .exc exC []) (zs rd) (fun i s => (∀ v ∈ rd.take i, inR C v) ∧ ∃ x2, s = ⟨[.v (frD R C es), .v (.tup (zs rd)), x2, .un], []⟩) (by simp (disch := (first | assumption | with_reducible rfl | decide +kernel | exact Or.inl (by decide +kernel) | exact Or.inr (by decide +kernel) | omega | (simp only [List.length_cons, List.length_nil, List.length_append, List.length_map, List.length_replicate, List.length_range] <;> omega) | rfl)) only [evEqs, List.getElem?_cons_zero, List.getElem?_cons_succ, List.getElem?_nil, List.set_cons_zero, List.set_cons_succ, List.map_cons, List.map_nil, List.length_cons, List.length_nil, List.length_append, List.cons_append, List.nil_append, List.length_map, List.length_singleton, Nat.reduceBEq, Nat.reduceAdd, Nat.reduceSub, Nat.reduceMul, Nat.reduceEqDiff, Nat.reduceLeDiff, Nat.reduceLT, if_false, if_true, ite_true, ite_false, ↓reduceIte, Bool.not_true, Bool.not_false, Bool.false_eq_true, decide_true, decide_false, eq_self, and_true, true_and, and_self, Nat.zero_le, Nat.zero_add, Option.bind_some, Option.bind_none, Nat.lt_irrefl, Int.reduceToNat, Int.reducePow, Int.reduceNeg, Int.reduceMul, Int.reduceAdd, Int.reduceSub, Int.reduceLT, Int.reduceLE, Int.reduceEq, beq_self_eq_true, wipeE, MP.at0, MP.at1, MP.at2, MP.atLit]) ⟨(fun v hv => by rw [List.take_zero] at hv; cases hv), _, rfl⟩ ?_ ?_
    · rintro i d s hd ⟨hi, x2, rfl⟩
      have hil : i < rd.length := by
        have := (List.getElem?_eq_some_iff.mp hd).1
        omega
      rw [zs_at rd i hil] at hd
      cases hd
      have ht : rd.take (i + 1) = rd.take i ++ [rd.getD i 0] := by
        rw [List.take_succ, List.getElem?_eq_getElem hil, List.getD_eq_getElem?_getD, List.getElem?_eq_getElem hil]
        rfl
      rw [ht]
      generalize rd.getD i 0 = v
      refine ⟨_, b_nm .., ?_⟩
      unfold lp_checked_keys_1
      by_cases h3 : 0 ≤ v
      · by_cases h4 : v < 1 * 2 ^ C
        · simp (disch := (first | assumption | with_reducible rfl | decide +kernel | exact Or.inl (by decide +kernel) | exact Or.inr (by decide +kernel) | omega | (simp only [List.length_cons, List.length_nil, List.length_append, List.length_map, List.length_replicate, List.length_range] <;> omega) | rfl)) only [evEqs, List.getElem?_cons_zero, List.getElem?_cons_succ, List.getElem?_nil, List.set_cons_zero, List.set_cons_succ, List.map_cons, List.map_nil, List.length_cons, List.length_nil, List.length_append, List.cons_append, List.nil_append, List.length_map, List.length_singleton, Nat.reduceBEq, Nat.reduceAdd, Nat.reduceSub, Nat.reduceMul, Nat.reduceEqDiff, Nat.reduceLeDiff, Nat.reduceLT, if_false, if_true, ite_true, ite_false, ↓reduceIte, Bool.not_true, Bool.not_false, Bool.false_eq_true, decide_true, decide_false, eq_self, and_true, true_and, and_self, Nat.zero_le, Nat.zero_add, Option.bind_some, Option.bind_none, Nat.lt_irrefl, Int.reduceToNat, Int.reducePow, Int.reduceNeg, Int.reduceMul, Int.reduceAdd, Int.reduceSub, Int.reduceLT, Int.reduceLE, Int.reduceEq, beq_self_eq_true, wipeE, MP.at0, MP.at1, MP.at2, MP.atLit, frD_1, Int.toNat_natCast, h3, h4]
          refine ⟨fun w hw => ?_, _, rfl⟩
          rcases List.mem_append.mp hw with hw | hw
          · exact hi w hw
          · rw [List.mem_singleton] at hw
            subst hw
            exact ⟨h3, h4⟩
        · simp (disch := (first | assumption | with_reducible rfl | decide +kernel | exact Or.inl (by decide +kernel) | exact Or.inr (by decide +kernel) | omega | (simp only [List.length_cons, List.length_nil, List.length_append, List.length_map, List.length_replicate, List.length_range] <;> omega) | rfl)) only [evEqs, List.getElem?_cons_zero, List.getElem?_cons_succ, List.getElem?_nil, List.set_cons_zero, List.set_cons_succ, List.map_cons, List.map_nil, List.length_cons, List.length_nil, List.length_append, List.cons_append, List.nil_append, List.length_map, List.length_singleton, Nat.reduceBEq, Nat.reduceAdd, Nat.reduceSub, Nat.reduceMul, Nat.reduceEqDiff, Nat.reduceLeDiff, Nat.reduceLT, if_false, if_true, ite_true, ite_false, ↓reduceIte, Bool.not_true, Bool.not_false, Bool.false_eq_true, decide_true, decide_false, eq_self, and_true, true_and, and_self, Nat.zero_le, Nat.zero_add, Option.bind_some, Option.bind_none, Nat.lt_irrefl, Int.reduceToNat, Int.reducePow, Int.reduceNeg, Int.reduceMul, Int.reduceAdd, Int.reduceSub, Int.reduceLT, Int.reduceLE, Int.reduceEq, beq_self_eq_true, wipeE, MP.at0, MP.at1, MP.at2, MP.atLit, frD_1, Int.toNat_natCast, h3, h4, exC]
          exact rfl
      · simp (disch := (first | assumption | with_reducible rfl | decide +kernel | exact Or.inl (by decide +kernel) | exact Or.inr (by decide +kernel) | omega | (simp only [List.length_cons, List.length_nil, List.length_append, List.length_map, List.length_replicate, List.length_range] <;> omega) | rfl)) only [evEqs, List.getElem?_cons_zero, List.getElem?_cons_succ, List.getElem?_nil, List.set_cons_zero, List.set_cons_succ, List.map_cons, List.map_nil, List.length_cons, List.length_nil, List.length_append, List.cons_append, List.nil_append, List.length_map, List.length_singleton, Nat.reduceBEq, Nat.reduceAdd, Nat.reduceSub, Nat.reduceMul, Nat.reduceEqDiff, Nat.reduceLeDiff, Nat.reduceLT, if_false, if_true, ite_true, ite_false, ↓reduceIte, Bool.not_true, Bool.not_false, Bool.false_eq_true, decide_true, decide_false, eq_self, and_true, true_and, and_self, Nat.zero_le, Nat.zero_add, Option.bind_some, Option.bind_none, Nat.lt_irrefl, Int.reduceToNat, Int.reducePow, Int.reduceNeg, Int.reduceMul, Int.reduceAdd, Int.reduceSub, Int.reduceLT, Int.reduceLE, Int.reduceEq, beq_self_eq_true, wipeE, MP.at0, MP.at1, MP.at2, MP.atLit, frD_1, Int.toNat_natCast, h3, exC]
        exact rfl
    · rintro s ⟨hi, x2, rfl⟩
      rw [zs_len, List.take_length] at hi
      have h5 := fun z => h ((can_iff hf rd).mpr ⟨h1, hi, z⟩)
      have er := nI_of hi
      generalize rd.map Int.toNat = ms at er h5
      have hml : ms.length = R := by
        rw [er] at h1
        unfold nI at h1
        rw [List.length_map] at h1
        exact h1
      have ez : zs rd = nD ms := by rw [er, zs_nI]
      rw [ez]
      have hki := m_keysG (R := R) (C := C) hf hn ms hml
      have hre := m_reads R C hR hC es hf (kF es ms) (kF_asc es ms).lt
      have hne : gNe (.tup (nD (readF R C (edgesOf es (kF es ms))))) (.tup (nD ms)) = some ⟨.sh, .bool true⟩ := by
        have := gNe_ints (readF R C (edgesOf es (kF es ms))) ms
        rw [decide_eq_false h5] at this
        exact this
      simp (disch := (first | assumption | with_reducible rfl | decide +kernel | exact Or.inl (by decide +kernel) | exact Or.inr (by decide +kernel) | omega | (simp only [List.length_cons, List.length_nil, List.length_append, List.length_map, List.length_replicate, List.length_range] <;> omega) | rfl)) only [evEqs, List.getElem?_cons_zero, List.getElem?_cons_succ, List.getElem?_nil, List.set_cons_zero, List.set_cons_succ, List.map_cons, List.map_nil, List.length_cons, List.length_nil, List.length_append, List.cons_append, List.nil_append, List.length_map, List.length_singleton, Nat.reduceBEq, Nat.reduceAdd, Nat.reduceSub, Nat.reduceMul, Nat.reduceEqDiff, Nat.reduceLeDiff, Nat.reduceLT, if_false, if_true, ite_true, ite_false, ↓reduceIte, Bool.not_true, Bool.not_false, Bool.false_eq_true, decide_true, decide_false, eq_self, and_true, true_and, and_self, Nat.zero_le, Nat.zero_add, Option.bind_some, Option.bind_none, Nat.lt_irrefl, Int.reduceToNat, Int.reducePow, Int.reduceNeg, Int.reduceMul, Int.reduceAdd, Int.reduceSub, Int.reduceLT, Int.reduceLE, Int.reduceEq, beq_self_eq_true, wipeE, MP.at0, MP.at1, MP.at2, MP.atLit, hki, hre, hne, exC]
  · have h1' : ¬ ((zs rd).length : Int) = R := by omega
    simp (disch := (first | assumption | with_reducible rfl | decide +kernel | exact Or.inl (by decide +kernel) | exact Or.inr (by decide +kernel) | omega | (simp only [List.length_cons, List.length_nil, List.length_append, List.length_map, List.length_replicate, List.length_range] <;> omega) | rfl)) only [evEqs, List.getElem?_cons_zero, List.getElem?_cons_succ, List.getElem?_nil, List.set_cons_zero, List.set_cons_succ, List.map_cons, List.map_nil, List.length_cons, List.length_nil, List.length_append, List.cons_append, List.nil_append, List.length_map, List.length_singleton, Nat.reduceBEq, Nat.reduceAdd, Nat.reduceSub, Nat.reduceMul, Nat.reduceEqDiff, Nat.reduceLeDiff, Nat.reduceLT, if_false, if_true, ite_true, ite_false, ↓reduceIte, Bool.not_true, Bool.not_false, Bool.false_eq_true, decide_true, decide_false, eq_self, and_true, true_and, and_self, Nat.zero_le, Nat.zero_add, Option.bind_some, Option.bind_none, Nat.lt_irrefl, Int.reduceToNat, Int.reducePow, Int.reduceNeg, Int.reduceMul, Int.reduceAdd, Int.reduceSub, Int.reduceLT, Int.reduceLE, Int.reduceEq, beq_self_eq_true, wipeE, MP.at0, MP.at1, MP.at2, MP.atLit, frD_0, h1', exC]
theorem m_seenX {R C : Nat} (hR : R ≤ 6) (hC : C ≤ 6) {es : List (Nat × Nat)} (hf : Fits R C es) (hn : es.length ≤ 12) (rd : List Int) (h : ¬ Can R C es rd) : sem_seen [frD R C es, .tup (zs rd)] [] = .exc exC [] := by
  have e := m_checkedX hR hC hf hn rd h
  unfold sem_seen b_seen
  simp (disch := (first | assumption | with_reducible rfl | decide +kernel | exact Or.inl (by decide +kernel) | exact Or.inr (by decide +kernel) | omega | (simp only [List.length_cons, List.length_nil, List.length_append, List.length_map, List.length_replicate, List.length_range] <;> omega) | rfl)) only [evEqs, List.getElem?_cons_zero, List.getElem?_cons_succ, List.getElem?_nil, List.set_cons_zero, List.set_cons_succ, List.map_cons, List.map_nil, List.length_cons, List.length_nil, List.length_append, List.cons_append, List.nil_append, List.length_map, List.length_singleton, Nat.reduceBEq, Nat.reduceAdd, Nat.reduceSub, Nat.reduceMul, Nat.reduceEqDiff, Nat.reduceLeDiff, Nat.reduceLT, if_false, if_true, ite_true, ite_false, ↓reduceIte, Bool.not_true, Bool.not_false, Bool.false_eq_true, decide_true, decide_false, eq_self, and_true, true_and, and_self, Nat.zero_le, Nat.zero_add, Option.bind_some, Option.bind_none, Nat.lt_irrefl, Int.reduceToNat, Int.reducePow, Int.reduceNeg, Int.reduceMul, Int.reduceAdd, Int.reduceSub, Int.reduceLT, Int.reduceLE, Int.reduceEq, beq_self_eq_true, wipeE, MP.at0, MP.at1, MP.at2, MP.atLit, e]
theorem m_piecesX {R C : Nat} (hR : R ≤ 6) (hC : C ≤ 6) {es : List (Nat × Nat)} (hf : Fits R C es) (hn : es.length ≤ 12) (rd : List Int) (h : ¬ Can R C es rd) : sem_pieces [frD R C es, .tup (zs rd)] [] = .exc exC [] := by
  have e := m_checkedX hR hC hf hn rd h
  unfold sem_pieces b_pieces st_pieces_1
  simp (disch := (first | assumption | with_reducible rfl | decide +kernel | exact Or.inl (by decide +kernel) | exact Or.inr (by decide +kernel) | omega | (simp only [List.length_cons, List.length_nil, List.length_append, List.length_map, List.length_replicate, List.length_range] <;> omega) | rfl)) only [evEqs, List.getElem?_cons_zero, List.getElem?_cons_succ, List.getElem?_nil, List.set_cons_zero, List.set_cons_succ, List.map_cons, List.map_nil, List.length_cons, List.length_nil, List.length_append, List.cons_append, List.nil_append, List.length_map, List.length_singleton, Nat.reduceBEq, Nat.reduceAdd, Nat.reduceSub, Nat.reduceMul, Nat.reduceEqDiff, Nat.reduceLeDiff, Nat.reduceLT, if_false, if_true, ite_true, ite_false, ↓reduceIte, Bool.not_true, Bool.not_false, Bool.false_eq_true, decide_true, decide_false, eq_self, and_true, true_and, and_self, Nat.zero_le, Nat.zero_add, Option.bind_some, Option.bind_none, Nat.lt_irrefl, Int.reduceToNat, Int.reducePow, Int.reduceNeg, Int.reduceMul, Int.reduceAdd, Int.reduceSub, Int.reduceLT, Int.reduceLE, Int.reduceEq, beq_self_eq_true, wipeE, MP.at0, MP.at1, MP.at2, MP.atLit, e]
theorem m_whyX {R C : Nat} (hR : R ≤ 6) (hC : C ≤ 6) {es : List (Nat × Nat)} (hf : Fits R C es) (hn : es.length ≤ 12) (rd : List Int) (h : ¬ Can R C es rd) (k : Int) : sem_why [frD R C es, .tup (zs rd), .int k] [] = .exc exC [] := by
  have e := m_checkedX hR hC hf hn rd h
  unfold sem_why b_why st_why_1
  simp (disch := (first | assumption | with_reducible rfl | decide +kernel | exact Or.inl (by decide +kernel) | exact Or.inr (by decide +kernel) | omega | (simp only [List.length_cons, List.length_nil, List.length_append, List.length_map, List.length_replicate, List.length_range] <;> omega) | rfl)) only [evEqs, List.getElem?_cons_zero, List.getElem?_cons_succ, List.getElem?_nil, List.set_cons_zero, List.set_cons_succ, List.map_cons, List.map_nil, List.length_cons, List.length_nil, List.length_append, List.cons_append, List.nil_append, List.length_map, List.length_singleton, Nat.reduceBEq, Nat.reduceAdd, Nat.reduceSub, Nat.reduceMul, Nat.reduceEqDiff, Nat.reduceLeDiff, Nat.reduceLT, if_false, if_true, ite_true, ite_false, ↓reduceIte, Bool.not_true, Bool.not_false, Bool.false_eq_true, decide_true, decide_false, eq_self, and_true, true_and, and_self, Nat.zero_le, Nat.zero_add, Option.bind_some, Option.bind_none, Nat.lt_irrefl, Int.reduceToNat, Int.reducePow, Int.reduceNeg, Int.reduceMul, Int.reduceAdd, Int.reduceSub, Int.reduceLT, Int.reduceLE, Int.reduceEq, beq_self_eq_true, wipeE, MP.at0, MP.at1, MP.at2, MP.atLit, e]
theorem m_classes : sem_l_classes [.xv "NoReading" []] [] = .ok (.v (.int 1)) [] := by
  unfold sem_l_classes b_l_classes
  have e1 : gCount [.bool false, .bool true, .bool false, .bool false, .bool false, .bool false, .bool false, .bool false, .bool false, .bool false] (.bool true) = some ⟨.sh, .int 1⟩ := by rfl
  have e2 : gIndex [.bool false, .bool true, .bool false, .bool false, .bool false, .bool false, .bool false, .bool false, .bool false, .bool false] (.bool true) = some ⟨.sh, .int 1⟩ := by rfl
  simp (disch := (first | assumption | with_reducible rfl | decide +kernel | exact Or.inl (by decide +kernel) | exact Or.inr (by decide +kernel) | omega | (simp only [List.length_cons, List.length_nil, List.length_append, List.length_map, List.length_replicate, List.length_range] <;> omega) | rfl)) only [evEqs, List.getElem?_cons_zero, List.getElem?_cons_succ, List.getElem?_nil, List.set_cons_zero, List.set_cons_succ, List.map_cons, List.map_nil, List.length_cons, List.length_nil, List.length_append, List.cons_append, List.nil_append, List.length_map, List.length_singleton, Nat.reduceBEq, Nat.reduceAdd, Nat.reduceSub, Nat.reduceMul, Nat.reduceEqDiff, Nat.reduceLeDiff, Nat.reduceLT, if_false, if_true, ite_true, ite_false, ↓reduceIte, Bool.not_true, Bool.not_false, Bool.false_eq_true, decide_true, decide_false, eq_self, and_true, true_and, and_self, Nat.zero_le, Nat.zero_add, Option.bind_some, Option.bind_none, Nat.lt_irrefl, Int.reduceToNat, Int.reducePow, Int.reduceNeg, Int.reduceMul, Int.reduceAdd, Int.reduceSub, Int.reduceLT, Int.reduceLE, Int.reduceEq, beq_self_eq_true, wipeE, MP.at0, MP.at1, MP.at2, MP.atLit, ct_BedError_NoReading, gi_NoChord_NoReading, gi_NoBed_NoReading, gi_NoReading_NoReading, gi_NoFrame_NoReading, gi_NoBook_NoReading, gi_NoKeys_NoReading, gi_TooMany_NoReading, gi_NoText_NoReading, gi_NoRow_NoReading, gi_NoWord_NoReading, gi_ValueError_NoReading, e1, e2]
theorem m_refused {R C : Nat} (hR : R ≤ 6) (hC : C ≤ 6) {es : List (Nat × Nat)} (hf : Fits R C es) (hn : es.length ≤ 12) (rd : List Int) (h : ¬ Can R C es rd) (w k : Nat) (hw : w < 3) : sem_l_refused [frD R C es, .tup (zs rd), .int w, .int k] [] = .ok (.v (.bool true)) [] := by
  have e1 := m_piecesX hR hC hf hn rd h
  have e2 := m_seenX hR hC hf hn rd h
  have e3 := m_whyX hR hC hf hn rd h k
  have hc := m_classes
  unfold sem_l_refused
  refine run_ex (Q := fun r => r = .ok (.v (.bool true)) []) [.v (frD R C es), .v (.tup (zs rd)), .v (.int w), .v (.int k), .un, .un] rfl ?_
  unfold b_l_refused
  refine sqR (s' := ⟨[.v (frD R C es), .v (.tup (zs rd)), .v (.int w), .v (.int k), .v .none, .un], []⟩) (by unfold st_l_refused_1; simp (disch := (first | assumption | with_reducible rfl | decide +kernel | exact Or.inl (by decide +kernel) | exact Or.inr (by decide +kernel) | omega | (simp only [List.length_cons, List.length_nil, List.length_append, List.length_map, List.length_replicate, List.length_range] <;> omega) | rfl)) only [evEqs, List.getElem?_cons_zero, List.getElem?_cons_succ, List.getElem?_nil, List.set_cons_zero, List.set_cons_succ, List.map_cons, List.map_nil, List.length_cons, List.length_nil, List.length_append, List.cons_append, List.nil_append, List.length_map, List.length_singleton, Nat.reduceBEq, Nat.reduceAdd, Nat.reduceSub, Nat.reduceMul, Nat.reduceEqDiff, Nat.reduceLeDiff, Nat.reduceLT, if_false, if_true, ite_true, ite_false, ↓reduceIte, Bool.not_true, Bool.not_false, Bool.false_eq_true, decide_true, decide_false, eq_self, and_true, true_and, and_self, Nat.zero_le, Nat.zero_add, Option.bind_some, Option.bind_none, Nat.lt_irrefl, Int.reduceToNat, Int.reducePow, Int.reduceNeg, Int.reduceMul, Int.reduceAdd, Int.reduceSub, Int.reduceLT, Int.reduceLE, Int.reduceEq, beq_self_eq_true, wipeE, MP.at0, MP.at1, MP.at2, MP.atLit]) ?_
  refine sqR (s' := ⟨[.v (frD R C es), .v (.tup (zs rd)), .v (.int w), .v (.int k), .v (.xv "NoReading" []), .un], []⟩) ?_ ?_
  · unfold st_l_refused_2
    rcases (by omega : w = 0 ∨ w = 1 ∨ w = 2) with rfl | rfl | rfl
    · simp (disch := (first | assumption | with_reducible rfl | decide +kernel | exact Or.inl (by decide +kernel) | exact Or.inr (by decide +kernel) | omega | (simp only [List.length_cons, List.length_nil, List.length_append, List.length_map, List.length_replicate, List.length_range] <;> omega) | rfl)) only [evEqs, List.getElem?_cons_zero, List.getElem?_cons_succ, List.getElem?_nil, List.set_cons_zero, List.set_cons_succ, List.map_cons, List.map_nil, List.length_cons, List.length_nil, List.length_append, List.cons_append, List.nil_append, List.length_map, List.length_singleton, Nat.reduceBEq, Nat.reduceAdd, Nat.reduceSub, Nat.reduceMul, Nat.reduceEqDiff, Nat.reduceLeDiff, Nat.reduceLT, if_false, if_true, ite_true, ite_false, ↓reduceIte, Bool.not_true, Bool.not_false, Bool.false_eq_true, decide_true, decide_false, eq_self, and_true, true_and, and_self, Nat.zero_le, Nat.zero_add, Option.bind_some, Option.bind_none, Nat.lt_irrefl, Int.reduceToNat, Int.reducePow, Int.reduceNeg, Int.reduceMul, Int.reduceAdd, Int.reduceSub, Int.reduceLT, Int.reduceLE, Int.reduceEq, beq_self_eq_true, wipeE, MP.at0, MP.at1, MP.at2, MP.atLit, e1, exC, ct_BedError_NoReading, gi_NoChord_NoReading, gi_NoBed_NoReading, gi_NoReading_NoReading, gi_NoFrame_NoReading, gi_NoBook_NoReading, gi_NoKeys_NoReading, gi_TooMany_NoReading, gi_NoText_NoReading, gi_NoRow_NoReading, gi_NoWord_NoReading, gi_ValueError_NoReading, ct_BedError_NoReading]
    · simp (disch := (first | assumption | with_reducible rfl | decide +kernel | exact Or.inl (by decide +kernel) | exact Or.inr (by decide +kernel) | omega | (simp only [List.length_cons, List.length_nil, List.length_append, List.length_map, List.length_replicate, List.length_range] <;> omega) | rfl)) only [evEqs, List.getElem?_cons_zero, List.getElem?_cons_succ, List.getElem?_nil, List.set_cons_zero, List.set_cons_succ, List.map_cons, List.map_nil, List.length_cons, List.length_nil, List.length_append, List.cons_append, List.nil_append, List.length_map, List.length_singleton, Nat.reduceBEq, Nat.reduceAdd, Nat.reduceSub, Nat.reduceMul, Nat.reduceEqDiff, Nat.reduceLeDiff, Nat.reduceLT, if_false, if_true, ite_true, ite_false, ↓reduceIte, Bool.not_true, Bool.not_false, Bool.false_eq_true, decide_true, decide_false, eq_self, and_true, true_and, and_self, Nat.zero_le, Nat.zero_add, Option.bind_some, Option.bind_none, Nat.lt_irrefl, Int.reduceToNat, Int.reducePow, Int.reduceNeg, Int.reduceMul, Int.reduceAdd, Int.reduceSub, Int.reduceLT, Int.reduceLE, Int.reduceEq, beq_self_eq_true, wipeE, MP.at0, MP.at1, MP.at2, MP.atLit, e2, exC, ct_BedError_NoReading, gi_NoChord_NoReading, gi_NoBed_NoReading, gi_NoReading_NoReading, gi_NoFrame_NoReading, gi_NoBook_NoReading, gi_NoKeys_NoReading, gi_TooMany_NoReading, gi_NoText_NoReading, gi_NoRow_NoReading, gi_NoWord_NoReading, gi_ValueError_NoReading, ct_BedError_NoReading]
    · simp (disch := (first | assumption | with_reducible rfl | decide +kernel | exact Or.inl (by decide +kernel) | exact Or.inr (by decide +kernel) | omega | (simp only [List.length_cons, List.length_nil, List.length_append, List.length_map, List.length_replicate, List.length_range] <;> omega) | rfl)) only [evEqs, List.getElem?_cons_zero, List.getElem?_cons_succ, List.getElem?_nil, List.set_cons_zero, List.set_cons_succ, List.map_cons, List.map_nil, List.length_cons, List.length_nil, List.length_append, List.cons_append, List.nil_append, List.length_map, List.length_singleton, Nat.reduceBEq, Nat.reduceAdd, Nat.reduceSub, Nat.reduceMul, Nat.reduceEqDiff, Nat.reduceLeDiff, Nat.reduceLT, if_false, if_true, ite_true, ite_false, ↓reduceIte, Bool.not_true, Bool.not_false, Bool.false_eq_true, decide_true, decide_false, eq_self, and_true, true_and, and_self, Nat.zero_le, Nat.zero_add, Option.bind_some, Option.bind_none, Nat.lt_irrefl, Int.reduceToNat, Int.reducePow, Int.reduceNeg, Int.reduceMul, Int.reduceAdd, Int.reduceSub, Int.reduceLT, Int.reduceLE, Int.reduceEq, beq_self_eq_true, wipeE, MP.at0, MP.at1, MP.at2, MP.atLit, e3, exC, ct_BedError_NoReading, gi_NoChord_NoReading, gi_NoBed_NoReading, gi_NoReading_NoReading, gi_NoFrame_NoReading, gi_NoBook_NoReading, gi_NoKeys_NoReading, gi_TooMany_NoReading, gi_NoText_NoReading, gi_NoRow_NoReading, gi_NoWord_NoReading, gi_ValueError_NoReading, ct_BedError_NoReading]
  · unfold st_l_refused_3
    simp (disch := (first | assumption | with_reducible rfl | decide +kernel | exact Or.inl (by decide +kernel) | exact Or.inr (by decide +kernel) | omega | (simp only [List.length_cons, List.length_nil, List.length_append, List.length_map, List.length_replicate, List.length_range] <;> omega) | rfl)) only [evEqs, List.getElem?_cons_zero, List.getElem?_cons_succ, List.getElem?_nil, List.set_cons_zero, List.set_cons_succ, List.map_cons, List.map_nil, List.length_cons, List.length_nil, List.length_append, List.cons_append, List.nil_append, List.length_map, List.length_singleton, Nat.reduceBEq, Nat.reduceAdd, Nat.reduceSub, Nat.reduceMul, Nat.reduceEqDiff, Nat.reduceLeDiff, Nat.reduceLT, if_false, if_true, ite_true, ite_false, ↓reduceIte, Bool.not_true, Bool.not_false, Bool.false_eq_true, decide_true, decide_false, eq_self, and_true, true_and, and_self, Nat.zero_le, Nat.zero_add, Option.bind_some, Option.bind_none, Nat.lt_irrefl, Int.reduceToNat, Int.reducePow, Int.reduceNeg, Int.reduceMul, Int.reduceAdd, Int.reduceSub, Int.reduceLT, Int.reduceLE, Int.reduceEq, beq_self_eq_true, wipeE, MP.at0, MP.at1, MP.at2, MP.atLit, hc]

/-! ## a reading turned about -/
theorem zs_take (l : List Int) (n : Nat) : (zs l).take n = zs (l.take n) := by unfold zs; rw [List.map_take]
theorem zs_drop (l : List Int) (n : Nat) : (zs l).drop n = zs (l.drop n) := by unfold zs; rw [List.map_drop]
theorem zs_app (a b : List Int) : zs a ++ zs b = zs (a ++ b) := by unfold zs; rw [List.map_append]
theorem zs_one (a : Int) : [D.int a] = zs [a] := rfl
def turnS (ns : List Int) (R C : Nat) (es : List (Nat × Nat)) (is : List Int) (x3 x4 x5 x6 x7 : Slot) : Sta := ⟨[.v (.lk (zs ns)), .v (frD R C es), .v (.tup (zs is)), x3, x4, x5, x6, x7], []⟩
theorem m_turned (ns : List Int) {R C : Nat} (hR : 0 < R ∧ R ≤ 6) (hC : 0 < C ∧ C ≤ 6) (es : List (Nat × Nat)) (is : List Int) (hl : is.length = R) : ∃ rd : List Int, rd.length ≤ 7 ∧ sem_l_turned [.lk (zs ns), frD R C es, .tup (zs is)] [] = .ok (.v (.tup (zs rd))) [] := by
  unfold sem_l_turned
  refine run_ex (Q := fun r => ∃ rd : List Int, rd.length ≤ 7 ∧ r = .ok (.v (.tup (zs rd))) []) (turnS ns R C es is .un .un .un .un .un).env rfl ?_
  unfold b_l_turned
  have c14 := m_cell ns 14 (by decide)
  generalize ns.getD (14 : Int).toNat 0 = c at c14
  obtain ⟨a, ha, ea⟩ := m_take c 5 (by decide) R hR.1
  obtain ⟨w, hw, ew⟩ := m_take c 6 (by decide) 9 (by decide)
  obtain ⟨u, hu, eu⟩ := m_take c 7 (by decide) C hC.1
  obtain ⟨v, hv, ev⟩ := m_take c 7 (by decide) 4 (by decide)
  have ea : sem_l_take [.int c, .int 5, .int R] [] = .ok (.v (.int a)) [] := ea
  have ew : sem_l_take [.int c, .int 6, .int 9] [] = .ok (.v (.int w)) [] := ew
  have eu : sem_l_take [.int c, .int 7, .int C] [] = .ok (.v (.int u)) [] := eu
  have ev : sem_l_take [.int c, .int 7, .int 4] [] = .ok (.v (.int v)) [] := ev
  have hzl := zs_len is
  have hzl2 : ((zs is).length : Int) = R := by omega
  have hat := zs_at is a (by omega)
  let P : Fl → Prop := fun fl => ∃ rd : List Int, rd.length ≤ 7 ∧ fl.fr = .ok (.v (.tup (zs rd))) []
  refine sq (P := P) (s' := turnS ns R C es is (.v (.int c)) .un .un .un .un) (by unfold st_l_turned_1 turnS; simp (disch := (first | assumption | with_reducible rfl | decide +kernel | exact Or.inl (by decide +kernel) | exact Or.inr (by decide +kernel) | omega | (simp only [List.length_cons, List.length_nil, List.length_append, List.length_map, List.length_replicate, List.length_range] <;> omega) | rfl)) only [evEqs, List.getElem?_cons_zero, List.getElem?_cons_succ, List.getElem?_nil, List.set_cons_zero, List.set_cons_succ, List.map_cons, List.map_nil, List.length_cons, List.length_nil, List.length_append, List.cons_append, List.nil_append, List.length_map, List.length_singleton, Nat.reduceBEq, Nat.reduceAdd, Nat.reduceSub, Nat.reduceMul, Nat.reduceEqDiff, Nat.reduceLeDiff, Nat.reduceLT, if_false, if_true, ite_true, ite_false, ↓reduceIte, Bool.not_true, Bool.not_false, Bool.false_eq_true, decide_true, decide_false, eq_self, and_true, true_and, and_self, Nat.zero_le, Nat.zero_add, Option.bind_some, Option.bind_none, Nat.lt_irrefl, Int.reduceToNat, Int.reducePow, Int.reduceNeg, Int.reduceMul, Int.reduceAdd, Int.reduceSub, Int.reduceLT, Int.reduceLE, Int.reduceEq, beq_self_eq_true, wipeE, MP.at0, MP.at1, MP.at2, MP.atLit, c14]) ?_
  refine sq (P := P) (s' := turnS ns R C es is (.v (.int c)) (.v (.int a)) .un .un .un) (by unfold st_l_turned_2 turnS; simp (disch := (first | assumption | with_reducible rfl | decide +kernel | exact Or.inl (by decide +kernel) | exact Or.inr (by decide +kernel) | omega | (simp only [List.length_cons, List.length_nil, List.length_append, List.length_map, List.length_replicate, List.length_range] <;> omega) | rfl)) only [evEqs, List.getElem?_cons_zero, List.getElem?_cons_succ, List.getElem?_nil, List.set_cons_zero, List.set_cons_succ, List.map_cons, List.map_nil, List.length_cons, List.length_nil, List.length_append, List.cons_append, List.nil_append, List.length_map, List.length_singleton, Nat.reduceBEq, Nat.reduceAdd, Nat.reduceSub, Nat.reduceMul, Nat.reduceEqDiff, Nat.reduceLeDiff, Nat.reduceLT, if_false, if_true, ite_true, ite_false, ↓reduceIte, Bool.not_true, Bool.not_false, Bool.false_eq_true, decide_true, decide_false, eq_self, and_true, true_and, and_self, Nat.zero_le, Nat.zero_add, Option.bind_some, Option.bind_none, Nat.lt_irrefl, Int.reduceToNat, Int.reducePow, Int.reduceNeg, Int.reduceMul, Int.reduceAdd, Int.reduceSub, Int.reduceLT, Int.reduceLE, Int.reduceEq, beq_self_eq_true, wipeE, MP.at0, MP.at1, MP.at2, MP.atLit, ea, hzl2]) ?_
  refine sq (P := P) (s' := turnS ns R C es is (.v (.int c)) (.v (.int a)) (.v (.int w)) .un .un) (by unfold st_l_turned_3 turnS; simp (disch := (first | assumption | with_reducible rfl | decide +kernel | exact Or.inl (by decide +kernel) | exact Or.inr (by decide +kernel) | omega | (simp only [List.length_cons, List.length_nil, List.length_append, List.length_map, List.length_replicate, List.length_range] <;> omega) | rfl)) only [evEqs, List.getElem?_cons_zero, List.getElem?_cons_succ, List.getElem?_nil, List.set_cons_zero, List.set_cons_succ, List.map_cons, List.map_nil, List.length_cons, List.length_nil, List.length_append, List.cons_append, List.nil_append, List.length_map, List.length_singleton, Nat.reduceBEq, Nat.reduceAdd, Nat.reduceSub, Nat.reduceMul, Nat.reduceEqDiff, Nat.reduceLeDiff, Nat.reduceLT, if_false, if_true, ite_true, ite_false, ↓reduceIte, Bool.not_true, Bool.not_false, Bool.false_eq_true, decide_true, decide_false, eq_self, and_true, true_and, and_self, Nat.zero_le, Nat.zero_add, Option.bind_some, Option.bind_none, Nat.lt_irrefl, Int.reduceToNat, Int.reducePow, Int.reduceNeg, Int.reduceMul, Int.reduceAdd, Int.reduceSub, Int.reduceLT, Int.reduceLE, Int.reduceEq, beq_self_eq_true, wipeE, MP.at0, MP.at1, MP.at2, MP.atLit, ew]) ?_
  refine sq (P := P) (s' := turnS ns R C es is (.v (.int c)) (.v (.int a)) (.v (.int w)) (.v (.int (is.getD a 0))) .un) (by unfold st_l_turned_4 turnS; simp (disch := (first | assumption | with_reducible rfl | decide +kernel | exact Or.inl (by decide +kernel) | exact Or.inr (by decide +kernel) | omega | (simp only [List.length_cons, List.length_nil, List.length_append, List.length_map, List.length_replicate, List.length_range] <;> omega) | rfl)) only [evEqs, List.getElem?_cons_zero, List.getElem?_cons_succ, List.getElem?_nil, List.set_cons_zero, List.set_cons_succ, List.map_cons, List.map_nil, List.length_cons, List.length_nil, List.length_append, List.cons_append, List.nil_append, List.length_map, List.length_singleton, Nat.reduceBEq, Nat.reduceAdd, Nat.reduceSub, Nat.reduceMul, Nat.reduceEqDiff, Nat.reduceLeDiff, Nat.reduceLT, if_false, if_true, ite_true, ite_false, ↓reduceIte, Bool.not_true, Bool.not_false, Bool.false_eq_true, decide_true, decide_false, eq_self, and_true, true_and, and_self, Nat.zero_le, Nat.zero_add, Option.bind_some, Option.bind_none, Nat.lt_irrefl, Int.reduceToNat, Int.reducePow, Int.reduceNeg, Int.reduceMul, Int.reduceAdd, Int.reduceSub, Int.reduceLT, Int.reduceLE, Int.reduceEq, beq_self_eq_true, wipeE, MP.at0, MP.at1, MP.at2, MP.atLit, atN, hat]) ?_
  generalize is.getD a 0 = x
  obtain ⟨y, e5⟩ : ∃ y : Int, st_l_turned_5 (turnS ns R C es is (.v (.int c)) (.v (.int a)) (.v (.int w)) (.v (.int x)) .un) = .nx (turnS ns R C es is (.v (.int c)) (.v (.int a)) (.v (.int w)) (.v (.int y)) .un) := by
    unfold st_l_turned_5 turnS
    by_cases h : (w : Int) < 2
    · refine ⟨Builtin.bitXor x (1 * 2 ^ u), ?_⟩
      simp (disch := (first | assumption | with_reducible rfl | decide +kernel | exact Or.inl (by decide +kernel) | exact Or.inr (by decide +kernel) | omega | (simp only [List.length_cons, List.length_nil, List.length_append, List.length_map, List.length_replicate, List.length_range] <;> omega) | rfl)) only [evEqs, List.getElem?_cons_zero, List.getElem?_cons_succ, List.getElem?_nil, List.set_cons_zero, List.set_cons_succ, List.map_cons, List.map_nil, List.length_cons, List.length_nil, List.length_append, List.cons_append, List.nil_append, List.length_map, List.length_singleton, Nat.reduceBEq, Nat.reduceAdd, Nat.reduceSub, Nat.reduceMul, Nat.reduceEqDiff, Nat.reduceLeDiff, Nat.reduceLT, if_false, if_true, ite_true, ite_false, ↓reduceIte, Bool.not_true, Bool.not_false, Bool.false_eq_true, decide_true, decide_false, eq_self, and_true, true_and, and_self, Nat.zero_le, Nat.zero_add, Option.bind_some, Option.bind_none, Nat.lt_irrefl, Int.reduceToNat, Int.reducePow, Int.reduceNeg, Int.reduceMul, Int.reduceAdd, Int.reduceSub, Int.reduceLT, Int.reduceLE, Int.reduceEq, beq_self_eq_true, wipeE, MP.at0, MP.at1, MP.at2, MP.atLit, h, frD_1, eu, Int.toNat_natCast]
    · refine ⟨x, ?_⟩
      simp (disch := (first | assumption | with_reducible rfl | decide +kernel | exact Or.inl (by decide +kernel) | exact Or.inr (by decide +kernel) | omega | (simp only [List.length_cons, List.length_nil, List.length_append, List.length_map, List.length_replicate, List.length_range] <;> omega) | rfl)) only [evEqs, List.getElem?_cons_zero, List.getElem?_cons_succ, List.getElem?_nil, List.set_cons_zero, List.set_cons_succ, List.map_cons, List.map_nil, List.length_cons, List.length_nil, List.length_append, List.cons_append, List.nil_append, List.length_map, List.length_singleton, Nat.reduceBEq, Nat.reduceAdd, Nat.reduceSub, Nat.reduceMul, Nat.reduceEqDiff, Nat.reduceLeDiff, Nat.reduceLT, if_false, if_true, ite_true, ite_false, ↓reduceIte, Bool.not_true, Bool.not_false, Bool.false_eq_true, decide_true, decide_false, eq_self, and_true, true_and, and_self, Nat.zero_le, Nat.zero_add, Option.bind_some, Option.bind_none, Nat.lt_irrefl, Int.reduceToNat, Int.reducePow, Int.reduceNeg, Int.reduceMul, Int.reduceAdd, Int.reduceSub, Int.reduceLT, Int.reduceLE, Int.reduceEq, beq_self_eq_true, wipeE, MP.at0, MP.at1, MP.at2, MP.atLit, h]
  refine sq (P := P) e5 ?_
  obtain ⟨z, e6⟩ : ∃ z : Int, st_l_turned_6 (turnS ns R C es is (.v (.int c)) (.v (.int a)) (.v (.int w)) (.v (.int y)) .un) = .nx (turnS ns R C es is (.v (.int c)) (.v (.int a)) (.v (.int w)) (.v (.int z)) .un) := by
    unfold st_l_turned_6 turnS
    by_cases h : (w : Int) = 2
    · have h' : ((w : Int) = 2) = True := eq_true h
      obtain ⟨q, e3⟩ : ∃ q : Int, atI [D.int (-1), .int (1 * 2 ^ C), .int (0 - y - 1), .int 1000000000000000000] (v : Int) = some (.int q) := by
        rw [atN]
        rcases (by omega : v = 0 ∨ v = 1 ∨ v = 2 ∨ v = 3) with rfl | rfl | rfl | rfl <;> exact ⟨_, rfl⟩
      refine ⟨q, ?_⟩
      simp (disch := (first | assumption | with_reducible rfl | decide +kernel | exact Or.inl (by decide +kernel) | exact Or.inr (by decide +kernel) | omega | (simp only [List.length_cons, List.length_nil, List.length_append, List.length_map, List.length_replicate, List.length_range] <;> omega) | rfl)) only [evEqs, List.getElem?_cons_zero, List.getElem?_cons_succ, List.getElem?_nil, List.set_cons_zero, List.set_cons_succ, List.map_cons, List.map_nil, List.length_cons, List.length_nil, List.length_append, List.cons_append, List.nil_append, List.length_map, List.length_singleton, Nat.reduceBEq, Nat.reduceAdd, Nat.reduceSub, Nat.reduceMul, Nat.reduceEqDiff, Nat.reduceLeDiff, Nat.reduceLT, if_false, if_true, ite_true, ite_false, ↓reduceIte, Bool.not_true, Bool.not_false, Bool.false_eq_true, decide_true, decide_false, eq_self, and_true, true_and, and_self, Nat.zero_le, Nat.zero_add, Option.bind_some, Option.bind_none, Nat.lt_irrefl, Int.reduceToNat, Int.reducePow, Int.reduceNeg, Int.reduceMul, Int.reduceAdd, Int.reduceSub, Int.reduceLT, Int.reduceLE, Int.reduceEq, beq_self_eq_true, wipeE, MP.at0, MP.at1, MP.at2, MP.atLit, h', frD_1, ev, Int.toNat_natCast, e3]
    · have h' : ((w : Int) = 2) = False := eq_false h
      refine ⟨y, ?_⟩
      simp (disch := (first | assumption | with_reducible rfl | decide +kernel | exact Or.inl (by decide +kernel) | exact Or.inr (by decide +kernel) | omega | (simp only [List.length_cons, List.length_nil, List.length_append, List.length_map, List.length_replicate, List.length_range] <;> omega) | rfl)) only [evEqs, List.getElem?_cons_zero, List.getElem?_cons_succ, List.getElem?_nil, List.set_cons_zero, List.set_cons_succ, List.map_cons, List.map_nil, List.length_cons, List.length_nil, List.length_append, List.cons_append, List.nil_append, List.length_map, List.length_singleton, Nat.reduceBEq, Nat.reduceAdd, Nat.reduceSub, Nat.reduceMul, Nat.reduceEqDiff, Nat.reduceLeDiff, Nat.reduceLT, if_false, if_true, ite_true, ite_false, ↓reduceIte, Bool.not_true, Bool.not_false, Bool.false_eq_true, decide_true, decide_false, eq_self, and_true, true_and, and_self, Nat.zero_le, Nat.zero_add, Option.bind_some, Option.bind_none, Nat.lt_irrefl, Int.reduceToNat, Int.reducePow, Int.reduceNeg, Int.reduceMul, Int.reduceAdd, Int.reduceSub, Int.reduceLT, Int.reduceLE, Int.reduceEq, beq_self_eq_true, wipeE, MP.at0, MP.at1, MP.at2, MP.atLit, h']
  refine sq (P := P) e6 ?_
  have c1 : cutD (zs is) none (some (a : Int)) = zs (is.take a) := by rw [cut_hi _ (by omega), Int.toNat_natCast, zs_take]
  have c2 : cutD (zs is) (some ((a : Int) + 1)) none = zs (is.drop (a + 1)) := by rw [cut_lo _ (by omega), show ((a : Int) + 1).toNat = a + 1 by omega, zs_drop]
  have c3 : cutD (zs is) (some (a : Int)) none = zs (is.drop a) := by rw [cut_lo _ (by omega), Int.toNat_natCast, zs_drop]
  have l1 : (zs (is.take a)).length ≤ 6 := by rw [zs_len, List.length_take]; omega
  have l2 : (zs (is.drop (a + 1))).length ≤ 6 := by rw [zs_len, List.length_drop]; omega
  have l3 : (zs (is.drop a)).length ≤ 6 := by rw [zs_len, List.length_drop]; omega
  have l4 : (zs (is.take a ++ [z])).length ≤ 7 := by rw [zs_len, List.length_append, List.length_take]; simp; omega
  have l5 : (zs [z]).length ≤ 7 := by rw [zs_len]; simp
  by_cases h3 : (w : Int) = 3
  · have h3' : ((w : Int) = 3) = True := eq_true h3
    refine ⟨is.take a ++ is.drop (a + 1), by rw [List.length_append, List.length_take, List.length_drop]; omega, ?_⟩
    unfold st_l_turned_7 turnS
    simp (disch := (first | assumption | with_reducible rfl | decide +kernel | exact Or.inl (by decide +kernel) | exact Or.inr (by decide +kernel) | omega | (simp only [List.length_cons, List.length_nil, List.length_append, List.length_map, List.length_replicate, List.length_range] <;> omega) | rfl)) only [evEqs, List.getElem?_cons_zero, List.getElem?_cons_succ, List.getElem?_nil, List.set_cons_zero, List.set_cons_succ, List.map_cons, List.map_nil, List.length_cons, List.length_nil, List.length_append, List.cons_append, List.nil_append, List.length_map, List.length_singleton, Nat.reduceBEq, Nat.reduceAdd, Nat.reduceSub, Nat.reduceMul, Nat.reduceEqDiff, Nat.reduceLeDiff, Nat.reduceLT, if_false, if_true, ite_true, ite_false, ↓reduceIte, Bool.not_true, Bool.not_false, Bool.false_eq_true, decide_true, decide_false, eq_self, and_true, true_and, and_self, Nat.zero_le, Nat.zero_add, Option.bind_some, Option.bind_none, Nat.lt_irrefl, Int.reduceToNat, Int.reducePow, Int.reduceNeg, Int.reduceMul, Int.reduceAdd, Int.reduceSub, Int.reduceLT, Int.reduceLE, Int.reduceEq, beq_self_eq_true, wipeE, MP.at0, MP.at1, MP.at2, MP.atLit, h3', c1, c2, zs_app]
  refine sq (P := P) (s' := turnS ns R C es is (.v (.int c)) (.v (.int a)) (.v (.int w)) (.v (.int z)) .un) (by
    have h3' : ((w : Int) = 3) = False := eq_false h3
    unfold st_l_turned_7 turnS; simp (disch := (first | assumption | with_reducible rfl | decide +kernel | exact Or.inl (by decide +kernel) | exact Or.inr (by decide +kernel) | omega | (simp only [List.length_cons, List.length_nil, List.length_append, List.length_map, List.length_replicate, List.length_range] <;> omega) | rfl)) only [evEqs, List.getElem?_cons_zero, List.getElem?_cons_succ, List.getElem?_nil, List.set_cons_zero, List.set_cons_succ, List.map_cons, List.map_nil, List.length_cons, List.length_nil, List.length_append, List.cons_append, List.nil_append, List.length_map, List.length_singleton, Nat.reduceBEq, Nat.reduceAdd, Nat.reduceSub, Nat.reduceMul, Nat.reduceEqDiff, Nat.reduceLeDiff, Nat.reduceLT, if_false, if_true, ite_true, ite_false, ↓reduceIte, Bool.not_true, Bool.not_false, Bool.false_eq_true, decide_true, decide_false, eq_self, and_true, true_and, and_self, Nat.zero_le, Nat.zero_add, Option.bind_some, Option.bind_none, Nat.lt_irrefl, Int.reduceToNat, Int.reducePow, Int.reduceNeg, Int.reduceMul, Int.reduceAdd, Int.reduceSub, Int.reduceLT, Int.reduceLE, Int.reduceEq, beq_self_eq_true, wipeE, MP.at0, MP.at1, MP.at2, MP.atLit, h3']) ?_
  by_cases h4 : (w : Int) = 4
  · have h4' : ((w : Int) = 4) = True := eq_true h4
    refine ⟨is.take a ++ [z] ++ is.drop a, by rw [List.length_append, List.length_append, List.length_take, List.length_drop, List.length_singleton]; omega, ?_⟩
    unfold st_l_turned_8 turnS
    simp (disch := (first | assumption | with_reducible rfl | decide +kernel | exact Or.inl (by decide +kernel) | exact Or.inr (by decide +kernel) | omega | (simp only [List.length_cons, List.length_nil, List.length_append, List.length_map, List.length_replicate, List.length_range] <;> omega) | rfl)) only [evEqs, List.getElem?_cons_zero, List.getElem?_cons_succ, List.getElem?_nil, List.set_cons_zero, List.set_cons_succ, List.map_cons, List.map_nil, List.length_cons, List.length_nil, List.length_append, List.cons_append, List.nil_append, List.length_map, List.length_singleton, Nat.reduceBEq, Nat.reduceAdd, Nat.reduceSub, Nat.reduceMul, Nat.reduceEqDiff, Nat.reduceLeDiff, Nat.reduceLT, if_false, if_true, ite_true, ite_false, ↓reduceIte, Bool.not_true, Bool.not_false, Bool.false_eq_true, decide_true, decide_false, eq_self, and_true, true_and, and_self, Nat.zero_le, Nat.zero_add, Option.bind_some, Option.bind_none, Nat.lt_irrefl, Int.reduceToNat, Int.reducePow, Int.reduceNeg, Int.reduceMul, Int.reduceAdd, Int.reduceSub, Int.reduceLT, Int.reduceLE, Int.reduceEq, beq_self_eq_true, wipeE, MP.at0, MP.at1, MP.at2, MP.atLit, h4', c1, c3, zs_one, zs_app]
  refine sq (P := P) (s' := turnS ns R C es is (.v (.int c)) (.v (.int a)) (.v (.int w)) (.v (.int z)) .un) (by
    have h4' : ((w : Int) = 4) = False := eq_false h4
    unfold st_l_turned_8 turnS; simp (disch := (first | assumption | with_reducible rfl | decide +kernel | exact Or.inl (by decide +kernel) | exact Or.inr (by decide +kernel) | omega | (simp only [List.length_cons, List.length_nil, List.length_append, List.length_map, List.length_replicate, List.length_range] <;> omega) | rfl)) only [evEqs, List.getElem?_cons_zero, List.getElem?_cons_succ, List.getElem?_nil, List.set_cons_zero, List.set_cons_succ, List.map_cons, List.map_nil, List.length_cons, List.length_nil, List.length_append, List.cons_append, List.nil_append, List.length_map, List.length_singleton, Nat.reduceBEq, Nat.reduceAdd, Nat.reduceSub, Nat.reduceMul, Nat.reduceEqDiff, Nat.reduceLeDiff, Nat.reduceLT, if_false, if_true, ite_true, ite_false, ↓reduceIte, Bool.not_true, Bool.not_false, Bool.false_eq_true, decide_true, decide_false, eq_self, and_true, true_and, and_self, Nat.zero_le, Nat.zero_add, Option.bind_some, Option.bind_none, Nat.lt_irrefl, Int.reduceToNat, Int.reducePow, Int.reduceNeg, Int.reduceMul, Int.reduceAdd, Int.reduceSub, Int.reduceLT, Int.reduceLE, Int.reduceEq, beq_self_eq_true, wipeE, MP.at0, MP.at1, MP.at2, MP.atLit, h4']) ?_
  by_cases h5 : (w : Int) = 5
  · have h5' : ((w : Int) = 5) = True := eq_true h5
    obtain ⟨l, hl1, hl2, hl3⟩ := compE (t := .nm 7) (te := pD (pUser 3 sem_l_take (pCons (pD (pVar 3)) (pCons (pD (p2 gPlus (pC (.int 20)) (pVar 7))) (pCons (pD (p2 gShl (pC (.int 1)) (p2 gIx (pVar 1) (pC (.int 1))))) (pNil))))))
      (s := ⟨[.v (.lk (zs ns)), .v (frD R C es), .v (.tup (zs is)), .v (.int c), .v (.int a), .v (.int w), .v (.int z), .un], []⟩) (fun _ : Int => True) (fun i : Int => D.int i) (rng 0 (R : Int)) (by
        intro d hd
        rw [rng_nD] at hd
        unfold nD at hd
        obtain ⟨k, hk, rfl⟩ := List.mem_map.mp hd
        have hk := List.mem_range.mp hk
        have hp : 0 < 2 ^ C := Nat.two_pow_pos C
        obtain ⟨q, _, eq⟩ := m_take c (20 + k) (by omega) (2 ^ C) hp
        have eq : sem_l_take [.int c, .int (20 + (k : Int)), .int (1 * 2 ^ C)] [] = .ok (.v (.int q)) [] := by
          have e1 : (((20 + k : Nat)) : Int) = 20 + (k : Int) := by omega
          have e2 : ((2 ^ C : Nat) : Int) = 1 * 2 ^ C := by rw [Int.one_mul]; exact Int.natCast_pow 2 C
          rw [e1, e2] at eq
          exact eq
        refine ⟨(q : Int), trivial, _, b_nm .., ?_⟩
        simp (disch := (first | assumption | with_reducible rfl | decide +kernel | exact Or.inl (by decide +kernel) | exact Or.inr (by decide +kernel) | omega | (simp only [List.length_cons, List.length_nil, List.length_append, List.length_map, List.length_replicate, List.length_range] <;> omega) | rfl)) only [evEqs, List.getElem?_cons_zero, List.getElem?_cons_succ, List.getElem?_nil, List.set_cons_zero, List.set_cons_succ, List.map_cons, List.map_nil, List.length_cons, List.length_nil, List.length_append, List.cons_append, List.nil_append, List.length_map, List.length_singleton, Nat.reduceBEq, Nat.reduceAdd, Nat.reduceSub, Nat.reduceMul, Nat.reduceEqDiff, Nat.reduceLeDiff, Nat.reduceLT, if_false, if_true, ite_true, ite_false, ↓reduceIte, Bool.not_true, Bool.not_false, Bool.false_eq_true, decide_true, decide_false, eq_self, and_true, true_and, and_self, Nat.zero_le, Nat.zero_add, Option.bind_some, Option.bind_none, Nat.lt_irrefl, Int.reduceToNat, Int.reducePow, Int.reduceNeg, Int.reduceMul, Int.reduceAdd, Int.reduceSub, Int.reduceLT, Int.reduceLE, Int.reduceEq, beq_self_eq_true, wipeE, MP.at0, MP.at1, MP.at2, MP.atLit, frD_1, Int.toNat_natCast, eq])
    refine ⟨l, by rw [hl1, rngLenN]; omega, ?_⟩
    have hl4 : l.map (fun i : Int => D.int i) = zs l := rfl
    have hl5 : (zs l).length ≤ 7 := by rw [zs_len, hl1, rngLenN]; omega
    rw [hl4] at hl3
    have hrl := rngLenN R
    unfold st_l_turned_9 turnS
    simp (disch := (first | assumption | with_reducible rfl | decide +kernel | exact Or.inl (by decide +kernel) | exact Or.inr (by decide +kernel) | omega | (simp only [List.length_cons, List.length_nil, List.length_append, List.length_map, List.length_replicate, List.length_range] <;> omega) | rfl)) only [evEqs, List.getElem?_cons_zero, List.getElem?_cons_succ, List.getElem?_nil, List.set_cons_zero, List.set_cons_succ, List.map_cons, List.map_nil, List.length_cons, List.length_nil, List.length_append, List.cons_append, List.nil_append, List.length_map, List.length_singleton, Nat.reduceBEq, Nat.reduceAdd, Nat.reduceSub, Nat.reduceMul, Nat.reduceEqDiff, Nat.reduceLeDiff, Nat.reduceLT, if_false, if_true, ite_true, ite_false, ↓reduceIte, Bool.not_true, Bool.not_false, Bool.false_eq_true, decide_true, decide_false, eq_self, and_true, true_and, and_self, Nat.zero_le, Nat.zero_add, Option.bind_some, Option.bind_none, Nat.lt_irrefl, Int.reduceToNat, Int.reducePow, Int.reduceNeg, Int.reduceMul, Int.reduceAdd, Int.reduceSub, Int.reduceLT, Int.reduceLE, Int.reduceEq, beq_self_eq_true, wipeE, MP.at0, MP.at1, MP.at2, MP.atLit, h5', frD_0, hl3]
  · have h5' : ((w : Int) = 5) = False := eq_false h5
    refine ⟨is.take a ++ [z] ++ is.drop (a + 1), by rw [List.length_append, List.length_append, List.length_take, List.length_drop, List.length_singleton]; omega, ?_⟩
    unfold st_l_turned_9 st_l_turned_10 turnS
    simp (disch := (first | assumption | with_reducible rfl | decide +kernel | exact Or.inl (by decide +kernel) | exact Or.inr (by decide +kernel) | omega | (simp only [List.length_cons, List.length_nil, List.length_append, List.length_map, List.length_replicate, List.length_range] <;> omega) | rfl)) only [evEqs, List.getElem?_cons_zero, List.getElem?_cons_succ, List.getElem?_nil, List.set_cons_zero, List.set_cons_succ, List.map_cons, List.map_nil, List.length_cons, List.length_nil, List.length_append, List.cons_append, List.nil_append, List.length_map, List.length_singleton, Nat.reduceBEq, Nat.reduceAdd, Nat.reduceSub, Nat.reduceMul, Nat.reduceEqDiff, Nat.reduceLeDiff, Nat.reduceLT, if_false, if_true, ite_true, ite_false, ↓reduceIte, Bool.not_true, Bool.not_false, Bool.false_eq_true, decide_true, decide_false, eq_self, and_true, true_and, and_self, Nat.zero_le, Nat.zero_add, Option.bind_some, Option.bind_none, Nat.lt_irrefl, Int.reduceToNat, Int.reducePow, Int.reduceNeg, Int.reduceMul, Int.reduceAdd, Int.reduceSub, Int.reduceLT, Int.reduceLE, Int.reduceEq, beq_self_eq_true, wipeE, MP.at0, MP.at1, MP.at2, MP.atLit, h5', c1, c2, zs_one, zs_app]
/-! ## whether it can be -/
theorem eqvAll_zs : ∀ a b : List Int, PyData.eqvAll (pys (zs a)) (pys (zs b)) = decide (a = b)
  | [], [] => rfl
  | [], b :: bs => rfl
  | a :: as, [] => rfl
  | a :: as, b :: bs => by
    show (a == b && PyData.eqvAll (pys (zs as)) (pys (zs bs))) = _
    rw [eqvAll_zs as bs]
    by_cases h1 : a = b
    · subst h1; simp
    · simp [h1]
theorem plain_zs (a : List Int) : (D.tup (zs a)).plain 7 = true := by
  show (zs a).all (D.plain 6) = true
  unfold zs
  rw [List.all_map]
  exact List.all_eq_true.mpr fun _ _ => rfl
theorem plain_zs9 (a : List Int) : (D.tup (zs a)).plain 9 = true := by
  show (zs a).all (D.plain 8) = true
  unfold zs
  rw [List.all_map]
  exact List.all_eq_true.mpr fun _ _ => rfl
theorem any_zs (k : List Int) : ∀ as : List (List Int), ((pys (as.map fun a => D.tup (zs a))).any fun z => PyData.eqv z (D.tup (zs k)).py) = decide (k ∈ as)
  | [] => by simp [pys]
  | a :: as => by
    show (PyData.eqv (D.tup (zs a)).py (D.tup (zs k)).py || _) = _
    rw [any_zs k as]
    show (PyData.eqvAll (pys _) (pys _) || _) = _
    rw [eqvAll_zs]
    by_cases h1 : a = k
    · subst h1; simp
    · have : ¬ k = a := fun e => h1 e.symm
      simp [h1, this]
theorem gIn_zs (k : List Int) (as : List (List Int)) : gIn (.tup (zs k)) (.list (as.map fun a => D.tup (zs a))) = some ⟨.sh, .bool (decide (k ∈ as))⟩ := by
  have h : (D.list (as.map fun a => D.tup (zs a))).plain 9 = true := by
    show (as.map fun a => D.tup (zs a)).all (D.plain 8) = true
    rw [List.all_map]
    refine List.all_eq_true.mpr fun a _ => ?_
    show (zs a).all (D.plain 7) = true
    unfold zs
    rw [List.all_map]
    exact List.all_eq_true.mpr fun _ _ => rfl
  have : inB (.tup (zs k)) (.list (as.map fun a => D.tup (zs a))) = some (decide (k ∈ as)) := by
    unfold inB
    simp only [seqOf]
    rw [if_neg (fun h => Bool.false_ne_true h.1), if_pos ⟨rfl, plain_shaped (plain_zs9 k), plain_shaped h⟩, any_zs]
  unfold gIn
  rw [this]
  rfl
theorem m_can {R C : Nat} (hR : 0 < R ∧ R ≤ 6) (hC : C ≤ 6) {es : List (Nat × Nat)} (hf : Fits R C es) (hn : es.length ≤ 12) (rd : List Int) (hrl : rd.length ≤ 7) : ∃ b : Bool, (b = true ↔ Can R C es rd) ∧ sem_l_can [frD R C es, .tup (zs rd)] [] = .ok (.v (.bool b)) [] := by
  have hl := zs_len rd
  have hls := spsD_len es
  unfold sem_l_can
  refine run_ex (Q := fun r => ∃ b : Bool, (b = true ↔ Can R C es rd) ∧ r = .ok (.v (.bool b)) []) [.v (frD R C es), .v (.tup (zs rd)), .un, .un, .un] rfl ?_
  unfold b_l_can
  let P : Fl → Prop := fun fl => ∃ b : Bool, (b = true ↔ Can R C es rd) ∧ fl.fr = .ok (.v (.bool b)) []
  refine sq (P := P) (s' := ⟨[.v (frD R C es), .v (.tup (zs rd)), .v (.tup (spsD es)), .un, .un], []⟩) (by unfold st_l_can_1; simp (disch := (first | assumption | with_reducible rfl | decide +kernel | exact Or.inl (by decide +kernel) | exact Or.inr (by decide +kernel) | omega | (simp only [List.length_cons, List.length_nil, List.length_append, List.length_map, List.length_replicate, List.length_range] <;> omega) | rfl)) only [evEqs, List.getElem?_cons_zero, List.getElem?_cons_succ, List.getElem?_nil, List.set_cons_zero, List.set_cons_succ, List.map_cons, List.map_nil, List.length_cons, List.length_nil, List.length_append, List.cons_append, List.nil_append, List.length_map, List.length_singleton, Nat.reduceBEq, Nat.reduceAdd, Nat.reduceSub, Nat.reduceMul, Nat.reduceEqDiff, Nat.reduceLeDiff, Nat.reduceLT, if_false, if_true, ite_true, ite_false, ↓reduceIte, Bool.not_true, Bool.not_false, Bool.false_eq_true, decide_true, decide_false, eq_self, and_true, true_and, and_self, Nat.zero_le, Nat.zero_add, Option.bind_some, Option.bind_none, Nat.lt_irrefl, Int.reduceToNat, Int.reducePow, Int.reduceNeg, Int.reduceMul, Int.reduceAdd, Int.reduceSub, Int.reduceLT, Int.reduceLE, Int.reduceEq, beq_self_eq_true, wipeE, MP.at0, MP.at1, MP.at2, MP.atLit, frD_2]) ?_
  by_cases h7 : es.length < 7
  · have h7' : ((es.length : Int) < 7) = True := eq_true (by omega)
    have hst := m_sets es.length (by omega)
    have hsets : ((setsF es.length).map setD).length ≤ 64 := by
      unfold setsF
      rw [List.length_map, List.length_map, List.length_range]
      exact Nat.pow_le_pow_right (n := 2) (by decide) (by omega : es.length ≤ 6)
    have hc : compL (.nm 3) pYes (pD (pUser 2 sem_l_reading (pCons (pD (pVar 0)) (pCons (pD (pVar 3)) (pNil))))) ⟨[.v (frD R C es), .v (.tup (zs rd)), .v (.tup (spsD es)), .un, .un], []⟩ ((setsF es.length).map setD) =
        .ok ((setsF es.length).map fun ks => .tup (zs (nI (readF R C (edgesOf es ks))))) := by
      refine compA _ _ _ fun ks hks => ⟨_, b_nm .., ?_⟩
      have ha := sets_asc hks
      have er : sem_l_reading [frD R C es, setD ks] [] = _ := m_reading R C hR.2 hC es hf ks ha.lt (Nat.le_trans ha.len (by omega))
      rw [zs_nI]
      simp (disch := (first | assumption | with_reducible rfl | decide +kernel | exact Or.inl (by decide +kernel) | exact Or.inr (by decide +kernel) | omega | (simp only [List.length_cons, List.length_nil, List.length_append, List.length_map, List.length_replicate, List.length_range] <;> omega) | rfl)) only [evEqs, List.getElem?_cons_zero, List.getElem?_cons_succ, List.getElem?_nil, List.set_cons_zero, List.set_cons_succ, List.map_cons, List.map_nil, List.length_cons, List.length_nil, List.length_append, List.cons_append, List.nil_append, List.length_map, List.length_singleton, Nat.reduceBEq, Nat.reduceAdd, Nat.reduceSub, Nat.reduceMul, Nat.reduceEqDiff, Nat.reduceLeDiff, Nat.reduceLT, if_false, if_true, ite_true, ite_false, ↓reduceIte, Bool.not_true, Bool.not_false, Bool.false_eq_true, decide_true, decide_false, eq_self, and_true, true_and, and_self, Nat.zero_le, Nat.zero_add, Option.bind_some, Option.bind_none, Nat.lt_irrefl, Int.reduceToNat, Int.reducePow, Int.reduceNeg, Int.reduceMul, Int.reduceAdd, Int.reduceSub, Int.reduceLT, Int.reduceLE, Int.reduceEq, beq_self_eq_true, wipeE, MP.at0, MP.at1, MP.at2, MP.atLit, er]
    have hin := gIn_zs rd ((setsF es.length).map fun ks => nI (readF R C (edgesOf es ks)))
    rw [List.map_map] at hin
    have hin : gIn (.tup (zs rd)) (.list ((setsF es.length).map fun ks => .tup (zs (nI (readF R C (edgesOf es ks)))))) = _ := hin
    refine ⟨decide (rd ∈ (setsF es.length).map fun ks => nI (readF R C (edgesOf es ks))), ?_, ?_⟩
    · rw [decide_eq_true_eq, List.mem_map]
      exact ⟨fun ⟨ks, h1, h2⟩ => ⟨ks, sets_asc h1, h2.symm⟩, fun ⟨ks, h1, h2⟩ => ⟨ks, sets_all h1, h2.symm⟩⟩
    · unfold st_l_can_2
      generalize (setsF es.length).map setD = sd at *
      generalize ((setsF es.length).map fun ks => D.tup (zs (nI (readF R C (edgesOf es ks))))) = sr at *
      simp (disch := (first | assumption | with_reducible rfl | decide +kernel | exact Or.inl (by decide +kernel) | exact Or.inr (by decide +kernel) | omega | (simp only [List.length_cons, List.length_nil, List.length_append, List.length_map, List.length_replicate, List.length_range] <;> omega) | rfl)) only [evEqs, List.getElem?_cons_zero, List.getElem?_cons_succ, List.getElem?_nil, List.set_cons_zero, List.set_cons_succ, List.map_cons, List.map_nil, List.length_cons, List.length_nil, List.length_append, List.cons_append, List.nil_append, List.length_map, List.length_singleton, Nat.reduceBEq, Nat.reduceAdd, Nat.reduceSub, Nat.reduceMul, Nat.reduceEqDiff, Nat.reduceLeDiff, Nat.reduceLT, if_false, if_true, ite_true, ite_false, ↓reduceIte, Bool.not_true, Bool.not_false, Bool.false_eq_true, decide_true, decide_false, eq_self, and_true, true_and, and_self, Nat.zero_le, Nat.zero_add, Option.bind_some, Option.bind_none, Nat.lt_irrefl, Int.reduceToNat, Int.reducePow, Int.reduceNeg, Int.reduceMul, Int.reduceAdd, Int.reduceSub, Int.reduceLT, Int.reduceLE, Int.reduceEq, beq_self_eq_true, wipeE, MP.at0, MP.at1, MP.at2, MP.atLit, hls, h7', hst, hc, hin]
  have h7' : ((es.length : Int) < 7) = False := eq_false (by omega)
  refine sq (P := P) (s' := ⟨[.v (frD R C es), .v (.tup (zs rd)), .v (.tup (spsD es)), .un, .un], []⟩) (by unfold st_l_can_2; simp (disch := (first | assumption | with_reducible rfl | decide +kernel | exact Or.inl (by decide +kernel) | exact Or.inr (by decide +kernel) | omega | (simp only [List.length_cons, List.length_nil, List.length_append, List.length_map, List.length_replicate, List.length_range] <;> omega) | rfl)) only [evEqs, List.getElem?_cons_zero, List.getElem?_cons_succ, List.getElem?_nil, List.set_cons_zero, List.set_cons_succ, List.map_cons, List.map_nil, List.length_cons, List.length_nil, List.length_append, List.cons_append, List.nil_append, List.length_map, List.length_singleton, Nat.reduceBEq, Nat.reduceAdd, Nat.reduceSub, Nat.reduceMul, Nat.reduceEqDiff, Nat.reduceLeDiff, Nat.reduceLT, if_false, if_true, ite_true, ite_false, ↓reduceIte, Bool.not_true, Bool.not_false, Bool.false_eq_true, decide_true, decide_false, eq_self, and_true, true_and, and_self, Nat.zero_le, Nat.zero_add, Option.bind_some, Option.bind_none, Nat.lt_irrefl, Int.reduceToNat, Int.reducePow, Int.reduceNeg, Int.reduceMul, Int.reduceAdd, Int.reduceSub, Int.reduceLT, Int.reduceLE, Int.reduceEq, beq_self_eq_true, wipeE, MP.at0, MP.at1, MP.at2, MP.atLit, hls, h7']) ?_
  have no : (¬ Can R C es rd) → st_l_can_3 ⟨[.v (frD R C es), .v (.tup (zs rd)), .v (.tup (spsD es)), .un, .un], []⟩ = .ret (.v (.bool false)) ⟨[.v (frD R C es), .v (.tup (zs rd)), .v (.tup (spsD es)), .un, .un], []⟩ → P (sSeq st_l_can_3 (sSeq st_l_can_4 st_l_can_5) ⟨[.v (frD R C es), .v (.tup (zs rd)), .v (.tup (spsD es)), .un, .un], []⟩) := fun h1 h2 => by
    refine ⟨false, ⟨fun h => Bool.noConfusion h, fun h => (h1 h).elim⟩, ?_⟩
    simp (disch := (first | assumption | with_reducible rfl | decide +kernel | exact Or.inl (by decide +kernel) | exact Or.inr (by decide +kernel) | omega | (simp only [List.length_cons, List.length_nil, List.length_append, List.length_map, List.length_replicate, List.length_range] <;> omega) | rfl)) only [evEqs, List.getElem?_cons_zero, List.getElem?_cons_succ, List.getElem?_nil, List.set_cons_zero, List.set_cons_succ, List.map_cons, List.map_nil, List.length_cons, List.length_nil, List.length_append, List.cons_append, List.nil_append, List.length_map, List.length_singleton, Nat.reduceBEq, Nat.reduceAdd, Nat.reduceSub, Nat.reduceMul, Nat.reduceEqDiff, Nat.reduceLeDiff, Nat.reduceLT, if_false, if_true, ite_true, ite_false, ↓reduceIte, Bool.not_true, Bool.not_false, Bool.false_eq_true, decide_true, decide_false, eq_self, and_true, true_and, and_self, Nat.zero_le, Nat.zero_add, Option.bind_some, Option.bind_none, Nat.lt_irrefl, Int.reduceToNat, Int.reducePow, Int.reduceNeg, Int.reduceMul, Int.reduceAdd, Int.reduceSub, Int.reduceLT, Int.reduceLE, Int.reduceEq, beq_self_eq_true, wipeE, MP.at0, MP.at1, MP.at2, MP.atLit, h2]
  by_cases h1 : rd.length = R
  · have h1' : ((zs rd).length : Int) = R := by omega
    obtain ⟨n, ms, rfl⟩ : ∃ n ms, rd = n :: ms := by
      cases rd with
      | nil => simp at h1; omega
      | cons n ms => exact ⟨n, ms, rfl⟩
    have e1 : gMinT [.tup (zs (n :: ms))] = some ⟨.sh, .int (lmin n ms)⟩ := g_minT n ms
    have e2 : gMaxT [.tup (zs (n :: ms))] = some ⟨.sh, .int (lmax n ms)⟩ := g_maxT n ms
    have hm := lmin_lt 0 ms n
    have hx := lmax_lt (1 * 2 ^ C) ms n
    generalize lmin n ms = lo at *
    generalize lmax n ms = hi at *
    by_cases h2 : lo < 0
    · refine no (fun hc => ?_) (by unfold st_l_can_3; simp (disch := (first | assumption | with_reducible rfl | decide +kernel | exact Or.inl (by decide +kernel) | exact Or.inr (by decide +kernel) | omega | (simp only [List.length_cons, List.length_nil, List.length_append, List.length_map, List.length_replicate, List.length_range] <;> omega) | rfl)) only [evEqs, List.getElem?_cons_zero, List.getElem?_cons_succ, List.getElem?_nil, List.set_cons_zero, List.set_cons_succ, List.map_cons, List.map_nil, List.length_cons, List.length_nil, List.length_append, List.cons_append, List.nil_append, List.length_map, List.length_singleton, Nat.reduceBEq, Nat.reduceAdd, Nat.reduceSub, Nat.reduceMul, Nat.reduceEqDiff, Nat.reduceLeDiff, Nat.reduceLT, if_false, if_true, ite_true, ite_false, ↓reduceIte, Bool.not_true, Bool.not_false, Bool.false_eq_true, decide_true, decide_false, eq_self, and_true, true_and, and_self, Nat.zero_le, Nat.zero_add, Option.bind_some, Option.bind_none, Nat.lt_irrefl, Int.reduceToNat, Int.reducePow, Int.reduceNeg, Int.reduceMul, Int.reduceAdd, Int.reduceSub, Int.reduceLT, Int.reduceLE, Int.reduceEq, beq_self_eq_true, wipeE, MP.at0, MP.at1, MP.at2, MP.atLit, frD_0, h1', e1, h2])
      have hb := ((can_iff hf _).mp hc).2.1
      rcases hm.mp h2 with h | ⟨x, hx, h⟩
      · have := (hb n (List.mem_cons_self ..)).1; omega
      · have := (hb x (List.mem_cons_of_mem _ hx)).1; omega
    by_cases h3 : 1 * 2 ^ C ≤ hi
    · refine no (fun hc => ?_) (by unfold st_l_can_3; simp (disch := (first | assumption | with_reducible rfl | decide +kernel | exact Or.inl (by decide +kernel) | exact Or.inr (by decide +kernel) | omega | (simp only [List.length_cons, List.length_nil, List.length_append, List.length_map, List.length_replicate, List.length_range] <;> omega) | rfl)) only [evEqs, List.getElem?_cons_zero, List.getElem?_cons_succ, List.getElem?_nil, List.set_cons_zero, List.set_cons_succ, List.map_cons, List.map_nil, List.length_cons, List.length_nil, List.length_append, List.cons_append, List.nil_append, List.length_map, List.length_singleton, Nat.reduceBEq, Nat.reduceAdd, Nat.reduceSub, Nat.reduceMul, Nat.reduceEqDiff, Nat.reduceLeDiff, Nat.reduceLT, if_false, if_true, ite_true, ite_false, ↓reduceIte, Bool.not_true, Bool.not_false, Bool.false_eq_true, decide_true, decide_false, eq_self, and_true, true_and, and_self, Nat.zero_le, Nat.zero_add, Option.bind_some, Option.bind_none, Nat.lt_irrefl, Int.reduceToNat, Int.reducePow, Int.reduceNeg, Int.reduceMul, Int.reduceAdd, Int.reduceSub, Int.reduceLT, Int.reduceLE, Int.reduceEq, beq_self_eq_true, wipeE, MP.at0, MP.at1, MP.at2, MP.atLit, frD_0, frD_1, h1', e1, e2, h2, h3, Int.toNat_natCast])
      have hb := ((can_iff hf _).mp hc).2.1
      rcases hx.mp h3 with h | ⟨x, hx, h⟩
      · exact Int.not_lt.mpr h (hb n (List.mem_cons_self ..)).2
      · exact Int.not_lt.mpr h (hb x (List.mem_cons_of_mem _ hx)).2
    refine sq (P := P) (s' := ⟨[.v (frD R C es), .v (.tup (zs (n :: ms))), .v (.tup (spsD es)), .un, .un], []⟩) (by unfold st_l_can_3; simp (disch := (first | assumption | with_reducible rfl | decide +kernel | exact Or.inl (by decide +kernel) | exact Or.inr (by decide +kernel) | omega | (simp only [List.length_cons, List.length_nil, List.length_append, List.length_map, List.length_replicate, List.length_range] <;> omega) | rfl)) only [evEqs, List.getElem?_cons_zero, List.getElem?_cons_succ, List.getElem?_nil, List.set_cons_zero, List.set_cons_succ, List.map_cons, List.map_nil, List.length_cons, List.length_nil, List.length_append, List.cons_append, List.nil_append, List.length_map, List.length_singleton, Nat.reduceBEq, Nat.reduceAdd, Nat.reduceSub, Nat.reduceMul, Nat.reduceEqDiff, Nat.reduceLeDiff, Nat.reduceLT, if_false, if_true, ite_true, ite_false, ↓reduceIte, Bool.not_true, Bool.not_false, Bool.false_eq_true, decide_true, decide_false, eq_self, and_true, true_and, and_self, Nat.zero_le, Nat.zero_add, Option.bind_some, Option.bind_none, Nat.lt_irrefl, Int.reduceToNat, Int.reducePow, Int.reduceNeg, Int.reduceMul, Int.reduceAdd, Int.reduceSub, Int.reduceLT, Int.reduceLE, Int.reduceEq, beq_self_eq_true, wipeE, MP.at0, MP.at1, MP.at2, MP.atLit, frD_0, frD_1, h1', e1, e2, h2, h3, Int.toNat_natCast]) ?_
    have hb : ∀ v ∈ n :: ms, inR C v := by
      intro v hv
      constructor
      · refine Int.not_lt.mp fun z => h2 (hm.mpr ?_)
        rcases List.mem_cons.mp hv with rfl | hv
        · exact .inl z
        · exact .inr ⟨v, hv, z⟩
      · refine Int.not_le.mp fun z => h3 (hx.mpr ?_)
        rcases List.mem_cons.mp hv with rfl | hv
        · exact .inl z
        · exact .inr ⟨v, hv, z⟩
    have hci := can_iff hf (n :: ms)
    have er := nI_of hb
    generalize (n :: ms).map Int.toNat = qs at er hci
    generalize hrd : n :: ms = rd at *
    have hql : qs.length = R := by
      rw [er] at h1
      unfold nI at h1
      rw [List.length_map] at h1
      exact h1
    have ez : zs rd = nD qs := by rw [er, zs_nI]
    rw [ez]
    have hkc := m_kC hf qs hql 4 (by decide) [.v (frD R C es), .v (.tup (nD qs)), .v (.tup (spsD es)), .un, .un] rfl rfl (by simp)
    have hrl2 := rngLenN es.length
    have hcl : (nD (kF es qs)).length ≤ 12 := by
      rw [nD_len]
      exact Nat.le_trans (kF_asc es qs).len hn
    refine sq (P := P) (s' := ⟨[.v (frD R C es), .v (.tup (nD qs)), .v (.tup (spsD es)), .v (.list (nD (kF es qs))), .un], []⟩) (by unfold st_l_can_4; simp (disch := (first | assumption | with_reducible rfl | decide +kernel | exact Or.inl (by decide +kernel) | exact Or.inr (by decide +kernel) | omega | (simp only [List.length_cons, List.length_nil, List.length_append, List.length_map, List.length_replicate, List.length_range] <;> omega) | rfl)) only [evEqs, List.getElem?_cons_zero, List.getElem?_cons_succ, List.getElem?_nil, List.set_cons_zero, List.set_cons_succ, List.map_cons, List.map_nil, List.length_cons, List.length_nil, List.length_append, List.cons_append, List.nil_append, List.length_map, List.length_singleton, Nat.reduceBEq, Nat.reduceAdd, Nat.reduceSub, Nat.reduceMul, Nat.reduceEqDiff, Nat.reduceLeDiff, Nat.reduceLT, if_false, if_true, ite_true, ite_false, ↓reduceIte, Bool.not_true, Bool.not_false, Bool.false_eq_true, decide_true, decide_false, eq_self, and_true, true_and, and_self, Nat.zero_le, Nat.zero_add, Option.bind_some, Option.bind_none, Nat.lt_irrefl, Int.reduceToNat, Int.reducePow, Int.reduceNeg, Int.reduceMul, Int.reduceAdd, Int.reduceSub, Int.reduceLT, Int.reduceLE, Int.reduceEq, beq_self_eq_true, wipeE, MP.at0, MP.at1, MP.at2, MP.atLit, hls, hkc]) ?_
    have hre := m_reading R C hR.2 hC es hf (kF es qs) (kF_asc es qs).lt (Nat.le_trans (kF_asc es qs).len hn)
    have heq : gEq (.tup (nD (readF R C (edgesOf es (kF es qs))))) (.tup (nD qs)) = some ⟨.sh, .bool (decide (readF R C (edgesOf es (kF es qs)) = qs))⟩ := gEq_ints _ _
    refine ⟨decide (readF R C (edgesOf es (kF es qs)) = qs), ?_, ?_⟩
    · rw [decide_eq_true_eq, hrd, hci]
      exact ⟨fun h => ⟨h1, hb, h⟩, fun h => h.2.2⟩
    · unfold st_l_can_5
      simp (disch := (first | assumption | with_reducible rfl | decide +kernel | exact Or.inl (by decide +kernel) | exact Or.inr (by decide +kernel) | omega | (simp only [List.length_cons, List.length_nil, List.length_append, List.length_map, List.length_replicate, List.length_range] <;> omega) | rfl)) only [evEqs, List.getElem?_cons_zero, List.getElem?_cons_succ, List.getElem?_nil, List.set_cons_zero, List.set_cons_succ, List.map_cons, List.map_nil, List.length_cons, List.length_nil, List.length_append, List.cons_append, List.nil_append, List.length_map, List.length_singleton, Nat.reduceBEq, Nat.reduceAdd, Nat.reduceSub, Nat.reduceMul, Nat.reduceEqDiff, Nat.reduceLeDiff, Nat.reduceLT, if_false, if_true, ite_true, ite_false, ↓reduceIte, Bool.not_true, Bool.not_false, Bool.false_eq_true, decide_true, decide_false, eq_self, and_true, true_and, and_self, Nat.zero_le, Nat.zero_add, Option.bind_some, Option.bind_none, Nat.lt_irrefl, Int.reduceToNat, Int.reducePow, Int.reduceNeg, Int.reduceMul, Int.reduceAdd, Int.reduceSub, Int.reduceLT, Int.reduceLE, Int.reduceEq, beq_self_eq_true, wipeE, MP.at0, MP.at1, MP.at2, MP.atLit, hre, heq]
  · have h1' : ¬ ((zs rd).length : Int) = R := by omega
    exact no (fun hc => h1 ((can_iff hf _).mp hc).1) (by unfold st_l_can_3; simp (disch := (first | assumption | with_reducible rfl | decide +kernel | exact Or.inl (by decide +kernel) | exact Or.inr (by decide +kernel) | omega | (simp only [List.length_cons, List.length_nil, List.length_append, List.length_map, List.length_replicate, List.length_range] <;> omega) | rfl)) only [evEqs, List.getElem?_cons_zero, List.getElem?_cons_succ, List.getElem?_nil, List.set_cons_zero, List.set_cons_succ, List.map_cons, List.map_nil, List.length_cons, List.length_nil, List.length_append, List.cons_append, List.nil_append, List.length_map, List.length_singleton, Nat.reduceBEq, Nat.reduceAdd, Nat.reduceSub, Nat.reduceMul, Nat.reduceEqDiff, Nat.reduceLeDiff, Nat.reduceLT, if_false, if_true, ite_true, ite_false, ↓reduceIte, Bool.not_true, Bool.not_false, Bool.false_eq_true, decide_true, decide_false, eq_self, and_true, true_and, and_self, Nat.zero_le, Nat.zero_add, Option.bind_some, Option.bind_none, Nat.lt_irrefl, Int.reduceToNat, Int.reducePow, Int.reduceNeg, Int.reduceMul, Int.reduceAdd, Int.reduceSub, Int.reduceLT, Int.reduceLE, Int.reduceEq, beq_self_eq_true, wipeE, MP.at0, MP.at1, MP.at2, MP.atLit, frD_0, h1'])

/-! ## pieces -/
def rowsF (ms : List Nat) (v : Nat) : List Nat := (List.range ms.length).filter fun r => decide (ms.getD r 0 = v)
def colsF (C v : Nat) : List Nat := (List.range C).filter fun c => decide (v / 2 ^ c % 2 = 1)
def pieceN (C : Nat) (ms : List Nat) (v : Nat) : PP := (nI (rowsF ms v), nI (colsF C v))
theorem mk_piece (C : Nat) (ms : List Nat) (v : Nat) : mkP (pieceN C ms v) = .tup [.tup (nD (rowsF ms v)), .tup (nD (colsF C v))] := by
  unfold mkP pieceN
  rw [nD_nI, nD_nI]
theorem filt_one {α β : Type} (q : α → Bool) (f : α → β) (a : α) : ([a].filter q).map f = if q a then [f a] else [] := by cases h : q a <;> simp [h]
theorem rows_len (ms : List Nat) (v : Nat) : (rowsF ms v).length ≤ ms.length := by
  unfold rowsF
  exact Nat.le_trans (List.length_filter_le ..) (by simp)
theorem cols_len (C v : Nat) : (colsF C v).length ≤ C := by
  unfold colsF
  exact Nat.le_trans (List.length_filter_le ..) (by simp)
theorem m_colsC (C v : Nat) (j k : Nat) (hjk : j ≠ k) (env : List Slot) (hj : env[j]? = some (.v (.int v))) (hk : k < env.length) :
    compL (.nm k) (pB (p2 gEq (p2 gAnd (p2 gShr (pVar j) (pVar k)) (pC (.int 1))) (pC (.int 1)))) (pD (pVar k)) ⟨env, []⟩ (rng 0 (C : Int)) = .ok (nD (colsF C v)) := by
  rw [rng_nD]
  unfold colsF
  refine compN _ _ fun c _ => ⟨_, b_nm .., ?_, fun _ => ?_⟩
  · have ek : (env.set k (.v (.int (c : Int))))[k]? = some (.v (.int c)) := by rw [List.getElem?_set_self hk]
    have ej : (env.set k (.v (.int (c : Int))))[j]? = some (.v (.int v)) := by rw [List.getElem?_set_ne (Ne.symm hjk), hj]
    have e2 : ((v : Nat) : Int) / 2 ^ c = ((v / 2 ^ c : Nat) : Int) := by
      rw [Int.natCast_ediv, Int.natCast_pow]
      rfl
    have e3 : (((v / 2 ^ c % 2 : Nat) : Int) = 1) = (v / 2 ^ c % 2 = 1) := by apply propext; omega
    simp (disch := (first | assumption | with_reducible rfl | decide +kernel | exact Or.inl (by decide +kernel) | exact Or.inr (by decide +kernel) | omega | (simp only [List.length_cons, List.length_nil, List.length_append, List.length_map, List.length_replicate, List.length_range] <;> omega) | rfl)) only [evEqs, List.getElem?_cons_zero, List.getElem?_cons_succ, List.getElem?_nil, List.set_cons_zero, List.set_cons_succ, List.map_cons, List.map_nil, List.length_cons, List.length_nil, List.length_append, List.cons_append, List.nil_append, List.length_map, List.length_singleton, Nat.reduceBEq, Nat.reduceAdd, Nat.reduceSub, Nat.reduceMul, Nat.reduceEqDiff, Nat.reduceLeDiff, Nat.reduceLT, if_false, if_true, ite_true, ite_false, ↓reduceIte, Bool.not_true, Bool.not_false, Bool.false_eq_true, decide_true, decide_false, eq_self, and_true, true_and, and_self, Nat.zero_le, Nat.zero_add, Option.bind_some, Option.bind_none, Nat.lt_irrefl, Int.reduceToNat, Int.reducePow, Int.reduceNeg, Int.reduceMul, Int.reduceAdd, Int.reduceSub, Int.reduceLT, Int.reduceLE, Int.reduceEq, beq_self_eq_true, wipeE, MP.at0, MP.at1, MP.at2, MP.atLit, ek, ej, Int.toNat_natCast, e2, bit_and1, e3]
  · have ek : (env.set k (.v (.int (c : Int))))[k]? = some (.v (.int c)) := by rw [List.getElem?_set_self hk]
    simp (disch := (first | assumption | with_reducible rfl | decide +kernel | exact Or.inl (by decide +kernel) | exact Or.inr (by decide +kernel) | omega | (simp only [List.length_cons, List.length_nil, List.length_append, List.length_map, List.length_replicate, List.length_range] <;> omega) | rfl)) only [evEqs, List.getElem?_cons_zero, List.getElem?_cons_succ, List.getElem?_nil, List.set_cons_zero, List.set_cons_succ, List.map_cons, List.map_nil, List.length_cons, List.length_nil, List.length_append, List.cons_append, List.nil_append, List.length_map, List.length_singleton, Nat.reduceBEq, Nat.reduceAdd, Nat.reduceSub, Nat.reduceMul, Nat.reduceEqDiff, Nat.reduceLeDiff, Nat.reduceLT, if_false, if_true, ite_true, ite_false, ↓reduceIte, Bool.not_true, Bool.not_false, Bool.false_eq_true, decide_true, decide_false, eq_self, and_true, true_and, and_self, Nat.zero_le, Nat.zero_add, Option.bind_some, Option.bind_none, Nat.lt_irrefl, Int.reduceToNat, Int.reducePow, Int.reduceNeg, Int.reduceMul, Int.reduceAdd, Int.reduceSub, Int.reduceLT, Int.reduceLE, Int.reduceEq, beq_self_eq_true, wipeE, MP.at0, MP.at1, MP.at2, MP.atLit, ek]
theorem m_pieces_1 {R C : Nat} (hR : R ≤ 6) (hC : C ≤ 6) {es : List (Nat × Nat)} (ms : List Nat) (hl : ms.length = R) (v : Nat) (found : List D) (hfl : found.length ≤ 100) (x4 : Slot) :
    ∃ x4', lp_pieces_1 ⟨[.v (frD R C es), .v (.tup (nD ms)), .own (.list found), .v (.int v), x4, .un, .un], []⟩ =
      .nx ⟨[.v (frD R C es), .v (.tup (nD ms)), .own (.list (found ++ if 0 < v then [mkP (pieceN C ms v)] else [])), .v (.int v), x4', .un, .un], []⟩ := by
  unfold lp_pieces_1
  by_cases hv : 0 < v
  · have hv' : (0 : Int) < (v : Int) := by omega
    have hr : ∀ x4 : Slot, compL (.nm 5) (pB (p2 gEq (p2 gIx (pVar 1) (pVar 5)) (pVar 3))) (pD (pVar 5)) ⟨[.v (frD R C es), .v (.tup (nD ms)), .own (.list found), .v (.int v), x4, .un, .un], []⟩ (rng 0 (R : Int)) = .ok (nD (rowsF ms v)) := by
      intro x4
      rw [rng_nD]
      unfold rowsF
      rw [hl]
      refine compN _ _ fun r hr => ⟨_, b_nm .., ?_, fun _ => ?_⟩
      · have e1 := nD_at ms r (by have := List.mem_range.mp hr; omega)
        have e2 : (((ms.getD r 0 : Nat) : Int) = (v : Int)) = (ms.getD r 0 = v) := by apply propext; omega
        simp (disch := (first | assumption | with_reducible rfl | decide +kernel | exact Or.inl (by decide +kernel) | exact Or.inr (by decide +kernel) | omega | (simp only [List.length_cons, List.length_nil, List.length_append, List.length_map, List.length_replicate, List.length_range] <;> omega) | rfl)) only [evEqs, List.getElem?_cons_zero, List.getElem?_cons_succ, List.getElem?_nil, List.set_cons_zero, List.set_cons_succ, List.map_cons, List.map_nil, List.length_cons, List.length_nil, List.length_append, List.cons_append, List.nil_append, List.length_map, List.length_singleton, Nat.reduceBEq, Nat.reduceAdd, Nat.reduceSub, Nat.reduceMul, Nat.reduceEqDiff, Nat.reduceLeDiff, Nat.reduceLT, if_false, if_true, ite_true, ite_false, ↓reduceIte, Bool.not_true, Bool.not_false, Bool.false_eq_true, decide_true, decide_false, eq_self, and_true, true_and, and_self, Nat.zero_le, Nat.zero_add, Option.bind_some, Option.bind_none, Nat.lt_irrefl, Int.reduceToNat, Int.reducePow, Int.reduceNeg, Int.reduceMul, Int.reduceAdd, Int.reduceSub, Int.reduceLT, Int.reduceLE, Int.reduceEq, beq_self_eq_true, wipeE, MP.at0, MP.at1, MP.at2, MP.atLit, atN, e1, e2]
      · simp (disch := (first | assumption | with_reducible rfl | decide +kernel | exact Or.inl (by decide +kernel) | exact Or.inr (by decide +kernel) | omega | (simp only [List.length_cons, List.length_nil, List.length_append, List.length_map, List.length_replicate, List.length_range] <;> omega) | rfl)) only [evEqs, List.getElem?_cons_zero, List.getElem?_cons_succ, List.getElem?_nil, List.set_cons_zero, List.set_cons_succ, List.map_cons, List.map_nil, List.length_cons, List.length_nil, List.length_append, List.cons_append, List.nil_append, List.length_map, List.length_singleton, Nat.reduceBEq, Nat.reduceAdd, Nat.reduceSub, Nat.reduceMul, Nat.reduceEqDiff, Nat.reduceLeDiff, Nat.reduceLT, if_false, if_true, ite_true, ite_false, ↓reduceIte, Bool.not_true, Bool.not_false, Bool.false_eq_true, decide_true, decide_false, eq_self, and_true, true_and, and_self, Nat.zero_le, Nat.zero_add, Option.bind_some, Option.bind_none, Nat.lt_irrefl, Int.reduceToNat, Int.reducePow, Int.reduceNeg, Int.reduceMul, Int.reduceAdd, Int.reduceSub, Int.reduceLT, Int.reduceLE, Int.reduceEq, beq_self_eq_true, wipeE, MP.at0, MP.at1, MP.at2, MP.atLit]
    have hc := m_colsC C v 3 6 (by decide) [.v (frD R C es), .v (.tup (nD ms)), .own (.list found), .v (.int v), .v (.tup (nD (rowsF ms v))), .un, .un] rfl (by simp)
    have h1 := rngLenN R
    have h2 := rngLenN C
    have h3 : (nD (rowsF ms v)).length ≤ 6 := by rw [nD_len]; exact Nat.le_trans (rows_len ms v) (by omega)
    have h4 : (nD (colsF C v)).length ≤ 6 := by rw [nD_len]; exact Nat.le_trans (cols_len C v) hC
    rw [if_pos hv, mk_piece]
    simp (disch := (first | assumption | with_reducible rfl | decide +kernel | exact Or.inl (by decide +kernel) | exact Or.inr (by decide +kernel) | omega | (simp only [List.length_cons, List.length_nil, List.length_append, List.length_map, List.length_replicate, List.length_range] <;> omega) | rfl)) only [evEqs, List.getElem?_cons_zero, List.getElem?_cons_succ, List.getElem?_nil, List.set_cons_zero, List.set_cons_succ, List.map_cons, List.map_nil, List.length_cons, List.length_nil, List.length_append, List.cons_append, List.nil_append, List.length_map, List.length_singleton, Nat.reduceBEq, Nat.reduceAdd, Nat.reduceSub, Nat.reduceMul, Nat.reduceEqDiff, Nat.reduceLeDiff, Nat.reduceLT, if_false, if_true, ite_true, ite_false, ↓reduceIte, Bool.not_true, Bool.not_false, Bool.false_eq_true, decide_true, decide_false, eq_self, and_true, true_and, and_self, Nat.zero_le, Nat.zero_add, Option.bind_some, Option.bind_none, Nat.lt_irrefl, Int.reduceToNat, Int.reducePow, Int.reduceNeg, Int.reduceMul, Int.reduceAdd, Int.reduceSub, Int.reduceLT, Int.reduceLE, Int.reduceEq, beq_self_eq_true, wipeE, MP.at0, MP.at1, MP.at2, MP.atLit, hv', frD_0, frD_1, hr, hc]
    exact ⟨_, rfl⟩
  · have hv' : ¬ (0 : Int) < (v : Int) := by omega
    rw [if_neg hv, List.append_nil]
    simp (disch := (first | assumption | with_reducible rfl | decide +kernel | exact Or.inl (by decide +kernel) | exact Or.inr (by decide +kernel) | omega | (simp only [List.length_cons, List.length_nil, List.length_append, List.length_map, List.length_replicate, List.length_range] <;> omega) | rfl)) only [evEqs, List.getElem?_cons_zero, List.getElem?_cons_succ, List.getElem?_nil, List.set_cons_zero, List.set_cons_succ, List.map_cons, List.map_nil, List.length_cons, List.length_nil, List.length_append, List.cons_append, List.nil_append, List.length_map, List.length_singleton, Nat.reduceBEq, Nat.reduceAdd, Nat.reduceSub, Nat.reduceMul, Nat.reduceEqDiff, Nat.reduceLeDiff, Nat.reduceLT, if_false, if_true, ite_true, ite_false, ↓reduceIte, Bool.not_true, Bool.not_false, Bool.false_eq_true, decide_true, decide_false, eq_self, and_true, true_and, and_self, Nat.zero_le, Nat.zero_add, Option.bind_some, Option.bind_none, Nat.lt_irrefl, Int.reduceToNat, Int.reducePow, Int.reduceNeg, Int.reduceMul, Int.reduceAdd, Int.reduceSub, Int.reduceLT, Int.reduceLE, Int.reduceEq, beq_self_eq_true, wipeE, MP.at0, MP.at1, MP.at2, MP.atLit, hv']
    exact ⟨_, rfl⟩
/-- the numbers of a reading, sorted, each once -/
def valsF (ms : List Nat) : List Nat := (sortI (ddp (nI ms))).map Int.toNat
theorem mem_sortD {ms : List Nat} {i : Int} : i ∈ sortI (ddp (nI ms)) ↔ i ∈ nI ms := by
  rw [(sortI_perm _).mem_iff, mem_ddp]
theorem vals_nI (ms : List Nat) : sortI (ddp (nI ms)) = nI (valsF ms) := by
  unfold valsF nI
  rw [List.map_map]
  conv => lhs; rw [← List.map_id (sortI _)]
  refine List.map_congr_left fun a ha => ?_
  have := mem_sortD.mp ha
  unfold nI at this
  obtain ⟨m, _, rfl⟩ := List.mem_map.mp this
  show (m : Int) = (((m : Int)).toNat : Nat)
  omega
theorem mem_vals {ms : List Nat} {v : Nat} : v ∈ valsF ms ↔ v ∈ ms := by
  have h := mem_sortD (ms := ms) (i := (v : Int))
  rw [vals_nI, mem_nI, mem_nI] at h
  exact h
theorem vals_nodup (ms : List Nat) : (valsF ms).Nodup := by
  have h : (sortI (ddp (nI ms))).Nodup := ((sortI_perm _).nodup_iff).mpr (nodup_ddp _)
  rw [vals_nI] at h
  exact List.Pairwise.of_map _ (fun a b (h : (a : Int) ≠ (b : Int)) e => h (by rw [e])) h
theorem vals_len (ms : List Nat) : (valsF ms).length ≤ ms.length := by
  have : (ddp (nI ms)).length ≤ (nI ms).length := ddp_le _
  unfold valsF
  rw [List.length_map, (sortI_perm _).length_eq]
  unfold nI at this
  rw [List.length_map] at this
  exact this
def piecesF (C : Nat) (ms : List Nat) : List PP := ((valsF ms).filter fun v => decide (0 < v)).map (pieceN C ms)
theorem m_piecesO {R C : Nat} (hR : R ≤ 6) (hC : C ≤ 6) {es : List (Nat × Nat)} (hf : Fits R C es) (hn : es.length ≤ 12) {ks : List Nat} (hk : ∀ k ∈ ks, k < es.length) :
    sem_pieces [frD R C es, .tup (nD (readF R C (edgesOf es ks)))] [] = .ok (.own (.list ((sortP (piecesF C (readF R C (edgesOf es ks)))).map mkP))) [] := by
  have hch := m_checked hR hC hf hn hk
  have hl := readF_len R C (edgesOf es ks)
  generalize readF R C (edgesOf es ks) = ms at *
  unfold sem_pieces
  refine run_ex (Q := fun r => r = .ok (.own (.list ((sortP (piecesF C ms)).map mkP))) []) [.v (frD R C es), .v (.tup (nD ms)), .un, .un, .un, .un, .un] rfl ?_
  unfold b_pieces
  refine sqR (s' := ⟨[.v (frD R C es), .v (.tup (nD ms)), .un, .un, .un, .un, .un], []⟩) (by unfold st_pieces_1; simp (disch := (first | assumption | with_reducible rfl | decide +kernel | exact Or.inl (by decide +kernel) | exact Or.inr (by decide +kernel) | omega | (simp only [List.length_cons, List.length_nil, List.length_append, List.length_map, List.length_replicate, List.length_range] <;> omega) | rfl)) only [evEqs, List.getElem?_cons_zero, List.getElem?_cons_succ, List.getElem?_nil, List.set_cons_zero, List.set_cons_succ, List.map_cons, List.map_nil, List.length_cons, List.length_nil, List.length_append, List.cons_append, List.nil_append, List.length_map, List.length_singleton, Nat.reduceBEq, Nat.reduceAdd, Nat.reduceSub, Nat.reduceMul, Nat.reduceEqDiff, Nat.reduceLeDiff, Nat.reduceLT, if_false, if_true, ite_true, ite_false, ↓reduceIte, Bool.not_true, Bool.not_false, Bool.false_eq_true, decide_true, decide_false, eq_self, and_true, true_and, and_self, Nat.zero_le, Nat.zero_add, Option.bind_some, Option.bind_none, Nat.lt_irrefl, Int.reduceToNat, Int.reducePow, Int.reduceNeg, Int.reduceMul, Int.reduceAdd, Int.reduceSub, Int.reduceLT, Int.reduceLE, Int.reduceEq, beq_self_eq_true, wipeE, MP.at0, MP.at1, MP.at2, MP.atLit, hch]) ?_
  refine sqR (s' := ⟨[.v (frD R C es), .v (.tup (nD ms)), .own (.list []), .un, .un, .un, .un], []⟩) (by unfold st_pieces_2; simp (disch := (first | assumption | with_reducible rfl | decide +kernel | exact Or.inl (by decide +kernel) | exact Or.inr (by decide +kernel) | omega | (simp only [List.length_cons, List.length_nil, List.length_append, List.length_map, List.length_replicate, List.length_range] <;> omega) | rfl)) only [evEqs, List.getElem?_cons_zero, List.getElem?_cons_succ, List.getElem?_nil, List.set_cons_zero, List.set_cons_succ, List.map_cons, List.map_nil, List.length_cons, List.length_nil, List.length_append, List.cons_append, List.nil_append, List.length_map, List.length_singleton, Nat.reduceBEq, Nat.reduceAdd, Nat.reduceSub, Nat.reduceMul, Nat.reduceEqDiff, Nat.reduceLeDiff, Nat.reduceLT, if_false, if_true, ite_true, ite_false, ↓reduceIte, Bool.not_true, Bool.not_false, Bool.false_eq_true, decide_true, decide_false, eq_self, and_true, true_and, and_self, Nat.zero_le, Nat.zero_add, Option.bind_some, Option.bind_none, Nat.lt_irrefl, Int.reduceToNat, Int.reducePow, Int.reduceNeg, Int.reduceMul, Int.reduceAdd, Int.reduceSub, Int.reduceLT, Int.reduceLE, Int.reduceEq, beq_self_eq_true, wipeE, MP.at0, MP.at1, MP.at2, MP.atLit]) ?_
  have hss : gSrtSet (.tup (nD ms)) = some ⟨.fr, .list (nD (valsF ms))⟩ := by
    have := g_srtSet (ns := nI ms) (by unfold nI; rw [List.length_map]; omega)
    rw [vals_nI, ← nD_nI, ← nD_nI] at this
    exact this
  have hvl := vals_len ms
  unfold st_pieces_3
  refine forR (nD (valsF ms)) (fun i s => ∃ x3 x4, s = ⟨[.v (frD R C es), .v (.tup (nD ms)), .own (.list (((((valsF ms).take i).filter fun v => decide (0 < v)).map (pieceN C ms)).map mkP)), x3, x4, .un, .un], []⟩) (by simp (disch := (first | assumption | with_reducible rfl | decide +kernel | exact Or.inl (by decide +kernel) | exact Or.inr (by decide +kernel) | omega | (simp only [List.length_cons, List.length_nil, List.length_append, List.length_map, List.length_replicate, List.length_range] <;> omega) | rfl)) only [evEqs, List.getElem?_cons_zero, List.getElem?_cons_succ, List.getElem?_nil, List.set_cons_zero, List.set_cons_succ, List.map_cons, List.map_nil, List.length_cons, List.length_nil, List.length_append, List.cons_append, List.nil_append, List.length_map, List.length_singleton, Nat.reduceBEq, Nat.reduceAdd, Nat.reduceSub, Nat.reduceMul, Nat.reduceEqDiff, Nat.reduceLeDiff, Nat.reduceLT, if_false, if_true, ite_true, ite_false, ↓reduceIte, Bool.not_true, Bool.not_false, Bool.false_eq_true, decide_true, decide_false, eq_self, and_true, true_and, and_self, Nat.zero_le, Nat.zero_add, Option.bind_some, Option.bind_none, Nat.lt_irrefl, Int.reduceToNat, Int.reducePow, Int.reduceNeg, Int.reduceMul, Int.reduceAdd, Int.reduceSub, Int.reduceLT, Int.reduceLE, Int.reduceEq, beq_self_eq_true, wipeE, MP.at0, MP.at1, MP.at2, MP.atLit, hss]) ⟨_, _, rfl⟩ ?_ ?_
  · rintro i d s hd ⟨x3, x4, rfl⟩
    obtain ⟨v, hv, rfl⟩ := nD_get _ _ _ hd
    have hfl : (((((valsF ms).take i).filter fun v => decide (0 < v)).map (pieceN C ms)).map mkP).length ≤ 100 := by
      rw [List.length_map, List.length_map]
      exact Nat.le_trans (List.length_filter_le ..) (by rw [List.length_take]; omega)
    obtain ⟨x4', e⟩ := m_pieces_1 (es := es) hR hC ms hl v (((((valsF ms).take i).filter fun v => decide (0 < v)).map (pieceN C ms)).map mkP) hfl x4
    refine ⟨_, b_nm .., ?_⟩
    have et : ((((valsF ms).take (i + 1)).filter fun v => decide (0 < v)).map (pieceN C ms)).map mkP = ((((valsF ms).take i).filter fun v => decide (0 < v)).map (pieceN C ms)).map mkP ++ if 0 < v then [mkP (pieceN C ms v)] else [] := by
      rw [List.take_succ, hv, List.filter_append, List.map_append, List.map_append]
      congr 1
      by_cases h0 : 0 < v
      · simp [h0]
      · simp [h0]
    rw [et]
    simp (disch := (first | assumption | with_reducible rfl | decide +kernel | exact Or.inl (by decide +kernel) | exact Or.inr (by decide +kernel) | omega | (simp only [List.length_cons, List.length_nil, List.length_append, List.length_map, List.length_replicate, List.length_range] <;> omega) | rfl)) only [evEqs, List.getElem?_cons_zero, List.getElem?_cons_succ, List.getElem?_nil, List.set_cons_zero, List.set_cons_succ, List.map_cons, List.map_nil, List.length_cons, List.length_nil, List.length_append, List.cons_append, List.nil_append, List.length_map, List.length_singleton, Nat.reduceBEq, Nat.reduceAdd, Nat.reduceSub, Nat.reduceMul, Nat.reduceEqDiff, Nat.reduceLeDiff, Nat.reduceLT, if_false, if_true, ite_true, ite_false, ↓reduceIte, Bool.not_true, Bool.not_false, Bool.false_eq_true, decide_true, decide_false, eq_self, and_true, true_and, and_self, Nat.zero_le, Nat.zero_add, Option.bind_some, Option.bind_none, Nat.lt_irrefl, Int.reduceToNat, Int.reducePow, Int.reduceNeg, Int.reduceMul, Int.reduceAdd, Int.reduceSub, Int.reduceLT, Int.reduceLE, Int.reduceEq, beq_self_eq_true, wipeE, MP.at0, MP.at1, MP.at2, MP.atLit, e]
    exact ⟨_, _, rfl⟩
  · rintro s ⟨x3, x4, rfl⟩
    rw [nD_len, List.take_length]
    have hs := g_sortP (piecesF C ms)
    unfold st_pieces_4
    show (sRet _ ⟨[_, _, .own (.list ((piecesF C ms).map mkP)), _, _, _, _], _⟩).fr = _
    generalize (piecesF C ms).map mkP = l at *
    simp (disch := (first | assumption | with_reducible rfl | decide +kernel | exact Or.inl (by decide +kernel) | exact Or.inr (by decide +kernel) | omega | (simp only [List.length_cons, List.length_nil, List.length_append, List.length_map, List.length_replicate, List.length_range] <;> omega) | rfl)) only [evEqs, List.getElem?_cons_zero, List.getElem?_cons_succ, List.getElem?_nil, List.set_cons_zero, List.set_cons_succ, List.map_cons, List.map_nil, List.length_cons, List.length_nil, List.length_append, List.cons_append, List.nil_append, List.length_map, List.length_singleton, Nat.reduceBEq, Nat.reduceAdd, Nat.reduceSub, Nat.reduceMul, Nat.reduceEqDiff, Nat.reduceLeDiff, Nat.reduceLT, if_false, if_true, ite_true, ite_false, ↓reduceIte, Bool.not_true, Bool.not_false, Bool.false_eq_true, decide_true, decide_false, eq_self, and_true, true_and, and_self, Nat.zero_le, Nat.zero_add, Option.bind_some, Option.bind_none, Nat.lt_irrefl, Int.reduceToNat, Int.reducePow, Int.reduceNeg, Int.reduceMul, Int.reduceAdd, Int.reduceSub, Int.reduceLT, Int.reduceLE, Int.reduceEq, beq_self_eq_true, wipeE, MP.at0, MP.at1, MP.at2, MP.atLit, hs]
def firstB (C : Nat) (ms : List Nat) (r : Nat) : Bool := decide (0 < (colsF C (ms.getD r 0)).length ∧ (rowsF ms (ms.getD r 0)).head? = some r)
def lawPs (C : Nat) (ms : List Nat) : List PP := ((List.range ms.length).filter (firstB C ms)).map fun r => pieceN C ms (ms.getD r 0)
theorem rows_head (ms : List Nat) (r : Nat) (hr : r < ms.length) : ∃ n t, rowsF ms (ms.getD r 0) = n :: t := by
  cases h : rowsF ms (ms.getD r 0) with
  | nil =>
    have : r ∈ rowsF ms (ms.getD r 0) := List.mem_filter.mpr ⟨List.mem_range.mpr hr, decide_eq_true rfl⟩
    rw [h] at this
    cases this
  | cons n t => exact ⟨n, t, rfl⟩
theorem m_lpieces_1 {R C : Nat} (hR : R ≤ 6) (hC : C ≤ 6) {es : List (Nat × Nat)} (ms : List Nat) (hl : ms.length = R) (r : Nat) (hr : r < R) (found : List D) (hfl : found.length ≤ 100) (x4 x5 : Slot) :
    ∃ x4' x5', lp_l_pieces_1 ⟨[.v (frD R C es), .v (.tup (nD ms)), .own (.list found), .v (.int r), x4, x5, .un, .un], []⟩ =
      .nx ⟨[.v (frD R C es), .v (.tup (nD ms)), .own (.list (found ++ if firstB C ms r then [mkP (pieceN C ms (ms.getD r 0))] else [])), .v (.int r), x4', x5', .un, .un], []⟩ := by
  have hat := nD_at ms r (by omega)
  obtain ⟨n, t, hrow⟩ := rows_head ms r (by omega)
  have hfb : firstB C ms r = (decide (0 < (colsF C (ms.getD r 0)).length) && decide (n = r)) := by
    unfold firstB
    rw [hrow]
    simp
  have hmk := mk_piece C ms (ms.getD r 0)
  have h3 : (nD (rowsF ms (ms.getD r 0))).length ≤ 6 := by rw [nD_len]; exact Nat.le_trans (rows_len ms _) (by omega)
  have h4 : (nD (colsF C (ms.getD r 0))).length ≤ 6 := by rw [nD_len]; exact Nat.le_trans (cols_len C _) hC
  have h5 : (nD (colsF C (ms.getD r 0))).length = (colsF C (ms.getD r 0)).length := nD_len _
  have h6 : (nD (rowsF ms (ms.getD r 0)))[0]? = some (.int (n : Nat)) := by rw [hrow]; rfl
  have hrc : ∀ x4 x5 : Slot, compL (.nm 6) (pB (p2 gEq (p2 gIx (pVar 1) (pVar 6)) (p2 gIx (pVar 1) (pVar 3)))) (pD (pVar 6)) ⟨[.v (frD R C es), .v (.tup (nD ms)), .own (.list found), .v (.int r), x4, x5, .un, .un], []⟩ (rng 0 (R : Int)) = .ok (nD (rowsF ms (ms.getD r 0))) := by
    intro x4 x5
    rw [rng_nD]
    unfold rowsF
    rw [hl]
    refine compN _ _ fun o ho => ⟨_, b_nm .., ?_, fun _ => ?_⟩
    · have e1 := nD_at ms o (by have := List.mem_range.mp ho; omega)
      have e2 : (((ms.getD o 0 : Nat) : Int) = ((ms.getD r 0 : Nat) : Int)) = (ms.getD o 0 = ms.getD r 0) := by apply propext; omega
      simp (disch := (first | assumption | with_reducible rfl | decide +kernel | exact Or.inl (by decide +kernel) | exact Or.inr (by decide +kernel) | omega | (simp only [List.length_cons, List.length_nil, List.length_append, List.length_map, List.length_replicate, List.length_range] <;> omega) | rfl)) only [evEqs, List.getElem?_cons_zero, List.getElem?_cons_succ, List.getElem?_nil, List.set_cons_zero, List.set_cons_succ, List.map_cons, List.map_nil, List.length_cons, List.length_nil, List.length_append, List.cons_append, List.nil_append, List.length_map, List.length_singleton, Nat.reduceBEq, Nat.reduceAdd, Nat.reduceSub, Nat.reduceMul, Nat.reduceEqDiff, Nat.reduceLeDiff, Nat.reduceLT, if_false, if_true, ite_true, ite_false, ↓reduceIte, Bool.not_true, Bool.not_false, Bool.false_eq_true, decide_true, decide_false, eq_self, and_true, true_and, and_self, Nat.zero_le, Nat.zero_add, Option.bind_some, Option.bind_none, Nat.lt_irrefl, Int.reduceToNat, Int.reducePow, Int.reduceNeg, Int.reduceMul, Int.reduceAdd, Int.reduceSub, Int.reduceLT, Int.reduceLE, Int.reduceEq, beq_self_eq_true, wipeE, MP.at0, MP.at1, MP.at2, MP.atLit, atN, e1, hat, e2]
    · simp (disch := (first | assumption | with_reducible rfl | decide +kernel | exact Or.inl (by decide +kernel) | exact Or.inr (by decide +kernel) | omega | (simp only [List.length_cons, List.length_nil, List.length_append, List.length_map, List.length_replicate, List.length_range] <;> omega) | rfl)) only [evEqs, List.getElem?_cons_zero, List.getElem?_cons_succ, List.getElem?_nil, List.set_cons_zero, List.set_cons_succ, List.map_cons, List.map_nil, List.length_cons, List.length_nil, List.length_append, List.cons_append, List.nil_append, List.length_map, List.length_singleton, Nat.reduceBEq, Nat.reduceAdd, Nat.reduceSub, Nat.reduceMul, Nat.reduceEqDiff, Nat.reduceLeDiff, Nat.reduceLT, if_false, if_true, ite_true, ite_false, ↓reduceIte, Bool.not_true, Bool.not_false, Bool.false_eq_true, decide_true, decide_false, eq_self, and_true, true_and, and_self, Nat.zero_le, Nat.zero_add, Option.bind_some, Option.bind_none, Nat.lt_irrefl, Int.reduceToNat, Int.reducePow, Int.reduceNeg, Int.reduceMul, Int.reduceAdd, Int.reduceSub, Int.reduceLT, Int.reduceLE, Int.reduceEq, beq_self_eq_true, wipeE, MP.at0, MP.at1, MP.at2, MP.atLit]
  generalize ms.getD r 0 = v at *
  have hcc : ∀ x4 x5 : Slot, compL (.nm 7) (pB (p2 gEq (p2 gAnd (p2 gShr (p2 gIx (pVar 1) (pVar 3)) (pVar 7)) (pC (.int 1))) (pC (.int 1)))) (pD (pVar 7)) ⟨[.v (frD R C es), .v (.tup (nD ms)), .own (.list found), .v (.int r), x4, x5, .un, .un], []⟩ (rng 0 (C : Int)) = .ok (nD (colsF C v)) := by
    intro x4 x5
    rw [rng_nD]
    unfold colsF
    refine compN _ _ fun c _ => ⟨_, b_nm .., ?_, fun _ => ?_⟩
    · have e2 : ((v : Nat) : Int) / 2 ^ c = ((v / 2 ^ c : Nat) : Int) := by
        rw [Int.natCast_ediv, Int.natCast_pow]
        rfl
      have e3 : (((v / 2 ^ c % 2 : Nat) : Int) = 1) = (v / 2 ^ c % 2 = 1) := by apply propext; omega
      simp (disch := (first | assumption | with_reducible rfl | decide +kernel | exact Or.inl (by decide +kernel) | exact Or.inr (by decide +kernel) | omega | (simp only [List.length_cons, List.length_nil, List.length_append, List.length_map, List.length_replicate, List.length_range] <;> omega) | rfl)) only [evEqs, List.getElem?_cons_zero, List.getElem?_cons_succ, List.getElem?_nil, List.set_cons_zero, List.set_cons_succ, List.map_cons, List.map_nil, List.length_cons, List.length_nil, List.length_append, List.cons_append, List.nil_append, List.length_map, List.length_singleton, Nat.reduceBEq, Nat.reduceAdd, Nat.reduceSub, Nat.reduceMul, Nat.reduceEqDiff, Nat.reduceLeDiff, Nat.reduceLT, if_false, if_true, ite_true, ite_false, ↓reduceIte, Bool.not_true, Bool.not_false, Bool.false_eq_true, decide_true, decide_false, eq_self, and_true, true_and, and_self, Nat.zero_le, Nat.zero_add, Option.bind_some, Option.bind_none, Nat.lt_irrefl, Int.reduceToNat, Int.reducePow, Int.reduceNeg, Int.reduceMul, Int.reduceAdd, Int.reduceSub, Int.reduceLT, Int.reduceLE, Int.reduceEq, beq_self_eq_true, wipeE, MP.at0, MP.at1, MP.at2, MP.atLit, atN, hat, Int.toNat_natCast, e2, bit_and1, e3]
    · simp (disch := (first | assumption | with_reducible rfl | decide +kernel | exact Or.inl (by decide +kernel) | exact Or.inr (by decide +kernel) | omega | (simp only [List.length_cons, List.length_nil, List.length_append, List.length_map, List.length_replicate, List.length_range] <;> omega) | rfl)) only [evEqs, List.getElem?_cons_zero, List.getElem?_cons_succ, List.getElem?_nil, List.set_cons_zero, List.set_cons_succ, List.map_cons, List.map_nil, List.length_cons, List.length_nil, List.length_append, List.cons_append, List.nil_append, List.length_map, List.length_singleton, Nat.reduceBEq, Nat.reduceAdd, Nat.reduceSub, Nat.reduceMul, Nat.reduceEqDiff, Nat.reduceLeDiff, Nat.reduceLT, if_false, if_true, ite_true, ite_false, ↓reduceIte, Bool.not_true, Bool.not_false, Bool.false_eq_true, decide_true, decide_false, eq_self, and_true, true_and, and_self, Nat.zero_le, Nat.zero_add, Option.bind_some, Option.bind_none, Nat.lt_irrefl, Int.reduceToNat, Int.reducePow, Int.reduceNeg, Int.reduceMul, Int.reduceAdd, Int.reduceSub, Int.reduceLT, Int.reduceLE, Int.reduceEq, beq_self_eq_true, wipeE, MP.at0, MP.at1, MP.at2, MP.atLit]
  have h1 := rngLenN R
  have h2 := rngLenN C
  rw [hfb, hmk]
  unfold lp_l_pieces_1
  generalize nD (rowsF ms v) = rw at *
  generalize hcv : colsF C v = cv at *
  by_cases c1 : 0 < cv.length
  · have c1' : (0 : Int) < ((nD cv).length : Int) := by omega
    by_cases c2 : n = r
    · have c2' : ((n : Int) = (r : Int)) = True := eq_true (by omega)
      simp (disch := (first | assumption | with_reducible rfl | decide +kernel | exact Or.inl (by decide +kernel) | exact Or.inr (by decide +kernel) | omega | (simp only [List.length_cons, List.length_nil, List.length_append, List.length_map, List.length_replicate, List.length_range] <;> omega) | rfl)) only [evEqs, List.getElem?_cons_zero, List.getElem?_cons_succ, List.getElem?_nil, List.set_cons_zero, List.set_cons_succ, List.map_cons, List.map_nil, List.length_cons, List.length_nil, List.length_append, List.cons_append, List.nil_append, List.length_map, List.length_singleton, Nat.reduceBEq, Nat.reduceAdd, Nat.reduceSub, Nat.reduceMul, Nat.reduceEqDiff, Nat.reduceLeDiff, Nat.reduceLT, if_false, if_true, ite_true, ite_false, ↓reduceIte, Bool.not_true, Bool.not_false, Bool.false_eq_true, decide_true, decide_false, eq_self, and_true, true_and, and_self, Nat.zero_le, Nat.zero_add, Option.bind_some, Option.bind_none, Nat.lt_irrefl, Int.reduceToNat, Int.reducePow, Int.reduceNeg, Int.reduceMul, Int.reduceAdd, Int.reduceSub, Int.reduceLT, Int.reduceLE, Int.reduceEq, beq_self_eq_true, wipeE, MP.at0, MP.at1, MP.at2, MP.atLit, frD_0, frD_1, hrc, hcc, c1', h6, c2', c1, c2, Bool.and_self]
      exact ⟨_, _, rfl⟩
    · have c2' : ((n : Int) = (r : Int)) = False := eq_false (by omega)
      simp (disch := (first | assumption | with_reducible rfl | decide +kernel | exact Or.inl (by decide +kernel) | exact Or.inr (by decide +kernel) | omega | (simp only [List.length_cons, List.length_nil, List.length_append, List.length_map, List.length_replicate, List.length_range] <;> omega) | rfl)) only [evEqs, List.getElem?_cons_zero, List.getElem?_cons_succ, List.getElem?_nil, List.set_cons_zero, List.set_cons_succ, List.map_cons, List.map_nil, List.length_cons, List.length_nil, List.length_append, List.cons_append, List.nil_append, List.length_map, List.length_singleton, Nat.reduceBEq, Nat.reduceAdd, Nat.reduceSub, Nat.reduceMul, Nat.reduceEqDiff, Nat.reduceLeDiff, Nat.reduceLT, if_false, if_true, ite_true, ite_false, ↓reduceIte, Bool.not_true, Bool.not_false, Bool.false_eq_true, decide_true, decide_false, eq_self, and_true, true_and, and_self, Nat.zero_le, Nat.zero_add, Option.bind_some, Option.bind_none, Nat.lt_irrefl, Int.reduceToNat, Int.reducePow, Int.reduceNeg, Int.reduceMul, Int.reduceAdd, Int.reduceSub, Int.reduceLT, Int.reduceLE, Int.reduceEq, beq_self_eq_true, wipeE, MP.at0, MP.at1, MP.at2, MP.atLit, frD_0, frD_1, hrc, hcc, c1', h6, c2', c1, c2, Bool.and_false, Bool.false_eq_true, List.append_nil]
      exact ⟨_, _, rfl⟩
  · have c1' : ¬ (0 : Int) < ((nD cv).length : Int) := by omega
    simp (disch := (first | assumption | with_reducible rfl | decide +kernel | exact Or.inl (by decide +kernel) | exact Or.inr (by decide +kernel) | omega | (simp only [List.length_cons, List.length_nil, List.length_append, List.length_map, List.length_replicate, List.length_range] <;> omega) | rfl)) only [evEqs, List.getElem?_cons_zero, List.getElem?_cons_succ, List.getElem?_nil, List.set_cons_zero, List.set_cons_succ, List.map_cons, List.map_nil, List.length_cons, List.length_nil, List.length_append, List.cons_append, List.nil_append, List.length_map, List.length_singleton, Nat.reduceBEq, Nat.reduceAdd, Nat.reduceSub, Nat.reduceMul, Nat.reduceEqDiff, Nat.reduceLeDiff, Nat.reduceLT, if_false, if_true, ite_true, ite_false, ↓reduceIte, Bool.not_true, Bool.not_false, Bool.false_eq_true, decide_true, decide_false, eq_self, and_true, true_and, and_self, Nat.zero_le, Nat.zero_add, Option.bind_some, Option.bind_none, Nat.lt_irrefl, Int.reduceToNat, Int.reducePow, Int.reduceNeg, Int.reduceMul, Int.reduceAdd, Int.reduceSub, Int.reduceLT, Int.reduceLE, Int.reduceEq, beq_self_eq_true, wipeE, MP.at0, MP.at1, MP.at2, MP.atLit, frD_0, frD_1, hrc, hcc, c1', c1, Bool.false_and, Bool.false_eq_true, List.append_nil]
    exact ⟨_, _, rfl⟩
theorem m_lpieces {R C : Nat} (hR : R ≤ 6) (hC : C ≤ 6) (es : List (Nat × Nat)) (ms : List Nat) (hl : ms.length = R) : sem_l_pieces [frD R C es, .tup (nD ms)] [] = .ok (.own (.list ((lawPs C ms).map mkP))) [] := by
  unfold sem_l_pieces
  refine run_ex (Q := fun r => r = .ok (.own (.list ((lawPs C ms).map mkP))) []) [.v (frD R C es), .v (.tup (nD ms)), .un, .un, .un, .un, .un, .un] rfl ?_
  unfold b_l_pieces
  refine sqR (s' := ⟨[.v (frD R C es), .v (.tup (nD ms)), .own (.list []), .un, .un, .un, .un, .un], []⟩) (by unfold st_l_pieces_1; simp (disch := (first | assumption | with_reducible rfl | decide +kernel | exact Or.inl (by decide +kernel) | exact Or.inr (by decide +kernel) | omega | (simp only [List.length_cons, List.length_nil, List.length_append, List.length_map, List.length_replicate, List.length_range] <;> omega) | rfl)) only [evEqs, List.getElem?_cons_zero, List.getElem?_cons_succ, List.getElem?_nil, List.set_cons_zero, List.set_cons_succ, List.map_cons, List.map_nil, List.length_cons, List.length_nil, List.length_append, List.cons_append, List.nil_append, List.length_map, List.length_singleton, Nat.reduceBEq, Nat.reduceAdd, Nat.reduceSub, Nat.reduceMul, Nat.reduceEqDiff, Nat.reduceLeDiff, Nat.reduceLT, if_false, if_true, ite_true, ite_false, ↓reduceIte, Bool.not_true, Bool.not_false, Bool.false_eq_true, decide_true, decide_false, eq_self, and_true, true_and, and_self, Nat.zero_le, Nat.zero_add, Option.bind_some, Option.bind_none, Nat.lt_irrefl, Int.reduceToNat, Int.reducePow, Int.reduceNeg, Int.reduceMul, Int.reduceAdd, Int.reduceSub, Int.reduceLT, Int.reduceLE, Int.reduceEq, beq_self_eq_true, wipeE, MP.at0, MP.at1, MP.at2, MP.atLit]) ?_
  unfold st_l_pieces_2
  refine forR (rng 0 (R : Int)) (fun i s => ∃ x3 x4 x5, s = ⟨[.v (frD R C es), .v (.tup (nD ms)), .own (.list ((((List.range i).filter (firstB C ms)).map fun r => pieceN C ms (ms.getD r 0)).map mkP)), x3, x4, x5, .un, .un], []⟩) (by simp (disch := (first | assumption | with_reducible rfl | decide +kernel | exact Or.inl (by decide +kernel) | exact Or.inr (by decide +kernel) | omega | (simp only [List.length_cons, List.length_nil, List.length_append, List.length_map, List.length_replicate, List.length_range] <;> omega) | rfl)) only [evEqs, List.getElem?_cons_zero, List.getElem?_cons_succ, List.getElem?_nil, List.set_cons_zero, List.set_cons_succ, List.map_cons, List.map_nil, List.length_cons, List.length_nil, List.length_append, List.cons_append, List.nil_append, List.length_map, List.length_singleton, Nat.reduceBEq, Nat.reduceAdd, Nat.reduceSub, Nat.reduceMul, Nat.reduceEqDiff, Nat.reduceLeDiff, Nat.reduceLT, if_false, if_true, ite_true, ite_false, ↓reduceIte, Bool.not_true, Bool.not_false, Bool.false_eq_true, decide_true, decide_false, eq_self, and_true, true_and, and_self, Nat.zero_le, Nat.zero_add, Option.bind_some, Option.bind_none, Nat.lt_irrefl, Int.reduceToNat, Int.reducePow, Int.reduceNeg, Int.reduceMul, Int.reduceAdd, Int.reduceSub, Int.reduceLT, Int.reduceLE, Int.reduceEq, beq_self_eq_true, wipeE, MP.at0, MP.at1, MP.at2, MP.atLit, frD_0]) ⟨_, _, _, rfl⟩ ?_ ?_
  · rintro i d s hd ⟨x3, x4, x5, rfl⟩
    obtain ⟨rfl, hi⟩ := rngAt hd
    have hi : i < R := by omega
    have hfl : ((((List.range i).filter (firstB C ms)).map fun r => pieceN C ms (ms.getD r 0)).map mkP).length ≤ 100 := by
      rw [List.length_map, List.length_map]
      exact Nat.le_trans (List.length_filter_le ..) (by simp; omega)
    obtain ⟨x4', x5', e⟩ := m_lpieces_1 (es := es) hR hC ms hl i hi _ hfl x4 x5
    refine ⟨_, b_nm .., ?_⟩
    have et : (((List.range (i + 1)).filter (firstB C ms)).map fun r => pieceN C ms (ms.getD r 0)).map mkP = (((List.range i).filter (firstB C ms)).map fun r => pieceN C ms (ms.getD r 0)).map mkP ++ if firstB C ms i then [mkP (pieceN C ms (ms.getD i 0))] else [] := by
      rw [List.range_succ, List.filter_append, List.map_append, List.map_append, filt_one]
      cases firstB C ms i <;> rfl
    rw [et]
    simp (disch := (first | assumption | with_reducible rfl | decide +kernel | exact Or.inl (by decide +kernel) | exact Or.inr (by decide +kernel) | omega | (simp only [List.length_cons, List.length_nil, List.length_append, List.length_map, List.length_replicate, List.length_range] <;> omega) | rfl)) only [evEqs, List.getElem?_cons_zero, List.getElem?_cons_succ, List.getElem?_nil, List.set_cons_zero, List.set_cons_succ, List.map_cons, List.map_nil, List.length_cons, List.length_nil, List.length_append, List.cons_append, List.nil_append, List.length_map, List.length_singleton, Nat.reduceBEq, Nat.reduceAdd, Nat.reduceSub, Nat.reduceMul, Nat.reduceEqDiff, Nat.reduceLeDiff, Nat.reduceLT, if_false, if_true, ite_true, ite_false, ↓reduceIte, Bool.not_true, Bool.not_false, Bool.false_eq_true, decide_true, decide_false, eq_self, and_true, true_and, and_self, Nat.zero_le, Nat.zero_add, Option.bind_some, Option.bind_none, Nat.lt_irrefl, Int.reduceToNat, Int.reducePow, Int.reduceNeg, Int.reduceMul, Int.reduceAdd, Int.reduceSub, Int.reduceLT, Int.reduceLE, Int.reduceEq, beq_self_eq_true, wipeE, MP.at0, MP.at1, MP.at2, MP.atLit, e]
    exact ⟨_, _, _, rfl⟩
  · rintro s ⟨x3, x4, x5, rfl⟩
    rw [rngLenN]
    unfold st_l_pieces_3 lawPs
    rw [hl]
    simp (disch := (first | assumption | with_reducible rfl | decide +kernel | exact Or.inl (by decide +kernel) | exact Or.inr (by decide +kernel) | omega | (simp only [List.length_cons, List.length_nil, List.length_append, List.length_map, List.length_replicate, List.length_range] <;> omega) | rfl)) only [evEqs, List.getElem?_cons_zero, List.getElem?_cons_succ, List.getElem?_nil, List.set_cons_zero, List.set_cons_succ, List.map_cons, List.map_nil, List.length_cons, List.length_nil, List.length_append, List.cons_append, List.nil_append, List.length_map, List.length_singleton, Nat.reduceBEq, Nat.reduceAdd, Nat.reduceSub, Nat.reduceMul, Nat.reduceEqDiff, Nat.reduceLeDiff, Nat.reduceLT, if_false, if_true, ite_true, ite_false, ↓reduceIte, Bool.not_true, Bool.not_false, Bool.false_eq_true, decide_true, decide_false, eq_self, and_true, true_and, and_self, Nat.zero_le, Nat.zero_add, Option.bind_some, Option.bind_none, Nat.lt_irrefl, Int.reduceToNat, Int.reducePow, Int.reduceNeg, Int.reduceMul, Int.reduceAdd, Int.reduceSub, Int.reduceLT, Int.reduceLE, Int.reduceEq, beq_self_eq_true, wipeE, MP.at0, MP.at1, MP.at2, MP.atLit]
/-! ## both tell the same -/
theorem cols_pos {R C : Nat} {E : List (Nat × Nat)} {r : Nat} : 0 < (colsF C (bitsum (sameB R C E r) C)).length ↔ 0 < bitsum (sameB R C E r) C := by
  constructor
  · intro h
    refine Nat.pos_of_ne_zero fun z => ?_
    rw [z] at h
    unfold colsF at h
    have : (List.range C).filter (fun c => decide (0 / 2 ^ c % 2 = 1)) = [] := List.filter_eq_nil_iff.mpr fun c _ => by simp
    rw [this] at h
    cases h
  · intro h
    refine Nat.pos_of_ne_zero fun z => ?_
    have hn := List.eq_nil_of_length_eq_zero z
    have hall : ∀ c, c < C → sameB R C E r c = (fun _ => false) c := fun c hc => by
      cases hb : sameB R C E r c with
      | false => rfl
      | true =>
        have : c ∈ colsF C (bitsum (sameB R C E r) C) := List.mem_filter.mpr ⟨List.mem_range.mpr hc, by rw [bitsum_bit _ _ _ hc, hb]; rfl⟩
        rw [hn] at this
        cases this
    rw [bitsum_congr C hall, bitsum_none] at h
    cases h
theorem head_of {ms : List Nat} {v r : Nat} (h : (rowsF ms v).head? = some r) : r < ms.length ∧ ms.getD r 0 = v := by
  have := List.mem_of_mem_head? h
  unfold rowsF at this
  rw [List.mem_filter, List.mem_range, decide_eq_true_eq] at this
  exact this
theorem both_same {R C : Nat} (E : List (Nat × Nat)) : sortP (piecesF C (readF R C E)) = lawPs C (readF R C E) := by
  have hl := readF_len R C E
  have hpos : ∀ r, r < R → (0 < (colsF C ((readF R C E).getD r 0)).length ↔ 0 < (readF R C E).getD r 0) := fun r hr => by
    rw [readF_at hr]
    exact cols_pos
  generalize readF R C E = ms at *
  have fst : ∀ r, r ∈ (List.range ms.length).filter (firstB C ms) ↔ r < R ∧ 0 < ms.getD r 0 ∧ (rowsF ms (ms.getD r 0)).head? = some r := fun r => by
    unfold firstB
    rw [List.mem_filter, List.mem_range, decide_eq_true_eq, hl]
    exact ⟨fun ⟨a, b, c⟩ => ⟨a, (hpos r a).mp b, c⟩, fun ⟨a, b, c⟩ => ⟨a, (hpos r a).mpr b, c⟩⟩
  refine sortP_of ?_ ?_
  · have e : lawPs C ms = (((List.range ms.length).filter (firstB C ms)).map fun r => ms.getD r 0).map (pieceN C ms) := by
      unfold lawPs
      rw [List.map_map]
      rfl
    rw [e]
    unfold piecesF
    refine List.Perm.map _ ?_
    refine (List.perm_ext_iff_of_nodup ?_ (List.Pairwise.filter _ (vals_nodup ms))).mpr fun v => ?_
    · refine List.pairwise_map.mpr ?_
      refine List.Pairwise.imp_of_mem (fun {a b} ha hb (hne : a ≠ b) e => hne ?_) (List.Pairwise.filter _ List.nodup_range)
      have h1 := ((fst a).mp ha).2.2
      have h2 := ((fst b).mp hb).2.2
      rw [e, h2] at h1
      exact (Option.some.inj h1).symm
    · rw [List.mem_map, List.mem_filter, mem_vals, decide_eq_true_eq]
      constructor
      · rintro ⟨r, hr, rfl⟩
        have h1 := (fst r).mp hr
        refine ⟨?_, h1.2.1⟩
        have h2 : r < ms.length := by omega
        rw [List.getD_eq_getElem?_getD, List.getElem?_eq_getElem h2]
        exact List.getElem_mem h2
      · rintro ⟨hv, h0⟩
        obtain ⟨r, hr, rfl⟩ := List.getElem_of_mem hv
        have e1 : ms.getD r 0 = ms[r] := by rw [List.getD_eq_getElem?_getD, List.getElem?_eq_getElem hr]; rfl
        obtain ⟨n, t, hrow⟩ := rows_head ms r hr
        have h2 : (rowsF ms (ms.getD r 0)).head? = some n := by rw [hrow]; rfl
        have h3 := head_of h2
        refine ⟨n, (fst n).mpr ⟨by omega, ?_, ?_⟩, ?_⟩
        · rw [h3.2, e1]; exact h0
        · rw [h3.2]; exact h2
        · rw [h3.2, e1]
  · unfold lawPs
    refine List.pairwise_map.mpr ?_
    refine List.Pairwise.imp_of_mem (fun {a b} ha hb (hlt : a < b) => ?_) (List.Pairwise.filter _ List.pairwise_lt_range)
    have h1 := ((fst a).mp ha).2.2
    have h2 := ((fst b).mp hb).2.2
    have p : ∀ r, (rowsF ms (ms.getD r 0)).head? = some r → ∃ t, (pieceN C ms (ms.getD r 0)).1 = (r : Int) :: t := fun r h => by
      cases hrow : rowsF ms (ms.getD r 0) with
      | nil => rw [hrow] at h; cases h
      | cons n t =>
        rw [hrow] at h
        cases h
        exact ⟨nI t, by unfold pieceN; rw [hrow]; rfl⟩
    obtain ⟨t1, e1⟩ := p a h1
    obtain ⟨t2, e2⟩ := p b h2
    rw [e1, e2]
    exact List.Lex.rel (by omega)
theorem plain_ps (ps : List PP) : (D.list (ps.map mkP)).plain 9 = true := by
  show (ps.map mkP).all (D.plain 8) = true
  rw [List.all_map]
  refine List.all_eq_true.mpr fun p _ => ?_
  show ((D.tup (zs p.1)).plain 7 && ((D.tup (zs p.2)).plain 7 && true)) = true
  rw [plain_zs p.1, plain_zs p.2]
  rfl
theorem m_whole (i : Int) : sem_l_whole [.int i] [] = .ok (.v (.bool true)) [] := by
  unfold sem_l_whole b_l_whole
  simp (disch := (first | assumption | with_reducible rfl | decide +kernel | exact Or.inl (by decide +kernel) | exact Or.inr (by decide +kernel) | omega | (simp only [List.length_cons, List.length_nil, List.length_append, List.length_map, List.length_replicate, List.length_range] <;> omega) | rfl)) only [evEqs, List.getElem?_cons_zero, List.getElem?_cons_succ, List.getElem?_nil, List.set_cons_zero, List.set_cons_succ, List.map_cons, List.map_nil, List.length_cons, List.length_nil, List.length_append, List.cons_append, List.nil_append, List.length_map, List.length_singleton, Nat.reduceBEq, Nat.reduceAdd, Nat.reduceSub, Nat.reduceMul, Nat.reduceEqDiff, Nat.reduceLeDiff, Nat.reduceLT, if_false, if_true, ite_true, ite_false, ↓reduceIte, Bool.not_true, Bool.not_false, Bool.false_eq_true, decide_true, decide_false, eq_self, and_true, true_and, and_self, Nat.zero_le, Nat.zero_add, Option.bind_some, Option.bind_none, Nat.lt_irrefl, Int.reduceToNat, Int.reducePow, Int.reduceNeg, Int.reduceMul, Int.reduceAdd, Int.reduceSub, Int.reduceLT, Int.reduceLE, Int.reduceEq, beq_self_eq_true, wipeE, MP.at0, MP.at1, MP.at2, MP.atLit, isiB, tyN]
  rfl
theorem m_row (is : List Int) (hl : is.length ≤ 1000) : sem_l_row [.tup (zs is)] [] = .ok (.v (.bool true)) [] := by
  have hc : compL (.nm 1) pYes (pD (pUser 1 sem_l_whole (pCons (pD (pVar 1)) (pNil)))) ⟨[.v (.tup (zs is)), .un], []⟩ (zs is) = .ok ((is.map fun _ => true).map D.bool) := by
    rw [List.map_map]
    unfold zs
    refine compA _ _ _ fun i _ => ⟨_, b_nm .., ?_⟩
    have e := m_whole i
    simp (disch := (first | assumption | with_reducible rfl | decide +kernel | exact Or.inl (by decide +kernel) | exact Or.inr (by decide +kernel) | omega | (simp only [List.length_cons, List.length_nil, List.length_append, List.length_map, List.length_replicate, List.length_range] <;> omega) | rfl)) only [evEqs, List.getElem?_cons_zero, List.getElem?_cons_succ, List.getElem?_nil, List.set_cons_zero, List.set_cons_succ, List.map_cons, List.map_nil, List.length_cons, List.length_nil, List.length_append, List.cons_append, List.nil_append, List.length_map, List.length_singleton, Nat.reduceBEq, Nat.reduceAdd, Nat.reduceSub, Nat.reduceMul, Nat.reduceEqDiff, Nat.reduceLeDiff, Nat.reduceLT, if_false, if_true, ite_true, ite_false, ↓reduceIte, Bool.not_true, Bool.not_false, Bool.false_eq_true, decide_true, decide_false, eq_self, and_true, true_and, and_self, Nat.zero_le, Nat.zero_add, Option.bind_some, Option.bind_none, Nat.lt_irrefl, Int.reduceToNat, Int.reducePow, Int.reduceNeg, Int.reduceMul, Int.reduceAdd, Int.reduceSub, Int.reduceLT, Int.reduceLE, Int.reduceEq, beq_self_eq_true, wipeE, MP.at0, MP.at1, MP.at2, MP.atLit, e]
    rfl
  have hall : (is.map fun _ => true).all id = true := by rw [List.all_map]; exact List.all_eq_true.mpr fun _ _ => rfl
  have hzl := zs_len is
  unfold sem_l_row b_l_row
  simp (disch := (first | assumption | with_reducible rfl | decide +kernel | exact Or.inl (by decide +kernel) | exact Or.inr (by decide +kernel) | omega | (simp only [List.length_cons, List.length_nil, List.length_append, List.length_map, List.length_replicate, List.length_range] <;> omega) | rfl)) only [evEqs, List.getElem?_cons_zero, List.getElem?_cons_succ, List.getElem?_nil, List.set_cons_zero, List.set_cons_succ, List.map_cons, List.map_nil, List.length_cons, List.length_nil, List.length_append, List.cons_append, List.nil_append, List.length_map, List.length_singleton, Nat.reduceBEq, Nat.reduceAdd, Nat.reduceSub, Nat.reduceMul, Nat.reduceEqDiff, Nat.reduceLeDiff, Nat.reduceLT, if_false, if_true, ite_true, ite_false, ↓reduceIte, Bool.not_true, Bool.not_false, Bool.false_eq_true, decide_true, decide_false, eq_self, and_true, true_and, and_self, Nat.zero_le, Nat.zero_add, Option.bind_some, Option.bind_none, Nat.lt_irrefl, Int.reduceToNat, Int.reducePow, Int.reduceNeg, Int.reduceMul, Int.reduceAdd, Int.reduceSub, Int.reduceLT, Int.reduceLE, Int.reduceEq, beq_self_eq_true, wipeE, MP.at0, MP.at1, MP.at2, MP.atLit, isiB, tyN, hc, hall]

/-! ## the law -/
theorem m_piece (p : PP) (h1 : p.1.length ≤ 1000) (h2 : p.2.length ≤ 1000) (x0 x1 x2 x3 x4 x6 x7 : Slot) : lp_law_1 ⟨[x0, x1, x2, x3, x4, .v (mkP p), x6, x7], []⟩ = .nx ⟨[x0, x1, x2, x3, x4, .v (mkP p), x6, x7], []⟩ := by
  have e1 : sem_l_row [.tup (p.1.map D.int)] [] = _ := m_row p.1 h1
  have e2 : sem_l_row [.tup (p.2.map D.int)] [] = _ := m_row p.2 h2
  unfold lp_law_1 mkP
  simp (disch := (first | assumption | with_reducible rfl | decide +kernel | exact Or.inl (by decide +kernel) | exact Or.inr (by decide +kernel) | omega | (simp only [List.length_cons, List.length_nil, List.length_append, List.length_map, List.length_replicate, List.length_range] <;> omega) | rfl)) only [evEqs, List.getElem?_cons_zero, List.getElem?_cons_succ, List.getElem?_nil, List.set_cons_zero, List.set_cons_succ, List.map_cons, List.map_nil, List.length_cons, List.length_nil, List.length_append, List.cons_append, List.nil_append, List.length_map, List.length_singleton, Nat.reduceBEq, Nat.reduceAdd, Nat.reduceSub, Nat.reduceMul, Nat.reduceEqDiff, Nat.reduceLeDiff, Nat.reduceLT, if_false, if_true, ite_true, ite_false, ↓reduceIte, Bool.not_true, Bool.not_false, Bool.false_eq_true, decide_true, decide_false, eq_self, and_true, true_and, and_self, Nat.zero_le, Nat.zero_add, Option.bind_some, Option.bind_none, Nat.lt_irrefl, Int.reduceToNat, Int.reducePow, Int.reduceNeg, Int.reduceMul, Int.reduceAdd, Int.reduceSub, Int.reduceLT, Int.reduceLE, Int.reduceEq, beq_self_eq_true, wipeE, MP.at0, MP.at1, MP.at2, MP.atLit, isiB, tyN, e1, e2]
def lawS (ns : List Int) (R C : Nat) (es : List (Nat × Nat)) (n : Nat) (rd : List Int) (x4 x5 x6 x7 : Slot) : Sta := ⟨[.v (.lk (zs ns)), .v (frD R C es), .v (.int n), .v (.tup (zs rd)), x4, x5, x6, x7], []⟩
theorem m_law (ns : List Int) (h : ns.length ≤ 63) : ∃ st, sem_law [.lk (zs ns)] [] = .ok (.v (.bool true)) st := by
  refine ⟨[], ?_⟩
  unfold sem_law
  refine run_ex (Q := fun r => r = .ok (.v (.bool true)) []) [.v (.lk (zs ns)), .un, .un, .un, .un, .un, .un, .un] rfl ?_
  unfold b_law
  have c14 := m_cell ns 14 (by decide)
  have c13 := m_cell ns 13 (by decide)
  generalize ns.getD (14 : Int).toNat 0 = c at c14
  generalize ns.getD (13 : Int).toNat 0 = c' at c13
  obtain ⟨u, hu, eu⟩ := m_take c 8 (by decide) 2 (by decide)
  have eu : sem_l_take [.int c, .int 8, .int 2] [] = .ok (.v (.int u)) [] := eu
  obtain ⟨most, hm1, hm2, em⟩ : ∃ most : Nat, 0 < most ∧ most ≤ 12 ∧ atI [D.int 6, .int 12] (u : Int) = some (.int (most : Nat)) := by
    rw [atN]
    rcases (by omega : u = 0 ∨ u = 1) with rfl | rfl
    · exact ⟨6, by decide, by decide, rfl⟩
    · exact ⟨12, by decide, by decide, rfl⟩
  obtain ⟨R, C, es, hR1, hR2, hC1, hC2, ⟨hf, hnd⟩, he1, he2, efr⟩ := m_frame ns most ⟨hm1, hm2⟩
  have hn : es.length ≤ 12 := by omega
  have hsl := spsD_len es
  refine sqR (s' := ⟨[.v (.lk (zs ns)), .v (frD R C es), .un, .un, .un, .un, .un, .un], []⟩) (by unfold st_law_1; simp (disch := (first | assumption | with_reducible rfl | decide +kernel | exact Or.inl (by decide +kernel) | exact Or.inr (by decide +kernel) | omega | (simp only [List.length_cons, List.length_nil, List.length_append, List.length_map, List.length_replicate, List.length_range] <;> omega) | rfl)) only [evEqs, List.getElem?_cons_zero, List.getElem?_cons_succ, List.getElem?_nil, List.set_cons_zero, List.set_cons_succ, List.map_cons, List.map_nil, List.length_cons, List.length_nil, List.length_append, List.cons_append, List.nil_append, List.length_map, List.length_singleton, Nat.reduceBEq, Nat.reduceAdd, Nat.reduceSub, Nat.reduceMul, Nat.reduceEqDiff, Nat.reduceLeDiff, Nat.reduceLT, if_false, if_true, ite_true, ite_false, ↓reduceIte, Bool.not_true, Bool.not_false, Bool.false_eq_true, decide_true, decide_false, eq_self, and_true, true_and, and_self, Nat.zero_le, Nat.zero_add, Option.bind_some, Option.bind_none, Nat.lt_irrefl, Int.reduceToNat, Int.reducePow, Int.reduceNeg, Int.reduceMul, Int.reduceAdd, Int.reduceSub, Int.reduceLT, Int.reduceLE, Int.reduceEq, beq_self_eq_true, wipeE, MP.at0, MP.at1, MP.at2, MP.atLit, c14, eu, em, efr]) ?_
  refine sqR (s' := ⟨[.v (.lk (zs ns)), .v (frD R C es), .v (.int es.length), .un, .un, .un, .un, .un], []⟩) (by unfold st_law_2; simp (disch := (first | assumption | with_reducible rfl | decide +kernel | exact Or.inl (by decide +kernel) | exact Or.inr (by decide +kernel) | omega | (simp only [List.length_cons, List.length_nil, List.length_append, List.length_map, List.length_replicate, List.length_range] <;> omega) | rfl)) only [evEqs, List.getElem?_cons_zero, List.getElem?_cons_succ, List.getElem?_nil, List.set_cons_zero, List.set_cons_succ, List.map_cons, List.map_nil, List.length_cons, List.length_nil, List.length_append, List.cons_append, List.nil_append, List.length_map, List.length_singleton, Nat.reduceBEq, Nat.reduceAdd, Nat.reduceSub, Nat.reduceMul, Nat.reduceEqDiff, Nat.reduceLeDiff, Nat.reduceLT, if_false, if_true, ite_true, ite_false, ↓reduceIte, Bool.not_true, Bool.not_false, Bool.false_eq_true, decide_true, decide_false, eq_self, and_true, true_and, and_self, Nat.zero_le, Nat.zero_add, Option.bind_some, Option.bind_none, Nat.lt_irrefl, Int.reduceToNat, Int.reducePow, Int.reduceNeg, Int.reduceMul, Int.reduceAdd, Int.reduceSub, Int.reduceLT, Int.reduceLE, Int.reduceEq, beq_self_eq_true, wipeE, MP.at0, MP.at1, MP.at2, MP.atLit, frD_2, hsl]) ?_
  obtain ⟨ks, ha, ed⟩ := m_downsA c' es.length hn
  have er := m_reading R C hR2 hC2 es hf ks ha.lt (Nat.le_trans ha.len hn)
  have hrl := readF_len R C (edgesOf es ks)
  obtain ⟨rd, hrd, et⟩ := m_turned ns ⟨hR1, hR2⟩ ⟨hC1, hC2⟩ es (nI (readF R C (edgesOf es ks))) (by unfold nI; rw [List.length_map, hrl])
  rw [zs_nI] at et
  refine sqR (s' := lawS ns R C es es.length rd .un .un .un .un) (by unfold st_law_3 lawS; simp (disch := (first | assumption | with_reducible rfl | decide +kernel | exact Or.inl (by decide +kernel) | exact Or.inr (by decide +kernel) | omega | (simp only [List.length_cons, List.length_nil, List.length_append, List.length_map, List.length_replicate, List.length_range] <;> omega) | rfl)) only [evEqs, List.getElem?_cons_zero, List.getElem?_cons_succ, List.getElem?_nil, List.set_cons_zero, List.set_cons_succ, List.map_cons, List.map_nil, List.length_cons, List.length_nil, List.length_append, List.cons_append, List.nil_append, List.length_map, List.length_singleton, Nat.reduceBEq, Nat.reduceAdd, Nat.reduceSub, Nat.reduceMul, Nat.reduceEqDiff, Nat.reduceLeDiff, Nat.reduceLT, if_false, if_true, ite_true, ite_false, ↓reduceIte, Bool.not_true, Bool.not_false, Bool.false_eq_true, decide_true, decide_false, eq_self, and_true, true_and, and_self, Nat.zero_le, Nat.zero_add, Option.bind_some, Option.bind_none, Nat.lt_irrefl, Int.reduceToNat, Int.reducePow, Int.reduceNeg, Int.reduceMul, Int.reduceAdd, Int.reduceSub, Int.reduceLT, Int.reduceLE, Int.reduceEq, beq_self_eq_true, wipeE, MP.at0, MP.at1, MP.at2, MP.atLit, c13, ed, er, et]) ?_
  obtain ⟨b, hb, eb⟩ := m_can ⟨hR1, hR2⟩ hC2 hf hn rd hrd
  by_cases hcan : Can R C es rd
  · have hbt := hb.mpr hcan
    subst hbt
    refine sqR (s' := lawS ns R C es es.length rd .un .un .un .un) (by unfold st_law_4 lawS; simp (disch := (first | assumption | with_reducible rfl | decide +kernel | exact Or.inl (by decide +kernel) | exact Or.inr (by decide +kernel) | omega | (simp only [List.length_cons, List.length_nil, List.length_append, List.length_map, List.length_replicate, List.length_range] <;> omega) | rfl)) only [evEqs, List.getElem?_cons_zero, List.getElem?_cons_succ, List.getElem?_nil, List.set_cons_zero, List.set_cons_succ, List.map_cons, List.map_nil, List.length_cons, List.length_nil, List.length_append, List.cons_append, List.nil_append, List.length_map, List.length_singleton, Nat.reduceBEq, Nat.reduceAdd, Nat.reduceSub, Nat.reduceMul, Nat.reduceEqDiff, Nat.reduceLeDiff, Nat.reduceLT, if_false, if_true, ite_true, ite_false, ↓reduceIte, Bool.not_true, Bool.not_false, Bool.false_eq_true, decide_true, decide_false, eq_self, and_true, true_and, and_self, Nat.zero_le, Nat.zero_add, Option.bind_some, Option.bind_none, Nat.lt_irrefl, Int.reduceToNat, Int.reducePow, Int.reduceNeg, Int.reduceMul, Int.reduceAdd, Int.reduceSub, Int.reduceLT, Int.reduceLE, Int.reduceEq, beq_self_eq_true, wipeE, MP.at0, MP.at1, MP.at2, MP.atLit, eb]) ?_
    obtain ⟨ks2, ha2, rfl⟩ := hcan
    have hp := m_piecesO hR2 hC2 hf hn ha2.lt
    rw [both_same] at hp
    have hlp := m_lpieces hR2 hC2 es (readF R C (edgesOf es ks2)) (readF_len ..)
    have hlen : ∀ p ∈ lawPs C (readF R C (edgesOf es ks2)), p.1.length ≤ 1000 ∧ p.2.length ≤ 1000 := by
      intro p hp
      unfold lawPs at hp
      obtain ⟨r, _, rfl⟩ := List.mem_map.mp hp
      have a := rows_len (readF R C (edgesOf es ks2)) ((readF R C (edgesOf es ks2)).getD r 0)
      have b := cols_len C ((readF R C (edgesOf es ks2)).getD r 0)
      rw [readF_len] at a
      unfold pieceN nI
      simp only [List.length_map]
      omega
    have hll : ((lawPs C (readF R C (edgesOf es ks2))).map mkP).length ≤ 1000 := by
      unfold lawPs
      rw [List.length_map, List.length_map]
      exact Nat.le_trans (List.length_filter_le ..) (by simp [readF_len]; omega)
    have hne : gNe (.list ((lawPs C (readF R C (edgesOf es ks2))).map mkP)) (.list ((lawPs C (readF R C (edgesOf es ks2))).map mkP)) = some ⟨.sh, .bool false⟩ := g_neR (plain_ps _) rfl
    have heq : gEq (.list ((lawPs C (readF R C (edgesOf es ks2))).map mkP)) (.list ((lawPs C (readF R C (edgesOf es ks2))).map mkP)) = some ⟨.sh, .bool true⟩ := g_eqR (plain_ps _) rfl
    unfold lawS
    rw [zs_nI]
    generalize lawPs C (readF R C (edgesOf es ks2)) = ps at *
    have hmem : ∀ d ∈ ps.map mkP, ∀ x0 x1 x2 x3 x4 x6 x7 : Slot, lp_law_1 ⟨[x0, x1, x2, x3, x4, .v d, x6, x7], []⟩ = .nx ⟨[x0, x1, x2, x3, x4, .v d, x6, x7], []⟩ := by
      intro d hd
      obtain ⟨p, hp, rfl⟩ := List.mem_map.mp hd
      exact m_piece p (hlen p hp).1 (hlen p hp).2
    generalize ps.map mkP = pd at *
    generalize nD (readF R C (edgesOf es ks2)) = rdD at *
    refine sqR (s' := ⟨[.v (.lk (zs ns)), .v (frD R C es), .v (.int es.length), .v (.tup rdD), .own (.list pd), .un, .un, .un], []⟩) (by unfold st_law_5; simp (disch := (first | assumption | with_reducible rfl | decide +kernel | exact Or.inl (by decide +kernel) | exact Or.inr (by decide +kernel) | omega | (simp only [List.length_cons, List.length_nil, List.length_append, List.length_map, List.length_replicate, List.length_range] <;> omega) | rfl)) only [evEqs, List.getElem?_cons_zero, List.getElem?_cons_succ, List.getElem?_nil, List.set_cons_zero, List.set_cons_succ, List.map_cons, List.map_nil, List.length_cons, List.length_nil, List.length_append, List.cons_append, List.nil_append, List.length_map, List.length_singleton, Nat.reduceBEq, Nat.reduceAdd, Nat.reduceSub, Nat.reduceMul, Nat.reduceEqDiff, Nat.reduceLeDiff, Nat.reduceLT, if_false, if_true, ite_true, ite_false, ↓reduceIte, Bool.not_true, Bool.not_false, Bool.false_eq_true, decide_true, decide_false, eq_self, and_true, true_and, and_self, Nat.zero_le, Nat.zero_add, Option.bind_some, Option.bind_none, Nat.lt_irrefl, Int.reduceToNat, Int.reducePow, Int.reduceNeg, Int.reduceMul, Int.reduceAdd, Int.reduceSub, Int.reduceLT, Int.reduceLE, Int.reduceEq, beq_self_eq_true, wipeE, MP.at0, MP.at1, MP.at2, MP.atLit, hp]) ?_
    refine sqR (s' := ⟨[.v (.lk (zs ns)), .v (frD R C es), .v (.int es.length), .v (.tup rdD), .own (.list pd), .un, .un, .un], []⟩) (by unfold st_law_6; simp (disch := (first | assumption | with_reducible rfl | decide +kernel | exact Or.inl (by decide +kernel) | exact Or.inr (by decide +kernel) | omega | (simp only [List.length_cons, List.length_nil, List.length_append, List.length_map, List.length_replicate, List.length_range] <;> omega) | rfl)) only [evEqs, List.getElem?_cons_zero, List.getElem?_cons_succ, List.getElem?_nil, List.set_cons_zero, List.set_cons_succ, List.map_cons, List.map_nil, List.length_cons, List.length_nil, List.length_append, List.cons_append, List.nil_append, List.length_map, List.length_singleton, Nat.reduceBEq, Nat.reduceAdd, Nat.reduceSub, Nat.reduceMul, Nat.reduceEqDiff, Nat.reduceLeDiff, Nat.reduceLT, if_false, if_true, ite_true, ite_false, ↓reduceIte, Bool.not_true, Bool.not_false, Bool.false_eq_true, decide_true, decide_false, eq_self, and_true, true_and, and_self, Nat.zero_le, Nat.zero_add, Option.bind_some, Option.bind_none, Nat.lt_irrefl, Int.reduceToNat, Int.reducePow, Int.reduceNeg, Int.reduceMul, Int.reduceAdd, Int.reduceSub, Int.reduceLT, Int.reduceLE, Int.reduceEq, beq_self_eq_true, wipeE, MP.at0, MP.at1, MP.at2, MP.atLit, isiB, tyN, hlp, hne]) ?_
    unfold st_law_7
    refine sqO (P := fun fl => fl.fr = .ok (.v (.bool true)) []) [.v (.lk (zs ns)), .v (frD R C es), .v (.int es.length), .v (.tup rdD), .un, lastV .un pd, .un, .un] [] rfl (by simp) (fun a => ?_) ?_
    · exact loop_same (i := 5) (env := [.v (.lk (zs ns)), .v (frD R C es), .v (.int es.length), .v (.tup rdD), .hid a, .un, .un, .un]) (fun d hd => hmem d hd ..) .un rfl
    · refine sqR (s' := ⟨[.v (.lk (zs ns)), .v (frD R C es), .v (.int es.length), .v (.tup rdD), .own (.list (pd ++ [.tup [.tup [], .tup []]])), lastV .un pd, .un, .un], []⟩) (by unfold st_law_8; simp (disch := (first | assumption | with_reducible rfl | decide +kernel | exact Or.inl (by decide +kernel) | exact Or.inr (by decide +kernel) | omega | (simp only [List.length_cons, List.length_nil, List.length_append, List.length_map, List.length_replicate, List.length_range] <;> omega) | rfl)) only [evEqs, List.getElem?_cons_zero, List.getElem?_cons_succ, List.getElem?_nil, List.set_cons_zero, List.set_cons_succ, List.map_cons, List.map_nil, List.length_cons, List.length_nil, List.length_append, List.cons_append, List.nil_append, List.length_map, List.length_singleton, Nat.reduceBEq, Nat.reduceAdd, Nat.reduceSub, Nat.reduceMul, Nat.reduceEqDiff, Nat.reduceLeDiff, Nat.reduceLT, if_false, if_true, ite_true, ite_false, ↓reduceIte, Bool.not_true, Bool.not_false, Bool.false_eq_true, decide_true, decide_false, eq_self, and_true, true_and, and_self, Nat.zero_le, Nat.zero_add, Option.bind_some, Option.bind_none, Nat.lt_irrefl, Int.reduceToNat, Int.reducePow, Int.reduceNeg, Int.reduceMul, Int.reduceAdd, Int.reduceSub, Int.reduceLT, Int.reduceLE, Int.reduceEq, beq_self_eq_true, wipeE, MP.at0, MP.at1, MP.at2, MP.atLit]) ?_
      unfold st_law_9
      simp (disch := (first | assumption | with_reducible rfl | decide +kernel | exact Or.inl (by decide +kernel) | exact Or.inr (by decide +kernel) | omega | (simp only [List.length_cons, List.length_nil, List.length_append, List.length_map, List.length_replicate, List.length_range] <;> omega) | rfl)) only [evEqs, List.getElem?_cons_zero, List.getElem?_cons_succ, List.getElem?_nil, List.set_cons_zero, List.set_cons_succ, List.map_cons, List.map_nil, List.length_cons, List.length_nil, List.length_append, List.cons_append, List.nil_append, List.length_map, List.length_singleton, Nat.reduceBEq, Nat.reduceAdd, Nat.reduceSub, Nat.reduceMul, Nat.reduceEqDiff, Nat.reduceLeDiff, Nat.reduceLT, if_false, if_true, ite_true, ite_false, ↓reduceIte, Bool.not_true, Bool.not_false, Bool.false_eq_true, decide_true, decide_false, eq_self, and_true, true_and, and_self, Nat.zero_le, Nat.zero_add, Option.bind_some, Option.bind_none, Nat.lt_irrefl, Int.reduceToNat, Int.reducePow, Int.reduceNeg, Int.reduceMul, Int.reduceAdd, Int.reduceSub, Int.reduceLT, Int.reduceLE, Int.reduceEq, beq_self_eq_true, wipeE, MP.at0, MP.at1, MP.at2, MP.atLit, hp, hlp, heq]
  · have hbf : b = false := by
      cases b with
      | false => rfl
      | true => exact absurd (hb.mp rfl) hcan
    subst hbf
    obtain ⟨k, hk, ek⟩ := m_take c 9 (by decide) es.length he1
    have ek : sem_l_take [.int c, .int 9, .int es.length] [] = .ok (.v (.int k)) [] := ek
    have hc : compL (.nm 7) pYes (pD (pUser 4 sem_l_refused (pCons (pD (pVar 1)) (pCons (pD (pVar 3)) (pCons (pD (pVar 7)) (pCons (pD (pVar 6)) (pNil))))))) ⟨[.v (.lk (zs ns)), .v (frD R C es), .v (.int es.length), .v (.tup (zs rd)), .un, .un, .v (.int k), .un], []⟩ (rng 0 (3 : Int)) = .ok (([0, 1, 2].map fun _ => true).map D.bool) := by
      have e3 : rng 0 (3 : Int) = [0, 1, 2].map fun m : Nat => D.int (m : Int) := rfl
      rw [e3, List.map_map]
      refine compM _ _ fun w hw => ⟨_, b_nm .., ?_⟩
      have hw3 : w < 3 := by
        simp only [List.mem_cons, List.not_mem_nil, or_false] at hw
        omega
      have er := m_refused hR2 hC2 hf hn rd hcan w k hw3
      simp (disch := (first | assumption | with_reducible rfl | decide +kernel | exact Or.inl (by decide +kernel) | exact Or.inr (by decide +kernel) | omega | (simp only [List.length_cons, List.length_nil, List.length_append, List.length_map, List.length_replicate, List.length_range] <;> omega) | rfl)) only [evEqs, List.getElem?_cons_zero, List.getElem?_cons_succ, List.getElem?_nil, List.set_cons_zero, List.set_cons_succ, List.map_cons, List.map_nil, List.length_cons, List.length_nil, List.length_append, List.cons_append, List.nil_append, List.length_map, List.length_singleton, Nat.reduceBEq, Nat.reduceAdd, Nat.reduceSub, Nat.reduceMul, Nat.reduceEqDiff, Nat.reduceLeDiff, Nat.reduceLT, if_false, if_true, ite_true, ite_false, ↓reduceIte, Bool.not_true, Bool.not_false, Bool.false_eq_true, decide_true, decide_false, eq_self, and_true, true_and, and_self, Nat.zero_le, Nat.zero_add, Option.bind_some, Option.bind_none, Nat.lt_irrefl, Int.reduceToNat, Int.reducePow, Int.reduceNeg, Int.reduceMul, Int.reduceAdd, Int.reduceSub, Int.reduceLT, Int.reduceLE, Int.reduceEq, beq_self_eq_true, wipeE, MP.at0, MP.at1, MP.at2, MP.atLit, er]
      rfl
    have hrl3 : (rng 0 (3 : Int)).length = 3 := rfl
    have hga : gAll [.list (([0, 1, 2].map fun _ => true).map D.bool)] = some ⟨.sh, .bool true⟩ := g_allB _
    generalize ([0, 1, 2].map fun _ => true).map D.bool = l3 at *
    unfold st_law_4 lawS
    simp (disch := (first | assumption | with_reducible rfl | decide +kernel | exact Or.inl (by decide +kernel) | exact Or.inr (by decide +kernel) | omega | (simp only [List.length_cons, List.length_nil, List.length_append, List.length_map, List.length_replicate, List.length_range] <;> omega) | rfl)) only [evEqs, List.getElem?_cons_zero, List.getElem?_cons_succ, List.getElem?_nil, List.set_cons_zero, List.set_cons_succ, List.map_cons, List.map_nil, List.length_cons, List.length_nil, List.length_append, List.cons_append, List.nil_append, List.length_map, List.length_singleton, Nat.reduceBEq, Nat.reduceAdd, Nat.reduceSub, Nat.reduceMul, Nat.reduceEqDiff, Nat.reduceLeDiff, Nat.reduceLT, if_false, if_true, ite_true, ite_false, ↓reduceIte, Bool.not_true, Bool.not_false, Bool.false_eq_true, decide_true, decide_false, eq_self, and_true, true_and, and_self, Nat.zero_le, Nat.zero_add, Option.bind_some, Option.bind_none, Nat.lt_irrefl, Int.reduceToNat, Int.reducePow, Int.reduceNeg, Int.reduceMul, Int.reduceAdd, Int.reduceSub, Int.reduceLT, Int.reduceLE, Int.reduceEq, beq_self_eq_true, wipeE, MP.at0, MP.at1, MP.at2, MP.atLit, eb, c14, ek, hc, hga]

end L_k03

namespace L_k03
open PySem PySem.Spec PyProof.Rows L2 MP
theorem all_mk {l : PySem.W.OpenLaw} {w : World} {K : PySem.W.Frag} {h : Heap} {mg : Str → Option Value} {fa f0 f1 f2 f3 f4 f5 f6 f7 f8 f9 f10 f11 f12 f13 f14 f15 f16 f17 f18 f19 f20 f21 f22 C_NoReading C_BedError C_NoChord C_NoBed C_NoFrame C_NoBook C_NoKeys C_TooMany C_NoText C_NoRow C_NoWord : Addr} (X : K.In h) (G : h.Ns mainGlobals mg) (hfa : mg "law" = some (.ref fa))
    {od0 an0 od1 an1 od2 an2 od3 an3 od4 an4 od5 an5 od6 an6 od7 an7 od8 an8 od9 an9 od10 an10 od11 an11 od12 an12 od13 an13 od14 an14 od15 an15 od16 an16 od17 an17 od18 an18 od19 an19 od20 an20 od21 an21 od22 an22 : Option Addr} {sl0 sl1 sl2 sl3 sl4 sl5 sl6 sl7 sl8 sl9 sl10 sl11 sl12 sl13 sl14 sl15 sl16 sl17 sl18 sl19 sl20 sl21 sl22 : Array (Option Value)} {oc0 kV0 dc0 pm0 cd0 ct0 oc1 kV1 dc1 pm1 cd1 ct1 oc2 kV2 dc2 pm2 cd2 ct2 oc3 kV3 dc3 pm3 cd3 ct3 oc4 kV4 dc4 pm4 cd4 ct4 oc5 kV5 dc5 pm5 cd5 ct5 oc6 kV6 dc6 pm6 cd6 ct6 oc7 kV7 dc7 pm7 cd7 ct7 oc8 kV8 dc8 pm8 cd8 ct8 oc9 kV9 dc9 pm9 cd9 ct9 oc10 kV10 dc10 pm10 cd10 ct10 oc11 kV11 dc11 pm11 cd11 ct11 oc12 kV12 dc12 pm12 cd12 ct12 oc13 kV13 dc13 pm13 cd13 ct13 oc14 kV14 dc14 pm14 cd14 ct14 oc15 kV15 dc15 pm15 cd15 ct15 oc16 kV16 dc16 pm16 cd16 ct16 oc17 kV17 dc17 pm17 cd17 ct17 oc18 kV18 dc18 pm18 cd18 ct18 oc19 kV19 dc19 pm19 cd19 ct19 oc20 kV20 dc20 pm20 cd20 ct20 oc21 kV21 dc21 pm21 cd21 ct21 oc22 kV22 dc22 pm22 cd22 ct22 : Value}
    (aC_NoReading : PySem.W.nsIn K mainGlobals "NoReading" = some (some (.ref C_NoReading)))
    (aC_BedError : PySem.W.nsIn K mainGlobals "BedError" = some (some (.ref C_BedError)))
    (aC_NoChord : PySem.W.nsIn K mainGlobals "NoChord" = some (some (.ref C_NoChord)))
    (aC_NoBed : PySem.W.nsIn K mainGlobals "NoBed" = some (some (.ref C_NoBed)))
    (aC_NoFrame : PySem.W.nsIn K mainGlobals "NoFrame" = some (some (.ref C_NoFrame)))
    (aC_NoBook : PySem.W.nsIn K mainGlobals "NoBook" = some (some (.ref C_NoBook)))
    (aC_NoKeys : PySem.W.nsIn K mainGlobals "NoKeys" = some (some (.ref C_NoKeys)))
    (aC_TooMany : PySem.W.nsIn K mainGlobals "TooMany" = some (some (.ref C_TooMany)))
    (aC_NoText : PySem.W.nsIn K mainGlobals "NoText" = some (some (.ref C_NoText)))
    (aC_NoRow : PySem.W.nsIn K mainGlobals "NoRow" = some (some (.ref C_NoRow)))
    (aC_NoWord : PySem.W.nsIn K mainGlobals "NoWord" = some (some (.ref C_NoWord)))
    (tsb_BedError : PySem.W.subIn K (.ref C_BedError) (.type "BaseException") = some true)
    (thd_BedError : PySem.W.hasDictIn K C_BedError = true)
    (tty_BedError : PySem.W.typeIn K (.ref C_BedError) = some (.type "type"))
    (tsu_NoReading_BedError : PySem.W.subIn K (.ref C_NoReading) (.ref C_BedError) = some true)
    (ki_NoReading_NoChord : PySem.W.kitOne K (.ref C_NoReading) (.ref C_NoChord) = some false)
    (ki_NoReading_NoBed : PySem.W.kitOne K (.ref C_NoReading) (.ref C_NoBed) = some false)
    (ki_NoReading_NoReading : PySem.W.kitOne K (.ref C_NoReading) (.ref C_NoReading) = some true)
    (ki_NoReading_NoFrame : PySem.W.kitOne K (.ref C_NoReading) (.ref C_NoFrame) = some false)
    (ki_NoReading_NoBook : PySem.W.kitOne K (.ref C_NoReading) (.ref C_NoBook) = some false)
    (ki_NoReading_NoKeys : PySem.W.kitOne K (.ref C_NoReading) (.ref C_NoKeys) = some false)
    (ki_NoReading_TooMany : PySem.W.kitOne K (.ref C_NoReading) (.ref C_TooMany) = some false)
    (ki_NoReading_NoText : PySem.W.kitOne K (.ref C_NoReading) (.ref C_NoText) = some false)
    (ki_NoReading_NoRow : PySem.W.kitOne K (.ref C_NoReading) (.ref C_NoRow) = some false)
    (ki_NoReading_NoWord : PySem.W.kitOne K (.ref C_NoReading) (.ref C_NoWord) = some false)
    (ki_NoReading_ValueError : PySem.W.kitOne K (.ref C_NoReading) (.type "ValueError") = some true)
    (xic_NoReading : PySem.W.isClsIn K C_NoReading = true)
    (xga_NoReading : PySem.W.findIn K (.ref C_NoReading) "__getattribute__" = some (some (.builtin "BaseException.__getattribute__")))
    (xgg_NoReading : PySem.W.findIn K (.ref C_NoReading) "__getattr__" = some none)
    (xsb_NoReading : PySem.W.subIn K (.ref C_NoReading) (.type "BaseException") = some true)
    (xac_NoReading : PySem.W.findIn K (.ref C_NoReading) "__class__" = some (some (.builtin "object.__class__")))
    (xmr_NoReading : PySem.W.mroIn K C_NoReading (.type "object") = some true)
    (xhd_NoReading : PySem.W.hasDictIn K C_NoReading = true)
    (xty_NoReading : PySem.W.typeIn K (.ref C_NoReading) = some (.type "type"))
    (xkc_NoReading : PySem.W.keepIn K (.ref C_NoReading) = true)
    (xex_NoReading : PySem.W.excIn K C_NoReading [.type "ValueError", .type "Exception", .type "BaseException", .type "object"] "ValueError.__new__" = true)
    (xgn : PySem.W.specialIn K (.builtin "object.__class__") "__get__" = some (some (.builtin "getset_descriptor.__get__")))
    (xtk : PySem.W.takesIn K (.builtin "object.__class__") = some true)
    (a0 : PySem.W.nsIn K mainGlobals "_law_cell" = some (some (.ref f0)))
    (l0 : K.lookup f0 = some ⟨oc0, od0, .func (PySem.W.fnOf "_law_cell" "_law_cell" (defArgs s_l_cell) (defBody s_l_cell) (defScope s_l_cell) .none kV0 dc0 pm0 an0 cd0 ct0), sl0⟩)
    (c0 : PySem.W.codeIn K cd0 "_law_cell" = true)
    (k0 : PySem.W.keepIn K (.ref f0) = true)
    (a1 : PySem.W.nsIn K mainGlobals "_law_take" = some (some (.ref f1)))
    (l1 : K.lookup f1 = some ⟨oc1, od1, .func (PySem.W.fnOf "_law_take" "_law_take" (defArgs s_l_take) (defBody s_l_take) (defScope s_l_take) .none kV1 dc1 pm1 an1 cd1 ct1), sl1⟩)
    (c1 : PySem.W.codeIn K cd1 "_law_take" = true)
    (k1 : PySem.W.keepIn K (.ref f1) = true)
    (a2 : PySem.W.nsIn K mainGlobals "_law_frame" = some (some (.ref f2)))
    (l2 : K.lookup f2 = some ⟨oc2, od2, .func (PySem.W.fnOf "_law_frame" "_law_frame" (defArgs s_l_frame) (defBody s_l_frame) (defScope s_l_frame) .none kV2 dc2 pm2 an2 cd2 ct2), sl2⟩)
    (c2 : PySem.W.codeIn K cd2 "_law_frame" = true)
    (k2 : PySem.W.keepIn K (.ref f2) = true)
    (a3 : PySem.W.nsIn K mainGlobals "_law_turned" = some (some (.ref f3)))
    (l3 : K.lookup f3 = some ⟨oc3, od3, .func (PySem.W.fnOf "_law_turned" "_law_turned" (defArgs s_l_turned) (defBody s_l_turned) (defScope s_l_turned) .none kV3 dc3 pm3 an3 cd3 ct3), sl3⟩)
    (c3 : PySem.W.codeIn K cd3 "_law_turned" = true)
    (k3 : PySem.W.keepIn K (.ref f3) = true)
    (a4 : PySem.W.nsIn K mainGlobals "keys_in" = some (some (.ref f4)))
    (l4 : K.lookup f4 = some ⟨oc4, od4, .func (PySem.W.fnOf "keys_in" "keys_in" (defArgs s_keys_in) (defBody s_keys_in) (defScope s_keys_in) .none kV4 dc4 pm4 an4 cd4 ct4), sl4⟩)
    (c4 : PySem.W.codeIn K cd4 "keys_in" = true)
    (k4 : PySem.W.keepIn K (.ref f4) = true)
    (a5 : PySem.W.nsIn K mainGlobals "hung" = some (some (.ref f5)))
    (l5 : K.lookup f5 = some ⟨oc5, od5, .func (PySem.W.fnOf "hung" "hung" (defArgs s_hung) (defBody s_hung) (defScope s_hung) .none kV5 dc5 pm5 an5 cd5 ct5), sl5⟩)
    (c5 : PySem.W.codeIn K cd5 "hung" = true)
    (k5 : PySem.W.keepIn K (.ref f5) = true)
    (a6 : PySem.W.nsIn K mainGlobals "reads" = some (some (.ref f6)))
    (l6 : K.lookup f6 = some ⟨oc6, od6, .func (PySem.W.fnOf "reads" "reads" (defArgs s_reads) (defBody s_reads) (defScope s_reads) .none kV6 dc6 pm6 an6 cd6 ct6), sl6⟩)
    (c6 : PySem.W.codeIn K cd6 "reads" = true)
    (k6 : PySem.W.keepIn K (.ref f6) = true)
    (a7 : PySem.W.nsIn K mainGlobals "checked_keys" = some (some (.ref f7)))
    (l7 : K.lookup f7 = some ⟨oc7, od7, .func (PySem.W.fnOf "checked_keys" "checked_keys" (defArgs s_checked_keys) (defBody s_checked_keys) (defScope s_checked_keys) .none kV7 dc7 pm7 an7 cd7 ct7), sl7⟩)
    (c7 : PySem.W.codeIn K cd7 "checked_keys" = true)
    (k7 : PySem.W.keepIn K (.ref f7) = true)
    (a8 : PySem.W.nsIn K mainGlobals "pieces" = some (some (.ref f8)))
    (l8 : K.lookup f8 = some ⟨oc8, od8, .func (PySem.W.fnOf "pieces" "pieces" (defArgs s_pieces) (defBody s_pieces) (defScope s_pieces) .none kV8 dc8 pm8 an8 cd8 ct8), sl8⟩)
    (c8 : PySem.W.codeIn K cd8 "pieces" = true)
    (k8 : PySem.W.keepIn K (.ref f8) = true)
    (a9 : PySem.W.nsIn K mainGlobals "_law_wires" = some (some (.ref f9)))
    (l9 : K.lookup f9 = some ⟨oc9, od9, .func (PySem.W.fnOf "_law_wires" "_law_wires" (defArgs s_l_wires) (defBody s_l_wires) (defScope s_l_wires) .none kV9 dc9 pm9 an9 cd9 ct9), sl9⟩)
    (c9 : PySem.W.codeIn K cd9 "_law_wires" = true)
    (k9 : PySem.W.keepIn K (.ref f9) = true)
    (a10 : PySem.W.nsIn K mainGlobals "_law_reading" = some (some (.ref f10)))
    (l10 : K.lookup f10 = some ⟨oc10, od10, .func (PySem.W.fnOf "_law_reading" "_law_reading" (defArgs s_l_reading) (defBody s_l_reading) (defScope s_l_reading) .none kV10 dc10 pm10 an10 cd10 ct10), sl10⟩)
    (c10 : PySem.W.codeIn K cd10 "_law_reading" = true)
    (k10 : PySem.W.keepIn K (.ref f10) = true)
    (a11 : PySem.W.nsIn K mainGlobals "_law_sets" = some (some (.ref f11)))
    (l11 : K.lookup f11 = some ⟨oc11, od11, .func (PySem.W.fnOf "_law_sets" "_law_sets" (defArgs s_l_sets) (defBody s_l_sets) (defScope s_l_sets) .none kV11 dc11 pm11 an11 cd11 ct11), sl11⟩)
    (c11 : PySem.W.codeIn K cd11 "_law_sets" = true)
    (k11 : PySem.W.keepIn K (.ref f11) = true)
    (a12 : PySem.W.nsIn K mainGlobals "_law_can" = some (some (.ref f12)))
    (l12 : K.lookup f12 = some ⟨oc12, od12, .func (PySem.W.fnOf "_law_can" "_law_can" (defArgs s_l_can) (defBody s_l_can) (defScope s_l_can) .none kV12 dc12 pm12 an12 cd12 ct12), sl12⟩)
    (c12 : PySem.W.codeIn K cd12 "_law_can" = true)
    (k12 : PySem.W.keepIn K (.ref f12) = true)
    (a13 : PySem.W.nsIn K mainGlobals "_law_pieces" = some (some (.ref f13)))
    (l13 : K.lookup f13 = some ⟨oc13, od13, .func (PySem.W.fnOf "_law_pieces" "_law_pieces" (defArgs s_l_pieces) (defBody s_l_pieces) (defScope s_l_pieces) .none kV13 dc13 pm13 an13 cd13 ct13), sl13⟩)
    (c13 : PySem.W.codeIn K cd13 "_law_pieces" = true)
    (k13 : PySem.W.keepIn K (.ref f13) = true)
    (a14 : PySem.W.nsIn K mainGlobals "_law_downs" = some (some (.ref f14)))
    (l14 : K.lookup f14 = some ⟨oc14, od14, .func (PySem.W.fnOf "_law_downs" "_law_downs" (defArgs s_l_downs) (defBody s_l_downs) (defScope s_l_downs) .none kV14 dc14 pm14 an14 cd14 ct14), sl14⟩)
    (c14 : PySem.W.codeIn K cd14 "_law_downs" = true)
    (k14 : PySem.W.keepIn K (.ref f14) = true)
    (a15 : PySem.W.nsIn K mainGlobals "_law_classes" = some (some (.ref f15)))
    (l15 : K.lookup f15 = some ⟨oc15, od15, .func (PySem.W.fnOf "_law_classes" "_law_classes" (defArgs s_l_classes) (defBody s_l_classes) (defScope s_l_classes) .none kV15 dc15 pm15 an15 cd15 ct15), sl15⟩)
    (c15 : PySem.W.codeIn K cd15 "_law_classes" = true)
    (k15 : PySem.W.keepIn K (.ref f15) = true)
    (a16 : PySem.W.nsIn K mainGlobals "without" = some (some (.ref f16)))
    (l16 : K.lookup f16 = some ⟨oc16, od16, .func (PySem.W.fnOf "without" "without" (defArgs s_without) (defBody s_without) (defScope s_without) .none kV16 dc16 pm16 an16 cd16 ct16), sl16⟩)
    (c16 : PySem.W.codeIn K cd16 "without" = true)
    (k16 : PySem.W.keepIn K (.ref f16) = true)
    (a17 : PySem.W.nsIn K mainGlobals "seen" = some (some (.ref f17)))
    (l17 : K.lookup f17 = some ⟨oc17, od17, .func (PySem.W.fnOf "seen" "seen" (defArgs s_seen) (defBody s_seen) (defScope s_seen) .none kV17 dc17 pm17 an17 cd17 ct17), sl17⟩)
    (c17 : PySem.W.codeIn K cd17 "seen" = true)
    (k17 : PySem.W.keepIn K (.ref f17) = true)
    (a18 : PySem.W.nsIn K mainGlobals "why" = some (some (.ref f18)))
    (l18 : K.lookup f18 = some ⟨oc18, od18, .func (PySem.W.fnOf "why" "why" (defArgs s_why) (defBody s_why) (defScope s_why) .none kV18 dc18 pm18 an18 cd18 ct18), sl18⟩)
    (c18 : PySem.W.codeIn K cd18 "why" = true)
    (k18 : PySem.W.keepIn K (.ref f18) = true)
    (a19 : PySem.W.nsIn K mainGlobals "_law_refused" = some (some (.ref f19)))
    (l19 : K.lookup f19 = some ⟨oc19, od19, .func (PySem.W.fnOf "_law_refused" "_law_refused" (defArgs s_l_refused) (defBody s_l_refused) (defScope s_l_refused) .none kV19 dc19 pm19 an19 cd19 ct19), sl19⟩)
    (c19 : PySem.W.codeIn K cd19 "_law_refused" = true)
    (k19 : PySem.W.keepIn K (.ref f19) = true)
    (a20 : PySem.W.nsIn K mainGlobals "_law_whole" = some (some (.ref f20)))
    (l20 : K.lookup f20 = some ⟨oc20, od20, .func (PySem.W.fnOf "_law_whole" "_law_whole" (defArgs s_l_whole) (defBody s_l_whole) (defScope s_l_whole) .none kV20 dc20 pm20 an20 cd20 ct20), sl20⟩)
    (c20 : PySem.W.codeIn K cd20 "_law_whole" = true)
    (k20 : PySem.W.keepIn K (.ref f20) = true)
    (a21 : PySem.W.nsIn K mainGlobals "_law_row" = some (some (.ref f21)))
    (l21 : K.lookup f21 = some ⟨oc21, od21, .func (PySem.W.fnOf "_law_row" "_law_row" (defArgs s_l_row) (defBody s_l_row) (defScope s_l_row) .none kV21 dc21 pm21 an21 cd21 ct21), sl21⟩)
    (c21 : PySem.W.codeIn K cd21 "_law_row" = true)
    (k21 : PySem.W.keepIn K (.ref f21) = true)
    (a22 : PySem.W.nsIn K mainGlobals "law" = some (some (.ref f22)))
    (l22 : K.lookup f22 = some ⟨oc22, od22, .func (PySem.W.fnOf "law" "law" (defArgs s_law) (defBody s_law) (defScope s_law) .none kV22 dc22 pm22 an22 cd22 ct22), sl22⟩)
    (c22 : PySem.W.codeIn K cd22 "law" = true)
    (k22 : PySem.W.keepIn K (.ref f22) = true)
    (g_ValueError : PySem.W.nsIn K mainGlobals "ValueError" = some none)
    (g_all : PySem.W.nsIn K mainGlobals "all" = some none)
    (g_bool : PySem.W.nsIn K mainGlobals "bool" = some none)
    (g_divmod : PySem.W.nsIn K mainGlobals "divmod" = some none)
    (g_int : PySem.W.nsIn K mainGlobals "int" = some none)
    (g_isinstance : PySem.W.nsIn K mainGlobals "isinstance" = some none)
    (g_len : PySem.W.nsIn K mainGlobals "len" = some none)
    (g_list : PySem.W.nsIn K mainGlobals "list" = some none)
    (g_max : PySem.W.nsIn K mainGlobals "max" = some none)
    (g_min : PySem.W.nsIn K mainGlobals "min" = some none)
    (g_range : PySem.W.nsIn K mainGlobals "range" = some none)
    (g_set : PySem.W.nsIn K mainGlobals "set" = some none)
    (g_sorted : PySem.W.nsIn K mainGlobals "sorted" = some none)
    (g_tuple : PySem.W.nsIn K mainGlobals "tuple" = some none)
    : ∃ fd : FuncData, (∀ (s : Shared) (v : Value), BindsTo s fd ⟨[v], []⟩ [("_law_script", v)]) ∧ ∀ base : Heap, K.In base → base.Ns mainGlobals mg → FnOk l.prog w K mg base (L2.CX l.prog w) 6 fa fd ["_law_script"] (MP.spLaw K) := by
  have e := hfa.symm.trans (PySem.W.mg_of X G a22)
  cases e
  let ca : Nat → Addr := fun _ => fa
  have B : Gb K mg := ⟨PySem.W.mg_none_of X G g_ValueError, PySem.W.mg_none_of X G g_all, PySem.W.mg_none_of X G g_bool, PySem.W.mg_none_of X G g_divmod, PySem.W.mg_none_of X G g_int, PySem.W.mg_none_of X G g_isinstance, PySem.W.mg_none_of X G g_len, PySem.W.mg_none_of X G g_list, PySem.W.mg_none_of X G g_max, PySem.W.mg_none_of X G g_min, PySem.W.mg_none_of X G g_range, PySem.W.mg_none_of X G g_set, PySem.W.mg_none_of X G g_sorted, PySem.W.mg_none_of X G g_tuple⟩
  have F0 := fun_mk (st := s_l_cell) l0 c0 k0
  have b0 := F0.binds (ps := ["_law_script", "_law_k"]) fun _ _ _ _ _ _ us hl => match us, hl with | [_, _], _ => rfl
  have F1 := fun_mk (st := s_l_take) l1 c1 k1
  have b1 := F1.binds (ps := ["_law_cell_here", "_law_salt", "_law_many"]) fun _ _ _ _ _ _ us hl => match us, hl with | [_, _, _], _ => rfl
  have F2 := fun_mk (st := s_l_frame) l2 c2 k2
  have b2 := F2.binds (ps := ["_law_script", "_law_most"]) fun _ _ _ _ _ _ us hl => match us, hl with | [_, _], _ => rfl
  have F3 := fun_mk (st := s_l_turned) l3 c3 k3
  have b3 := F3.binds (ps := ["_law_script", "_law_frame_here", "_law_reading_here"]) fun _ _ _ _ _ _ us hl => match us, hl with | [_, _, _], _ => rfl
  have F4 := fun_mk (st := s_keys_in) l4 c4 k4
  have b4 := F4.binds (ps := ["frame", "reading"]) fun _ _ _ _ _ _ us hl => match us, hl with | [_, _], _ => rfl
  have F5 := fun_mk (st := s_hung) l5 c5 k5
  have b5 := F5.binds (ps := ["frame", "keys"]) fun _ _ _ _ _ _ us hl => match us, hl with | [_, _], _ => rfl
  have F6 := fun_mk (st := s_reads) l6 c6 k6
  have b6 := F6.binds (ps := ["frame", "keys"]) fun _ _ _ _ _ _ us hl => match us, hl with | [_, _], _ => rfl
  have F7 := fun_mk (st := s_checked_keys) l7 c7 k7
  have b7 := F7.binds (ps := ["frame", "reading"]) fun _ _ _ _ _ _ us hl => match us, hl with | [_, _], _ => rfl
  have F8 := fun_mk (st := s_pieces) l8 c8 k8
  have b8 := F8.binds (ps := ["frame", "reading"]) fun _ _ _ _ _ _ us hl => match us, hl with | [_, _], _ => rfl
  have F9 := fun_mk (st := s_l_wires) l9 c9 k9
  have b9 := F9.binds (ps := ["_law_frame_here", "_law_keys"]) fun _ _ _ _ _ _ us hl => match us, hl with | [_, _], _ => rfl
  have F10 := fun_mk (st := s_l_reading) l10 c10 k10
  have b10 := F10.binds (ps := ["_law_frame_here", "_law_keys"]) fun _ _ _ _ _ _ us hl => match us, hl with | [_, _], _ => rfl
  have F11 := fun_mk (st := s_l_sets) l11 c11 k11
  have b11 := F11.binds (ps := ["_law_many"]) fun _ _ _ _ _ _ us hl => match us, hl with | [_], _ => rfl
  have F12 := fun_mk (st := s_l_can) l12 c12 k12
  have b12 := F12.binds (ps := ["_law_frame_here", "_law_reading_here"]) fun _ _ _ _ _ _ us hl => match us, hl with | [_, _], _ => rfl
  have F13 := fun_mk (st := s_l_pieces) l13 c13 k13
  have b13 := F13.binds (ps := ["_law_frame_here", "_law_reading_here"]) fun _ _ _ _ _ _ us hl => match us, hl with | [_, _], _ => rfl
  have F14 := fun_mk (st := s_l_downs) l14 c14 k14
  have b14 := F14.binds (ps := ["_law_cell_here", "_law_many"]) fun _ _ _ _ _ _ us hl => match us, hl with | [_, _], _ => rfl
  have F15 := fun_mk (st := s_l_classes) l15 c15 k15
  have b15 := F15.binds (ps := ["_law_e"]) fun _ _ _ _ _ _ us hl => match us, hl with | [_], _ => rfl
  have F16 := fun_mk (st := s_without) l16 c16 k16
  have b16 := F16.binds (ps := ["keys", "key"]) fun _ _ _ _ _ _ us hl => match us, hl with | [_, _], _ => rfl
  have F17 := fun_mk (st := s_seen) l17 c17 k17
  have b17 := F17.binds (ps := ["frame", "reading"]) fun _ _ _ _ _ _ us hl => match us, hl with | [_, _], _ => rfl
  have F18 := fun_mk (st := s_why) l18 c18 k18
  have b18 := F18.binds (ps := ["frame", "reading", "key"]) fun _ _ _ _ _ _ us hl => match us, hl with | [_, _, _], _ => rfl
  have F19 := fun_mk (st := s_l_refused) l19 c19 k19
  have b19 := F19.binds (ps := ["_law_frame_here", "_law_reading_here", "_law_way", "_law_key"]) fun _ _ _ _ _ _ us hl => match us, hl with | [_, _, _, _], _ => rfl
  have F20 := fun_mk (st := s_l_whole) l20 c20 k20
  have b20 := F20.binds (ps := ["_law_number"]) fun _ _ _ _ _ _ us hl => match us, hl with | [_], _ => rfl
  have F21 := fun_mk (st := s_l_row) l21 c21 k21
  have b21 := F21.binds (ps := ["_law_found"]) fun _ _ _ _ _ _ us hl => match us, hl with | [_], _ => rfl
  have F22 := fun_mk (st := s_law) l22 c22 k22
  refine ⟨PySem.W.fnOf "law" "law" (defArgs s_law) (defBody s_law) (defScope s_law) .none kV22 dc22 pm22 an22 cd22 ct22, fun s v => .of_eq rfl, fun base _ _ => ?_⟩
  have o_NoReading : XcC K C_NoReading := ⟨xic_NoReading, xga_NoReading, xgg_NoReading, xsb_NoReading, xac_NoReading, xgn, xtk, xmr_NoReading, xhd_NoReading⟩
  have E : Xb l.prog w K mg base := ⟨⟨C_NoReading, aC_NoReading, PySem.W.mg_of X G aC_NoReading, xex_NoReading, xkc_NoReading, xsb_NoReading, xty_NoReading⟩, ⟨C_BedError, PySem.W.mg_of X G aC_BedError, (catch_cons aC_NoReading (PySem.W.exm_ref tsb_BedError thd_BedError tty_BedError tsu_NoReading_BedError) catch_nil)⟩, ⟨C_NoChord, PySem.W.mg_of X G aC_NoChord, (isx_cons aC_NoReading ki_NoReading_NoChord o_NoReading isx_nil)⟩, ⟨C_NoBed, PySem.W.mg_of X G aC_NoBed, (isx_cons aC_NoReading ki_NoReading_NoBed o_NoReading isx_nil)⟩, ⟨C_NoReading, PySem.W.mg_of X G aC_NoReading, (isx_cons aC_NoReading ki_NoReading_NoReading o_NoReading isx_nil)⟩, ⟨C_NoFrame, PySem.W.mg_of X G aC_NoFrame, (isx_cons aC_NoReading ki_NoReading_NoFrame o_NoReading isx_nil)⟩, ⟨C_NoBook, PySem.W.mg_of X G aC_NoBook, (isx_cons aC_NoReading ki_NoReading_NoBook o_NoReading isx_nil)⟩, ⟨C_NoKeys, PySem.W.mg_of X G aC_NoKeys, (isx_cons aC_NoReading ki_NoReading_NoKeys o_NoReading isx_nil)⟩, ⟨C_TooMany, PySem.W.mg_of X G aC_TooMany, (isx_cons aC_NoReading ki_NoReading_TooMany o_NoReading isx_nil)⟩, ⟨C_NoText, PySem.W.mg_of X G aC_NoText, (isx_cons aC_NoReading ki_NoReading_NoText o_NoReading isx_nil)⟩, ⟨C_NoRow, PySem.W.mg_of X G aC_NoRow, (isx_cons aC_NoReading ki_NoReading_NoRow o_NoReading isx_nil)⟩, ⟨C_NoWord, PySem.W.mg_of X G aC_NoWord, (isx_cons aC_NoReading ki_NoReading_NoWord o_NoReading isx_nil)⟩, (isx_cons aC_NoReading ki_NoReading_ValueError o_NoReading isx_nil)⟩
  have r0 : ∀ al, Callee l.prog w K mg base (tab ca) "_law_cell" al 1 2 sem_l_cell := fun al => ⟨_, _, _, ok_l_cell al F0 B, PySem.W.mg_of X G a0, k0, b0⟩
  have r1 : ∀ al, Callee l.prog w K mg base (tab ca) "_law_take" al 1 3 sem_l_take := fun al => ⟨_, _, _, ok_l_take al F1 B, PySem.W.mg_of X G a1, k1, b1⟩
  have r2 : ∀ al, Callee l.prog w K mg base (tab ca) "_law_frame" al 2 2 sem_l_frame := fun al => ⟨_, _, _, ok_l_frame al F2 B r0 r1, PySem.W.mg_of X G a2, k2, b2⟩
  have r3 : ∀ al, Callee l.prog w K mg base (tab ca) "_law_turned" al 2 3 sem_l_turned := fun al => ⟨_, _, _, ok_l_turned al F3 B r0 r1, PySem.W.mg_of X G a3, k3, b3⟩
  have r4 : ∀ al, Callee l.prog w K mg base (tab ca) "keys_in" al 1 2 sem_keys_in := fun al => ⟨_, _, _, ok_keys_in al F4 B, PySem.W.mg_of X G a4, k4, b4⟩
  have r5 : ∀ al, Callee l.prog w K mg base (tab ca) "hung" al 1 2 sem_hung := fun al => ⟨_, _, _, ok_hung al F5 B, PySem.W.mg_of X G a5, k5, b5⟩
  have r6 : ∀ al, Callee l.prog w K mg base (tab ca) "reads" al 2 2 sem_reads := fun al => ⟨_, _, _, ok_reads al F6 B r5, PySem.W.mg_of X G a6, k6, b6⟩
  have r7 : ∀ al, Callee l.prog w K mg base (tab ca) "checked_keys" al 3 2 sem_checked_keys := fun al => ⟨_, _, _, ok_checked_keys al F7 E B r4 r6, PySem.W.mg_of X G a7, k7, b7⟩
  have r8 : ∀ al, Callee l.prog w K mg base (tab ca) "pieces" al 4 2 sem_pieces := fun al => ⟨_, _, _, ok_pieces al F8 B r7, PySem.W.mg_of X G a8, k8, b8⟩
  have r9 : ∀ al, Callee l.prog w K mg base (tab ca) "_law_wires" al 1 2 sem_l_wires := fun al => ⟨_, _, _, ok_l_wires al F9 B, PySem.W.mg_of X G a9, k9, b9⟩
  have r10 : ∀ al, Callee l.prog w K mg base (tab ca) "_law_reading" al 2 2 sem_l_reading := fun al => ⟨_, _, _, ok_l_reading al F10 B r9, PySem.W.mg_of X G a10, k10, b10⟩
  have r11 : ∀ al, Callee l.prog w K mg base (tab ca) "_law_sets" al 1 1 sem_l_sets := fun al => ⟨_, _, _, ok_l_sets al F11 B, PySem.W.mg_of X G a11, k11, b11⟩
  have r12 : ∀ al, Callee l.prog w K mg base (tab ca) "_law_can" al 3 2 sem_l_can := fun al => ⟨_, _, _, ok_l_can al F12 B r11 r10, PySem.W.mg_of X G a12, k12, b12⟩
  have r13 : ∀ al, Callee l.prog w K mg base (tab ca) "_law_pieces" al 1 2 sem_l_pieces := fun al => ⟨_, _, _, ok_l_pieces al F13 B, PySem.W.mg_of X G a13, k13, b13⟩
  have r14 : ∀ al, Callee l.prog w K mg base (tab ca) "_law_downs" al 2 2 sem_l_downs := fun al => ⟨_, _, _, ok_l_downs al F14 B r1, PySem.W.mg_of X G a14, k14, b14⟩
  have r15 : ∀ al, Callee l.prog w K mg base (tab ca) "_law_classes" al 1 1 sem_l_classes := fun al => ⟨_, _, _, ok_l_classes al F15 E B, PySem.W.mg_of X G a15, k15, b15⟩
  have r16 : ∀ al, Callee l.prog w K mg base (tab ca) "without" al 1 2 sem_without := fun al => ⟨_, _, _, ok_without al F16 B, PySem.W.mg_of X G a16, k16, b16⟩
  have r17 : ∀ al, Callee l.prog w K mg base (tab ca) "seen" al 4 2 sem_seen := fun al => ⟨_, _, _, ok_seen al F17 B r7 r6 r16, PySem.W.mg_of X G a17, k17, b17⟩
  have r18 : ∀ al, Callee l.prog w K mg base (tab ca) "why" al 4 3 sem_why := fun al => ⟨_, _, _, ok_why al F18 B r7 r16 r6 r5, PySem.W.mg_of X G a18, k18, b18⟩
  have r19 : ∀ al, Callee l.prog w K mg base (tab ca) "_law_refused" al 5 4 sem_l_refused := fun al => ⟨_, _, _, ok_l_refused al F19 E B r8 r17 r18 r15, PySem.W.mg_of X G a19, k19, b19⟩
  have r20 : ∀ al, Callee l.prog w K mg base (tab ca) "_law_whole" al 1 1 sem_l_whole := fun al => ⟨_, _, _, ok_l_whole al F20 B, PySem.W.mg_of X G a20, k20, b20⟩
  have r21 : ∀ al, Callee l.prog w K mg base (tab ca) "_law_row" al 2 1 sem_l_row := fun al => ⟨_, _, _, ok_l_row al F21 B r20, PySem.W.mg_of X G a21, k21, b21⟩
  exact FnOk.imp (ok_law true F22 B r2 r1 r0 r3 r10 r14 r19 r12 r8 r13 r21) (law_imp m_law)
end L_k03

open PySem PySem.W PyProof.Rows in
set_option maxRecDepth 100000 in
set_option maxHeartbeats 0 in
theorem PySem.Challenge.cw_chordbed_k03_readings_that_can_be_holds : PySem.Challenge.rw_chordbed_k03_readings_that_can_be.Holds := by
  w_on; o_law; k_head; (case hw => w_witness2)
  k_fill
  refine MP.law_end (l := PySem.Challenge.rw_chordbed_k03_readings_that_can_be) (k := 6) (x := "_law_script") rfl rfl ⟨rfl, by decide, by decide⟩ (fun w h Y => PySem.W.kIn_of Y) ?F
  case F =>
    intro w mg fa h KX G hmg
    refine' L_k03.all_mk KX G hmg ?aC_NoReading ?aC_BedError ?aC_NoChord ?aC_NoBed ?aC_NoFrame ?aC_NoBook ?aC_NoKeys ?aC_TooMany ?aC_NoText ?aC_NoRow ?aC_NoWord ?tsb_BedError ?thd_BedError ?tty_BedError ?tsu_NoReading_BedError ?ki_NoReading_NoChord ?ki_NoReading_NoBed ?ki_NoReading_NoReading ?ki_NoReading_NoFrame ?ki_NoReading_NoBook ?ki_NoReading_NoKeys ?ki_NoReading_TooMany ?ki_NoReading_NoText ?ki_NoReading_NoRow ?ki_NoReading_NoWord ?ki_NoReading_ValueError ?xic_NoReading ?xga_NoReading ?xgg_NoReading ?xsb_NoReading ?xac_NoReading ?xmr_NoReading ?xhd_NoReading ?xty_NoReading ?xkc_NoReading ?xex_NoReading ?xgn ?xtk ?a0 ?l0 ?c0 ?k0 ?a1 ?l1 ?c1 ?k1 ?a2 ?l2 ?c2 ?k2 ?a3 ?l3 ?c3 ?k3 ?a4 ?l4 ?c4 ?k4 ?a5 ?l5 ?c5 ?k5 ?a6 ?l6 ?c6 ?k6 ?a7 ?l7 ?c7 ?k7 ?a8 ?l8 ?c8 ?k8 ?a9 ?l9 ?c9 ?k9 ?a10 ?l10 ?c10 ?k10 ?a11 ?l11 ?c11 ?k11 ?a12 ?l12 ?c12 ?k12 ?a13 ?l13 ?c13 ?k13 ?a14 ?l14 ?c14 ?k14 ?a15 ?l15 ?c15 ?k15 ?a16 ?l16 ?c16 ?k16 ?a17 ?l17 ?c17 ?k17 ?a18 ?l18 ?c18 ?k18 ?a19 ?l19 ?c19 ?k19 ?a20 ?l20 ?c20 ?k20 ?a21 ?l21 ?c21 ?k21 ?a22 ?l22 ?c22 ?k22 ?g_ValueError ?g_all ?g_bool ?g_divmod ?g_int ?g_isinstance ?g_len ?g_list ?g_max ?g_min ?g_range ?g_set ?g_sorted ?g_tuple
    (case aC_NoReading => k_is)
    (case aC_BedError => k_is)
    (case aC_NoChord => k_is)
    (case aC_NoBed => k_is)
    (case aC_NoFrame => k_is)
    (case aC_NoBook => k_is)
    (case aC_NoKeys => k_is)
    (case aC_TooMany => k_is)
    (case aC_NoText => k_is)
    (case aC_NoRow => k_is)
    (case aC_NoWord => k_is)
    (case tsb_BedError => k_is)
    (case thd_BedError => k_is)
    (case tty_BedError => k_is)
    (case tsu_NoReading_BedError => k_is)
    (case ki_NoReading_NoChord => kit_is)
    (case ki_NoReading_NoBed => kit_is)
    (case ki_NoReading_NoReading => kit_is)
    (case ki_NoReading_NoFrame => kit_is)
    (case ki_NoReading_NoBook => kit_is)
    (case ki_NoReading_NoKeys => kit_is)
    (case ki_NoReading_TooMany => kit_is)
    (case ki_NoReading_NoText => kit_is)
    (case ki_NoReading_NoRow => kit_is)
    (case ki_NoReading_NoWord => kit_is)
    (case ki_NoReading_ValueError => kit_is)
    (case xic_NoReading => k_is)
    (case xga_NoReading => k_is)
    (case xgg_NoReading => k_is)
    (case xsb_NoReading => k_is)
    (case xac_NoReading => k_is)
    (case xmr_NoReading => k_is)
    (case xhd_NoReading => k_is)
    (case xty_NoReading => k_is)
    (case xkc_NoReading => k_is)
    (case xex_NoReading => k_exc)
    (case xgn => k_is)
    (case xtk => k_is)
    (case a0 => k_is)
    (case l0 => k_is)
    (case c0 => k_is)
    (case k0 => k_is)
    (case a1 => k_is)
    (case l1 => k_is)
    (case c1 => k_is)
    (case k1 => k_is)
    (case a2 => k_is)
    (case l2 => k_is)
    (case c2 => k_is)
    (case k2 => k_is)
    (case a3 => k_is)
    (case l3 => k_is)
    (case c3 => k_is)
    (case k3 => k_is)
    (case a4 => k_is)
    (case l4 => k_is)
    (case c4 => k_is)
    (case k4 => k_is)
    (case a5 => k_is)
    (case l5 => k_is)
    (case c5 => k_is)
    (case k5 => k_is)
    (case a6 => k_is)
    (case l6 => k_is)
    (case c6 => k_is)
    (case k6 => k_is)
    (case a7 => k_is)
    (case l7 => k_is)
    (case c7 => k_is)
    (case k7 => k_is)
    (case a8 => k_is)
    (case l8 => k_is)
    (case c8 => k_is)
    (case k8 => k_is)
    (case a9 => k_is)
    (case l9 => k_is)
    (case c9 => k_is)
    (case k9 => k_is)
    (case a10 => k_is)
    (case l10 => k_is)
    (case c10 => k_is)
    (case k10 => k_is)
    (case a11 => k_is)
    (case l11 => k_is)
    (case c11 => k_is)
    (case k11 => k_is)
    (case a12 => k_is)
    (case l12 => k_is)
    (case c12 => k_is)
    (case k12 => k_is)
    (case a13 => k_is)
    (case l13 => k_is)
    (case c13 => k_is)
    (case k13 => k_is)
    (case a14 => k_is)
    (case l14 => k_is)
    (case c14 => k_is)
    (case k14 => k_is)
    (case a15 => k_is)
    (case l15 => k_is)
    (case c15 => k_is)
    (case k15 => k_is)
    (case a16 => k_is)
    (case l16 => k_is)
    (case c16 => k_is)
    (case k16 => k_is)
    (case a17 => k_is)
    (case l17 => k_is)
    (case c17 => k_is)
    (case k17 => k_is)
    (case a18 => k_is)
    (case l18 => k_is)
    (case c18 => k_is)
    (case k18 => k_is)
    (case a19 => k_is)
    (case l19 => k_is)
    (case c19 => k_is)
    (case k19 => k_is)
    (case a20 => k_is)
    (case l20 => k_is)
    (case c20 => k_is)
    (case k20 => k_is)
    (case a21 => k_is)
    (case l21 => k_is)
    (case c21 => k_is)
    (case k21 => k_is)
    (case a22 => k_is)
    (case l22 => k_is)
    (case c22 => k_is)
    (case k22 => k_is)
    (case g_ValueError => k_is)
    (case g_all => k_is)
    (case g_bool => k_is)
    (case g_divmod => k_is)
    (case g_int => k_is)
    (case g_isinstance => k_is)
    (case g_len => k_is)
    (case g_list => k_is)
    (case g_max => k_is)
    (case g_min => k_is)
    (case g_range => k_is)
    (case g_set => k_is)
    (case g_sorted => k_is)
    (case g_tuple => k_is)
