import PyProof.Rows.All
import Wide.All
import OpenK.AllK
import Wide.FinOn
import HandS.ForMost
import HandS.Conv
import HandS.Wide
import HandS.TupAny
import HandS.Deep
import HandS.TupLe
import HandS.ForExc
import HandS.IsInst
import HandS.SortInts
import HandS.TupMul
import HandS.WideBits
import HandS.Zip
import HandS.Text
import HandS.ExcInit
import KE.KExcIs
import KE.KIsAll
import HandS.SetFor
import HandS.ExcIs
import PySem.Challenge.RW_chordbed_k01_frames_made
set_option Elab.async false
set_option maxRecDepth 100000
set_option linter.all false
set_option maxHeartbeats 1000000
/-! MP 1: values by content, states, what a state means on the abstract heap. -/
namespace MP
open PySem PySem.Spec PyProof.Rows L2

/-- a value by its content -/
inductive D where
  | none | bool (b : Bool) | int (i : Int) | str (x : Str) | list (xs : List D) | lk (xs : List D) | tup (xs : List D) | dic (kvs : List (Key × D)) | obj (n : Nat) | xv (c : Str) (fs : List (Str × D))
  deriving Inhabited

mutual
def D.py : D → PyData
  | .none => .none
  | .bool b => .bool b
  | .int i => .int i
  | .str x => .str x
  | .list xs => .list (pys xs)
  | .lk xs => .list (pys xs)
  | .tup xs => .tuple (pys xs)
  | .dic _ => .dict []
  | .obj _ => .dict []
  | .xv _ _ => .dict []
def pys : List D → List PyData
  | [] => []
  | x :: xs => x.py :: pys xs
end
theorem pys_map : ∀ xs : List D, pys xs = xs.map D.py
  | [] => by simp [pys]
  | x :: xs => by simp [pys, pys_map xs]

/-- at a: a caught exception of the class at C, its dict (none | at d) -/
def exv (a C : Addr) (d : Option Addr) : HO := .ext fun h => ∃ (oe : Obj) (vs : Array Value), h.get? a = some oe ∧ Zc (.ref C) d oe ∧ oe.data = .fields vs
/-- the class that a name of the top stands for -/
def NmC (K : PySem.W.Frag) (c : Str) (C : Addr) : Prop := PySem.W.nsIn K mainGlobals c = some (some (.ref C))
theorem NmC.eq {K : PySem.W.Frag} {c : Str} {C C' : Addr} (h : NmC K c C) (h' : NmC K c C') : C = C' := by
  have := h.symm.trans h'
  cases this
  rfl
/-! what stands at an address, by content -/
mutual
inductive DR (K : PySem.W.Frag) (m : List Addr) (H : Hp) : V → D → Prop
  | non : DR K m H .non .none
  | bl (b : Bool) : DR K m H (.bl b) (.bool b)
  | int (i : Int) : DR K m H (.int i) (.int i)
  | str (x : Str) : DR K m H (.str x) (.str x)
  | list {a : Addr} {xs : List V} {ds : List D} : H a = some (.lst xs) → DRs K m H xs ds → DR K m H (.ref a) (.list ds)
  | lk {a : Addr} {xs : List V} {ds : List D} : SqL K H a xs → DRs K m H xs ds → DR K m H (.ref a) (.lk ds)
  | tup {a : Addr} {xs : List V} {ds : List D} : SqT K H a xs → DRs K m H xs ds → DR K m H (.ref a) (.tup ds)
  | dic {a : Addr} {ks : List (Key × V)} {kvs : List (Key × D)} : H a = some (.dK ks) → DRk K m H ks kvs → DR K m H (.ref a) (.dic kvs)
  | obj {a : Addr} {n : Nat} : m[n]? = some a → DR K m H (.ref a) (.obj n)
  | xn {a C : Addr} {c : Str} : NmC K c C → H a = some (exv a C none) → DR K m H (.ref a) (.xv c [])
  | xf {a C dd : Addr} {c : Str} {vs : List (Str × V)} {fs : List (Str × D)} : NmC K c C → H a = some (exv a C (some dd)) → H dd = some (.xd vs) → DRf K m H vs fs → DR K m H (.ref a) (.xv c fs)
inductive DRs (K : PySem.W.Frag) (m : List Addr) (H : Hp) : List V → List D → Prop
  | nil : DRs K m H [] []
  | cons {v : V} {vs : List V} {d : D} {ds : List D} : DR K m H v d → DRs K m H vs ds → DRs K m H (v :: vs) (d :: ds)
inductive DRk (K : PySem.W.Frag) (m : List Addr) (H : Hp) : List (Key × V) → List (Key × D) → Prop
  | nil : DRk K m H [] []
  | cons {k : Key} {v : V} {vs : List (Key × V)} {d : D} {ds : List (Key × D)} : DR K m H v d → DRk K m H vs ds → DRk K m H ((k, v) :: vs) ((k, d) :: ds)
inductive DRf (K : PySem.W.Frag) (m : List Addr) (H : Hp) : List (Str × V) → List (Str × D) → Prop
  | nil : DRf K m H [] []
  | cons {k : Str} {v : V} {vs : List (Str × V)} {d : D} {ds : List (Str × D)} : DR K m H v d → DRf K m H vs ds → DRf K m H ((k, v) :: vs) ((k, d) :: ds)
end

theorem Same.seqT {K : PySem.W.Frag} {H H' : Hp} {a : Addr} {xs : List V} (e : Same H H') (h : SqT K H a xs) : SqT K H' a xs := by
  rcases h with (h | ⟨o, h⟩) | h
  · exact .inl (.inl (e _ _ h))
  · exact .inl (.inr ⟨o, e _ _ h⟩)
  · exact .inr h

def MLe (m m' : List Addr) : Prop := ∀ (n : Nat) (a : Addr), m[n]? = some a → m'[n]? = some a
theorem MLe.refl (m : List Addr) : MLe m m := fun _ _ h => h
theorem MLe.trans {m1 m2 m3 : List Addr} (a : MLe m1 m2) (b : MLe m2 m3) : MLe m1 m3 := fun n x h => b n x (a n x h)
theorem MLe.snoc (m : List Addr) (x : Addr) : MLe m (m ++ [x]) := fun n a h => by
  have hl : n < m.length := (List.getElem?_eq_some_iff.mp h).1
  rw [List.getElem?_append_left hl]
  exact h

section
variable {K : PySem.W.Frag} {m m' : List Addr} {H H' : Hp}
mutual
theorem DR.mono (hm : MLe m m') (hs : Same H H') : ∀ (d : D) (v : V), DR K m H v d → DR K m' H' v d
  | .none, _, h => by cases h; exact .non
  | .bool b, _, h => by cases h; exact .bl b
  | .int i, _, h => by cases h; exact .int i
  | .str x, _, h => by cases h; exact .str x
  | .list ds, _, h => by
    cases h with
    | list h1 h2 => exact .list (hs _ _ h1) (DRs.mono hm hs ds _ h2)
  | .lk ds, _, h => by
    cases h with
    | lk h1 h2 => exact .lk (hs.seq h1) (DRs.mono hm hs ds _ h2)
  | .tup ds, _, h => by
    cases h with
    | tup h1 h2 => exact .tup (Same.seqT hs h1) (DRs.mono hm hs ds _ h2)
  | .dic kvs, _, h => by
    cases h with
    | dic h1 h2 => exact .dic (hs _ _ h1) (DRk.mono hm hs kvs _ h2)
  | .obj n, _, h => by
    cases h with
    | obj h1 => exact .obj (hm _ _ h1)
  | .xv c fs, _, h => by
    cases h with
    | xn h1 h2 => exact .xn h1 (hs _ _ h2)
    | xf h1 h2 h3 h4 => exact .xf h1 (hs _ _ h2) (hs _ _ h3) (DRf.mono hm hs fs _ h4)
theorem DRs.mono (hm : MLe m m') (hs : Same H H') : ∀ (ds : List D) (vs : List V), DRs K m H vs ds → DRs K m' H' vs ds
  | [], _, h => by cases h; exact .nil
  | d :: ds, _, h => by
    cases h with
    | cons h1 h2 => exact .cons (DR.mono hm hs d _ h1) (DRs.mono hm hs ds _ h2)
theorem DRk.mono (hm : MLe m m') (hs : Same H H') : ∀ (ds : List (Key × D)) (vs : List (Key × V)), DRk K m H vs ds → DRk K m' H' vs ds
  | [], _, h => by cases h; exact .nil
  | (k, d) :: ds, _, h => by
    cases h with
    | cons h1 h2 => exact .cons (DR.mono hm hs d _ h1) (DRk.mono hm hs ds _ h2)
theorem DRf.mono (hm : MLe m m') (hs : Same H H') : ∀ (ds : List (Str × D)) (vs : List (Str × V)), DRf K m H vs ds → DRf K m' H' vs ds
  | [], _, h => by cases h; exact .nil
  | (k, d) :: ds, _, h => by
    cases h with
    | cons h1 h2 => exact .cons (DR.mono hm hs d _ h1) (DRf.mono hm hs ds _ h2)
end
theorem DR.up {v : V} {d : D} (h : DR K m H v d) (hs : Same H H') : DR K m H' v d := DR.mono (MLe.refl m) hs d v h
theorem DRs.up {v : List V} {d : List D} (h : DRs K m H v d) (hs : Same H H') : DRs K m H' v d := DRs.mono (MLe.refl m) hs d v h
theorem DRk.up {v : List (Key × V)} {d : List (Key × D)} (h : DRk K m H v d) (hs : Same H H') : DRk K m H' v d := DRk.mono (MLe.refl m) hs d v h
theorem DRs.length : ∀ {vs : List V} {ds : List D}, DRs K m H vs ds → vs.length = ds.length
  | _, _, .nil => rfl
  | _, _, .cons _ t => by simp [DRs.length t]
theorem DRs.get : ∀ {vs : List V} {ds : List D} {i : Nat} {d : D}, DRs K m H vs ds → ds[i]? = some d → ∃ v, vs[i]? = some v ∧ DR K m H v d
  | _, _, _, _, .nil, e => by simp at e
  | _, _, 0, _, .cons r _, e => by simp at e; subst e; exact ⟨_, rfl, r⟩
  | _, _, i + 1, d, .cons _ t, e => by
    obtain ⟨v, h1, h2⟩ := DRs.get (i := i) (d := d) t (by simpa using e)
    exact ⟨v, by simpa using h1, h2⟩
theorem DRs.get' {vs : List V} {ds : List D} {i : Nat} {v : V} (h : DRs K m H vs ds) (e : vs[i]? = some v) : ∃ d, ds[i]? = some d ∧ DR K m H v d := by
  have hl := h.length
  have hi := (List.getElem?_eq_some_iff.mp e).1
  have hd : ds[i]? = some (ds[i]'(by omega)) := by simp
  obtain ⟨v', h1, h2⟩ := h.get hd
  rw [e] at h1
  cases h1
  exact ⟨_, hd, h2⟩
theorem DRs.append : ∀ {xs ys : List V} {us ws : List D}, DRs K m H xs us → DRs K m H ys ws → DRs K m H (xs ++ ys) (us ++ ws)
  | _, _, _, _, .nil, s => s
  | _, _, _, _, .cons r t, s => .cons r (DRs.append t s)
theorem DRs.set {x : V} {u : D} (r : DR K m H x u) : ∀ {xs : List V} {us : List D} (i : Nat), DRs K m H xs us → DRs K m H (xs.set i x) (us.set i u)
  | _, _, _, .nil => .nil
  | _, _, 0, .cons _ t => .cons r t
  | _, _, i + 1, .cons q t => .cons q (DRs.set r i t)
theorem DRs.take : ∀ {xs : List V} {us : List D} (n : Nat), DRs K m H xs us → DRs K m H (xs.take n) (us.take n)
  | _, _, 0, _ => .nil
  | _, _, _ + 1, .nil => .nil
  | _, _, n + 1, .cons r t => .cons r (DRs.take n t)
theorem DRs.drop : ∀ {xs : List V} {us : List D} (n : Nat), DRs K m H xs us → DRs K m H (xs.drop n) (us.drop n)
  | _, _, 0, r => r
  | _, _, _ + 1, .nil => .nil
  | _, _, n + 1, .cons _ t => DRs.drop n t
theorem DRs.eraseIdx : ∀ {xs : List V} {us : List D} (i : Nat), DRs K m H xs us → DRs K m H (xs.eraseIdx i) (us.eraseIdx i)
  | _, _, _, .nil => .nil
  | _, _, 0, .cons _ t => t
  | _, _, i + 1, .cons q t => .cons q (DRs.eraseIdx i t)
theorem DRs.reverse {xs : List V} {us : List D} (h : DRs K m H xs us) : DRs K m H xs.reverse us.reverse := by
  induction us generalizing xs with
  | nil => cases h; exact .nil
  | cons d ds ih =>
    cases h with
    | cons h1 h2 =>
      rw [List.reverse_cons, List.reverse_cons]
      exact (ih h2).append (.cons h1 .nil)
theorem DRs.ints : ∀ {ns : List Int}, DRs K m H (ns.map V.int) (ns.map D.int)
  | [] => .nil
  | _ :: _ => .cons (.int _) DRs.ints
theorem DRs.ints_of : ∀ {vs : List V} {ns : List Int}, DRs K m H vs (ns.map D.int) → vs = ns.map V.int
  | _, [], h => by cases h; rfl
  | _, n :: ns, h => by
    cases h with
    | cons h1 h2 =>
      cases h1
      rw [DRs.ints_of h2]
      rfl
end

/-! slots, objects, states -/
/-- what a name holds: nothing, a value that nobody changes, a list or dict of its own -/
inductive Slot where
  | un | v (d : D) | own (d : D)
structure Ob where
  cls : Nat
  fs : List (Nat × Slot)
structure Sta where
  env : List Slot
  st : List Ob
/-- the names of classes and attributes -/
structure Tab where
  ca : Nat → Addr
  nm : Nat → Str
  inj : ∀ i j, nm i = nm j → i = j

/-- an object of its own stands by content -/
inductive ObD (K : PySem.W.Frag) (m : List Addr) (M : Hp) : HO → D → Prop
  | lst {xs : List V} {ds : List D} : DRs K m M xs ds → ObD K m M (.lst xs) (.list ds)
  | dic {xs : List (Key × V)} {ds : List (Key × D)} : DRk K m M xs ds → ObD K m M (.dK xs) (.dic ds)
theorem ObD.mono {K : PySem.W.Frag} {m m' : List Addr} {M M' : Hp} {o : HO} {d : D} (h : ObD K m M o d) (hm : MLe m m') (hs : Same M M') : ObD K m' M' o d := by
  cases h with
  | lst h => exact .lst (DRs.mono hm hs _ _ h)
  | dic h => exact .dic (DRk.mono hm hs _ _ h)
theorem ObD.dr {K : PySem.W.Frag} {m : List Addr} {M H : Hp} {o : HO} {d : D} {a : Addr} (h : ObD K m M o d) (hs : Same M H) (e : H a = some o) : DR K m H (.ref a) d := by
  cases h with
  | lst h => exact .list e (h.up hs)
  | dic h => exact .dic e (h.up hs)

def SlotR (K : PySem.W.Frag) (m : List Addr) (M H : Hp) : Slot → Option V → List Addr → Prop
  | .un, _, fp => fp = []
  | .v d, x, fp => fp = [] ∧ ∃ y, x = some y ∧ DR K m M y d
  | .own d, x, fp => ∃ a o, fp = [a] ∧ x = some (.ref a) ∧ H a = some o ∧ ObD K m M o d
def SlotsR (K : PySem.W.Frag) (m : List Addr) (M H : Hp) : List Slot → List (Option V) → List Addr → Prop
  | [], [], fp => fp = []
  | s :: ss, x :: xs, fp => ∃ f1 f2, fp = f1 ++ f2 ∧ SlotR K m M H s x f1 ∧ SlotsR K m M H ss xs f2
  | _, _, _ => False
def FsR (K : PySem.W.Frag) (nm : Nat → Str) (m : List Addr) (M H : Hp) : List (Nat × Slot) → List (Str × V) → List Addr → Prop
  | [], [], fp => fp = []
  | (i, s) :: ss, (x, v) :: xs, fp => ∃ f1 f2, fp = f1 ++ f2 ∧ x = nm i ∧ SlotR K m M H s (some v) f1 ∧ FsR K nm m M H ss xs f2
  | _, _, _ => False
def ObR (K : PySem.W.Frag) (T : Tab) (m : List Addr) (M H : Hp) (ob : Ob) (a : Addr) (fp : List Addr) : Prop :=
  ∃ dx fs f, fp = a :: f ∧ H a = some (.ins (T.ca ob.cls) dx fs) ∧ FsR K T.nm m M H ob.fs fs f
def StoreR (K : PySem.W.Frag) (T : Tab) (m : List Addr) (M H : Hp) : List Ob → List Addr → List Addr → Prop
  | [], _, fp => fp = []
  | ob :: obs, a :: as, fp => ∃ f1 f2, fp = f1 ++ f2 ∧ ObR K T m M H ob a f1 ∧ StoreR K T m M H obs as f2
  | _ :: _, [], _ => False

/-- THE RELATION: M the values that nobody changes any more; G what must stay; the rest of the heap is of no account -/
structure Rel (K : PySem.W.Frag) (T : Tab) (m : List Addr) (M G H : Hp) (s : Sta) (σ : L2.St) : Prop where
  mh : Same M H
  gh : Same G H
  fp : ∃ f1 f2, SlotsR K m M H s.env σ f1 ∧ StoreR K T m M H s.st m f2 ∧ (f1 ++ f2).Nodup ∧ ∀ a ∈ f1 ++ f2, M a = Option.none ∧ G a = Option.none

/-- the heap grew, the values that nobody changes with it -/
structure Grow (H M H' M' : Hp) : Prop where
  same : Same H H'
  mm : Same M M'
  mh : Same M' H'
  new : ∀ a o, M' a = some o → M a = some o ∨ H a = Option.none
theorem Grow.refl {H M : Hp} (h : Same M H) : Grow H M H M := ⟨Same.refl _, Same.refl _, h, fun _ _ h => .inl h⟩
theorem Grow.trans {H M H1 M1 H2 M2 : Hp} (a : Grow H M H1 M1) (b : Grow H1 M1 H2 M2) : Grow H M H2 M2 :=
  ⟨a.same.trans b.same, a.mm.trans b.mm, b.mh, fun x o h => (b.new x o h).elim (fun h => a.new x o h) fun h => .inr (a.same.free h)⟩
theorem Grow.keepNone {H M H' M' : Hp} (g : Grow H M H' M') {a : Addr} {o : HO} (h : H a = some o) (n : M a = Option.none) : M' a = Option.none := by
  cases q : M' a with
  | none => rfl
  | some u =>
    rcases g.new a u q with z | z
    · rw [n] at z; cases z
    · rw [h] at z; cases z
/-- a new object, not shared -/
theorem Same.upd {H : Hp} {p : Addr} {o : HO} (h : H p = Option.none) : Same H (upd H p o) := fun b u e => by
  rw [upd_ne (ne_of_none e h)]; exact e
theorem Grow.fresh {H M : Hp} {p : Addr} {o : HO} (mh : Same M H) (h : H p = Option.none) : Grow H M (upd H p o) M :=
  ⟨Same.upd h, Same.refl _, mh.trans (Same.upd h), fun _ _ h => .inl h⟩
/-- a new object, shared at once -/
theorem Grow.share {H M : Hp} {p : Addr} {o : HO} (mh : Same M H) (h : H p = Option.none) : Grow H M (upd H p o) (upd M p o) := by
  have hM : M p = Option.none := mh.free h
  refine ⟨Same.upd h, Same.upd hM, fun b u e => ?_, fun a u e => ?_⟩
  · by_cases hb : b = p
    · subst hb; rw [upd_same] at e ⊢; exact e
    · rw [upd_ne hb] at e ⊢; exact mh _ _ e
  · by_cases hb : a = p
    · subst hb; exact .inr h
    · rw [upd_ne hb] at e; exact .inl e
/-- an object that stands alone is shared from now on -/
theorem Grow.freeze {H0 M0 H M : Hp} {p : Addr} {o : HO} (g : Grow H0 M0 H M) (h0 : H0 p = Option.none) (h : H p = some o) (hM : M p = Option.none) : Grow H0 M0 H (upd M p o) := by
  refine ⟨g.same, g.mm.trans (Same.upd hM), fun b u e => ?_, fun a u e => ?_⟩
  · by_cases hb : b = p
    · subst hb; rw [upd_same] at e; rw [← e]; exact h
    · rw [upd_ne hb] at e; exact g.mh _ _ e
  · by_cases hb : a = p
    · subst hb; exact .inr h0
    · rw [upd_ne hb] at e; exact g.new _ _ e

section
variable {K : PySem.W.Frag} {T : Tab} {m m' : List Addr} {M M' G G' H H' : Hp}
theorem SlotR.mono {s : Slot} {x : Option V} {fp : List Addr} (h : SlotR K m M H s x fp) (hm : MLe m m') (mm : Same M M') (hh : ∀ a ∈ fp, H' a = H a) : SlotR K m' M' H' s x fp := by
  cases s with
  | un => exact h
  | v d =>
    obtain ⟨e, y, ex, r⟩ := h
    exact ⟨e, y, ex, DR.mono hm mm _ _ r⟩
  | own d =>
    obtain ⟨a, o, e, ex, ha, r⟩ := h
    exact ⟨a, o, e, ex, by rw [hh a (by rw [e]; simp)]; exact ha, r.mono hm mm⟩
theorem SlotsR.mono : ∀ {s : List Slot} {x : List (Option V)} {fp : List Addr}, SlotsR K m M H s x fp → MLe m m' → Same M M' → (∀ a ∈ fp, H' a = H a) → SlotsR K m' M' H' s x fp
  | [], [], _, h, _, _, _ => h
  | s :: ss, x :: xs, fp, h, hm, mm, hh => by
    obtain ⟨f1, f2, e, h1, h2⟩ := h
    subst e
    exact ⟨f1, f2, rfl, h1.mono hm mm fun a ha => hh a (List.mem_append_left _ ha), SlotsR.mono h2 hm mm fun a ha => hh a (List.mem_append_right _ ha)⟩
  | [], _ :: _, _, h, _, _, _ => h.elim
  | _ :: _, [], _, h, _, _, _ => h.elim
theorem FsR.mono {nm : Nat → Str} : ∀ {s : List (Nat × Slot)} {x : List (Str × V)} {fp : List Addr}, FsR K nm m M H s x fp → MLe m m' → Same M M' → (∀ a ∈ fp, H' a = H a) → FsR K nm m' M' H' s x fp
  | [], [], _, h, _, _, _ => h
  | (i, s) :: ss, (x, v) :: xs, fp, h, hm, mm, hh => by
    obtain ⟨f1, f2, e, e2, h1, h2⟩ := h
    subst e
    exact ⟨f1, f2, rfl, e2, h1.mono hm mm fun a ha => hh a (List.mem_append_left _ ha), FsR.mono h2 hm mm fun a ha => hh a (List.mem_append_right _ ha)⟩
  | [], _ :: _, _, h, _, _, _ => h.elim
  | _ :: _, [], _, h, _, _, _ => h.elim
theorem ObR.mono {ob : Ob} {a : Addr} {fp : List Addr} (h : ObR K T m M H ob a fp) (hm : MLe m m') (mm : Same M M') (hh : ∀ b ∈ fp, H' b = H b) : ObR K T m' M' H' ob a fp := by
  obtain ⟨dx, fs, f, e, h1, h2⟩ := h
  subst e
  exact ⟨dx, fs, f, rfl, by rw [hh a (by simp)]; exact h1, h2.mono hm mm fun b hb => hh b (List.mem_cons_of_mem _ hb)⟩
theorem StoreR.mono : ∀ {s : List Ob} {as as' : List Addr} {fp : List Addr}, StoreR K T m M H s as fp → MLe m m' → MLe as as' → Same M M' → (∀ a ∈ fp, H' a = H a) → StoreR K T m' M' H' s as' fp
  | [], _, _, _, h, _, _, _, _ => h
  | ob :: obs, a :: as, [], fp, h, hm, hl, mm, hh => by
    have := hl 0 a rfl
    simp at this
  | ob :: obs, a :: as, a' :: as', fp, h, hm, hl, mm, hh => by
    obtain ⟨f1, f2, e, h1, h2⟩ := h
    subst e
    have e0 : a' = a := by
      have := hl 0 a rfl
      simpa using this
    subst e0
    exact ⟨f1, f2, rfl, h1.mono hm mm fun a ha => hh a (List.mem_append_left _ ha), StoreR.mono h2 hm (fun n x hx => by have := hl (n + 1) x (by simpa using hx); simpa using this) mm fun a ha => hh a (List.mem_append_right _ ha)⟩
  | _ :: _, [], _, _, h, _, _, _, _ => h.elim

/-- everything in a footprint stands in the heap -/
theorem SlotR.here {s : Slot} {x : Option V} {fp : List Addr} (h : SlotR K m M H s x fp) : ∀ a ∈ fp, ∃ o, H a = some o := by
  cases s with
  | un => intro a ha; rw [show fp = [] from h] at ha; cases ha
  | v d => intro a ha; rw [h.1] at ha; cases ha
  | own d =>
    obtain ⟨b, o, e, _, hb, _⟩ := h
    intro a ha
    rw [e] at ha
    have : a = b := by simpa using ha
    subst this
    exact ⟨o, hb⟩
theorem SlotsR.here : ∀ {s : List Slot} {x : List (Option V)} {fp : List Addr}, SlotsR K m M H s x fp → ∀ a ∈ fp, ∃ o, H a = some o
  | [], [], _, h, a, ha => by rw [show _ = [] from h] at ha; cases ha
  | s :: ss, x :: xs, fp, h, a, ha => by
    obtain ⟨f1, f2, e, h1, h2⟩ := h
    rw [e] at ha
    rcases List.mem_append.mp ha with ha | ha
    · exact h1.here a ha
    · exact SlotsR.here h2 a ha
  | [], _ :: _, _, h, _, _ => h.elim
  | _ :: _, [], _, h, _, _ => h.elim
theorem FsR.here {nm : Nat → Str} : ∀ {s : List (Nat × Slot)} {x : List (Str × V)} {fp : List Addr}, FsR K nm m M H s x fp → ∀ a ∈ fp, ∃ o, H a = some o
  | [], [], _, h, a, ha => by rw [show _ = [] from h] at ha; cases ha
  | (i, s) :: ss, (x, v) :: xs, fp, h, a, ha => by
    obtain ⟨f1, f2, e, _, h1, h2⟩ := h
    rw [e] at ha
    rcases List.mem_append.mp ha with ha | ha
    · exact h1.here a ha
    · exact FsR.here h2 a ha
  | [], _ :: _, _, h, _, _ => h.elim
  | _ :: _, [], _, h, _, _ => h.elim
theorem StoreR.here : ∀ {s : List Ob} {as : List Addr} {fp : List Addr}, StoreR K T m M H s as fp → ∀ a ∈ fp, ∃ o, H a = some o
  | [], _, _, h, a, ha => by rw [show _ = [] from h] at ha; cases ha
  | ob :: obs, a' :: as, fp, h, a, ha => by
    obtain ⟨f1, f2, e, h1, h2⟩ := h
    rw [e] at ha
    rcases List.mem_append.mp ha with ha | ha
    · obtain ⟨dx, fs, f, e, h3, h4⟩ := h1
      rw [e] at ha
      rcases List.mem_cons.mp ha with rfl | ha
      · exact ⟨_, h3⟩
      · exact h4.here a ha
    · exact StoreR.here h2 a ha
  | _ :: _, [], _, h, _, _ => h.elim

theorem Rel.grow {s : Sta} {σ : L2.St} (R : Rel K T m M G H s σ) (g : Grow H M H' M') : Rel K T m M' G H' s σ := by
  obtain ⟨mh, gh, ⟨f1, f2, h1, h2, nd, dj⟩⟩ := R
  have same : ∀ a ∈ f1 ++ f2, H' a = H a := fun a ha => by
    have : ∃ o, H a = some o := by
      rcases List.mem_append.mp ha with ha | ha
      · exact h1.here a ha
      · exact h2.here a ha
    obtain ⟨o, e⟩ := this
    rw [e]
    exact g.same a o e
  have here : ∀ a ∈ f1 ++ f2, ∃ o, H a = some o := fun a ha => by
    rcases List.mem_append.mp ha with ha | ha
    · exact h1.here a ha
    · exact h2.here a ha
  refine ⟨g.mh, gh.trans g.same, ⟨f1, f2, h1.mono (MLe.refl _) g.mm fun a ha => same a (List.mem_append_left _ ha), h2.mono (MLe.refl _) (MLe.refl _) g.mm fun a ha => same a (List.mem_append_right _ ha), nd, fun a ha => ?_⟩⟩
  obtain ⟨o, e⟩ := here a ha
  exact ⟨g.keepNone e (dj a ha).1, (dj a ha).2⟩
theorem SlotsR.len : ∀ {s : List Slot} {x : List (Option V)} {fp : List Addr}, SlotsR K m M H s x fp → s.length = x.length
  | [], [], _, _ => rfl
  | s :: ss, x :: xs, fp, h => by
    obtain ⟨f1, f2, e, h1, h2⟩ := h
    simp [SlotsR.len h2]
  | [], _ :: _, _, h => h.elim
  | _ :: _, [], _, h => h.elim
/-- one slot, cut out -/
theorem SlotsR.split : ∀ {s : List Slot} {x : List (Option V)} {fp : List Addr} {i : Nat} {sl : Slot}, SlotsR K m M H s x fp → s[i]? = some sl →
    ∃ f0 f1 f2 y, fp = f0 ++ f1 ++ f2 ∧ x[i]? = some y ∧ SlotR K m M H sl y f1 ∧
      ∀ (m' : List Addr) (M' H' : Hp) (sl' : Slot) (y' : Option V) (f1' : List Addr), MLe m m' → Same M M' → (∀ a ∈ f0 ++ f2, H' a = H a) → SlotR K m' M' H' sl' y' f1' → SlotsR K m' M' H' (s.set i sl') (x.set i y') (f0 ++ f1' ++ f2)
  | [], _, _, _, _, _, e => by simp at e
  | s :: ss, [], _, _, _, h, _ => h.elim
  | s :: ss, x :: xs, fp, 0, sl, h, e => by
    obtain ⟨f1, f2, ef, h1, h2⟩ := h
    have e' : s = sl := by simpa using e
    subst e'
    refine ⟨[], f1, f2, x, by simp [ef], rfl, h1, fun m' M' H' sl' y' f1' hm hM hh hs => ?_⟩
    exact ⟨f1', f2, by simp, hs, h2.mono hm hM fun a ha => hh a (by simp [ha])⟩
  | s :: ss, x :: xs, fp, i + 1, sl, h, e => by
    obtain ⟨f1, f2, ef, h1, h2⟩ := h
    obtain ⟨g0, g1, g2, y, eg, ey, hy, k⟩ := SlotsR.split h2 (i := i) (sl := sl) (by simpa using e)
    refine ⟨f1 ++ g0, g1, g2, y, by simp [ef, eg, List.append_assoc], by simpa using ey, hy, fun m' M' H' sl' y' f1' hm hM hh hs => ?_⟩
    refine ⟨f1, g0 ++ f1' ++ g2, by simp [List.append_assoc], h1.mono hm hM fun a ha => hh a (by simp [ha]), ?_⟩
    exact k m' M' H' sl' y' f1' hm hM (fun a ha => hh a (by
      rcases List.mem_append.mp ha with ha | ha
      · simp [ha]
      · simp [ha])) hs
end
end MP

/-! MP 2: expressions that change nothing: what they are worth, and that the machine agrees. -/
namespace MP
open PySem PySem.Spec PyProof.Rows L2

/-- how a result stands: shared, new and nobody else's, somebody's own that is only looked at -/
inductive RK where
  | sh | fr | pk
structure RV where
  k : RK
  d : D
abbrev sh (d : D) : RV := ⟨.sh, d⟩
abbrev fr (d : D) : RV := ⟨.fr, d⟩
/-- an exception: its class, its fields -/
structure Ex where
  cls : Str
  fs : List (Str × D)
inductive PR (α : Type) where
  | ok (a : α) | exc (e : Ex) | stuck
def PR.bind {α β : Type} (x : PR α) (f : α → PR β) : PR β := match x with
  | .ok a => f a
  | .exc e => .exc e
  | .stuck => .stuck
def PR.of {α : Type} : Option α → PR α
  | some a => .ok a
  | none => .stuck

def RR (K : PySem.W.Frag) (m : List Addr) (M H0 H : Hp) (y : V) (r : RV) : Prop := match r.k with
  | .sh => DR K m M y r.d
  | .fr => ∃ a o, y = .ref a ∧ H a = some o ∧ ObD K m M o r.d ∧ M a = none ∧ H0 a = none
  | .pk => ∃ a o, y = .ref a ∧ H a = some o ∧ ObD K m M o r.d
/-- what an operation may read -/
def Arg (K : PySem.W.Frag) (m : List Addr) (M H : Hp) (y : V) (d : D) : Prop := DR K m M y d ∨ ∃ a o, y = .ref a ∧ H a = some o ∧ ObD K m M o d

section
variable {K : PySem.W.Frag} {m : List Addr} {M M' H0 H H' : Hp} {y : V} {r : RV} {d : D}
theorem RR.arg (h : RR K m M H0 H y r) : Arg K m M H y r.d := by
  obtain ⟨k, d⟩ := r
  cases k with
  | sh => exact .inl h
  | fr => obtain ⟨a, o, h1, h2, h3, _⟩ := h; exact .inr ⟨a, o, h1, h2, h3⟩
  | pk => obtain ⟨a, o, h1, h2, h3⟩ := h; exact .inr ⟨a, o, h1, h2, h3⟩
theorem RR.grow (h : RR K m M H0 H y r) (g : Grow H M H' M') : RR K m M' H0 H' y r := by
  obtain ⟨k, d⟩ := r
  cases k with
  | sh => exact DR.up h g.mm
  | fr => obtain ⟨a, o, h1, h2, h3, h4, h5⟩ := h; exact ⟨a, o, h1, g.same _ _ h2, h3.mono (MLe.refl _) g.mm, g.keepNone h2 h4, h5⟩
  | pk => obtain ⟨a, o, h1, h2, h3⟩ := h; exact ⟨a, o, h1, g.same _ _ h2, h3.mono (MLe.refl _) g.mm⟩
theorem RR.since (h : RR K m M H H' y r) (s : Same H0 H) : RR K m M H0 H' y r := by
  obtain ⟨k, d⟩ := r
  cases k with
  | sh => exact h
  | fr => obtain ⟨a, o, h1, h2, h3, h4, h5⟩ := h; exact ⟨a, o, h1, h2, h3, h4, s.free h5⟩
  | pk => exact h
theorem Arg.grow (h : Arg K m M H y d) (g : Grow H M H' M') : Arg K m M' H' y d := by
  rcases h with h | ⟨a, o, h1, h2, h3⟩
  · exact .inl (h.up g.mm)
  · exact .inr ⟨a, o, h1, g.same _ _ h2, h3.mono (MLe.refl _) g.mm⟩
theorem Arg.dr (h : Arg K m M H y d) (s : Same M H) : DR K m H y d := by
  rcases h with h | ⟨a, o, rfl, h2, h3⟩
  · exact h.up s
  · exact h3.dr s h2
theorem Arg.int {i : Int} (h : Arg K m M H y (.int i)) : y = .int i := by
  rcases h with h | ⟨a, o, rfl, h2, h3⟩
  · cases h; rfl
  · cases h3
theorem Arg.bl {i : Bool} (h : Arg K m M H y (.bool i)) : y = .bl i := by
  rcases h with h | ⟨a, o, rfl, h2, h3⟩
  · cases h; rfl
  · cases h3
theorem Arg.str {i : Str} (h : Arg K m M H y (.str i)) : y = .str i := by
  rcases h with h | ⟨a, o, rfl, h2, h3⟩
  · cases h; rfl
  · cases h3
theorem Arg.non (h : Arg K m M H y .none) : y = .non := by
  rcases h with h | ⟨a, o, rfl, h2, h3⟩
  · cases h; rfl
  · cases h3
theorem Arg.list {ds : List D} (h : Arg K m M H y (.list ds)) (s : Same M H) : ∃ a xs, y = .ref a ∧ H a = some (.lst xs) ∧ DRs K m M xs ds := by
  rcases h with h | ⟨a, o, rfl, h2, h3⟩
  · cases h with
    | list h1 h2 => exact ⟨_, _, rfl, s _ _ h1, h2⟩
  · cases h3 with
    | lst h3 => exact ⟨_, _, rfl, h2, h3⟩
theorem Arg.lk {ds : List D} (h : Arg K m M H y (.lk ds)) (s : Same M H) : ∃ a xs, y = .ref a ∧ SqL K H a xs ∧ DRs K m M xs ds := by
  rcases h with h | ⟨a, o, rfl, h2, h3⟩
  · cases h with
    | lk h1 h2 => exact ⟨_, _, rfl, s.seq h1, h2⟩
  · cases h3
theorem Arg.tup {ds : List D} (h : Arg K m M H y (.tup ds)) (s : Same M H) : ∃ a xs, y = .ref a ∧ SqT K H a xs ∧ DRs K m M xs ds ∧ DR K m M y (.tup ds) := by
  rcases h with h | ⟨a, o, rfl, h2, h3⟩
  · cases h with
    | tup h1 h2 => exact ⟨_, _, rfl, Same.seqT s h1, h2, .tup h1 h2⟩
  · cases h3
theorem Arg.dic {ds : List (Key × D)} (h : Arg K m M H y (.dic ds)) (s : Same M H) : ∃ a xs, y = .ref a ∧ H a = some (.dK xs) ∧ DRk K m M xs ds := by
  rcases h with h | ⟨a, o, rfl, h2, h3⟩
  · cases h with
    | dic h1 h2 => exact ⟨_, _, rfl, s _ _ h1, h2⟩
  · cases h3 with
    | dic h3 => exact ⟨_, _, rfl, h2, h3⟩
/-- a list or a tuple, its items -/
def seqOf : D → Option (List D)
  | .list ds => some ds
  | .lk ds => some ds
  | .tup ds => some ds
  | _ => none
theorem Arg.seq {d : D} {ds : List D} (h : Arg K m M H y d) (e : seqOf d = some ds) (s : Same M H) : ∃ a xs, y = .ref a ∧ (SqL K H a xs ∨ SqT K H a xs) ∧ DRs K m M xs ds := by
  cases d with
  | list ds' =>
    cases e
    obtain ⟨a, xs, h1, h2, h3⟩ := h.list s
    exact ⟨a, xs, h1, .inl (SqL.of h2), h3⟩
  | lk ds' =>
    cases e
    obtain ⟨a, xs, h1, h2, h3⟩ := h.lk s
    exact ⟨a, xs, h1, .inl h2, h3⟩
  | tup ds' =>
    cases e
    obtain ⟨a, xs, h1, h2, h3, _⟩ := h.tup s
    exact ⟨a, xs, h1, .inr h2, h3⟩
  | _ => cases e
/-! to data as the library's == reads it -/
mutual
theorem DR.dp : ∀ (d : D) (v : V), DR K m H v d → d.py.canLay0 = true → Dp K H v d.py
  | .none, _, h, _ => by cases h; rw [D.py]; exact .non
  | .bool b, _, h, _ => by cases h; rw [D.py]; exact .bl b
  | .int i, _, h, _ => by cases h; rw [D.py]; exact .int i
  | .str x, _, h, _ => by cases h; rw [D.py]; exact .str x
  | .list ds, _, h, c => by
    cases h with
    | list h1 h2 =>
      rw [D.py] at c ⊢
      rw [PyData.canLay0] at c
      exact .lst (SqL.of h1) (DRs.dp ds _ h2 c)
  | .lk ds, _, h, c => by
    cases h with
    | lk h1 h2 =>
      rw [D.py] at c ⊢
      rw [PyData.canLay0] at c
      exact .lst h1 (DRs.dp ds _ h2 c)
  | .tup ds, _, h, c => by
    cases h with
    | tup h1 h2 =>
      rw [D.py] at c ⊢
      rw [PyData.canLay0] at c
      exact .tup h1 (DRs.dp ds _ h2 c)
  | .dic kvs, _, h, c => by rw [D.py] at c; simp [PyData.canLay0] at c
  | .obj n, _, h, c => by rw [D.py] at c; simp [PyData.canLay0] at c
  | .xv _ _, _, h, c => by rw [D.py] at c; simp [PyData.canLay0] at c
theorem DRs.dp : ∀ (ds : List D) (vs : List V), DRs K m H vs ds → PyData.canLayAll0 (pys ds) = true → DpAll K H vs (pys ds)
  | [], _, h, _ => by cases h; rw [pys]; exact .nil
  | d :: ds, _, h, c => by
    cases h with
    | cons h1 h2 =>
      rw [pys] at c ⊢
      rw [PyData.canLayAll0, Bool.and_eq_true] at c
      exact .cons (DR.dp d _ h1 c.1) (DRs.dp ds _ h2 c.2)
end
end

/-! ### exceptions -/
/-- an exception by content -/
def ExR (K : PySem.W.Frag) (T : Tab) (m : List Addr) (M H : Hp) (e : Ex) (cls : Value) (d : Option Addr) : Prop :=
  ∃ C, NmC K e.cls C ∧ cls = .ref C ∧ ((e.fs = [] ∧ d = none) ∨ ∃ dd fs, d = some dd ∧ M dd = some (.xd fs) ∧ DRf K m M fs e.fs)

/-! ### readings by evaluation -/
section
variable (X : Cx) (T : Tab) (W : WX)
def tP (f : Sta → PR RV) : TE := fun σ H Q => ∃ s m M G, Rel X.K T m M G H s σ ∧ match f s with
  | .ok r => ∀ y H' M', Grow H M H' M' → RR X.K m M' H H' y r → Q y H'
  | .exc e => ∀ cls d H' M', Grow H M H' M' → ExR X.K T m M' H' e cls d → W cls d σ H'
  | .stuck => False
/-- shared -/
def tD (f : Sta → PR D) : TE := fun σ H Q => ∃ s m M G, Rel X.K T m M G H s σ ∧ match f s with
  | .ok d => ∀ y H' M', Grow H M H' M' → DR X.K m M' y d → Q y H'
  | .exc e => ∀ cls d H' M', Grow H M H' M' → ExR X.K T m M' H' e cls d → W cls d σ H'
  | .stuck => False
/-- a test -/
def tT (f : Sta → PR Bool) : TT := fun σ H Q => ∃ s m M G, Rel X.K T m M G H s σ ∧ match f s with
  | .ok b => ∀ H' M', Grow H M H' M' → Q b H'
  | .exc e => ∀ cls d H' M', Grow H M H' M' → ExR X.K T m M' H' e cls d → W cls d σ H'
  | .stuck => False
/-- arguments, all shared -/
def tAs (f : Sta → PR (List D)) : TA := fun σ H Q => ∃ s m M G, Rel X.K T m M G H s σ ∧ match f s with
  | .ok ds => ∀ ys H' M', Grow H M H' M' → DRs X.K m M' ys ds → Q ys H'
  | .exc e => ∀ cls d H' M', Grow H M H' M' → ExR X.K T m M' H' e cls d → W cls d σ H'
  | .stuck => False
/-- arguments, as they come -/
def tAr (f : Sta → PR (List RV)) : TA := fun σ H Q => ∃ s m M G, Rel X.K T m M G H s σ ∧ match f s with
  | .ok rs => ∀ ys H' M', Grow H M H' M' → Paired (RR X.K m M' H H') ys rs → Q ys H'
  | .exc e => ∀ cls d H' M', Grow H M H' M' → ExR X.K T m M' H' e cls d → W cls d σ H'
  | .stuck => False
abbrev PEv (e : Expr) (f : Sta → PR RV) : Prop := PE X e (tP X T W f)
abbrev PDv (e : Expr) (f : Sta → PR D) : Prop := PE X e (tD X T W f)
abbrev PTv (e : Expr) (f : Sta → PR Bool) : Prop := PT X e (tT X T W f)
abbrev PAs (es : List Expr) (f : Sta → PR (List D)) : Prop := PA X es (tAs X T W f)
abbrev PAr (es : List Expr) (f : Sta → PR (List RV)) : Prop := PA X es (tAr X T W f)
end

theorem PE.wk {X : Cx} {e : Expr} {t t' : TE} (h : PE X e t) (w : ∀ σ H Q, t' σ H Q → t σ H Q) : PE X e t' := ⟨fun pins s σ H Q I q => h.run pins s σ H Q I (w _ _ _ q)⟩
theorem PT.wk {X : Cx} {e : Expr} {t t' : TT} (h : PT X e t) (w : ∀ σ H Q, t' σ H Q → t σ H Q) : PT X e t' := ⟨fun pins s σ H Q I q => h.run pins s σ H Q I (w _ _ _ q)⟩
theorem PW.wk {X : Cx} {e : Expr} {t t' : TT} (h : PW X e t) (w : ∀ σ H Q, t' σ H Q → t σ H Q) : PW X e t' := ⟨fun wh pins s σ H Q I q => h.run wh pins s σ H Q I (w _ _ _ q)⟩
theorem PA.wk {X : Cx} {e : List Expr} {t t' : TA} (h : PA X e t) (w : ∀ σ H Q, t' σ H Q → t σ H Q) : PA X e t' := ⟨fun pos pins s σ H Q I q => h.run pos pins s σ H Q I (w _ _ _ q)⟩

section
variable {X : Cx} {T : Tab} {W : WX} {a b c e : Expr} {es : List Expr} {pos p : Pos} {fa fb fc : Sta → PR RV}

/-! ### a result is shared -/
def RV.shr (r : RV) : PR D := match r.k with
  | .sh => .ok r.d
  | .fr => .ok r.d
  | .pk => .stuck
def pD (f : Sta → PR RV) : Sta → PR D := fun s => (f s).bind RV.shr
theorem RR.share {K : PySem.W.Frag} {m : List Addr} {M0 M H0 H : Hp} {y : V} {r : RV} {d : D} (h : RR K m M H0 H y r) (g : Grow H0 M0 H M) (e : r.shr = .ok d) : ∃ M', Grow H0 M0 H M' ∧ Same M M' ∧ DR K m M' y d := by
  obtain ⟨k, d'⟩ := r
  cases k with
  | sh =>
    cases e
    exact ⟨M, g, Same.refl _, h⟩
  | fr =>
    cases e
    obtain ⟨a, o, rfl, h2, h3, h4, h5⟩ := h
    refine ⟨upd M a o, g.freeze h5 h2 h4, Same.upd h4, ?_⟩
    exact (h3.mono (MLe.refl _) (Same.upd h4)).dr (Same.refl _) upd_same
  | pk => cases e
theorem pd_of (h : PEv X T W e fa) : PDv X T W e (pD fa) := by
  refine PE.wk h ?_
  rintro σ H Q ⟨s, m, M, G, R, q⟩
  refine ⟨s, m, M, G, R, ?_⟩
  revert q
  unfold pD PR.bind
  cases fa s with
  | ok r =>
    intro q y H' M' g rr
    cases hr : r.shr with
    | ok d =>
      simp only [hr] at q
      obtain ⟨M2, g2, mm, dr⟩ := rr.share g hr
      exact q y H' M2 g2 dr
    | exc e => obtain ⟨k, d⟩ := r; cases k <;> cases hr
    | stuck => simp only [hr] at q
  | exc e => intro q; exact q
  | stuck => intro q; exact q
def pS (f : Sta → PR D) : Sta → PR RV := fun s => (f s).bind fun d => .ok (sh d)
theorem pe_of {f : Sta → PR D} (h : PDv X T W e f) : PEv X T W e (pS f) := by
  refine PE.wk h ?_
  rintro σ H Q ⟨s, m, M, G, R, q⟩
  refine ⟨s, m, M, G, R, ?_⟩
  revert q
  unfold pS PR.bind
  cases f s with
  | ok r => intro q y H' M' g rr; exact q y H' M' g rr
  | exc e => intro q; exact q
  | stuck => intro q; exact q

/-! ### names, constants -/
def Slot.look : Slot → Option RV
  | .un => none
  | .v d => some (sh d)
  | .own d => some ⟨.pk, d⟩
def pVar (i : Nat) : Sta → PR RV := fun s => PR.of (s.env[i]?.bind Slot.look)
theorem SlotsR.at {K : PySem.W.Frag} {m : List Addr} {M H : Hp} : ∀ {s : List Slot} {x : List (Option V)} {fp : List Addr} {i : Nat} {sl : Slot}, SlotsR K m M H s x fp → s[i]? = some sl → ∃ y f, x[i]? = some y ∧ SlotR K m M H sl y f ∧ ∀ a ∈ f, a ∈ fp
  | [], _, _, _, _, _, e => by simp at e
  | s :: ss, [], _, _, _, h, _ => h.elim
  | s :: ss, x :: xs, fp, 0, sl, h, e => by
    obtain ⟨f1, f2, ef, h1, h2⟩ := h
    have e' : s = sl := by simpa using e
    subst e'
    exact ⟨x, f1, rfl, h1, fun a ha => by rw [ef]; exact List.mem_append_left _ ha⟩
  | s :: ss, x :: xs, fp, i + 1, sl, h, e => by
    obtain ⟨f1, f2, ef, h1, h2⟩ := h
    obtain ⟨y, f, ey, hy, hf⟩ := SlotsR.at h2 (i := i) (sl := sl) (by simpa using e)
    exact ⟨y, f, by simpa using ey, hy, fun a ha => by rw [ef]; exact List.mem_append_right _ (hf a ha)⟩
theorem Rel.look {K : PySem.W.Frag} {m : List Addr} {M G H : Hp} {s : Sta} {σ : L2.St} {i : Nat} {r : RV} (R : Rel K T m M G H s σ) (e : s.env[i]?.bind Slot.look = some r) : ∃ y, σ[i]? = some (some y) ∧ RR K m M H H y r := by
  obtain ⟨mh, gh, ⟨f1, f2, h1, h2, nd, dj⟩⟩ := R
  cases hs : s.env[i]? with
  | none => rw [hs] at e; cases e
  | some sl =>
    rw [hs] at e
    obtain ⟨y, f, ey, hy, hf⟩ := h1.at hs
    cases sl with
    | un => cases e
    | v d =>
      cases e
      obtain ⟨_, y', rfl, r⟩ := hy
      exact ⟨y', ey, r⟩
    | own d =>
      cases e
      obtain ⟨a, o, _, rfl, h3, h4⟩ := hy
      exact ⟨_, ey, a, o, rfl, h3, h4⟩
theorem ev_var {i : Nat} {x : Str} (h : PE X (.Name x pos) (tVar i)) : PEv X T W (.Name x pos) (pVar i) := by
  refine PE.wk h ?_
  rintro σ H Q ⟨s, m, M, G, R, q⟩
  unfold pVar at q
  cases hl : s.env[i]?.bind Slot.look with
  | none => rw [hl] at q; exact q.elim
  | some r =>
    rw [hl] at q
    obtain ⟨y, ey, rr⟩ := R.look hl
    exact ⟨y, ey, q y H M (Grow.refl R.mh) rr⟩
def pC (d : D) : Sta → PR RV := fun _ => .ok (sh d)
theorem ev_const {v : V} {d : D} (h : PE X e (tC v)) (r : ∀ m M, DR X.K m M v d) : PEv X T W e (pC d) := by
  refine PE.wk h ?_
  rintro σ H Q ⟨s, m, M, G, R, q⟩
  exact q v H M (Grow.refl R.mh) (r m M)
theorem ev_int {i : Int} {j} : PEv X T W (.Constant (.int i) j pos) (pC (.int i)) := ev_const pe_int fun _ _ => .int i
theorem ev_bl {i : Bool} {j} : PEv X T W (.Constant (.bool i) j pos) (pC (.bool i)) := ev_const pe_bl fun _ _ => .bl i
theorem ev_non {j} : PEv X T W (.Constant .none j pos) (pC .none) := ev_const pe_non fun _ _ => .non
theorem ev_str {i : Str} {j} : PEv X T W (.Constant (.str i) j pos) (pC (.str i)) := ev_const pe_str fun _ _ => .str i

/-! ### two values -/
def p2 (g : D → D → Option RV) (fa fb : Sta → PR RV) : Sta → PR RV := fun s => (fa s).bind fun x => (fb s).bind fun y => .of (g x.d y.d)
def p1 (g : D → Option RV) (fa : Sta → PR RV) : Sta → PR RV := fun s => (fa s).bind fun x => .of (g x.d)
/-- a rule on two values keeps what g says -/
def R2Ok (K : PySem.W.Frag) (r : R2) (g : D → D → Option RV) : Prop := ∀ m M H x y d1 d2 res Q, Same M H → Arg K m M H x d1 → Arg K m M H y d2 → g d1 d2 = some res →
  (∀ z H' M', Grow H M H' M' → RR K m M' H H' z res → Q z H') → r x y H Q
def Op2Ok (X : Cx) (f : Value → Value → Sem Value) (g : D → D → Option RV) : Prop := ∃ r, OpR X f r ∧ R2Ok X.K r g
theorem tOp_of {r : R2} {g : D → D → Option RV} (hr : R2Ok X.K r g) {σ : L2.St} {H : Hp} {Q : VK} (h : tP X T W (p2 g fa fb) σ H Q) : tOp r (tP X T W fa) (tP X T W fb) σ H Q := by
  obtain ⟨s, m, M, G, R, q⟩ := h
  refine ⟨s, m, M, G, R, ?_⟩
  revert q
  unfold p2 PR.bind
  cases fa s with
  | ok r1 =>
    intro q y1 H1 M1 g1 rr1
    refine ⟨s, m, M1, G, R.grow g1, ?_⟩
    revert q
    cases fb s with
    | ok r2 =>
      intro q y2 H2 M2 g2 rr2
      cases hg : g r1.d r2.d with
      | none => simp only [hg, PR.of] at q
      | some res =>
        simp only [hg, PR.of] at q
        refine hr m M2 H2 y1 y2 _ _ res Q g2.mh ((rr1.grow g2).arg) rr2.arg hg fun z H' M' g3 rr3 => ?_
        exact q z H' M' (g1.trans (g2.trans g3)) (rr3.since (g1.same.trans g2.same))
    | exc e => intro q cls d H' M' g2 x; exact q cls d H' M' (g1.trans g2) x
    | stuck => intro q; exact q
  | exc e => intro q; exact q
  | stuck => intro q; exact q
theorem ev_bin {op : Operator} {g : D → D → Option RV} (ho : Op2Ok X (binaryOp op) g) (ha : PEv X T W a fa) (hb : PEv X T W b fb) : PEv X T W (.BinOp a op b pos) (p2 g fa fb) := by
  obtain ⟨r, h1, h2⟩ := ho
  exact PE.wk (pe_op h1 ha hb) fun σ H Q h => tOp_of h2 h
theorem ev_cmp {op : CmpOp} {g : D → D → Option RV} (ho : Op2Ok X (compareOp op) g) (ha : PEv X T W a fa) (hb : PEv X T W b fb) (hm : behindInMarks op b = false) : PEv X T W (.Compare a [op] [b] pos) (p2 g fa fb) := by
  obtain ⟨r, h1, h2⟩ := ho
  exact PE.wk (pe_cmpR h1 ha hb hm) fun σ H Q h => tOp_of h2 h
def UnOk (X : Cx) (f : Value → Sem Value) (g : D → Option RV) : Prop := ∃ r, UnR X f r ∧ ∀ m M H x d1 res Q, Same M H → Arg X.K m M H x d1 → g d1 = some res →
  (∀ z H' M', Grow H M H' M' → RR X.K m M' H H' z res → Q z H') → r x H Q
theorem ev_un {op : UnaryOp} {g : D → Option RV} (ho : UnOk X (unaryOp op) g) (ha : PEv X T W a fa) : PEv X T W (.UnaryOp op a pos) (p1 g fa) := by
  obtain ⟨r, h1, h2⟩ := ho
  refine PE.wk (pe_un h1 ha) ?_
  rintro σ H Q ⟨s, m, M, G, R, q⟩
  refine ⟨s, m, M, G, R, ?_⟩
  revert q
  unfold p1 PR.bind
  cases fa s with
  | ok r1 =>
    intro q y1 H1 M1 g1 rr1
    cases hg : g r1.d with
    | none => simp only [hg, PR.of] at q
    | some res =>
      simp only [hg, PR.of] at q
      exact h2 m M1 H1 y1 _ res Q g1.mh rr1.arg hg fun z H' M' g3 rr3 => q z H' M' (g1.trans g3) (rr3.since g1.same)
  | exc e => intro q; exact q
  | stuck => intro q; exact q

/-! ### which operations there are -/
theorem R2Ok.or {K : PySem.W.Frag} {r r' : R2} {g g' : D → D → Option RV} (h : R2Ok K r g) (h' : R2Ok K r' g') : R2Ok K (fun x y H Q => r x y H Q ∨ r' x y H Q) (fun a b => (g a b).or (g' a b)) := by
  intro m M H x y d1 d2 res Q s a1 a2 e k
  dsimp only at e
  cases hg : g d1 d2 with
  | some z =>
    rw [hg] at e
    have e' : z = res := Option.some.inj e
    subst e'
    exact .inl (h m M H x y d1 d2 z Q s a1 a2 hg k)
  | none =>
    rw [hg] at e
    exact .inr (h' m M H x y d1 d2 res Q s a1 a2 e k)
theorem Op2Ok.or {f : Value → Value → Sem Value} {g g' : D → D → Option RV} (h : Op2Ok X f g) (h' : Op2Ok X f g') : Op2Ok X f (fun a b => (g a b).or (g' a b)) := by
  obtain ⟨r, h1, h2⟩ := h
  obtain ⟨r', h1', h2'⟩ := h'
  exact ⟨_, h1.or h1', h2.or h2'⟩
/-- ints to a scalar -/
def gI (C : Int → Int → Bool) (g : Int → Int → D) : D → D → Option RV
  | .int i, .int j => if C i j = true then some (sh (g i j)) else none
  | _, _ => none
theorem ok_I {f : Value → Value → Sem Value} {C : Int → Int → Bool} {P : Int → Int → Prop} {gv : Int → Int → V} {g : Int → Int → D} (ho : OpR X f (rI P gv)) (hC : ∀ i j, C i j = true → P i j) (hg : ∀ i j m M, DR X.K m M (gv i j) (g i j)) : Op2Ok X f (gI C g) := by
  refine ⟨_, ho, fun m M H x y d1 d2 res Q s a1 a2 e k => ?_⟩
  cases d1 <;> try (cases e; done)
  cases d2 <;> try (cases e; done)
  rename_i i j
  dsimp only [gI] at e
  by_cases hc : C i j = true
  · rw [if_pos hc] at e
    cases e
    exact ⟨i, j, a1.int, a2.int, hC _ _ hc, k _ H M (Grow.refl s) (hg i j m M)⟩
  · rw [if_neg hc] at e
    cases e
def gI0 (g : Int → Int → D) : D → D → Option RV
  | .int i, .int j => some (sh (g i j))
  | _, _ => none
theorem ok_I0 {f : Value → Value → Sem Value} {gv : Int → Int → V} {g : Int → Int → D} (ho : OpR X f (rI0 gv)) (hg : ∀ i j m M, DR X.K m M (gv i j) (g i j)) : Op2Ok X f (gI0 g) := by
  refine ⟨_, ho, fun m M H x y d1 d2 res Q s a1 a2 e k => ?_⟩
  cases d1 <;> try (cases e; done)
  cases d2 <;> try (cases e; done)
  rename_i i j
  cases e
  exact ⟨i, j, a1.int, a2.int, k _ H M (Grow.refl s) (hg i j m M)⟩
def gAdd : D → D → Option RV := gI0 fun i j => .int (i + j)
def gSub : D → D → Option RV := gI0 fun i j => .int (i - j)
def small64b (i : Int) : Bool := decide (-(2 ^ 64) < i ∧ i < 2 ^ 64)
def gMul : D → D → Option RV := gI (fun i j => small64b i || small64b j) fun i j => .int (i * j)
def gDiv : D → D → Option RV := gI (fun _ j => decide (0 < j ∧ j < 2 ^ 200)) fun i j => .int (i / j)
def gMod : D → D → Option RV := gI (fun _ j => decide (0 < j)) fun i j => .int (i % j)
def gPow : D → D → Option RV := gI (fun i j => decide (0 ≤ j ∧ j ≤ 1000000 ∧ i.natAbs < 2 ^ 64)) fun i j => .int (i ^ j.toNat)
def gShl : D → D → Option RV := gI (fun i j => decide (0 ≤ j ∧ j ≤ 1000000 ∧ i.natAbs < 2 ^ 64)) fun i j => .int (i * 2 ^ j.toNat)
def gShr : D → D → Option RV := gI (fun _ j => decide (0 ≤ j)) fun i j => .int (i / 2 ^ j.toNat)
def gAnd : D → D → Option RV := gI0 fun i j => .int (Builtin.bitAnd i j)
def gOr : D → D → Option RV := gI0 fun i j => .int (Builtin.bitOr i j)
theorem ok_add : Op2Ok X (binaryOp .Add) gAdd := ok_I0 op_add fun _ _ _ _ => .int _
theorem ok_sub : Op2Ok X (binaryOp .Sub) gSub := ok_I0 op_sub fun _ _ _ _ => .int _
theorem ok_mul : Op2Ok X (binaryOp .Mult) gMul := ok_I op_mul (fun i j h => by
  rcases (Bool.or_eq_true _ _).mp h with h | h
  · exact .inl (of_decide_eq_true h)
  · exact .inr (of_decide_eq_true h)) fun _ _ _ _ => .int _
theorem ok_div : Op2Ok X (binaryOp .FloorDiv) gDiv := ok_I op_fdivW (fun i j h => by
  have h := of_decide_eq_true h
  refine wide_div h.1 (b := 200) ?_ (by decide) (by decide)
  have h1 := h.1
  have h2 := h.2
  have e : ((j.natAbs : Nat) : Int) = j := Int.natAbs_of_nonneg (by omega)
  have : ((j.natAbs : Nat) : Int) < ((2 ^ 200 : Nat) : Int) := by rw [e]; exact_mod_cast h2
  exact Int.ofNat_lt.mp this) fun _ _ _ _ => .int _
theorem ok_mod : Op2Ok X (binaryOp .Mod) gMod := ok_I op_mod (fun i j h => by simpa [CDiv, CPow] using h) fun _ _ _ _ => .int _
theorem ok_pow : Op2Ok X (binaryOp .Pow) gPow := ok_I op_pow (fun i j h => by simpa [CDiv, CPow] using h) fun _ _ _ _ => .int _
theorem ok_shl : Op2Ok X (binaryOp .LShift) gShl := ok_I op_shl (fun i j h => by simpa [CDiv, CPow] using h) fun _ _ _ _ => .int _
theorem ok_shr : Op2Ok X (binaryOp .RShift) gShr := ok_I op_shr (fun i j h => by simpa [CDiv, CPow] using h) fun _ _ _ _ => .int _
theorem ok_and : Op2Ok X (binaryOp .BitAnd) gAnd := ok_I0 op_and fun _ _ _ _ => .int _
theorem ok_or : Op2Ok X (binaryOp .BitOr) gOr := ok_I0 op_or fun _ _ _ _ => .int _
def gNeg : D → Option RV
  | .int i => some (sh (.int (-i)))
  | _ => none
theorem ok_neg : UnOk X (unaryOp .USub) gNeg := by
  refine ⟨_, un_neg, fun m M H x d1 res Q s a1 e k => ?_⟩
  cases d1 <;> try (cases e; done)
  rename_i i
  cases e
  exact ⟨i, a1.int, k _ H M (Grow.refl s) (.int _)⟩
def gLt : D → D → Option RV := gI0 fun i j => .bool (decide (i < j))
def gLe : D → D → Option RV := gI0 fun i j => .bool (decide (i ≤ j))
def gGt : D → D → Option RV := gI0 fun i j => .bool (decide (j < i))
def gGe : D → D → Option RV := gI0 fun i j => .bool (decide (j ≤ i))
theorem ok_lt : Op2Ok X (compareOp .Lt) gLt := ok_I0 op_lt fun _ _ _ _ => .bl _
theorem ok_le : Op2Ok X (compareOp .LtE) gLe := ok_I0 op_le fun _ _ _ _ => .bl _
theorem ok_gt : Op2Ok X (compareOp .Gt) gGt := ok_I0 op_gt fun _ _ _ _ => .bl _
theorem ok_ge : Op2Ok X (compareOp .GtE) gGe := ok_I0 op_ge fun _ _ _ _ => .bl _
/-- list + list -/
def gCatL : D → D → Option RV
  | .list xs, .list ys => if xs.length + ys.length ≤ 16777216 then some (fr (.list (xs ++ ys))) else none
  | _, _ => none
theorem le_line {n : Nat} (h : n ≤ 16777216) : n ≤ sizeLine := by rw [sizeLine_eq]; exact h
theorem ok_catL : Op2Ok X (binaryOp .Add) gCatL := by
  refine ⟨_, op_cat, fun m M H x y d1 d2 res Q s a1 a2 e k => ?_⟩
  cases d1 <;> try (cases e; done)
  cases d2 <;> try (cases e; done)
  rename_i xs ys
  dsimp only [gCatL] at e
  by_cases hl : xs.length + ys.length ≤ 16777216
  · rw [if_pos hl] at e
    cases e
    obtain ⟨a, us, rfl, h1, r1⟩ := a1.list s
    obtain ⟨b, ws, rfl, h2, r2⟩ := a2.list s
    refine ⟨a, b, us, ws, rfl, rfl, h1, h2, by rw [r1.length, r2.length]; exact le_line hl, fun p hp => ?_⟩
    exact k _ _ M (Grow.fresh s hp) ⟨p, _, rfl, upd_same, .lst (r1.append r2), s.free hp, hp⟩
  · rw [if_neg hl] at e
    cases e
/-- tuple + tuple -/
def gCatT : D → D → Option RV
  | .tup xs, .tup ys => if xs.length + ys.length ≤ 16777216 then some (sh (.tup (xs ++ ys))) else none
  | _, _ => none
def gCatS : D → D → Option RV
  | .str xs, .str ys => if xs.length + ys.length ≤ 16777216 then some (sh (.str (xs ++ ys))) else none
  | _, _ => none
theorem ok_catS : Op2Ok X (binaryOp .Add) gCatS := by
  refine ⟨_, op_add_str, fun m M H x y d1 d2 res Q s a1 a2 e k => ?_⟩
  cases d1 <;> try (cases e; done)
  cases d2 <;> try (cases e; done)
  rename_i xs ys
  dsimp only [gCatS] at e
  by_cases hl : xs.length + ys.length ≤ 16777216
  · rw [if_pos hl] at e
    cases e
    exact ⟨xs, ys, a1.str, a2.str, le_line hl, k _ H M (Grow.refl s) (.str _)⟩
  · rw [if_neg hl] at e
    cases e
/-- list * int -/
def gRepL : D → D → Option RV
  | .list xs, .int n => if n < 16777216 ∧ xs.length * n.toNat ≤ 16777216 ∧ -16777216 < n then some (fr (.list (List.replicate n.toNat xs).flatten)) else none
  | _, _ => none
theorem DRs.rep {K : PySem.W.Frag} {m : List Addr} {H : Hp} {xs : List V} {us : List D} (h : DRs K m H xs us) : ∀ k : Nat, DRs K m H (List.replicate k xs).flatten (List.replicate k us).flatten
  | 0 => .nil
  | k + 1 => by
    rw [List.replicate_succ, List.replicate_succ, List.flatten_cons, List.flatten_cons]
    exact h.append (DRs.rep h k)
theorem ok_repL : Op2Ok X (binaryOp .Mult) gRepL := by
  refine ⟨_, op_rep, fun m M H x y d1 d2 res Q s a1 a2 e k => ?_⟩
  cases d1 <;> try (cases e; done)
  cases d2 <;> try (cases e; done)
  rename_i xs n
  dsimp only [gRepL] at e
  by_cases hl : n < 16777216 ∧ xs.length * n.toNat ≤ 16777216 ∧ -16777216 < n
  · rw [if_pos hl] at e
    cases e
    obtain ⟨a, us, rfl, h1, r1⟩ := a1.list s
    refine ⟨a, n, us, rfl, a2.int, h1, by omega, by omega, by rw [r1.length]; exact le_line hl.2.1, fun p hp => ?_⟩
    exact k _ _ M (Grow.fresh s hp) ⟨p, _, rfl, upd_same, .lst (DRs.rep r1 _), s.free hp, hp⟩
  · rw [if_neg hl] at e
    cases e
theorem ok_catT : Op2Ok X (binaryOp .Add) gCatT := by
  refine ⟨_, op_catA, fun m M H x y d1 d2 res Q s a1 a2 e k => ?_⟩
  cases d1 <;> try (cases e; done)
  cases d2 <;> try (cases e; done)
  rename_i xs ys
  dsimp only [gCatT] at e
  by_cases hl : xs.length + ys.length ≤ 16777216
  · rw [if_pos hl] at e
    cases e
    obtain ⟨a, us, rfl, h1, r1, r1'⟩ := a1.tup s
    obtain ⟨b, ws, rfl, h2, r2, r2'⟩ := a2.tup s
    refine ⟨a, b, us, ws, rfl, rfl, h1, h2, by rw [r1.length, r2.length]; exact le_line hl, fun he => ?_, fun _ he => ?_, fun _ _ p hp => ?_⟩
    · subst he
      cases r1
      exact k _ H M (Grow.refl s) r2'
    · subst he
      cases r2
      exact k _ H M (Grow.refl s) (show DR X.K m M (.ref a) (.tup (xs ++ [])) from by rw [List.append_nil]; exact r1')
    · have gs := Grow.share (o := .tup (us ++ ws)) s hp
      exact k _ _ _ gs (.tup (SqT.of upd_same) ((r1.append r2).up gs.mm))
  · rw [if_neg hl] at e
    cases e
def gPlus : D → D → Option RV := fun a b => (gAdd a b).or ((gCatS a b).or ((gCatL a b).or (gCatT a b)))
theorem ok_plus : Op2Ok X (binaryOp .Add) gPlus := ok_add.or (ok_catS.or (ok_catL.or ok_catT))
def gTimes : D → D → Option RV := fun a b => (gMul a b).or (gRepL a b)
theorem ok_times : Op2Ok X (binaryOp .Mult) gTimes := ok_mul.or ok_repL
/-- == and != -/
def eqB (a b : D) : Option Bool := match a, b with
  | .int i, .int j => some (i == j)
  | .str x, .str y => some (x == y)
  | .bool x, .bool y => some (x == y)
  | a, b => if SeqAt.shaped a.py = true ∧ SeqAt.shaped b.py = true then some (PyData.eqv a.py b.py) else none
def gEq (a b : D) : Option RV := (eqB a b).map fun r => sh (.bool r)
def gNe (a b : D) : Option RV := (eqB a b).map fun r => sh (.bool (!r))
theorem eqB_cases {K : PySem.W.Frag} {m : List Addr} {M H : Hp} {x y : V} {d1 d2 : D} {r : Bool} (s : Same M H) (a1 : Arg K m M H x d1) (a2 : Arg K m M H y d2) (e : eqB d1 d2 = some r) :
    (scal x y = true ∧ decide (x = y) = r) ∨ ∃ d e, Dp K H x d ∧ Dp K H y e ∧ SeqAt.shaped d = true ∧ SeqAt.shaped e = true ∧ PyData.eqv d e = r := by
  have gen : (if SeqAt.shaped d1.py = true ∧ SeqAt.shaped d2.py = true then some (PyData.eqv d1.py d2.py) else none) = some r →
      ∃ d e, Dp K H x d ∧ Dp K H y e ∧ SeqAt.shaped d = true ∧ SeqAt.shaped e = true ∧ PyData.eqv d e = r := fun e => by
    by_cases hs : SeqAt.shaped d1.py = true ∧ SeqAt.shaped d2.py = true
    · rw [if_pos hs] at e
      exact ⟨_, _, DR.dp _ _ (a1.dr s) (SeqAt.canLay_of_shaped hs.1), DR.dp _ _ (a2.dr s) (SeqAt.canLay_of_shaped hs.2), hs.1, hs.2, Option.some.inj e⟩
    · rw [if_neg hs] at e
      cases e
  unfold eqB at e
  split at e
  · rw [a1.int, a2.int]
    exact .inl ⟨rfl, by rw [dec_int]; exact Option.some.inj e⟩
  · rw [a1.str, a2.str]
    exact .inl ⟨rfl, by rw [dec_str]; exact Option.some.inj e⟩
  · rw [a1.bl, a2.bl]
    exact .inl ⟨rfl, by rw [dec_bl]; exact Option.some.inj e⟩
  · exact .inr (gen e)
theorem ok_eq (hu : X.A.units + 64 < cLine) : Op2Ok X (compareOp .Eq) gEq := by
  refine ⟨_, op_eq.or (op_eqD hu), fun m M H x y d1 d2 res Q s a1 a2 e k => ?_⟩
  unfold gEq at e
  cases he : eqB d1 d2 with
  | none => rw [he] at e; cases e
  | some r =>
    rw [he] at e
    cases e
    rcases eqB_cases s a1 a2 he with ⟨h1, h2⟩ | ⟨d, e, h1, h2, h3, h4, h5⟩
    · exact .inl ⟨h1, by rw [h2]; exact k _ H M (Grow.refl s) (.bl _)⟩
    · exact .inr ⟨d, e, h1, h2, h3, h4, by rw [h5]; exact k _ H M (Grow.refl s) (.bl _)⟩
theorem ok_ne (hu : X.A.units + 64 < cLine) : Op2Ok X (compareOp .NotEq) gNe := by
  refine ⟨_, op_ne.or (op_neD hu), fun m M H x y d1 d2 res Q s a1 a2 e k => ?_⟩
  unfold gNe at e
  cases he : eqB d1 d2 with
  | none => rw [he] at e; cases e
  | some r =>
    rw [he] at e
    cases e
    rcases eqB_cases s a1 a2 he with ⟨h1, h2⟩ | ⟨d, e, h1, h2, h3, h4, h5⟩
    · exact .inl ⟨h1, by rw [h2]; exact k _ H M (Grow.refl s) (.bl _)⟩
    · exact .inr ⟨d, e, h1, h2, h3, h4, by rw [h5]; exact k _ H M (Grow.refl s) (.bl _)⟩
/-- is None -/
def D.isNone : D → Bool
  | .none => true
  | _ => false
def gIs : D → D → Option RV
  | d, .none => some (sh (.bool d.isNone))
  | _, _ => none
def gIsNot : D → D → Option RV
  | d, .none => some (sh (.bool (!d.isNone)))
  | _, _ => none
theorem Arg.isNon {K : PySem.W.Frag} {m : List Addr} {M H : Hp} {x : V} {d : D} (h : Arg K m M H x d) : decide (x = .non) = d.isNone := by
  rcases h with h | ⟨a, o, rfl, h2, h3⟩
  · cases h <;> rfl
  · cases h3 <;> rfl
theorem ok_is : Op2Ok X (compareOp .Is) gIs := by
  refine ⟨_, op_isN, fun m M H x y d1 d2 res Q s a1 a2 e k => ?_⟩
  cases d2 <;> try (cases e; done)
  cases e
  exact ⟨a2.non, by rw [a1.isNon]; exact k _ H M (Grow.refl s) (.bl _)⟩
theorem ok_isnot : Op2Ok X (compareOp .IsNot) gIsNot := by
  refine ⟨_, op_notN, fun m M H x y d1 d2 res Q s a1 a2 e k => ?_⟩
  cases d2 <;> try (cases e; done)
  cases e
  exact ⟨a2.non, by rw [a1.isNon]; exact k _ H M (Grow.refl s) (.bl _)⟩
end
end MP

/-! MP 3: tests, displays, subscripts, slices, built-in calls, what is walked, comprehensions. -/
namespace MP
open PySem PySem.Spec PyProof.Rows L2

section
variable {X : Cx} {T : Tab} {W : WX} {a b c e : Expr} {es : List Expr} {pos p : Pos} {fa fb fc : Sta → PR RV} {ta tb tc : Sta → PR Bool}

/-! ### tests -/
def RV.bool (r : RV) : PR Bool := match r.d with
  | .bool b => .ok b
  | _ => .stuck
def pB (f : Sta → PR RV) : Sta → PR Bool := fun s => (f s).bind RV.bool
theorem tB_of {σ : L2.St} {H : Hp} {Q : Bool → Hp → Prop} (h : tT X T W (pB fa) σ H Q) : tP X T W fa σ H (fun x H' => ∃ k, x = .bl k ∧ Q k H') := by
  obtain ⟨s, m, M, G, R, q⟩ := h
  refine ⟨s, m, M, G, R, ?_⟩
  revert q
  unfold pB PR.bind
  cases fa s with
  | ok r =>
    intro q y H' M' g rr
    obtain ⟨k, d⟩ := r
    cases d <;> try (exact q.elim)
    rename_i b
    exact ⟨b, rr.arg.bl, q H' M' g⟩
  | exc e => intro q; exact q
  | stuck => intro q; exact q
/-- a comparison as a test -/
theorem et_cmp {op : CmpOp} {g : D → D → Option RV} (ho : Op2Ok X (compareOp op) g) (ha : PEv X T W a fa) (hb : PEv X T W b fb) (hm : behindInMarks op b = false) : PTv X T W (.Compare a [op] [b] pos) (pB (p2 g fa fb)) := by
  obtain ⟨r, h1, h2⟩ := ho
  exact PT.wk (pt_cmpR h1 ha hb hm) fun σ H Q h => tOp_of h2 (tB_of h)
/-- a value that is a bool, as a test -/
theorem et_val (h : PEv X T W e fa) (he : ∀ whole, isTrue e X.env whole = (do let v ← whole; standAt e.pos; holding [v] (truthy v)) := by intro _; rfl) : PTv X T W e (pB fa) :=
  PT.wk (pt_val h he) fun σ H Q h => tB_of h
def pNot (f : Sta → PR Bool) : Sta → PR Bool := fun s => (f s).bind fun b => .ok (!b)
theorem et_not (h : PTv X T W a ta) : PTv X T W (.UnaryOp .Not a pos) (pNot ta) := by
  refine PT.wk (pt_not h) ?_
  rintro σ H Q ⟨s, m, M, G, R, q⟩
  refine ⟨s, m, M, G, R, ?_⟩
  revert q
  unfold pNot PR.bind
  cases ta s with
  | ok r => intro q; exact q
  | exc e => intro q; exact q
  | stuck => intro q; exact q
abbrev PWv (X : Cx) (T : Tab) (W : WX) (e : Expr) (f : Sta → PR Bool) : Prop := PW X e (tT X T W f)
def pAnd (f g : Sta → PR Bool) : Sta → PR Bool := fun s => (f s).bind fun b => if b then g s else .ok false
def pOr (f g : Sta → PR Bool) : Sta → PR Bool := fun s => (f s).bind fun b => if b then .ok true else g s
theorem ew_and1 (h : PTv X T W a ta) : PWv X T W (.BoolOp .And [a] pos) ta := pw_and1 h
theorem ew_or1 (h : PTv X T W a ta) : PWv X T W (.BoolOp .Or [a] pos) ta := pw_or1 h
theorem tT_seq {f g : Sta → PR Bool} {σ : L2.St} {H : Hp} {Q : Bool → Hp → Prop} {k : Sta → Bool → PR Bool} (h : tT X T W (fun s => (f s).bind fun b => k s b) σ H Q) :
    tT X T W f σ H fun b H1 => tT X T W (fun s => k s b) σ H1 Q := by
  obtain ⟨s, m, M, G, R, q⟩ := h
  refine ⟨s, m, M, G, R, ?_⟩
  revert q
  dsimp only
  unfold PR.bind
  cases f s with
  | ok b =>
    intro q H1 M1 g1
    refine ⟨s, m, M1, G, R.grow g1, ?_⟩
    revert q
    dsimp only
    cases k s b with
    | ok c => intro q H2 M2 g2; exact q H2 M2 (g1.trans g2)
    | exc e => intro q cls d H' M' g2 x; exact q cls d H' M' (g1.trans g2) x
    | stuck => intro q; exact q
  | exc e => intro q; exact q
  | stuck => intro q; exact q
theorem tT_ok {b : Bool} {σ : L2.St} {H : Hp} {Q : Bool → Hp → Prop} (h : tT X T W (fun _ => .ok b) σ H Q) : Q b H := by
  obtain ⟨s, m, M, G, R, q⟩ := h
  exact q H M (Grow.refl R.mh)
theorem ew_and {rest : List Expr} (ha : PTv X T W a ta) (hb : PWv X T W (.BoolOp .And (b :: rest) pos) tb) : PWv X T W (.BoolOp .And (a :: b :: rest) pos) (pAnd ta tb) := by
  refine PW.wk (pw_and ha hb) fun σ H Q h => ?_
  have h2 := tT_seq (f := ta) (g := tb) (k := fun s b => if b then tb s else .ok false) h
  obtain ⟨s, m, M, G, R, q⟩ := h2
  refine ⟨s, m, M, G, R, ?_⟩
  revert q
  cases ta s with
  | ok r =>
    intro q H1 M1 g1
    have q := q H1 M1 g1
    cases r with
    | true => exact q
    | false => exact tT_ok q
  | exc e => intro q; exact q
  | stuck => intro q; exact q
theorem ew_or {rest : List Expr} (ha : PTv X T W a ta) (hb : PWv X T W (.BoolOp .Or (b :: rest) pos) tb) : PWv X T W (.BoolOp .Or (a :: b :: rest) pos) (pOr ta tb) := by
  refine PW.wk (pw_or ha hb) fun σ H Q h => ?_
  have h2 := tT_seq (f := ta) (g := tb) (k := fun s b => if b then .ok true else tb s) h
  obtain ⟨s, m, M, G, R, q⟩ := h2
  refine ⟨s, m, M, G, R, ?_⟩
  revert q
  cases ta s with
  | ok r =>
    intro q H1 M1 g1
    have q := q H1 M1 g1
    cases r with
    | true => exact tT_ok q
    | false => exact q
  | exc e => intro q; exact q
  | stuck => intro q; exact q
theorem et_w (h : PWv X T W e ta) : PTv X T W e ta := PW.pt h

/-! ### and, or, not as values -/
def pAndV (f g : Sta → PR RV) : Sta → PR RV := fun s => (pB f s).bind fun b => if b then g s else .ok (sh (.bool false))
def pOrV (f g : Sta → PR RV) : Sta → PR RV := fun s => (pB f s).bind fun b => if b then .ok (sh (.bool true)) else g s
def pNotV (f : Sta → PR RV) : Sta → PR RV := fun s => (pB f s).bind fun b => .ok (sh (.bool (!b)))
theorem tV_seq {f : Sta → PR RV} {σ : L2.St} {H : Hp} {Q : VK} {k : Sta → Bool → PR RV} (h : tP X T W (fun s => (pB f s).bind fun b => k s b) σ H Q) :
    tP X T W f σ H fun x H1 => ∃ c, x = .bl c ∧ tP X T W (fun s => k s c) σ H1 Q := by
  refine tB_of ?_
  obtain ⟨s, m, M, G, R, q⟩ := h
  refine ⟨s, m, M, G, R, ?_⟩
  revert q
  dsimp only
  unfold PR.bind
  cases pB f s with
  | ok b =>
    intro q H1 M1 g1
    refine ⟨s, m, M1, G, R.grow g1, ?_⟩
    revert q
    dsimp only
    cases k s b with
    | ok c => intro q y H2 M2 g2 rr; exact q y H2 M2 (g1.trans g2) (rr.since g1.same)
    | exc e => intro q cls d H' M' g2 x; exact q cls d H' M' (g1.trans g2) x
    | stuck => intro q; exact q
  | exc e => intro q; exact q
  | stuck => intro q; exact q
theorem tP_ok {d : D} {v : V} {σ : L2.St} {H : Hp} {Q : VK} (h : tP X T W (fun _ => .ok (sh d)) σ H Q) (r : ∀ m M, DR X.K m M v d) : Q v H := by
  obtain ⟨s, m, M, G, R, q⟩ := h
  exact q v H M (Grow.refl R.mh) (r m M)
theorem ev_one {op : BoolOp} (h : PEv X T W a fa) : PEv X T W (.BoolOp op [a] pos) fa := pe_one h
theorem ev_and {rest : List Expr} (ha : PEv X T W a fa) (hb : PEv X T W (.BoolOp .And (b :: rest) pos) fb) : PEv X T W (.BoolOp .And (a :: b :: rest) pos) (pAndV fa fb) := by
  refine PE.wk (pe_and ha hb) fun σ H Q h => ?_
  have h2 := tV_seq (f := fa) (k := fun s b => if b then fb s else .ok (sh (.bool false))) h
  obtain ⟨s, m, M, G, R, q⟩ := h2
  refine ⟨s, m, M, G, R, ?_⟩
  revert q
  cases fa s with
  | ok r =>
    intro q y H1 M1 g1 rr
    obtain ⟨c, e1, q⟩ := q y H1 M1 g1 rr
    refine ⟨c, e1, ?_⟩
    cases c with
    | true => exact q
    | false => exact tP_ok q fun _ _ => .bl false
  | exc e => intro q; exact q
  | stuck => intro q; exact q
theorem ev_or {rest : List Expr} (ha : PEv X T W a fa) (hb : PEv X T W (.BoolOp .Or (b :: rest) pos) fb) : PEv X T W (.BoolOp .Or (a :: b :: rest) pos) (pOrV fa fb) := by
  refine PE.wk (pe_or ha hb) fun σ H Q h => ?_
  have h2 := tV_seq (f := fa) (k := fun s b => if b then .ok (sh (.bool true)) else fb s) h
  obtain ⟨s, m, M, G, R, q⟩ := h2
  refine ⟨s, m, M, G, R, ?_⟩
  revert q
  cases fa s with
  | ok r =>
    intro q y H1 M1 g1 rr
    obtain ⟨c, e1, q⟩ := q y H1 M1 g1 rr
    refine ⟨c, e1, ?_⟩
    cases c with
    | true => exact tP_ok q fun _ _ => .bl true
    | false => exact q
  | exc e => intro q; exact q
  | stuck => intro q; exact q
theorem ev_not (ha : PEv X T W a fa) : PEv X T W (.UnaryOp .Not a pos) (pNotV fa) := by
  refine PE.wk (pe_not ha) fun σ H Q h => ?_
  have h2 := tV_seq (f := fa) (k := fun s b => .ok (sh (.bool (!b)))) h
  obtain ⟨s, m, M, G, R, q⟩ := h2
  refine ⟨s, m, M, G, R, ?_⟩
  revert q
  cases fa s with
  | ok r =>
    intro q y H1 M1 g1 rr
    obtain ⟨c, e1, q⟩ := q y H1 M1 g1 rr
    exact ⟨c, e1, tP_ok q fun _ _ => .bl _⟩
  | exc e => intro q; exact q
  | stuck => intro q; exact q
/-- a if t else b -/
def pIf (t : Sta → PR Bool) (f g : Sta → PR RV) : Sta → PR RV := fun s => (t s).bind fun b => if b then f s else g s
theorem ev_if {t : Expr} (ht : PTv X T W t ta) (ha : PEv X T W a fa) (hb : PEv X T W b fb) : PEv X T W (.IfExp t a b pos) (pIf ta fa fb) := by
  refine PE.wk (pe_ifExp ht ha hb) ?_
  rintro σ H Q ⟨s, m, M, G, R, q⟩
  refine ⟨s, m, M, G, R, ?_⟩
  revert q
  unfold pIf PR.bind
  cases ta s with
  | ok r =>
    intro q H1 M1 g1
    have go : ∀ f : Sta → PR RV, (match f s with
        | .ok r => ∀ y H' M', Grow H M H' M' → RR X.K m M' H H' y r → Q y H'
        | .exc e => ∀ cls d H' M', Grow H M H' M' → ExR X.K T m M' H' e cls d → W cls d σ H'
        | .stuck => False) → tP X T W f σ H1 Q := fun f q => by
      refine ⟨s, m, M1, G, R.grow g1, ?_⟩
      revert q
      cases f s with
      | ok c => intro q y H2 M2 g2 rr; exact q y H2 M2 (g1.trans g2) (rr.since g1.same)
      | exc e => intro q cls d H' M' g2 x; exact q cls d H' M' (g1.trans g2) x
      | stuck => intro q; exact q
    cases r with
    | true => exact go fa q
    | false => exact go fb q
  | exc e => intro q; exact q
  | stuck => intro q; exact q
/-- a < b < c -/
def p3 (g g' : D → D → Option RV) (fa fb fc : Sta → PR RV) : Sta → PR RV := fun s => (fa s).bind fun x => (fb s).bind fun y => (PR.of (g x.d y.d)).bind fun r => (RV.bool r).bind fun k =>
  if k then (fc s).bind fun z => .of (g' y.d z.d) else .ok (sh (.bool false))
theorem ev_chain_r {r r' : R2} {g g' : D → D → Option RV} (h2 : R2Ok X.K r g) (h2' : R2Ok X.K r' g') {σ : L2.St} {H : Hp} {Q : VK} (h : tP X T W (p3 g g' fa fb fc) σ H Q) : tChain r r' (tP X T W fa) (tP X T W fb) (tP X T W fc) σ H Q := by
  obtain ⟨s, m, M, G, R, q⟩ := h
  refine ⟨s, m, M, G, R, ?_⟩
  revert q
  unfold p3 PR.bind
  cases fa s with
  | ok r1 =>
    intro q y1 H1 M1 g1 rr1
    refine ⟨s, m, M1, G, R.grow g1, ?_⟩
    revert q
    cases fb s with
    | ok r2 =>
      intro q y2 H2 M2 g2 rr2
      dsimp only at q
      cases hg : g r1.d r2.d with
      | none => simp only [hg, PR.of] at q
      | some res =>
        simp only [hg, PR.of] at q
        refine h2 m M2 H2 y1 y2 _ _ res _ g2.mh ((rr1.grow g2).arg) rr2.arg hg fun z H3 M3 g3 rr3 => ?_
        obtain ⟨k, d⟩ := res
        cases d <;> try (exact q.elim)
        rename_i kb
        refine ⟨kb, rr3.arg.bl, ?_⟩
        cases kb with
        | false =>
          rw [if_neg Bool.false_ne_true]
          exact q (.bl false) H3 M3 (g1.trans (g2.trans g3)) (.bl false)
        | true =>
          rw [if_pos rfl]
          refine ⟨s, m, M3, G, ((R.grow g1).grow g2).grow g3, ?_⟩
          simp only [RV.bool, if_true] at q
          revert q
          cases fc s with
          | ok r3 =>
            intro q y3 H4 M4 g4 rr4
            dsimp only at q
            cases hg' : g' r2.d r3.d with
            | none => simp only [hg', PR.of] at q
            | some res' =>
              simp only [hg', PR.of] at q
              refine h2' m M4 H4 y2 y3 _ _ res' Q g4.mh (((rr2.grow g3).grow g4).arg) rr4.arg hg' fun z H' M' g5 rr5 => ?_
              have gs := g1.trans (g2.trans (g3.trans g4))
              exact q z H' M' (gs.trans g5) (rr5.since gs.same)
          | exc e => intro q cls d H' M' g4 x; exact q cls d H' M' (g1.trans (g2.trans (g3.trans g4))) x
          | stuck => intro q; exact q
    | exc e => intro q cls d H' M' g2 x; exact q cls d H' M' (g1.trans g2) x
    | stuck => intro q; exact q
  | exc e => intro q; exact q
  | stuck => intro q; exact q
end

/-! ### argument lists -/
section
variable {X : Cx} {T : Tab} {W : WX} {a b c e : Expr} {es : List Expr} {pos p : Pos} {fa fb fc : Sta → PR RV}
def pNil {α : Type} : Sta → PR (List α) := fun _ => .ok []
def pCons {α : Type} (f : Sta → PR α) (fs : Sta → PR (List α)) : Sta → PR (List α) := fun s => (f s).bind fun x => (fs s).bind fun xs => .ok (x :: xs)
theorem as_nil : PAs X T W [] pNil := PA.wk pa_nil fun σ H Q ⟨s, m, M, G, R, q⟩ => q [] H M (Grow.refl R.mh) .nil
theorem ar_nil : PAr X T W [] pNil := PA.wk pa_nil fun σ H Q ⟨s, m, M, G, R, q⟩ => q [] H M (Grow.refl R.mh) .nil
theorem as_cons {f : Sta → PR D} {fs : Sta → PR (List D)} (ha : PDv X T W e f) (hr : PAs X T W es fs) (hs : starEach (e :: es) X.env = (false, eval e X.env) :: starEach es X.env := by rfl) : PAs X T W (e :: es) (pCons f fs) := by
  refine PA.wk (pa_cons ha hr hs) ?_
  rintro σ H Q ⟨s, m, M, G, R, q⟩
  refine ⟨s, m, M, G, R, ?_⟩
  revert q
  unfold pCons PR.bind
  cases f s with
  | ok x =>
    intro q y H1 M1 g1 r1
    refine ⟨s, m, M1, G, R.grow g1, ?_⟩
    revert q
    cases fs s with
    | ok xs => intro q ys H2 M2 g2 r2; exact q (y :: ys) H2 M2 (g1.trans g2) (.cons (r1.up g2.mm) r2)
    | exc e => intro q cls d H' M' g2 x; exact q cls d H' M' (g1.trans g2) x
    | stuck => intro q; exact q
  | exc e => intro q; exact q
  | stuck => intro q; exact q
theorem ar_cons {f : Sta → PR RV} {fs : Sta → PR (List RV)} (ha : PEv X T W e f) (hr : PAr X T W es fs) (hs : starEach (e :: es) X.env = (false, eval e X.env) :: starEach es X.env := by rfl) : PAr X T W (e :: es) (pCons f fs) := by
  refine PA.wk (pa_cons ha hr hs) ?_
  rintro σ H Q ⟨s, m, M, G, R, q⟩
  refine ⟨s, m, M, G, R, ?_⟩
  revert q
  unfold pCons PR.bind
  cases f s with
  | ok x =>
    intro q y H1 M1 g1 r1
    refine ⟨s, m, M1, G, R.grow g1, ?_⟩
    revert q
    cases fs s with
    | ok xs => intro q ys H2 M2 g2 r2; exact q (y :: ys) H2 M2 (g1.trans g2) (.cons (r1.grow g2) (Paired.mapP r2 fun _ _ z => z.since g1.same))
    | exc e => intro q cls d H' M' g2 x; exact q cls d H' M' (g1.trans g2) x
    | stuck => intro q; exact q
  | exc e => intro q; exact q
  | stuck => intro q; exact q

/-! ### displays -/
def pTup (fs : Sta → PR (List D)) : Sta → PR RV := fun s => (fs s).bind fun ds => if ds.length ≤ 1000 then .ok (sh (.tup ds)) else .stuck
def pLst (fs : Sta → PR (List D)) : Sta → PR RV := fun s => (fs s).bind fun ds => if ds.length ≤ 1000 then .ok (fr (.list ds)) else .stuck
theorem ev_tup {fs : Sta → PR (List D)} {x1} (h : PAs X T W es fs) : PEv X T W (.Tuple es x1 pos) (pTup fs) := by
  refine PE.wk (pe_tup h) ?_
  rintro σ H Q ⟨s, m, M, G, R, q⟩
  refine ⟨s, m, M, G, R, ?_⟩
  revert q
  unfold pTup PR.bind
  cases fs s with
  | ok ds =>
    intro q ys H1 M1 g1 r1
    dsimp only at q
    by_cases hl : ds.length ≤ 1000
    · rw [if_pos hl] at q
      refine ⟨by rw [r1.length]; exact le_line (by omega), fun p hp => ?_⟩
      have gs := Grow.share (o := .tup ys) g1.mh hp
      exact q _ _ _ (g1.trans gs) (.tup (SqT.of upd_same) (r1.up gs.mm))
    · rw [if_neg hl] at q
      exact q.elim
  | exc e => intro q; exact q
  | stuck => intro q; exact q
theorem ev_lst {fs : Sta → PR (List D)} (h : PAs X T W es fs) : PEv X T W (.List es pos) (pLst fs) := by
  refine PE.wk (pe_lst h) ?_
  rintro σ H Q ⟨s, m, M, G, R, q⟩
  refine ⟨s, m, M, G, R, ?_⟩
  revert q
  unfold pLst PR.bind
  cases fs s with
  | ok ds =>
    intro q ys H1 M1 g1 r1
    dsimp only at q
    by_cases hl : ds.length ≤ 1000
    · rw [if_pos hl] at q
      refine ⟨by rw [r1.length]; exact le_line (by omega), fun p hp => ?_⟩
      have gs := Grow.fresh (o := .lst ys) g1.mh hp
      exact q _ _ _ (g1.trans gs) ⟨p, _, rfl, upd_same, .lst r1, g1.mh.free hp, g1.same.free hp⟩
    · rw [if_neg hl] at q
      exact q.elim
  | exc e => intro q; exact q
  | stuck => intro q; exact q

/-! ### subscripts -/
def gIx : D → D → Option RV
  | .str z, .int i => if z.length ≤ 16777216 then (atI z.cps.toList i).map fun c => sh (.str ⟨#[c]⟩) else none
  | d, .int i => (seqOf d).bind fun ds => (atI ds i).map sh
  | _, _ => none
theorem DRs.atI {K : PySem.W.Frag} {m : List Addr} {H : Hp} {vs : List V} {ds : List D} {i : Int} {d : D} (h : DRs K m H vs ds) (e : L2.atI ds i = some d) : ∃ v, L2.atI vs i = some v ∧ DR K m H v d := by
  unfold L2.atI at e ⊢
  rw [h.length]
  cases hj : ixN ds.length i with
  | none => rw [hj] at e; cases e
  | some j =>
    rw [hj] at e
    exact h.get e
theorem ok_ix : R2Ok X.K (rIx X.K) gIx := by
  intro m M H x y d1 d2 res Q s a1 a2 e k
  have gen : ∀ (i : Int), d2 = .int i → ((seqOf d1).bind fun ds => (L2.atI ds i).map sh) = some res → rIx X.K x y H Q := fun i e2 e3 => by
    subst e2
    cases hs : seqOf d1 with
    | none => rw [hs] at e3; cases e3
    | some ds =>
      rw [hs] at e3
      cases ha : L2.atI ds i with
      | none => simp [ha] at e3
      | some d =>
        simp only [Option.bind_some, ha, Option.map_some, Option.some.injEq] at e3
        subst e3
        obtain ⟨a, xs, rfl, h1, r1⟩ := a1.seq hs s
        obtain ⟨v, hv, rv⟩ := r1.atI ha
        have q := k v H M (Grow.refl s) rv
        rcases h1 with h1 | h1
        · exact .inl ⟨a, xs, i, v, rfl, a2.int, h1, hv, q⟩
        · exact .inr (.inl ⟨a, xs, i, v, rfl, a2.int, h1, hv, q⟩)
  unfold gIx at e
  split at e
  · rename_i z i
    by_cases hl : z.length ≤ 16777216
    · rw [if_pos hl] at e
      cases hc : L2.atI z.cps.toList i with
      | none => rw [hc] at e; cases e
      | some c =>
        rw [hc] at e
        cases e
        exact .inr (.inr ⟨z, i, c, a1.str, a2.int, le_line hl, hc, k _ H M (Grow.refl s) (.str _)⟩)
    · rw [if_neg hl] at e
      cases e
  · exact gen _ rfl e
  · cases e
theorem ev_ix (ha : PEv X T W a fa) (hb : PEv X T W b fb) (hs : PlainIx b) : PEv X T W (.Subscript a b pos) (p2 gIx fa fb) :=
  PE.wk (pe_ix ix_seq ha hb hs) fun σ H Q h => tOp_of ok_ix h

/-! ### slices -/
def tO (X : Cx) (T : Tab) (W : WX) (f : Sta → PR (Option Int)) : TO := fun σ H Q => ∃ s m M G, Rel X.K T m M G H s σ ∧ match f s with
  | .ok o => ∀ H' M', Grow H M H' M' → Q o H'
  | .exc e => ∀ cls d H' M', Grow H M H' M' → ExR X.K T m M' H' e cls d → W cls d σ H'
  | .stuck => False
abbrev POv (X : Cx) (T : Tab) (W : WX) (e : Option Expr) (f : Sta → PR (Option Int)) : Prop := PO X e (tO X T W f)
theorem PO.wk {X : Cx} {e : Option Expr} {t t' : TO} (h : PO X e t) (w : ∀ σ H Q, t' σ H Q → t σ H Q) : PO X e t' := ⟨fun pins s σ H Q I q => h.run pins s σ H Q I (w _ _ _ q)⟩
def pNo : Sta → PR (Option Int) := fun _ => .ok none
def RV.int (r : RV) : PR Int := match r.d with
  | .int i => .ok i
  | _ => .stuck
def pSome (f : Sta → PR RV) : Sta → PR (Option Int) := fun s => (f s).bind fun r => (RV.int r).bind fun i => .ok (some i)
theorem eo_none : POv X T W none pNo := PO.wk po_none fun σ H Q ⟨s, m, M, G, R, q⟩ => q H M (Grow.refl R.mh)
theorem eo_some (h : PEv X T W e fa) : POv X T W (some e) (pSome fa) := by
  refine PO.wk (po_some h) ?_
  rintro σ H Q ⟨s, m, M, G, R, q⟩
  refine ⟨s, m, M, G, R, ?_⟩
  revert q
  unfold pSome PR.bind
  cases fa s with
  | ok r =>
    intro q y H1 M1 g1 rr
    obtain ⟨k, d⟩ := r
    cases d <;> try (exact q.elim)
    rename_i i
    exact ⟨i, rr.arg.int, q H1 M1 g1⟩
  | exc e => intro q; exact q
  | stuck => intro q; exact q
def cutD {α : Type} (xs : List α) (lo hi : Option Int) : List α := (xs.drop (HT.sIx xs.length 0 lo)).take (HT.sIx xs.length xs.length hi - HT.sIx xs.length 0 lo)
theorem cutV_eq (xs : List V) (lo hi : Option Int) : cutV xs lo hi = cutD xs lo hi := rfl
theorem DRs.cut {K : PySem.W.Frag} {m : List Addr} {H : Hp} {vs : List V} {ds : List D} (h : DRs K m H vs ds) (lo hi : Option Int) : DRs K m H (cutV vs lo hi) (cutD ds lo hi) := by
  unfold cutV cutD
  rw [h.length]
  exact (h.drop _).take _
theorem cutD_whole {α : Type} (xs : List α) (lo hi : Option Int) (h : HT.sIx xs.length 0 lo = 0 ∧ HT.sIx xs.length xs.length hi = xs.length) : cutD xs lo hi = xs := by
  unfold cutD
  rw [h.1, h.2]
  simp
def gSl : D → Option Int → Option Int → Option RV
  | .list ds, lo, hi => some (fr (.list (cutD ds lo hi)))
  | .lk ds, lo, hi => some (fr (.list (cutD ds lo hi)))
  | .tup ds, lo, hi => some (sh (.tup (cutD ds lo hi)))
  | .str z, lo, hi => if z.length ≤ 16777216 then some (sh (.str (cutS z lo hi))) else none
  | _, _, _ => none
def rSlice (K : PySem.W.Frag) : V → Option Int → Option Int → Hp → VK → Prop := fun x lo hi H Q => rSlL K x lo hi H Q ∨ (rSlA K x lo hi H Q ∨ rSlS x lo hi H Q)
theorem ok_sl {m : List Addr} {M H : Hp} {x : V} {d : D} {lo hi : Option Int} {res : RV} {Q : VK} (s : Same M H) (a1 : Arg X.K m M H x d) (e : gSl d lo hi = some res)
    (k : ∀ z H' M', Grow H M H' M' → RR X.K m M' H H' z res → Q z H') : rSlice X.K x lo hi H Q := by
  have lst : ∀ (a : Addr) (xs : List V) (ds : List D), x = .ref a → SqL X.K H a xs → DRs X.K m M xs ds → res = fr (.list (cutD ds lo hi)) → rSlice X.K x lo hi H Q := fun a xs ds e1 h1 r1 e2 => by
    subst e1 e2
    refine .inl ⟨a, xs, rfl, h1, fun p hp => ?_⟩
    exact k _ _ M (Grow.fresh s hp) ⟨p, _, rfl, upd_same, .lst (r1.cut lo hi), s.free hp, hp⟩
  cases d <;> try (cases e; done)
  · rename_i z
    dsimp only [gSl] at e
    by_cases hl : z.length ≤ 16777216
    · rw [if_pos hl] at e
      cases e
      exact .inr (.inr ⟨z, a1.str, le_line hl, k _ H M (Grow.refl s) (.str _)⟩)
    · rw [if_neg hl] at e
      cases e
  · rename_i ds
    cases e
    obtain ⟨a, xs, h0, h1, r1⟩ := a1.list s
    exact lst a xs ds h0 (SqL.of h1) r1 rfl
  · rename_i ds
    cases e
    obtain ⟨a, xs, h0, h1, r1⟩ := a1.lk s
    exact lst a xs ds h0 h1 r1 rfl
  · rename_i ds
    cases e
    obtain ⟨a, xs, rfl, h1, r1, r0⟩ := a1.tup s
    refine .inr (.inl ⟨a, xs, rfl, h1, fun hw => ?_, fun _ p hp => ?_⟩)
    · rw [r1.length] at hw
      exact k _ H M (Grow.refl s) (show DR X.K m M (.ref a) (.tup (cutD ds lo hi)) from by rw [cutD_whole ds lo hi hw]; exact r0)
    · have gs := Grow.share (o := .tup (cutV xs lo hi)) s hp
      exact k _ _ _ gs (.tup (SqT.of upd_same) ((r1.cut lo hi).up gs.mm))
def pSl (fa : Sta → PR RV) (lo hi : Sta → PR (Option Int)) : Sta → PR RV := fun s => (fa s).bind fun x => (lo s).bind fun l => (hi s).bind fun u => .of (gSl x.d l u)
theorem ev_sl {lo hi : Option Expr} {fl fh : Sta → PR (Option Int)} {p2 : Pos} (ha : PEv X T W e fa) (hl : POv X T W lo fl) (hh : POv X T W hi fh) : PEv X T W (.Subscript e (.Slice lo hi none p2) pos) (pSl fa fl fh) := by
  refine PE.wk (pe_slice (sl_list.or (sl_tupA.or sl_str)) ha hl hh) ?_
  rintro σ H Q ⟨s, m, M, G, R, q⟩
  refine ⟨s, m, M, G, R, ?_⟩
  revert q
  unfold pSl PR.bind
  cases fa s with
  | ok r1 =>
    intro q y1 H1 M1 g1 rr1
    refine ⟨s, m, M1, G, R.grow g1, ?_⟩
    revert q
    cases fl s with
    | ok l =>
      intro q H2 M2 g2
      refine ⟨s, m, M2, G, (R.grow g1).grow g2, ?_⟩
      revert q
      cases fh s with
      | ok u =>
        intro q H3 M3 g3
        dsimp only at q
        cases hg : gSl r1.d l u with
        | none => simp only [hg, PR.of] at q
        | some res =>
          simp only [hg, PR.of] at q
          have gs := g1.trans (g2.trans g3)
          exact ok_sl g3.mh ((rr1.grow g2).grow g3).arg hg fun z H' M' g4 rr4 => q z H' M' (gs.trans g4) (rr4.since gs.same)
      | exc e => intro q cls d H' M' g3 x; exact q cls d H' M' (g1.trans (g2.trans g3)) x
      | stuck => intro q; exact q
    | exc e => intro q cls d H' M' g2 x; exact q cls d H' M' (g1.trans g2) x
    | stuck => intro q; exact q
  | exc e => intro q; exact q
  | stuck => intro q; exact q

/-! ### built-in calls -/
def CallOk (X : Cx) (v : Value) (g : List D → Option RV) : Prop := ∃ r, CallR X v r ∧ ∀ m M H ys ds res Q, Same M H → Paired (Arg X.K m M H) ys ds → g ds = some res →
  (∀ z H' M', Grow H M H' M' → RR X.K m M' H H' z res → Q z H') → r ys H Q
theorem CallOk.or {v : Value} {g g' : List D → Option RV} (h : CallOk X v g) (h' : CallOk X v g') : CallOk X v (fun a => (g a).or (g' a)) := by
  obtain ⟨r, h1, h2⟩ := h
  obtain ⟨r', h1', h2'⟩ := h'
  refine ⟨_, h1.or h1', fun m M H ys ds res Q s a e k => ?_⟩
  dsimp only at e
  cases hg : g ds with
  | some z =>
    rw [hg] at e
    have e' : z = res := Option.some.inj e
    subst e'
    exact .inl (h2 m M H ys ds z Q s a hg k)
  | none =>
    rw [hg] at e
    exact .inr (h2' m M H ys ds res Q s a e k)
def pCall (g : List D → Option RV) (fs : Sta → PR (List RV)) : Sta → PR RV := fun s => (fs s).bind fun rs => .of (g (rs.map RV.d))
theorem args_of {K : PySem.W.Frag} {m : List Addr} {M H0 H : Hp} : ∀ {ys : List V} {rs : List RV}, Paired (RR K m M H0 H) ys rs → Paired (Arg K m M H) ys (rs.map RV.d)
  | _, _, .nil => .nil
  | _, _, .cons r t => .cons r.arg (args_of t)
theorem tCB_of {v : Value} {g : List D → Option RV} {fs : Sta → PR (List RV)} {r : List V → Hp → VK → Prop} (h2 : ∀ m M H ys ds res Q, Same M H → Paired (Arg X.K m M H) ys ds → g ds = some res →
    (∀ z H' M', Grow H M H' M' → RR X.K m M' H H' z res → Q z H') → r ys H Q) {σ : L2.St} {H : Hp} {Q : VK} (h : tP X T W (pCall g fs) σ H Q) : tCB r (tAr X T W fs) σ H Q := by
  obtain ⟨s, m, M, G, R, q⟩ := h
  refine ⟨s, m, M, G, R, ?_⟩
  revert q
  unfold pCall PR.bind
  cases fs s with
  | ok rs =>
    intro q ys H1 M1 g1 rr
    dsimp only at q
    cases hg : g (rs.map RV.d) with
    | none => simp only [hg, PR.of] at q
    | some res =>
      simp only [hg, PR.of] at q
      exact h2 m M1 H1 ys _ res Q g1.mh (args_of rr) hg fun z H' M' g2 rr2 => q z H' M' (g1.trans g2) (rr2.since g1.same)
  | exc e => intro q; exact q
  | stuck => intro q; exact q
theorem ev_callB {x : Str} {id : String} {g : List D → Option RV} {fs : Sta → PR (List RV)} (hc : CallOk X (.builtin id) g) (hg : Gl X x) (hm : X.mg x = none) (hv : bootBuiltins x = some (.builtin id)) (ha : PAr X T W (e :: es) fs)
    (hn : x ≠ "__name__" := by decide) (hdb : (x == ("__debug__" : Str)) = false := by decide)
    (he : starEach (e :: es) X.env = (false, eval e X.env) :: starEach es X.env := by rfl) (hpl : (backTo pos (starEach es X.env)).any (·.1) = false := by rfl) :
    PEv X T W (.Call (.Name x p) (e :: es) [] pos) (pCall g fs) := by
  obtain ⟨r, h1, h2⟩ := hc
  exact PE.wk (pe_callB h1 hg hm hv ha hn hdb he hpl) fun σ H Q h => tCB_of (v := .builtin id) h2 h
theorem ev_callTy {x : Str} {id : String} {g : List D → Option RV} {fs : Sta → PR (List RV)} (hc : CallOk X (.type id) g) (hg : Gl X x) (hm : X.mg x = none) (hv : bootBuiltins x = some (.type id)) (ha : PAr X T W (e :: es) fs)
    (hn : x ≠ "__name__" := by decide) (hdb : (x == ("__debug__" : Str)) = false := by decide)
    (he : starEach (e :: es) X.env = (false, eval e X.env) :: starEach es X.env := by rfl) (hpl : (backTo pos (starEach es X.env)).any (·.1) = false := by rfl) :
    PEv X T W (.Call (.Name x p) (e :: es) [] pos) (pCall g fs) := by
  obtain ⟨r, h1, h2⟩ := hc
  exact PE.wk (pe_callTy h1 hg hm hv ha hn hdb he hpl) fun σ H Q h => tCB_of (v := .type id) h2 h
def gLen : List D → Option RV
  | [.str z] => if z.length ≤ 16777216 then some (sh (.int z.length)) else none
  | [d] => (seqOf d).map fun ds => sh (.int ds.length)
  | _ => none
theorem ok_len : CallOk X (.builtin "len") gLen := by
  refine ⟨_, call_len_str.or call_len_seq, fun m M H ys ds res Q s a e k => ?_⟩
  unfold gLen at e
  split at e
  · rename_i z
    cases a with
    | cons a1 an =>
      cases an
      by_cases hl : z.length ≤ 16777216
      · rw [if_pos hl] at e
        cases e
        exact .inl ⟨z, by rw [a1.str], le_line hl, k _ H M (Grow.refl s) (.int _)⟩
      · rw [if_neg hl] at e
        cases e
  · rename_i d _
    cases a with
    | cons a1 an =>
      cases an
      cases hs : seqOf d with
      | none => rw [hs] at e; cases e
      | some ds =>
        rw [hs] at e
        cases e
        obtain ⟨p, xs, rfl, h1, r1⟩ := a1.seq hs s
        refine .inr ⟨p, xs, rfl, h1, ?_⟩
        rw [r1.length]
        exact k _ H M (Grow.refl s) (.int _)
  · cases e
def gMax : List D → Option RV
  | [.int i, .int j] => some (sh (.int (if j > i then j else i)))
  | _ => none
def gMin : List D → Option RV
  | [.int i, .int j] => some (sh (.int (if j < i then j else i)))
  | _ => none
theorem ok_max (hc : X.calm = true) : CallOk X (.builtin "max") gMax := by
  refine ⟨_, call_max2 hc, fun m M H ys ds res Q s a e k => ?_⟩
  unfold gMax at e
  split at e
  · cases e
    cases a with
    | cons a1 an => cases an with
      | cons a2 an =>
        cases an
        exact ⟨_, _, by rw [a1.int, a2.int], k _ H M (Grow.refl s) (.int _)⟩
  · cases e
theorem ok_min (hc : X.calm = true) : CallOk X (.builtin "min") gMin := by
  refine ⟨_, call_min2 hc, fun m M H ys ds res Q s a e k => ?_⟩
  unfold gMin at e
  split at e
  · cases e
    cases a with
    | cons a1 an => cases an with
      | cons a2 an =>
        cases an
        exact ⟨_, _, by rw [a1.int, a2.int], k _ H M (Grow.refl s) (.int _)⟩
  · cases e
def gList : List D → Option RV
  | [d] => (seqOf d).map fun ds => fr (.list ds)
  | _ => none
theorem ok_list : CallOk X (.type "list") gList := by
  refine ⟨_, call_list_of, fun m M H ys ds res Q s a e k => ?_⟩
  unfold gList at e
  split at e
  · rename_i d
    cases a with
    | cons a1 an =>
      cases an
      cases hs : seqOf d with
      | none => rw [hs] at e; cases e
      | some ds =>
        rw [hs] at e
        cases e
        obtain ⟨p, xs, rfl, h1, r1⟩ := a1.seq hs s
        refine ⟨p, xs, rfl, h1, fun l hl => ?_⟩
        exact k _ _ M (Grow.fresh s hl) ⟨l, _, rfl, upd_same, .lst r1, s.free hl, hl⟩
  · cases e
def gTuple : List D → Option RV
  | [d] => (seqOf d).map fun ds => sh (.tup ds)
  | _ => none
theorem ok_tuple : CallOk X (.type "tuple") gTuple := by
  refine ⟨_, call_tuple_of, fun m M H ys ds res Q s a e k => ?_⟩
  unfold gTuple at e
  split at e
  · rename_i d
    cases a with
    | cons a1 an =>
      cases an
      have lst : ∀ (p : Addr) (xs : List V) (ds : List D), SqL X.K H p xs → DRs X.K m M xs ds → res = sh (.tup ds) → ∀ l, H l = Option.none → Q (.ref l) (upd H l (.tup xs)) := fun p xs ds h1 r1 e2 l hl => by
        subst e2
        have gs := Grow.share (o := .tup xs) s hl
        exact k _ _ _ gs (.tup (SqT.of upd_same) (r1.up gs.mm))
      cases d <;> try (cases e; done)
      · rename_i ds
        cases e
        obtain ⟨p, xs, rfl, h1, r1⟩ := a1.list s
        exact ⟨p, xs, rfl, .inl ⟨SqL.of h1, lst p xs ds (SqL.of h1) r1 rfl⟩⟩
      · rename_i ds
        cases e
        obtain ⟨p, xs, rfl, h1, r1⟩ := a1.lk s
        exact ⟨p, xs, rfl, .inl ⟨h1, lst p xs ds h1 r1 rfl⟩⟩
      · rename_i ds
        cases e
        obtain ⟨p, xs, rfl, h1, r1, r0⟩ := a1.tup s
        exact ⟨p, xs, rfl, .inr ⟨h1, k _ H M (Grow.refl s) r0⟩⟩
  · cases e
end

/-! ### what is walked -/
/-- an iterator that yields what ds are, where M0 stands (and B, for a comprehension) -/
def ItOk (K : PySem.W.Frag) (m : List Addr) (J : It) (ds : List D) (M0 B : Hp) : Prop := ∀ (i : Nat) (M H : Hp), Same M0 M → Same M H → Same B H →
  (∀ d, ds[i]? = some d → J.go i H ∧ ∀ x H', J.yld i H x H' → ∃ M', Grow H M H' M' ∧ DR K m M' x d) ∧ (ds.length ≤ i → J.stop i H)
section
variable (X : Cx) (T : Tab) (W : WX)
def tI (f : Sta → PR (List D)) : TI := fun σ H R => ∃ s m M G, Rel X.K T m M G H s σ ∧ match f s with
  | .ok ds => ∀ J H' M', Grow H M H' M' → ItOk X.K m J ds M' (fun _ => Option.none) → R J H'
  | .exc e => ∀ cls d H' M', Grow H M H' M' → ExR X.K T m M' H' e cls d → W cls d σ H'
  | .stuck => False
def tIc (f : Sta → PR (List D)) : TI := fun σ H R => ∃ s m M G, Rel X.K T m M G H s σ ∧ match f s with
  | .ok ds => ∀ J H' M', Grow H M H' M' → ItOk X.K m J ds M' H' → R J H'
  | .exc e => ∀ cls d H' M', Grow H M H' M' → ExR X.K T m M' H' e cls d → W cls d σ H'
  | .stuck => False
abbrev PIv (tg iter : Expr) (f : Sta → PR (List D)) : Prop := PI X tg iter (tI X T W f)
abbrev PIc (tg iter : Expr) (f : Sta → PR (List D)) : Prop := PI X tg iter (tIc X T W f)
end
theorem PI.wk {X : Cx} {tg e : Expr} {t t' : TI} (h : PI X tg e t) (w : ∀ σ H Q, t' σ H Q → t σ H Q) : PI X tg e t' := ⟨fun pins s σ H Q I q => h.run pins s σ H Q I (w _ _ _ q)⟩
section
variable {X : Cx} {T : Tab} {W : WX} {a b c e tg iter : Expr} {es : List Expr} {pos p : Pos} {fa fb fc : Sta → PR RV}
theorem Same.none (H : Hp) : Same (fun _ => Option.none) H := fun _ _ h => nomatch h
theorem ic_of {f : Sta → PR (List D)} (h : PIv X T W tg iter f) : PIc X T W tg iter f := by
  refine PI.wk h ?_
  rintro σ H Q ⟨s, m, M, G, R, q⟩
  refine ⟨s, m, M, G, R, ?_⟩
  revert q
  cases f s with
  | ok ds => intro q J H' M' g ok; exact q J H' M' g fun i M H a b _ => ok i M H a b (Same.none _)
  | exc e => intro q; exact q
  | stuck => intro q; exact q
/-- a list or a tuple that is walked -/
def iSeq (K : PySem.W.Frag) (tl : TE) : TI := fun σ H R => tl σ H fun x H1 => ∃ a, x = .ref a ∧ (((∃ xs, SqL K H1 a xs) ∧ R (Itl K a) H1) ∨ ((∃ xs, SqT K H1 a xs) ∧ R (Itt K a) H1))
theorem pi_seq {l : Expr} {tl : TE} (hl : PE X l tl) : PI X tg l (iSeq X.K tl) := by
  refine ⟨fun pins s σ H R I h => ?_⟩
  refine thn (hl.run pins s σ H _ I h) fun v s1 ⟨x, H1, I1, r1, q1⟩ => ?_
  obtain ⟨a, e, q⟩ := q1
  subst e
  cases r1
  rcases q with ⟨⟨xs, hq⟩, q⟩ | ⟨⟨xs, hq⟩, q⟩
  · obtain ⟨its, rv, p, hz⟩ := I1.list hq
    refine wpAny_pyIter_list p.isList ?_
    refine ⟨s1.heap.objs.size, [s1.heap.objs.size], _, _, H1, rfl, I1.kept (t' := s1.toks) fun b o e => Heap.get?_push_of_some _ e, turn_list a _, ⟨_, Heap.get?_push_size _ rfl, rfl, rfl⟩, fun b hb => ?_, q⟩
    have e : b = s1.heap.objs.size := by simpa using hb
    subst e
    exact I1.fpOk (Nat.le_refl _) (I1.hok.fresh (Nat.le_refl _))
  · obtain ⟨its, rv, p, hz⟩ := I1.tuple hq
    refine wpAny_pyIter_tuple (show s1.heap.IsTuple a its.toArray from p) ?_
    refine ⟨s1.heap.objs.size, [s1.heap.objs.size], _, _, H1, rfl, I1.kept (t' := s1.toks) fun b o e => Heap.get?_push_of_some _ e, turn_tuple a _, ⟨_, Heap.get?_push_size _ rfl, rfl, rfl⟩, fun b hb => ?_, q⟩
    have e : b = s1.heap.objs.size := by simpa using hb
    subst e
    exact I1.fpOk (Nat.le_refl _) (I1.hok.fresh (Nat.le_refl _))
theorem itl_ok {K : PySem.W.Frag} {m : List Addr} {a' : Addr} {xs : List V} {ds : List D} {M0 B : Hp} (h : ∀ M H, Same M0 M → Same M H → Same B H → SqL K H a' xs) (r : DRs K m M0 xs ds) : ItOk K m (Itl K a') ds M0 B := by
  intro i M H s1 s2 s3
  refine ⟨fun d e => ?_, fun hl => ⟨xs, h M H s1 s2 s3, by rw [r.length]; exact hl⟩⟩
  obtain ⟨v, hv, rv⟩ := r.get e
  refine ⟨⟨xs, v, h M H s1 s2 s3, hv⟩, fun x H' y => ?_⟩
  obtain ⟨rfl, y⟩ := y
  have := y xs (h M H' s1 s2 s3)
  rw [hv] at this
  cases this
  exact ⟨M, Grow.refl s2, rv.up s1⟩
theorem itt_ok {K : PySem.W.Frag} {m : List Addr} {a' : Addr} {xs : List V} {ds : List D} {M0 B : Hp} (h : ∀ M H, Same M0 M → Same M H → Same B H → SqT K H a' xs) (r : DRs K m M0 xs ds) : ItOk K m (Itt K a') ds M0 B := by
  intro i M H s1 s2 s3
  refine ⟨fun d e => ?_, fun hl => ⟨xs, h M H s1 s2 s3, by rw [r.length]; exact hl⟩⟩
  obtain ⟨v, hv, rv⟩ := r.get e
  refine ⟨⟨xs, v, h M H s1 s2 s3, hv⟩, fun x H' y => ?_⟩
  obtain ⟨rfl, y⟩ := y
  have := y xs (h M H' s1 s2 s3)
  rw [hv] at this
  cases this
  exact ⟨M, Grow.refl s2, rv.up s1⟩
def pSeq (f : Sta → PR D) : Sta → PR (List D) := fun s => (f s).bind fun d => .of (seqOf d)
theorem iv_seq {f : Sta → PR D} (h : PDv X T W iter f) : PIv X T W tg iter (pSeq f) := by
  refine PI.wk (pi_seq h) ?_
  rintro σ H R ⟨s, m, M, G, Rl, q⟩
  refine ⟨s, m, M, G, Rl, ?_⟩
  revert q
  unfold pSeq PR.bind
  cases f s with
  | ok d =>
    intro q y H' M' g r
    dsimp only at q
    cases hs : seqOf d with
    | none => simp only [hs, PR.of] at q
    | some ds =>
      simp only [hs, PR.of] at q
      cases d <;> try (cases hs; done)
      · cases hs
        cases r with
        | list h1 h2 => exact ⟨_, rfl, .inl ⟨⟨_, SqL.of (g.mh _ _ h1)⟩, q _ H' M' g (itl_ok (fun M H a b _ => SqL.of (b _ _ (a _ _ h1))) h2)⟩⟩
      · cases hs
        cases r with
        | lk h1 h2 => exact ⟨_, rfl, .inl ⟨⟨_, g.mh.seq h1⟩, q _ H' M' g (itl_ok (fun M H a b _ => b.seq (a.seq h1)) h2)⟩⟩
      · cases hs
        cases r with
        | tup h1 h2 => exact ⟨_, rfl, .inr ⟨⟨_, Same.seqT g.mh h1⟩, q _ H' M' g (itt_ok (fun M H a b _ => Same.seqT b (Same.seqT a h1)) h2)⟩⟩
  | exc e => intro q; exact q
  | stuck => intro q; exact q
def pSeqR (f : Sta → PR RV) : Sta → PR (List D) := fun s => (f s).bind fun r => .of (seqOf r.d)
theorem ic_seq (h : PEv X T W iter fa) : PIc X T W tg iter (pSeqR fa) := by
  refine PI.wk (pi_seq h) ?_
  rintro σ H R ⟨s, m, M, G, Rl, q⟩
  refine ⟨s, m, M, G, Rl, ?_⟩
  revert q
  unfold pSeqR PR.bind
  cases fa s with
  | ok r =>
    intro q y H' M' g rr
    dsimp only at q
    cases hs : seqOf r.d with
    | none => simp only [hs, PR.of] at q
    | some ds =>
      simp only [hs, PR.of] at q
      obtain ⟨a, xs, rfl, h1, r1⟩ := rr.arg.seq hs g.mh
      rcases h1 with h1 | h1
      · exact ⟨a, rfl, .inl ⟨⟨_, h1⟩, q _ H' M' g (itl_ok (fun M H _ _ c => c.seq h1) r1)⟩⟩
      · exact ⟨a, rfl, .inr ⟨⟨_, h1⟩, q _ H' M' g (itt_ok (fun M H _ _ c => Same.seqT c h1) r1)⟩⟩
  | exc e => intro q; exact q
  | stuck => intro q; exact q
/-- range -/
def rng (i j : Int) : List D := (List.range (j - i).toNat).map fun k => D.int (i + (k : Nat))
theorem itr_ok {K : PySem.W.Frag} {m : List Addr} {i j : Int} {M0 B : Hp} : ItOk K m (Itr i (j - i).toNat) (rng i j) M0 B := by
  intro k M H s1 s2 s3
  have hl : (rng i j).length = (j - i).toNat := by simp [rng]
  refine ⟨fun d e => ?_, fun hk => by rw [hl] at hk; exact hk⟩
  have hk : k < (j - i).toNat := by rw [← hl]; exact (List.getElem?_eq_some_iff.mp e).1
  refine ⟨hk, fun x H' y => ?_⟩
  obtain ⟨rfl, rfl⟩ := y
  have : d = .int (i + (k : Nat)) := by
    rw [rng, List.getElem?_map, List.getElem?_range hk] at e
    exact (Option.some.inj e).symm
  subst this
  exact ⟨M, Grow.refl s2, .int _⟩
def big62 (i : Int) : Bool := decide (-(2 ^ 62) ≤ i ∧ i < 2 ^ 62)
def gRng1 : List D → Option (List D)
  | [.int j] => if big62 j then some (rng 0 j) else none
  | _ => none
def gRng2 : List D → Option (List D)
  | [.int i, .int j] => if big62 i && big62 j then some (rng i j) else none
  | _ => none
def pRng (g : List D → Option (List D)) (fs : Sta → PR (List RV)) : Sta → PR (List D) := fun s => (fs s).bind fun rs => .of (g (rs.map RV.d))
theorem iv_range1 {fs : Sta → PR (List RV)} (hg : Gl X "range") (hm : X.mg "range" = none) (ha : PAr X T W [a] fs) (hs : starEach [a] X.env = [(false, eval a X.env)] := by rfl) : PIv X T W tg (.Call (.Name "range" p) [a] [] pos) (pRng gRng1 fs) := by
  refine PI.wk (pi_range1 hg hm ha hs) ?_
  rintro σ H R ⟨s, m, M, G, Rl, q⟩
  refine ⟨s, m, M, G, Rl, ?_⟩
  revert q
  unfold pRng PR.bind
  cases fs s with
  | ok rs =>
    intro q ys H' M' g rr
    dsimp only at q
    cases hr : gRng1 (rs.map RV.d) with
    | none => simp only [hr, PR.of] at q
    | some ds =>
      simp only [hr, PR.of] at q
      have aa := args_of rr
      revert hr aa
      generalize rs.map RV.d = zs
      intro hr aa
      unfold gRng1 at hr
      split at hr
      · rename_i j
        cases aa with
        | cons a1 an =>
          cases an
          by_cases hb : big62 j = true
          · rw [if_pos hb] at hr
            cases hr
            have hb' := of_decide_eq_true hb
            refine ⟨j, by rw [a1.int], hb'.1, hb'.2, ?_⟩
            have := q (Itr 0 (j - 0).toNat) H' M' g itr_ok
            simpa using this
          · rw [if_neg hb] at hr
            cases hr
      · cases hr
  | exc e => intro q; exact q
  | stuck => intro q; exact q
theorem iv_range2 {fs : Sta → PR (List RV)} (hg : Gl X "range") (hm : X.mg "range" = none) (ha : PAr X T W [a, b] fs) (hs : starEach [a, b] X.env = [(false, eval a X.env), (false, eval b X.env)] := by rfl) (hs2 : starEach [b] X.env = [(false, eval b X.env)] := by rfl) :
    PIv X T W tg (.Call (.Name "range" p) [a, b] [] pos) (pRng gRng2 fs) := by
  refine PI.wk (pi_range2 hg hm ha hs hs2) ?_
  rintro σ H R ⟨s, m, M, G, Rl, q⟩
  refine ⟨s, m, M, G, Rl, ?_⟩
  revert q
  unfold pRng PR.bind
  cases fs s with
  | ok rs =>
    intro q ys H' M' g rr
    dsimp only at q
    cases hr : gRng2 (rs.map RV.d) with
    | none => simp only [hr, PR.of] at q
    | some ds =>
      simp only [hr, PR.of] at q
      have aa := args_of rr
      revert hr aa
      generalize rs.map RV.d = zs
      intro hr aa
      unfold gRng2 at hr
      split at hr
      · rename_i i j
        cases aa with
        | cons a1 an =>
          cases an with
          | cons a2 an =>
            cases an
            by_cases hb : (big62 i && big62 j) = true
            · rw [if_pos hb] at hr
              cases hr
              rw [Bool.and_eq_true] at hb
              have hb1 := of_decide_eq_true hb.1
              have hb2 := of_decide_eq_true hb.2
              exact ⟨i, j, by rw [a1.int, a2.int], ⟨hb1.1, hb1.2, hb2.1, hb2.2⟩, q (Itr i (j - i).toNat) H' M' g itr_ok⟩
            · rw [if_neg hb] at hr
              cases hr
      · cases hr
  | exc e => intro q; exact q
  | stuck => intro q; exact q
/-- enumerate(a list) -/
def enumD : Nat → List D → List D
  | _, [] => []
  | i, d :: ds => .tup [.int (i : Nat), d] :: enumD (i + 1) ds
theorem enumD_get : ∀ (ds : List D) (k i : Nat) (d : D), (enumD k ds)[i]? = some d → ∃ x, ds[i]? = some x ∧ d = .tup [.int ((k + i : Nat) : Int), x]
  | [], _, _, _, e => by simp [enumD] at e
  | x :: ds, k, 0, d, e => by
    simp [enumD] at e
    exact ⟨x, rfl, e.symm⟩
  | x :: ds, k, i + 1, d, e => by
    obtain ⟨y, h1, h2⟩ := enumD_get ds (k + 1) i d (by simpa [enumD] using e)
    exact ⟨y, by simpa using h1, by rw [h2]; have : k + 1 + i = k + (i + 1) := by omega
                                    rw [this]⟩
theorem enumD_length : ∀ (ds : List D) (k : Nat), (enumD k ds).length = ds.length
  | [], _ => rfl
  | _ :: ds, k => by simp [enumD, enumD_length ds]
theorem ite_ok {K : PySem.W.Frag} {m : List Addr} {a' : Addr} {xs : List V} {ds : List D} {M0 B : Hp} (h : ∀ M H, Same M0 M → Same M H → Same B H → SqL K H a' xs) (r : DRs K m M0 xs ds) : ItOk K m (Ite K a') (enumD 0 ds) M0 B := by
  intro i M H s1 s2 s3
  refine ⟨fun d e => ?_, fun hl => ⟨xs, h M H s1 s2 s3, by rw [r.length, ← enumD_length ds 0]; exact hl⟩⟩
  obtain ⟨x, hx, rfl⟩ := enumD_get ds 0 i d e
  obtain ⟨v, hv, rv⟩ := r.get hx
  refine ⟨⟨xs, v, h M H s1 s2 s3, hv⟩, fun y H' z => ?_⟩
  obtain ⟨T, x', rfl, hT, rfl, z⟩ := z
  have z := z xs (h M H s1 s2 s3)
  rw [hv] at z
  cases z
  have gs := Grow.share (o := .tup [.int (i : Nat), v]) s2 hT
  refine ⟨_, gs, .tup (SqT.of upd_same) (.cons ?_ (.cons ((rv.up s1).up gs.mm) .nil))⟩
  rw [Nat.zero_add]
  exact .int _
/-- a list alone -/
def lstOf : D → Option (List D)
  | .list ds => some ds
  | .lk ds => some ds
  | _ => none
theorem lstOf_seq {d : D} {ds : List D} (h : lstOf d = some ds) : seqOf d = some ds := by
  cases d <;> first | exact h | cases h
theorem Arg.lst {K : PySem.W.Frag} {m : List Addr} {M H : Hp} {y : V} {d : D} {ds : List D} (h : Arg K m M H y d) (e : lstOf d = some ds) (s : Same M H) : ∃ a xs, y = .ref a ∧ SqL K H a xs ∧ DRs K m M xs ds := by
  cases d with
  | list ds' =>
    cases e
    obtain ⟨a, xs, h1, h2, h3⟩ := h.list s
    exact ⟨a, xs, h1, SqL.of h2, h3⟩
  | lk ds' =>
    cases e
    exact h.lk s
  | _ => cases e
def gEnum : List D → Option (List D)
  | [d] => (lstOf d).map (enumD 0)
  | _ => none
def pEnum (fs : Sta → PR (List D)) : Sta → PR (List D) := fun s => (fs s).bind fun ds => .of (gEnum ds)
theorem iv_enum {elts : List Expr} {kk : Nat} {tpos : Pos} {fs : Sta → PR (List D)} (hg : Gl X "enumerate") (hm : X.mg "enumerate" = none) (ha : PAs X T W [e] fs) (hs : starEach [e] X.env = [(false, eval e X.env)] := by rfl) :
    PIv X T W (.Tuple elts kk tpos) (.Call (.Name "enumerate" p) [e] [] pos) (pEnum fs) := by
  refine PI.wk (pi_enum hg hm ha hs) ?_
  rintro σ H R ⟨s, m, M, G, Rl, q⟩
  refine ⟨s, m, M, G, Rl, ?_⟩
  revert q
  unfold pEnum PR.bind
  cases fs s with
  | ok ds =>
    intro q ys H' M' g rr
    dsimp only at q
    cases hr : gEnum ds with
    | none => simp only [hr, PR.of] at q
    | some es =>
      simp only [hr, PR.of] at q
      unfold gEnum at hr
      split at hr
      · rename_i d
        cases rr with
        | cons r1 rn =>
          cases rn
          cases d <;> try (cases hr; done)
          · cases hr
            cases r1 with
            | list h1 h2 => exact ⟨_, _, rfl, SqL.of (g.mh _ _ h1), q _ H' M' g (ite_ok (fun M H a b _ => SqL.of (b _ _ (a _ _ h1))) h2)⟩
          · cases hr
            cases r1 with
            | lk h1 h2 => exact ⟨_, _, rfl, g.mh.seq h1, q _ H' M' g (ite_ok (fun M H a b _ => b.seq (a.seq h1)) h2)⟩
      · cases hr
  | exc e => intro q; exact q
  | stuck => intro q; exact q
end
end MP

/-! MP 4: targets, comprehensions, in, isinstance. -/
namespace MP
open PySem PySem.Spec PyProof.Rows L2

/-! ### the relation: a slot stored -/
section
variable {K : PySem.W.Frag} {T : Tab} {m m' : List Addr} {M M' G H H' : Hp}
theorem Rel.setAny {s : Sta} {σ : L2.St} (R : Rel K T m M G H s σ) (i : Nat) {sl : Slot} {y : Option V} {f : List Addr} (h : SlotR K m M H sl y f) (nd : f.Nodup)
    (fresh : ∀ a ∈ f, (∀ f1 f2, SlotsR K m M H s.env σ f1 → StoreR K T m M H s.st m f2 → a ∉ f1 ++ f2) ∧ M a = Option.none ∧ G a = Option.none) : Rel K T m M G H { s with env := s.env.set i sl } (σ.set i y) := by
  obtain ⟨mh, gh, ⟨f1, f2, h1, h2, nd0, dj⟩⟩ := R
  cases hs : s.env[i]? with
  | none =>
    have hl : s.env.length ≤ i := List.getElem?_eq_none_iff.mp hs
    have e1 : s.env.set i sl = s.env := List.set_eq_of_length_le hl
    have e2 : σ.set i y = σ := List.set_eq_of_length_le (by rw [← h1.len]; exact hl)
    rw [e1, e2]
    exact ⟨mh, gh, ⟨f1, f2, h1, h2, nd0, dj⟩⟩
  | some sl0 =>
    obtain ⟨g0, g1, g2, y0, ef, ey, _, k⟩ := h1.split hs
    have k := k m M H sl y f (MLe.refl _) (Same.refl _) (fun _ _ => rfl) h
    have fr := fun a ha => (fresh a ha).1 f1 f2 h1 h2
    subst ef
    refine ⟨mh, gh, ⟨g0 ++ f ++ g2, f2, k, h2, ?_, fun a ha => ?_⟩⟩
    · have sub : ((g0 ++ g2) ++ f2).Sublist ((g0 ++ g1 ++ g2) ++ f2) := by
        refine List.Sublist.append ?_ (List.Sublist.refl _)
        rw [List.append_assoc]
        exact List.Sublist.append (List.Sublist.refl _) (List.sublist_append_right _ _)
      have nd1 := nd0.sublist sub
      have perm : List.Perm ((g0 ++ f ++ g2) ++ f2) (f ++ ((g0 ++ g2) ++ f2)) := by
        rw [List.append_assoc, List.append_assoc, List.append_assoc]
        exact List.perm_append_comm_assoc g0 f (g2 ++ f2)
      rw [perm.nodup_iff, List.nodup_append]
      refine ⟨nd, nd1, fun a ha b hb e => ?_⟩
      subst e
      exact fr a ha (sub.subset hb)
    · simp only [List.mem_append] at ha
      rcases ha with ((ha | ha) | ha) | ha
      · exact dj a (by simp [ha])
      · exact (fresh a ha).2
      · exact dj a (by simp [ha])
      · exact dj a (by simp [ha])
theorem Rel.setV {s : Sta} {σ : L2.St} (R : Rel K T m M G H s σ) (i : Nat) {d : D} {y : V} (h : DR K m M y d) : Rel K T m M G H { s with env := s.env.set i (.v d) } (σ.set i (some y)) :=
  R.setAny i (f := []) ⟨rfl, y, rfl, h⟩ List.nodup_nil fun a ha => nomatch ha
theorem Rel.setU {s : Sta} {σ : L2.St} (R : Rel K T m M G H s σ) (i : Nat) (y : Option V) : Rel K T m M G H { s with env := s.env.set i .un } (σ.set i y) :=
  R.setAny i (f := []) rfl List.nodup_nil fun a ha => nomatch ha
/-- an object of its own, new since H0 where the relation held already -/
theorem Rel.setOwn {H0 M0 : Hp} {s : Sta} {σ : L2.St} (R0 : Rel K T m M0 G H0 s σ) (g : Grow H0 M0 H M) (i : Nat) {d : D} {a : Addr} {o : HO} (ha : H a = some o) (h : ObD K m M o d) (hM : M a = Option.none) (h0 : H0 a = Option.none) :
    Rel K T m M G H { s with env := s.env.set i (.own d) } (σ.set i (some (.ref a))) := by
  refine (R0.grow g).setAny i (f := [a]) ⟨a, o, rfl, rfl, ha, h⟩ (by simp) fun b hb => ?_
  have e : b = a := by simpa using hb
  subst e
  refine ⟨fun f1 f2 h1 h2 hm => ?_, hM, R0.gh.free h0⟩
  obtain ⟨mh, gh, ⟨e1, e2, k1, k2, nd0, dj⟩⟩ := R0
  -- the footprint is the same at both times
  have fpS : ∀ {s : List Slot} {x : List (Option V)} {fa fb : List Addr}, SlotsR K m M H s x fa → SlotsR K m M0 H0 s x fb → fa = fb := by
    intro s
    induction s with
    | nil =>
      intro x fa fb p q
      cases x with
      | nil => rw [show fa = [] from p, show fb = [] from q]
      | cons _ _ => exact p.elim
    | cons s ss ih =>
      intro x fa fb p q
      cases x with
      | nil => exact p.elim
      | cons x xs =>
        obtain ⟨p1, p2, ep, p3, p4⟩ := p
        obtain ⟨q1, q2, eq, q3, q4⟩ := q
        have e1 := ih p4 q4
        have e2 : p1 = q1 := by
          cases s with
          | un => rw [show p1 = [] from p3, show q1 = [] from q3]
          | v d => rw [p3.1, q3.1]
          | own d =>
            obtain ⟨a, o, e, ex, _⟩ := p3
            obtain ⟨b, o', e', ex', _⟩ := q3
            rw [ex] at ex'
            cases ex'
            rw [e, e']
        rw [ep, eq, e1, e2]
  have fpF : ∀ {s : List (Nat × Slot)} {x x' : List (Str × V)} {fa fb : List Addr}, x = x' → FsR K T.nm m M H s x fa → FsR K T.nm m M0 H0 s x' fb → fa = fb := by
    intro s
    induction s with
    | nil =>
      intro x x' fa fb ex p q
      subst ex
      cases x with
      | nil => rw [show fa = [] from p, show fb = [] from q]
      | cons _ _ => exact p.elim
    | cons s ss ih =>
      intro x x' fa fb ex p q
      subst ex
      obtain ⟨i, s⟩ := s
      cases x with
      | nil => exact p.elim
      | cons x xs =>
        obtain ⟨x, v⟩ := x
        obtain ⟨p1, p2, ep, _, p3, p4⟩ := p
        obtain ⟨q1, q2, eq, _, q3, q4⟩ := q
        have e1 := ih rfl p4 q4
        have e2 : p1 = q1 := by
          cases s with
          | un => rw [show p1 = [] from p3, show q1 = [] from q3]
          | v d => rw [p3.1, q3.1]
          | own d =>
            obtain ⟨a, o, e, ex, _⟩ := p3
            obtain ⟨b, o', e', ex', _⟩ := q3
            rw [ex] at ex'
            cases ex'
            rw [e, e']
        rw [ep, eq, e1, e2]
  have fpT : ∀ {s : List Ob} {x : List Addr} {fa fb : List Addr}, StoreR K T m M H s x fa → StoreR K T m M0 H0 s x fb → fa = fb := by
    intro s
    induction s with
    | nil => intro x fa fb p q; rw [show fa = [] from p, show fb = [] from q]
    | cons s ss ih =>
      intro x fa fb p q
      cases x with
      | nil => exact p.elim
      | cons x xs =>
        obtain ⟨p1, p2, ep, ⟨dx, fs, f, e1, e2, e3⟩, p4⟩ := p
        obtain ⟨q1, q2, eq, ⟨dx', fs', f', e1', e2', e3'⟩, q4⟩ := q
        have e4 := ih p4 q4
        have e5 := g.same _ _ e2'
        rw [e2] at e5
        have e6 : fs = fs' := by
          injection e5 with e5
          injection e5
        have e7 := fpF e6 e3 e3'
        rw [ep, eq, e4, e1, e1', e7]
  have e1' := fpS h1 k1
  have e2' := fpT h2 k2
  subst e1' e2'
  have hh : ∃ o, H0 b = some o := by
    rcases List.mem_append.mp hm with q | q
    · exact k1.here b q
    · exact k2.here b q
  obtain ⟨o', q⟩ := hh
  rw [h0] at q
  cases q
end

/-! ### targets -/
inductive Tg where
  | nm (i : Nat) | tp (is : List Nat)
def gNames : List Nat → TGs
  | [] => gNil
  | i :: is => gCons (gName i) (gNames is)
def tgR (K : PySem.W.Frag) : Tg → TG
  | .nm i => gName i
  | .tp is => gTup K is.length (gNames is)
def setAll : List Nat → List D → List Slot → List Slot
  | i :: is, d :: ds, env => setAll is ds (env.set i (.v d))
  | _, _, env => env
def Tg.bind : Tg → D → List Slot → Option (List Slot)
  | .nm i, d, env => some (env.set i (.v d))
  | .tp is, .tup ds, env => if ds.length = is.length then some (setAll is ds env) else none
  | .tp _, _, _ => none
def Tg.ixs : Tg → List Nat
  | .nm i => [i]
  | .tp is => is
section
variable {X : Cx} {T : Tab} {m : List Addr} {M G H : Hp}
/-- what is outside of some places stays -/
def Off (vs : List Nat) (σ σ' : L2.St) : Prop := σ'.length = σ.length ∧ ∀ j, j ∉ vs → σ'[j]? = σ[j]?
theorem Off.refl (vs : List Nat) (σ : L2.St) : Off vs σ σ := ⟨rfl, fun _ _ => rfl⟩
theorem Off.set {vs : List Nat} {σ σ' : L2.St} (h : Off vs σ σ') {i : Nat} (hi : i ∈ vs) (y : Option V) : Off vs σ (σ'.set i y) :=
  ⟨by rw [List.length_set]; exact h.1, fun j hj => by rw [List.getElem?_set_ne (fun e => hj (by rw [← e]; exact hi))]; exact h.2 j hj⟩
theorem gNames_of {Q : L2.St → Hp → Prop} {vs : List Nat} {σ0 : L2.St} : ∀ (is : List Nat) (ds : List D) (ys : List V) (s : Sta) (σ : L2.St), DRs X.K m M ys ds → ds.length = is.length → Rel X.K T m M G H s σ → Off vs σ0 σ → (∀ i ∈ is, i ∈ vs) →
    (∀ σ', Rel X.K T m M G H { s with env := setAll is ds s.env } σ' → Off vs σ0 σ' → Q σ' H) → gNames is ys σ H Q
  | [], [], _, s, σ, r, _, R, o, _, k => by
    cases r
    exact ⟨rfl, k σ R o⟩
  | i :: is, d :: ds, _, s, σ, r, hl, R, o, hi, k => by
    cases r with
    | cons r1 r2 =>
      refine ⟨_, _, rfl, ?_⟩
      exact gNames_of is ds _ { s with env := s.env.set i (.v d) } _ r2 (by simpa using hl) (R.setV i r1) (o.set (hi i (by simp)) _) (fun j hj => hi j (by simp [hj])) k
  | [], _ :: _, _, _, _, _, hl, _, _, _, _ => by simp at hl
  | _ :: _, [], _, _, _, _, hl, _, _, _, _ => by simp at hl
theorem tgR_of {Q : L2.St → Hp → Prop} {vs : List Nat} {σ0 : L2.St} {t : Tg} {d : D} {y : V} {s : Sta} {σ : L2.St} {env : List Slot} (e : t.bind d s.env = some env) (r : DR X.K m M y d) (R : Rel X.K T m M G H s σ) (o : Off vs σ0 σ) (hi : ∀ i ∈ t.ixs, i ∈ vs)
    (k : ∀ σ', Rel X.K T m M G H { s with env := env } σ' → Off vs σ0 σ' → Q σ' H) : tgR X.K t y σ H Q := by
  cases t with
  | nm i =>
    cases e
    exact k _ (R.setV i r) (o.set (hi i (by simp [Tg.ixs])) _)
  | tp is =>
    cases d <;> try (cases e; done)
    rename_i ds
    dsimp only [Tg.bind] at e
    by_cases hl : ds.length = is.length
    · rw [if_pos hl] at e
      cases e
      cases r with
      | tup h1 h2 =>
        exact ⟨_, _, rfl, Same.seqT R.mh h1, by rw [h2.length]; exact hl, gNames_of is ds _ s σ h2 hl R o hi k⟩
    · rw [if_neg hl] at e
      cases e
theorem wipe_get (σ : L2.St) : ∀ (vs : List Nat) (j : Nat), (wipe σ vs)[j]? = if j ∈ vs then (if j < σ.length then some Option.none else Option.none) else σ[j]?
  | [], j => by simp [wipe]
  | v :: vs, j => by
    rw [wipe]
    by_cases hj : v = j
    · subst hj
      simp only [List.mem_cons, true_or, if_true]
      by_cases hl : v < σ.length
      · rw [List.getElem?_set_self (by rw [wipe_length]; exact hl), if_pos hl]
      · rw [List.getElem?_eq_none (by rw [List.length_set, wipe_length]; omega), if_neg hl]
    · rw [List.getElem?_set_ne hj, wipe_get σ vs j]
      have : (j ∈ v :: vs) ↔ j ∈ vs := by
        simp only [List.mem_cons]
        constructor
        · rintro (h | h)
          · exact absurd h.symm hj
          · exact h
        · exact .inr
      simp only [this]
theorem wipe_off {vs : List Nat} {σ σ' : L2.St} (h : Off vs σ σ') : wipe σ' vs = wipe σ vs := by
  apply List.ext_getElem?
  intro j
  rw [wipe_get, wipe_get, h.1]
  by_cases hj : j ∈ vs
  · rw [if_pos hj, if_pos hj]
  · rw [if_neg hj, if_neg hj]
    exact h.2 j hj
theorem Off.wipe (vs : List Nat) (σ : L2.St) : Off vs σ (L2.wipe σ vs) := ⟨wipe_length σ vs, fun j hj => by rw [wipe_get, if_neg hj]⟩
def wipeE (env : List Slot) : List Nat → List Slot
  | [] => env
  | v :: vs => (wipeE env vs).set v .un
theorem Rel.wipe {s : Sta} {σ : L2.St} (R : Rel X.K T m M G H s σ) : ∀ vs : List Nat, Rel X.K T m M G H { s with env := wipeE s.env vs } (L2.wipe σ vs)
  | [] => R
  | v :: vs => (Rel.wipe R vs).setU v Option.none
end

/-! ### comprehensions -/
def compL (t : Tg) (tt : Sta → PR Bool) (te : Sta → PR D) (s : Sta) : List D → PR (List D)
  | [] => .ok []
  | d :: ds => match t.bind d s.env with
    | none => .stuck
    | some env => match tt { s with env := env } with
      | .ok true => match te { s with env := env } with
        | .ok y => (compL t tt te s ds).bind fun r => .ok (y :: r)
        | _ => .stuck
      | .ok false => compL t tt te s ds
      | _ => .stuck
def pComp (f : Sta → PR (List D)) (t : Tg) (vs : List Nat) (tt : Sta → PR Bool) (te : Sta → PR D) : Sta → PR RV := fun s => (f s).bind fun ds =>
  if ds.length ≤ 16777216 then (compL t tt te { s with env := wipeE s.env vs } ds).bind fun r => .ok (fr (.list r)) else .stuck
abbrev W0 : WX := fun _ _ _ _ => False
abbrev PTsv (X : Cx) (T : Tab) (W : WX) (ifs : List Expr) (f : Sta → PR Bool) : Prop := PTs X ifs (tT X T W f)
def pYes : Sta → PR Bool := fun _ => .ok true
section
variable {X : Cx} {T : Tab} {W : WX}
theorem PTs.wk {X : Cx} {e : List Expr} {t t' : TT} (h : PTs X e t) (w : ∀ σ H Q, t' σ H Q → t σ H Q) : PTs X e t' := ⟨fun pins s σ H Q I q => h.run pins s σ H Q I (w _ _ _ q)⟩
theorem ets_nil : PTsv X T W [] pYes := PTs.wk pts_nil fun σ H Q ⟨s, m, M, G, R, q⟩ => q H M (Grow.refl R.mh)
theorem ets_one {c : Expr} {f : Sta → PR Bool} (h : PTv X T W c f) : PTsv X T W [c] f := pts_one h
/-- the reading of a comprehension -/
theorem tLc_of {f : Sta → PR (List D)} {t : Tg} {vs : List Nat} {tt : Sta → PR Bool} {te : Sta → PR D} (hv : ∀ i ∈ t.ixs, i ∈ vs) {σ : L2.St} {H : Hp} {Q : VK} (h : tP X T W (pComp f t vs tt te) σ H Q) :
    tLc (tIc X T W f) (tgR X.K t) (tT X T W0 tt) (tD X T W0 te) vs σ H Q := by
  obtain ⟨s, m, M, G, R, q⟩ := h
  refine ⟨s, m, M, G, R, ?_⟩
  revert q
  unfold pComp PR.bind
  cases f s with
  | ok ds =>
    intro q J H1 M1 g1 it
    dsimp only at q
    by_cases hl : ds.length ≤ 16777216
    · rw [if_pos hl] at q
      generalize hs0 : ({ s with env := wipeE s.env vs } : Sta) = s0 at q
      cases hc : compL t tt te s0 ds with
      | ok r =>
        simp only [hc] at q
        intro D hD
        have hM1D : M1 D = Option.none := g1.mh.free hD
        refine ⟨fun i μ Hc => μ = ds.length - i ∧ i ≤ ds.length ∧ ∃ Mi acc dacc rest, Grow H1 M1 Hc Mi ∧ Mi D = Option.none ∧ Hc D = some (.lst acc) ∧ DRs X.K m Mi acc dacc ∧ acc.length ≤ i ∧ compL t tt te s0 (ds.drop i) = .ok rest ∧ dacc ++ rest = r,
          ⟨ds.length, rfl, Nat.zero_le _, M1, [], [], r, Grow.fresh g1.mh hD, hM1D, upd_same, .nil, Nat.le_refl _, hc, rfl⟩, ?_⟩
        rintro i μ Hc ⟨rfl, hi, Mi, acc, dacc, rest, gc, hMD, hHD, rD, hal, hcr, he⟩
        have iti := it i Mi Hc gc.mm gc.mh gc.same
        by_cases hlt : i < ds.length
        · have hd : ds[i]? = some ds[i] := by simp [hlt]
          have hdrop : ds.drop i = ds[i] :: ds.drop (i + 1) := List.drop_eq_getElem_cons hlt
          generalize ds[i] = d at hd hdrop
          obtain ⟨go, yld⟩ := iti.1 d hd
          refine .inr ⟨go, fun H' => ∃ Mi acc dacc rest, Grow H1 M1 H' Mi ∧ Mi D = Option.none ∧ H' D = some (.lst acc) ∧ DRs X.K m Mi acc dacc ∧ acc.length ≤ i + 1 ∧ compL t tt te s0 (ds.drop (i + 1)) = .ok rest ∧ dacc ++ rest = r,
            fun H' hN => ⟨ds.length - (i + 1), by omega, rfl, hlt, hN⟩, fun x H' hy => ?_⟩
          obtain ⟨M', gy, rx⟩ := yld x H' hy
          rw [hdrop, compL] at hcr
          cases hb : t.bind d s0.env with
          | none => rw [hb] at hcr; cases hcr
          | some env =>
            simp only [hb] at hcr
            have R0 : Rel X.K T m M' G H' s0 (L2.wipe σ vs) := by
              rw [← hs0]
              exact ((R.wipe vs).grow g1).grow (gc.trans gy)
            refine tgR_of (T := T) (G := G) hb rx R0 (Off.refl vs _) hv fun σ2 R2 o2 => ?_
            refine ⟨by rw [wipe_off o2]; exact wipe_off (Off.wipe vs σ), ?_⟩
            refine ⟨_, m, M', G, R2, ?_⟩
            cases ht : tt { s0 with env := env } with
            | ok b =>
              simp only [ht] at hcr
              intro H3 M3 g3
              cases b with
              | false =>
                rw [if_neg Bool.false_ne_true]
                have gg := gc.trans (gy.trans g3)
                have h1 := (gy.trans g3).same _ _ hHD
                exact ⟨M3, acc, dacc, rest, gg, (gy.trans g3).keepNone hHD hMD, h1, rD.up (gy.trans g3).mm, Nat.le_succ_of_le hal, hcr, he⟩
              | true =>
                rw [if_pos rfl]
                refine ⟨_, m, M3, G, R2.grow g3, ?_⟩
                cases hte : te { s0 with env := env } with
                | ok y =>
                  simp only [hte, PR.bind] at hcr
                  intro yv H4 M4 g4 ry
                  have g34 := gy.trans (g3.trans g4)
                  have h4 := g34.same _ _ hHD
                  have hM4 := g34.keepNone hHD hMD
                  cases hr : compL t tt te s0 (ds.drop (i + 1)) with
                  | ok rest' =>
                    simp only [hr] at hcr
                    cases hcr
                    refine ⟨acc, h4, by rw [sizeLine_eq]; omega, M4, acc ++ [yv], dacc ++ [y], rest', ?_, hM4, upd_same, (rD.up g34.mm).append (.cons ry .nil), by simp; omega, rfl, by rw [← he]; simp⟩
                    have gg := gc.trans g34
                    refine ⟨fun b o e => ?_, gg.mm, fun b o e => ?_, gg.new⟩
                    · have hb : b ≠ D := fun z => by rw [z, hD] at e; cases e
                      rw [upd_ne hb]
                      exact gg.same _ _ e
                    · have hb : b ≠ D := fun z => by rw [z, hM4] at e; cases e
                      rw [upd_ne hb]
                      exact gg.mh _ _ e
                  | exc e => simp only [hr] at hcr; cases hcr
                  | stuck => simp only [hr] at hcr; cases hcr
                | exc e => simp only [hte] at hcr; cases hcr
                | stuck => simp only [hte] at hcr; cases hcr
            | exc e => simp only [ht] at hcr; cases hcr
            | stuck => simp only [ht] at hcr; cases hcr
        · have hie : i = ds.length := by omega
          subst hie
          refine .inl ⟨iti.2 (Nat.le_refl _), ?_⟩
          rw [List.drop_length, compL] at hcr
          cases hcr
          rw [List.append_nil] at he
          subst he
          exact q _ Hc Mi (g1.trans gc) ⟨D, _, rfl, hHD, .lst rD, hMD, g1.same.free hD⟩
      | exc e => simp only [hc] at q; exact absurd hc (by
          have : ∀ ds, compL t tt te s0 ds ≠ .exc e := by
            intro ds
            induction ds with
            | nil => intro z; cases z
            | cons d ds ih =>
              intro z
              rw [compL] at z
              split at z
              · cases z
              · split at z
                · split at z
                  · cases hq : compL t tt te s0 ds with
                    | ok _ => rw [hq] at z; cases z
                    | exc _ => rw [hq] at z; cases z; exact ih hq
                    | stuck => rw [hq] at z; cases z
                  · cases z
                · exact ih z
                · cases z
          exact this ds)
      | stuck => simp only [hc] at q
    · rw [if_neg hl] at q
      exact q.elim
  | exc e => intro q; exact q
  | stuck => intro q; exact q
variable {elt tg iter : Expr} {ifs : List Expr} {scope : Scope} {own : List (Str × Nat)} {pos : Pos} {f : Sta → PR (List D)} {t : Tg} {tt : Sta → PR Bool} {te : Sta → PR D}
theorem ev_lc (hc : X.calm = true) (hN : X.N.Nodup) (hi : PIc X T W tg iter f) (ok : BlkOk X.N X.env.scope scope own) (hv : ∀ i ∈ t.ixs, i ∈ own.map (·.2))
    (hg : ∀ (s : Shared) (H : Hp) (C : Addr) (cl : List (Str × Addr)) (fp : List Addr), PG (X.blk s H scope (compEnvC scope cl C X.env) fp) tg (tgR X.K t))
    (ht : ∀ (s : Shared) (H : Hp) (C : Addr) (cl : List (Str × Addr)) (fp : List Addr), PTsv (X.blk s H scope (compEnvC scope cl C X.env) fp) T W0 ifs tt)
    (he : ∀ (s : Shared) (H : Hp) (C : Addr) (cl : List (Str × Addr)) (fp : List Addr), PDv (X.blk s H scope (compEnvC scope cl C X.env) fp) T W0 elt te) (hs : ∀ x, foldedSetIterable iter X.env x = pure x := by intro _; rfl) :
    PEv X T W (.ListComp elt [⟨tg, iter, ifs, 0⟩] scope pos) (pComp f t (own.map (·.2)) tt te) :=
  PE.wk (pe_lc hc hN hi ok hg ht he hs) fun σ H Q h => tLc_of hv h
end

/-! ### in, not in -/
section
variable {X : Cx} {T : Tab} {W : WX}
def flatD : D → Bool
  | .none => true
  | .bool _ => true
  | .int _ => true
  | .str _ => true
  | _ => false
def eqF : D → D → Bool
  | .none, .none => true
  | .bool a, .bool b => a == b
  | .bool a, .int b => (if a then 1 else 0) == b
  | .int a, .bool b => a == (if b then 1 else 0)
  | .int a, .int b => a == b
  | .str a, .str b => a == b
  | _, _ => false
theorem DR.flat {K : PySem.W.Frag} {m : List Addr} {H : Hp} {v : V} {d : D} (h : DR K m H v d) (f : flatD d = true) : flatV v = true := by
  cases h <;> first | rfl | cases f
theorem DRs.flat {K : PySem.W.Frag} {m : List Addr} {H : Hp} : ∀ {vs : List V} {ds : List D}, DRs K m H vs ds → ds.all flatD = true → vs.all flatV = true
  | _, _, .nil, _ => rfl
  | _, _, .cons r t, f => by
    rw [List.all_cons, Bool.and_eq_true] at f ⊢
    exact ⟨r.flat f.1, DRs.flat t f.2⟩
theorem eqV_eqF {K : PySem.W.Frag} {m : List Addr} {H : Hp} {x y : V} {d e : D} (h : DR K m H x d) (h' : DR K m H y e) (f : flatD d = true) (f' : flatD e = true) : eqV x y = eqF d e := by
  cases h <;> first | exact absurd f Bool.false_ne_true | (cases h' <;> first | exact absurd f' Bool.false_ne_true | rfl)
theorem any_eqF {K : PySem.W.Frag} {m : List Addr} {H : Hp} {x : V} {d : D} (h : DR K m H x d) (f : flatD d = true) : ∀ {vs : List V} {ds : List D}, DRs K m H vs ds → ds.all flatD = true → vs.any (fun y => eqV y x) = ds.any fun z => eqF z d
  | _, _, .nil, _ => rfl
  | _, _, .cons r t, fs => by
    rw [List.all_cons, Bool.and_eq_true] at fs
    rw [List.any_cons, List.any_cons, any_eqF h f t fs.2, eqV_eqF r h fs.1 f]
def inB (d e : D) : Option Bool := match seqOf e with
  | some ds => if flatD d = true ∧ ds.all flatD = true then some (ds.any fun z => eqF z d)
    else if (lstOf e).isSome = true ∧ SeqAt.shaped d.py = true ∧ SeqAt.shaped (.list (pys ds)) = true then some ((pys ds).any fun z => PyData.eqv z d.py) else none
  | none => none
def gIn (d e : D) : Option RV := (inB d e).map fun b => sh (.bool b)
def gNin (d e : D) : Option RV := (inB d e).map fun b => sh (.bool (!b))
theorem inB_cases {K : PySem.W.Frag} {m : List Addr} {M H : Hp} {x y : V} {d e : D} {b : Bool} (s : Same M H) (a1 : Arg K m M H x d) (a2 : Arg K m M H y e) (h : inB d e = some b) :
    (∃ p xs, y = .ref p ∧ (SqL K H p xs ∨ SqT K H p xs) ∧ flatV x = true ∧ xs.all flatV = true ∧ inV x xs = b) ∨
    ∃ pd ds, Dp K H x pd ∧ Dp K H y (.list ds) ∧ SeqAt.shaped pd = true ∧ SeqAt.shaped (.list ds) = true ∧ (ds.any fun z => PyData.eqv z pd) = b := by
  unfold inB at h
  cases hs : seqOf e with
  | none => rw [hs] at h; cases h
  | some ds =>
    simp only [hs] at h
    by_cases hf : flatD d = true ∧ ds.all flatD = true
    · rw [if_pos hf] at h
      cases h
      obtain ⟨p, xs, rfl, h1, r1⟩ := a2.seq hs s
      have dr := a1.dr s
      exact .inl ⟨p, xs, rfl, h1, dr.flat hf.1, (r1.up s).flat hf.2, any_eqF dr hf.1 (r1.up s) hf.2⟩
    · rw [if_neg hf] at h
      by_cases hq : (lstOf e).isSome = true ∧ SeqAt.shaped d.py = true ∧ SeqAt.shaped (.list (pys ds)) = true
      · rw [if_pos hq] at h
        cases h
        obtain ⟨h1, h2, h3⟩ := hq
        refine .inr ⟨d.py, pys ds, DR.dp _ _ (a1.dr s) (SeqAt.canLay_of_shaped h2), ?_, h2, h3, rfl⟩
        have c := SeqAt.canLay_of_shaped h3
        have ee : e.py = .list (pys ds) := by
          cases e <;> try (cases h1; done)
          · cases hs; rw [D.py]
          · cases hs; rw [D.py]
        rw [← ee] at c ⊢
        exact DR.dp _ _ (a2.dr s) c
      · rw [if_neg hq] at h
        cases h
theorem ok_in (hu : X.A.units + 65 < cLine) : Op2Ok X (compareOp .In) gIn := by
  refine ⟨_, op_in_seq.or (op_inD hu), fun m M H x y d1 d2 res Q s a1 a2 e k => ?_⟩
  unfold gIn at e
  cases he : inB d1 d2 with
  | none => rw [he] at e; cases e
  | some b =>
    rw [he] at e
    cases e
    rcases inB_cases s a1 a2 he with ⟨p, xs, h1, h2, h3, h4, h5⟩ | ⟨pd, ds, h1, h2, h3, h4, h5⟩
    · exact .inl ⟨p, xs, h1, h2, h3, h4, by rw [h5]; exact k _ H M (Grow.refl s) (.bl _)⟩
    · exact .inr ⟨pd, ds, h1, h2, h3, h4, by rw [h5]; exact k _ H M (Grow.refl s) (.bl _)⟩
theorem ok_nin (hu : X.A.units + 65 < cLine) : Op2Ok X (compareOp .NotIn) gNin := by
  refine ⟨_, op_notIn_seq.or (op_notInD hu), fun m M H x y d1 d2 res Q s a1 a2 e k => ?_⟩
  unfold gNin at e
  cases he : inB d1 d2 with
  | none => rw [he] at e; cases e
  | some b =>
    rw [he] at e
    cases e
    rcases inB_cases s a1 a2 he with ⟨p, xs, h1, h2, h3, h4, h5⟩ | ⟨pd, ds, h1, h2, h3, h4, h5⟩
    · exact .inl ⟨p, xs, h1, h2, h3, h4, by simp only [h5, if_true]; exact k _ H M (Grow.refl s) (.bl _)⟩
    · exact .inr ⟨pd, ds, h1, h2, h3, h4, by rw [h5]; exact k _ H M (Grow.refl s) (.bl _)⟩

/-! ### isinstance of data -/
def tyN : D → Option String
  | .none => some "NoneType"
  | .bool _ => some "bool"
  | .int _ => some "int"
  | .str _ => some "str"
  | .list _ => some "list"
  | .lk _ => some "list"
  | .tup _ => some "tuple"
  | .dic _ => some "dict"
  | .obj _ => none
  | .xv _ _ => none
theorem Rd.tyL {K : PySem.W.Frag} {H : Hp} {a : Addr} {xs : List V} (h : SqL K H a xs) : TyX K H (.ref a) (.type "list") := by
  rcases h with (h | ⟨o, h⟩) | ⟨o, its, n, hk, hc, _⟩
  · exact .base (.lst h)
  · exact .base (.frz h)
  · exact .kList hk hc
theorem Rd.tyT {K : PySem.W.Frag} {H : Hp} {a : Addr} {xs : List V} (h : SqT K H a xs) : TyX K H (.ref a) (.type "tuple") := by
  rcases h with (h | ⟨o, h⟩) | ⟨o, its, n, hk, hc, _⟩
  · exact .base (.tup h)
  · exact .fTuple h
  · exact .kTuple hk hc
theorem DR.ty {K : PySem.W.Frag} {m : List Addr} {H : Hp} {v : V} {d : D} {n : String} (h : DR K m H v d) (e : tyN d = some n) : TyX K H v (.type n) := by
  cases h with
  | non => cases e; exact .base .non
  | bl b => cases e; exact .base (.bl b)
  | int b => cases e; exact .base (.int b)
  | str b => cases e; exact .base (.str b)
  | list h _ => cases e; exact .base (.lst h)
  | lk h _ => cases e; exact Rd.tyL h
  | tup h _ => cases e; exact Rd.tyT h
  | dic h _ => cases e; exact .base (.dK h)
  | obj h => cases e
  | xn _ _ => cases e
  | xf _ _ _ _ => cases e
def isiB (n : String) (d : D) : Option Bool := (tyN d).bind fun t =>
  if t = n then some true else if t = "bool" ∧ n = "int" then some true else
    if n ∈ ["int", "bool", "str", "list", "tuple"] ∧ t ∈ ["NoneType", "bool", "int", "str", "list", "tuple", "dict"] then some false else none
theorem isiB_ok {n t : String} {b : Bool} (hn : n ∈ ["int", "bool", "str", "list", "tuple"]) (ht : t ∈ ["NoneType", "bool", "int", "str", "list", "tuple", "dict"])
    (h : (if t = n then some true else if t = "bool" ∧ n = "int" then some true else
      if n ∈ ["int", "bool", "str", "list", "tuple"] ∧ t ∈ ["NoneType", "bool", "int", "str", "list", "tuple", "dict"] then some false else none) = some b) : kitB t n = some b := by
  have all : ∀ n ∈ ["int", "bool", "str", "list", "tuple"], ∀ t ∈ ["NoneType", "bool", "int", "str", "list", "tuple", "dict"],
      kitB t n = (if t = n then some true else if t = "bool" ∧ n = "int" then some true else
      if n ∈ ["int", "bool", "str", "list", "tuple"] ∧ t ∈ ["NoneType", "bool", "int", "str", "list", "tuple", "dict"] then some false else none) := by decide +kernel
  rw [all n hn t ht]
  exact h
theorem tyN_mem {d : D} {t : String} (h : tyN d = some t) : t ∈ ["NoneType", "bool", "int", "str", "list", "tuple", "dict"] := by
  cases d <;> first | (cases h; decide) | cases h
def pIsi (n : String) (f : Sta → PR RV) : Sta → PR RV := p1 (fun d => (isiB n d).map fun b => sh (.bool b)) f
theorem ev_isi {a : Expr} {x : Str} {n : String} {fa : Sta → PR RV} {p p' pos : Pos} (hn : n ∈ ["int", "bool", "str", "list", "tuple"]) (ha : PEv X T W a fa) (hg : Gl X "isinstance") (hm : X.mg "isinstance" = Option.none)
    (hgx : Gl X x) (hmx : X.mg x = Option.none) (hv : bootBuiltins x = some (.type n)) (hnx : x ≠ "__name__" := by decide) (hdx : (x == ("__debug__" : Str)) = false := by decide)
    (he1 : starEach [.Name x p'] X.env = (false, eval (.Name x p') X.env) :: starEach [] X.env := by rfl)
    (he : starEach [a, .Name x p'] X.env = (false, eval a X.env) :: starEach [.Name x p'] X.env := by rfl) (hpl : (backTo pos (starEach [.Name x p'] X.env)).any (·.1) = false := by rfl) :
    PEv X T W (.Call (.Name "isinstance" p) [a, .Name x p'] [] pos) (pIsi n fa) := by
  refine PE.wk (pe_callB call_isi hg hm (by decide +kernel) (pa_cons ha (pa_cons (pe_bltn (v := .ty n) hgx hmx hv rfl hnx hdx) pa_nil he1) he) (by decide) (by decide) he hpl) ?_
  rintro σ H Q ⟨s, m, M, G, R, q⟩
  refine ⟨s, m, M, G, R, ?_⟩
  revert q
  unfold pIsi p1 PR.bind
  cases fa s with
  | ok r =>
    intro q y H1 M1 g1 rr
    dsimp only at q
    cases hb : isiB n r.d with
    | none => simp only [hb, Option.map_none, PR.of] at q
    | some b =>
      simp only [hb, Option.map_some, PR.of] at q
      unfold isiB at hb
      cases ht : tyN r.d with
      | none => rw [ht] at hb; cases hb
      | some t =>
        rw [ht] at hb
        refine ⟨y, .ty n, .type t, .type n, b, rfl, .ty n, (rr.arg.dr g1.mh).ty ht, kit_ty (isiB_ok hn (tyN_mem ht) hb), q _ H1 M1 g1 (.bl b)⟩
  | exc e => intro q; exact q
  | stuck => intro q; exact q
end
end MP

/-! MP 5: statements. -/
namespace MP
open PySem PySem.Spec PyProof.Rows L2

/-- how a statement ends -/
inductive Fl where
  | nx (s : Sta) | ret (r : Slot) (s : Sta) | brk (s : Sta) | cont (s : Sta) | exc (e : Ex) (s : Sta) | stuck
/-- whether objects may be made: then the store and its places are as long -/
def AL (al : Bool) (m : List Addr) (s : Sta) : Prop := al = true → m.length = s.st.length
structure Ext (al : Bool) (G : Hp) (m : List Addr) (M : Hp) (m' : List Addr) (M' : Hp) : Prop where
  ml : MLe m m'
  nl : al = false → m' = m
  mm : Same M M'
  new : ∀ a o, M' a = some o → M a = some o ∨ G a = Option.none
theorem Ext.refl (al : Bool) (G : Hp) (m : List Addr) (M : Hp) : Ext al G m M m M := ⟨MLe.refl _, fun _ => rfl, Same.refl _, fun _ _ h => .inl h⟩
theorem Ext.trans {al : Bool} {G : Hp} {m m1 m2 : List Addr} {M M1 M2 : Hp} (a : Ext al G m M m1 M1) (b : Ext al G m1 M1 m2 M2) : Ext al G m M m2 M2 :=
  ⟨a.ml.trans b.ml, fun h => (b.nl h).trans (a.nl h), a.mm.trans b.mm, fun x o h => (b.new x o h).elim (fun h => a.new x o h) .inr⟩
theorem Ext.grow {al : Bool} {G : Hp} {m : List Addr} {H M H' M' : Hp} (g : Grow H M H' M') (gh : Same G H) : Ext al G m M m M' :=
  ⟨MLe.refl _, fun _ => rfl, g.mm, fun x o h => (g.new x o h).elim .inl fun h => .inr (gh.free h)⟩

section
variable (X : Cx) (T : Tab) (W : WX)
def FlP (al : Bool) (G : Hp) (m : List Addr) (M : Hp) (Dn : Ends) : Fl → Prop
  | .nx s' => ∀ σ' H' m' M', Ext al G m M m' M' → AL al m' s' → Rel X.K T m' M' G H' s' σ' → Dn.nx σ' H'
  | .brk s' => ∀ σ' H' m' M', Ext al G m M m' M' → AL al m' s' → Rel X.K T m' M' G H' s' σ' → Dn.bk σ' H'
  | .cont s' => ∀ σ' H' m' M', Ext al G m M m' M' → AL al m' s' → Rel X.K T m' M' G H' s' σ' → Dn.ct σ' H'
  | .ret r s' => ∀ y H' m' M', Ext al G m M m' M' → AL al m' s' → Rel X.K T m' M' G H' ⟨[r], s'.st⟩ [some y] → Dn.rt y H'
  | .exc e s' => ∀ cls d σ' H' m' M', Ext al G m M m' M' → AL al m' s' → Rel X.K T m' M' G H' s' σ' → ExR X.K T m' M' H' e cls d → W cls d σ' H'
  | .stuck => False
def tS (al : Bool) (g : Sta → Fl) : TS := fun Dn σ H => ∃ s m M G, Rel X.K T m M G H s σ ∧ AL al m s ∧ FlP X T W al G m M Dn (g s)
abbrev SEv (al : Bool) (st : List Stmt) (g : Sta → Fl) : Prop := PSs X st (tS X T W al g)
abbrev SE1 (al : Bool) (st : Stmt) (g : Sta → Fl) : Prop := PS X st (tS X T W al g)
end
theorem PS.wk {X : Cx} {e : Stmt} {t t' : TS} (h : PS X e t) (w : ∀ D σ H, t' D σ H → t D σ H) : PS X e t' := ⟨fun pins s σ H D I q => h.run pins s σ H D I (w _ _ _ q)⟩
theorem PSs.wk {X : Cx} {e : List Stmt} {t t' : TS} (h : PSs X e t) (w : ∀ D σ H, t' D σ H → t D σ H) : PSs X e t' := ⟨fun pins s σ H D I q => h.run pins s σ H D I (w _ _ _ q)⟩

section
variable {X : Cx} {T : Tab} {W : WX} {al : Bool} {G : Hp} {m m' : List Addr} {M M' : Hp} {Dn : Ends}
theorem FlP.ext {fl : Fl} (h : FlP X T W al G m M Dn fl) (e : Ext al G m M m' M') : FlP X T W al G m' M' Dn fl := by
  cases fl with
  | nx s => exact fun σ' H' m2 M2 e2 => h σ' H' m2 M2 (e.trans e2)
  | brk s => exact fun σ' H' m2 M2 e2 => h σ' H' m2 M2 (e.trans e2)
  | cont s => exact fun σ' H' m2 M2 e2 => h σ' H' m2 M2 (e.trans e2)
  | ret r s => exact fun y H' m2 M2 e2 => h y H' m2 M2 (e.trans e2)
  | exc x s => exact fun cls d σ' H' m2 M2 e2 => h cls d σ' H' m2 M2 (e.trans e2)
  | stuck => exact h
variable {st : Stmt} {rest : List Stmt} {e : Expr} {pos p : Pos} {g g1 g2 : Sta → Fl} {f : Sta → PR RV}
def sNil : Sta → Fl := .nx
def sSeq (g1 g2 : Sta → Fl) : Sta → Fl := fun s => match g1 s with
  | .nx s' => g2 s'
  | fl => fl
theorem ss_nil : SEv X T W al [] sNil := PSs.wk pss_nil fun D σ H ⟨s, m, M, G, R, a, q⟩ => q σ H m M (Ext.refl ..) a R
theorem ss_cons (h1 : SE1 X T W al st g1) (h2 : SEv X T W al rest g2) : SEv X T W al (st :: rest) (sSeq g1 g2) := by
  refine PSs.wk (pss_cons h1 h2) ?_
  rintro D σ H ⟨s, m, M, G, R, a, q⟩
  refine ⟨s, m, M, G, R, a, ?_⟩
  unfold sSeq at q
  cases hg : g1 s with
  | nx s' =>
    rw [hg] at q
    exact fun σ' H' m' M' e a' R' => ⟨s', m', M', G, R', a', FlP.ext q e⟩
  | brk s' => rw [hg] at q; exact q
  | cont s' => rw [hg] at q; exact q
  | ret r s' => rw [hg] at q; exact q
  | exc x s' => rw [hg] at q; exact q
  | stuck => rw [hg] at q; exact q
theorem ss_one (h1 : SE1 X T W al st g1) : SEv X T W al [st] g1 := PSs.wk (pss_one h1) fun D σ H h => h
theorem s_pass : SE1 X T W al (.Pass pos) sNil := PS.wk ps_pass fun D σ H ⟨s, m, M, G, R, a, q⟩ => q σ H m M (Ext.refl ..) a R
def sBrk : Sta → Fl := .brk
def sCont : Sta → Fl := .cont
theorem s_break : SE1 X T W al (.Break pos) sBrk := PS.wk ps_break fun D σ H ⟨s, m, M, G, R, a, q⟩ => q σ H m M (Ext.refl ..) a R
theorem s_cont : SE1 X T W al (.Continue pos) sCont := PS.wk ps_continue fun D σ H ⟨s, m, M, G, R, a, q⟩ => q σ H m M (Ext.refl ..) a R

/-- a result, then a statement's end -/
def PR.fl {α : Type} (x : PR α) (s : Sta) (k : α → Fl) : Fl := match x with
  | .ok a => k a
  | .exc e => .exc e s
  | .stuck => .stuck
theorem tD_fl {f : Sta → PR D} {k : Sta → D → Fl} {σ : L2.St} {H : Hp} {Q : VK} {s : Sta} (R : Rel X.K T m M G H s σ) (a : AL al m s) (q : FlP X T W al G m M Dn ((f s).fl s (k s)))
    (h : ∀ d y H' M', f s = .ok d → Grow H M H' M' → DR X.K m M' y d → FlP X T W al G m M' Dn (k s d) → Q y H') : tD X T W f σ H Q := by
  refine ⟨s, m, M, G, R, ?_⟩
  unfold PR.fl at q
  cases hf : f s with
  | ok d =>
    rw [hf] at q
    exact fun y H' M' g r => h d y H' M' hf g r (FlP.ext q (Ext.grow g R.gh))
  | exc x =>
    rw [hf] at q
    exact fun cls d H' M' g x => q cls d σ H' m M' (Ext.grow g R.gh) a (R.grow g) x
  | stuck => rw [hf] at q; exact q
theorem tP_fl {f : Sta → PR RV} {k : Sta → RV → Fl} {σ : L2.St} {H : Hp} {Q : VK} {s : Sta} (R : Rel X.K T m M G H s σ) (a : AL al m s) (q : FlP X T W al G m M Dn ((f s).fl s (k s)))
    (h : ∀ r y H' M', f s = .ok r → Grow H M H' M' → RR X.K m M' H H' y r → FlP X T W al G m M' Dn (k s r) → Q y H') : tP X T W f σ H Q := by
  refine ⟨s, m, M, G, R, ?_⟩
  unfold PR.fl at q
  cases hf : f s with
  | ok d =>
    rw [hf] at q
    exact fun y H' M' g r => h d y H' M' hf g r (FlP.ext q (Ext.grow g R.gh))
  | exc x =>
    rw [hf] at q
    exact fun cls d H' M' g x => q cls d σ H' m M' (Ext.grow g R.gh) a (R.grow g) x
  | stuck => rw [hf] at q; exact q
theorem tT_fl {f : Sta → PR Bool} {k : Sta → Bool → Fl} {σ : L2.St} {H : Hp} {Q : Bool → Hp → Prop} {s : Sta} (R : Rel X.K T m M G H s σ) (a : AL al m s) (q : FlP X T W al G m M Dn ((f s).fl s (k s)))
    (h : ∀ b H' M', f s = .ok b → Grow H M H' M' → FlP X T W al G m M' Dn (k s b) → Q b H') : tT X T W f σ H Q := by
  refine ⟨s, m, M, G, R, ?_⟩
  unfold PR.fl at q
  cases hf : f s with
  | ok d =>
    rw [hf] at q
    exact fun H' M' g => h d H' M' hf g (FlP.ext q (Ext.grow g R.gh))
  | exc x =>
    rw [hf] at q
    exact fun cls d H' M' g x => q cls d σ H' m M' (Ext.grow g R.gh) a (R.grow g) x
  | stuck => rw [hf] at q; exact q

/-- an expression whose value is dropped -/
def sExpr (f : Sta → PR RV) : Sta → Fl := fun s => (f s).fl s fun _ => .nx s
theorem s_expr (he : PEv X T W e f) (hs : swapsWith e none pos.line X.env = pure false := by rfl) : SE1 X T W al (.Expr e pos) (sExpr f) := by
  refine PS.wk (ps_expr he hs) ?_
  rintro D σ H ⟨s, m, M, G, R, a, q⟩
  refine tP_fl (k := fun s _ => .nx s) R a q fun r y H' M' _ g rr k => ?_
  exact k σ H' m M' (Ext.refl ..) a (R.grow g)
/-- name = value, shared -/
def sSetV (i : Nat) (f : Sta → PR D) : Sta → Fl := fun s => (f s).fl s fun d => .nx { s with env := s.env.set i (.v d) }
theorem s_setV {i : Nat} {x : Str} {f : Sta → PR D} {pos' : Pos} (hN : X.N.Nodup) (hi : X.N[i]? = some x) (hx : Loc X.env.scope x) (he : PDv X T W e f) (hs : swapsWith e (some (.Name x pos')) pos.line X.env = pure false := by rfl) (hf : X.fn x = true ∨ X.env.scope.names.lookup x = some .local := by first | exact .inl rfl | exact .inr rfl | assumption) :
    SE1 X T W al (.Assign [.Name x pos'] e pos) (sSetV i f) := by
  refine PS.wk (ps_set hN hi hx he hs hf) ?_
  rintro D σ H ⟨s, m, M, G, R, a, q⟩
  refine tD_fl (k := fun s d => .nx { s with env := s.env.set i (.v d) }) R a q fun d y H' M' _ g r k => ?_
  exact k _ H' m M' (Ext.refl ..) a ((R.grow g).setV i r)
/-- name = value, its own where it is new -/
def RV.slot (r : RV) : PR Slot := match r.k with
  | .sh => .ok (.v r.d)
  | .fr => .ok (.own r.d)
  | .pk => .stuck
def sSetO (i : Nat) (f : Sta → PR RV) : Sta → Fl := fun s => (f s).fl s fun r => (r.slot).fl s fun sl => .nx { s with env := s.env.set i sl }
theorem Rel.setRV {s : Sta} {σ : L2.St} {H H' : Hp} (R : Rel X.K T m M G H s σ) (g : Grow H M H' M') {y : V} {r : RV} (rr : RR X.K m M' H H' y r) {sl : Slot} (e : r.slot = .ok sl) (i : Nat) :
    Rel X.K T m M' G H' { s with env := s.env.set i sl } (σ.set i (some y)) := by
  obtain ⟨k, d⟩ := r
  cases k with
  | sh => cases e; exact (R.grow g).setV i rr
  | fr =>
    cases e
    obtain ⟨a, o, rfl, h2, h3, h4, h5⟩ := rr
    exact R.setOwn g i h2 h3 h4 h5
  | pk => cases e
theorem slot_ne {r : RV} {e : Ex} (h : r.slot = .exc e) : False := by obtain ⟨k, d⟩ := r; cases k <;> cases h
theorem setO_of {i : Nat} {D : Ends} {σ : L2.St} {H : Hp} (h : tS X T W al (sSetO i f) D σ H) : tAsg (tP X T W f) (gName i) D σ H := by
  obtain ⟨s, m, M, G, R, a, q⟩ := h
  refine tP_fl (k := fun s r => (r.slot).fl s fun sl => .nx { s with env := s.env.set i sl }) R a q fun r y H' M' _ g rr k => ?_
  unfold PR.fl at k
  cases hs : r.slot with
  | ok sl =>
    rw [hs] at k
    exact k _ H' m M' (Ext.refl ..) a (R.setRV g rr hs i)
  | exc e => exact (slot_ne hs).elim
  | stuck => rw [hs] at k; exact k.elim
theorem s_setO {i : Nat} {x : Str} {pos' : Pos} (hN : X.N.Nodup) (hi : X.N[i]? = some x) (hx : Loc X.env.scope x) (he : PEv X T W e f) (hs : swapsWith e (some (.Name x pos')) pos.line X.env = pure false := by rfl) (hf : X.fn x = true ∨ X.env.scope.names.lookup x = some .local := by first | exact .inl rfl | exact .inr rfl | assumption) :
    SE1 X T W al (.Assign [.Name x pos'] e pos) (sSetO i f) := PS.wk (ps_set hN hi hx he hs hf) fun D σ H h => setO_of h
/-- name = [..] -/
theorem s_setLc {i : Nat} {y : Str} {py spos : Pos} {elt tg iter : Expr} {ifs : List Expr} {scope : Scope} {own : List (Str × Nat)} {ff : Sta → PR (List D)} {t : Tg} {tt : Sta → PR Bool} {te : Sta → PR D} (hc : X.calm = true) (hN : X.N.Nodup) (hy : X.N[i]? = some y) (hyl : X.env.scope.names.lookup y = some .local)
    (hsw : swapsWith (.ListComp elt [⟨tg, iter, ifs, 0⟩] scope pos) (some (.Name y py)) spos.line X.env = pure true) (hi : PIc X T W tg iter ff) (ok : BlkOk X.N X.env.scope scope own) (hv : ∀ i ∈ t.ixs, i ∈ own.map (·.2))
    (hg : ∀ (s : Shared) (H : Hp) (C : Addr) (cl : List (Str × Addr)) (fp : List Addr), PG (X.blk s H scope (compEnvC scope cl C X.env) fp) tg (tgR X.K t))
    (ht : ∀ (s : Shared) (H : Hp) (C : Addr) (cl : List (Str × Addr)) (fp : List Addr), PTsv (X.blk s H scope (compEnvC scope cl C X.env) fp) T W0 ifs tt)
    (he : ∀ (s : Shared) (H : Hp) (C : Addr) (cl : List (Str × Addr)) (fp : List Addr), PDv (X.blk s H scope (compEnvC scope cl C X.env) fp) T W0 elt te) (hs : ∀ x, foldedSetIterable iter X.env x = pure x := by intro _; rfl) :
    SE1 X T W al (.Assign [.Name y py] (.ListComp elt [⟨tg, iter, ifs, 0⟩] scope pos) spos) (sSetO i (pComp ff t (own.map (·.2)) tt te)) := by
  refine PS.wk (ps_setLc (tt := tT X T W0 tt) (te := tD X T W0 te) hc hN hy hyl hsw hi ok hg ht he hs) fun D σ H h => ?_
  have h2 := setO_of h
  exact tLc_of hv h2
/-- a name's own list is shared from now on (nothing runs) -/
def frz (i : Nat) (s : Sta) : Sta := match s.env[i]? with
  | some (.own d) => { s with env := s.env.set i (.v d) }
  | _ => s
def sFrz (i : Nat) (g : Sta → Fl) : Sta → Fl := fun s => g (frz i s)
theorem Rel.frz {s : Sta} {σ : L2.St} {H : Hp} (R : Rel X.K T m M G H s σ) (i : Nat) : ∃ M', Ext al G m M m M' ∧ Rel X.K T m M' G H (MP.frz i s) σ := by
  unfold MP.frz
  obtain ⟨mh, gh, ⟨f1, f2, h1, h2, nd, dj⟩⟩ := R
  have same : ∃ M', Ext al G m M m M' ∧ Rel X.K T m M' G H s σ := ⟨M, Ext.refl .., mh, gh, f1, f2, h1, h2, nd, dj⟩
  split
  · rename_i d hs
    obtain ⟨g0, g1, g2, y, ef, ey, hy, k⟩ := h1.split hs
    obtain ⟨a, o, ef1, rfl, ha, hd⟩ := hy
    subst ef ef1
    have dja := dj a (by simp)
    have mm : Same M (upd M a o) := Same.upd dja.1
    refine ⟨upd M a o, ⟨MLe.refl _, fun _ => rfl, mm, fun b u e => ?_⟩, fun b u e => ?_, gh, ?_⟩
    · by_cases hb : b = a
      · subst hb; exact .inr dja.2
      · rw [upd_ne hb] at e; exact .inl e
    · by_cases hb : b = a
      · subst hb; rw [upd_same] at e; rw [← e]; exact ha
      · rw [upd_ne hb] at e; exact mh _ _ e
    · have eσ : σ = σ.set i (some (.ref a)) := by
        apply List.ext_getElem?
        intro j
        by_cases hj : i = j
        · subst hj
          rw [List.getElem?_set_self (by rw [← h1.len]; exact (List.getElem?_eq_some_iff.mp hs).1)]
          exact ey
        · rw [List.getElem?_set_ne hj]
      have k2 := k m (upd M a o) H (.v d) (some (.ref a)) [] (MLe.refl _) mm (fun _ _ => rfl) ⟨rfl, _, rfl, (hd.mono (MLe.refl _) mm).dr (Same.refl _) upd_same⟩
      rw [← eσ] at k2
      have sub : ((g0 ++ [] ++ g2) ++ f2).Sublist ((g0 ++ [a] ++ g2) ++ f2) := by simp
      refine ⟨g0 ++ [] ++ g2, f2, k2, h2.mono (MLe.refl _) (MLe.refl _) mm fun _ _ => rfl, nd.sublist sub, fun b hb => ?_⟩
      have hb' : b ∈ (g0 ++ [a] ++ g2) ++ f2 := sub.subset hb
      have hne : b ≠ a := by
        rintro rfl
        have perm : List.Perm ((g0 ++ [b] ++ g2) ++ f2) (b :: ((g0 ++ [] ++ g2) ++ f2)) := by
          simp only [List.append_nil, List.append_assoc, List.singleton_append]
          exact List.perm_middle
        have := perm.nodup_iff.mp nd
        exact (List.nodup_cons.mp this).1 hb
      rw [upd_ne hne]
      exact dj b hb'
  · exact same
theorem s_frz {i : Nat} (h : SE1 X T W al st g) : SE1 X T W al st (sFrz i g) := by
  refine PS.wk h ?_
  rintro D σ H ⟨s, m, M, G, R, a, q⟩
  obtain ⟨M', e, R'⟩ := R.frz (al := al) i
  refine ⟨_, m, M', G, R', fun h => ?_, FlP.ext q e⟩
  rw [a h]
  unfold frz
  split <;> rfl
/-- return -/
def sRet (f : Sta → PR RV) : Sta → Fl := fun s => (f s).fl s fun r => (r.slot).fl s fun sl => .ret sl s
def sRetN : Sta → Fl := fun s => .ret (.v .none) s
theorem Rel.only {s : Sta} {σ : L2.St} {H : Hp} (R : Rel X.K T m M G H s σ) {d : D} {y : V} (r : DR X.K m M y d) : Rel X.K T m M G H ⟨[.v d], s.st⟩ [some y] := by
  obtain ⟨mh, gh, ⟨f1, f2, h1, h2, nd, dj⟩⟩ := R
  exact ⟨mh, gh, [], f2, ⟨[], [], rfl, ⟨rfl, y, rfl, r⟩, rfl⟩, h2, (List.nodup_append.mp nd).2.1, fun a ha => dj a (by simpa using .inr ha)⟩
theorem Rel.onlyS {s : Sta} {σ : L2.St} {H : Hp} {i : Nat} {sl : Slot} {y : Option V} (R : Rel X.K T m M G H s σ) (hs : s.env[i]? = some sl) (hy : σ[i]? = some y) : Rel X.K T m M G H ⟨[sl], s.st⟩ [y] := by
  obtain ⟨mh, gh, ⟨f1, f2, h1, h2, nd, dj⟩⟩ := R
  obtain ⟨g0, g1, g2, y0, ef, ey, hy', k⟩ := h1.split hs
  rw [hy] at ey
  cases ey
  subst ef
  have sub : (g1 ++ f2).Sublist ((g0 ++ g1 ++ g2) ++ f2) := by
    refine List.Sublist.append ?_ (List.Sublist.refl _)
    exact (List.sublist_append_right g0 g1).trans (List.sublist_append_left _ _)
  exact ⟨mh, gh, g1, f2, ⟨g1, [], by simp, hy', rfl⟩, h2, nd.sublist sub, fun a ha => dj a (sub.subset ha)⟩
theorem s_ret (he : PEv X T W e f) : SE1 X T W al (.Return (some e) pos) (sRet f) := by
  refine PS.wk (ps_ret he) ?_
  rintro D σ H ⟨s, m, M, G, R, a, q⟩
  refine tP_fl (k := fun s r => (r.slot).fl s fun sl => .ret sl s) R a q fun r y H' M' _ g rr k => ?_
  unfold PR.fl at k
  cases hs : r.slot with
  | ok sl =>
    rw [hs] at k
    refine k y H' m M' (Ext.refl ..) a ?_
    have R1 : Rel X.K T m M G H ⟨[.un], s.st⟩ [Option.none] := by
      obtain ⟨mh, gh, ⟨f1, f2, h1, h2, nd, dj⟩⟩ := R
      exact ⟨mh, gh, [], f2, ⟨[], [], rfl, rfl, rfl⟩, h2, (List.nodup_append.mp nd).2.1, fun a ha => dj a (by simpa using .inr ha)⟩
    exact R1.setRV g rr hs 0
  | exc e => exact (slot_ne hs).elim
  | stuck => rw [hs] at k; exact k.elim
/-- return of a name's own list -/
def sRetS (i : Nat) : Sta → Fl := fun s => match s.env[i]? with
  | some (.own d) => .ret (.own d) s
  | some (.v d) => .ret (.v d) s
  | _ => .stuck
theorem s_retS {i : Nat} {x : Str} (h : PE X (.Name x p) (tVar i)) : SE1 X T W al (.Return (some (.Name x p)) pos) (sRetS i) := by
  refine PS.wk (ps_ret h) ?_
  rintro D σ H ⟨s, m, M, G, R, a, q⟩
  unfold sRetS at q
  have R0 := R
  obtain ⟨mh, gh, ⟨f1, f2, h1, h2, nd, dj⟩⟩ := R
  split at q
  · rename_i d hs
    obtain ⟨y, fy, ey, ⟨b, o, _, rfl, hb, hd⟩, _⟩ := h1.at hs
    exact ⟨_, ey, q _ H m M (Ext.refl ..) a (R0.onlyS hs ey)⟩
  · rename_i d hs
    obtain ⟨y, fy, ey, ⟨_, y', rfl, hd⟩, _⟩ := h1.at hs
    exact ⟨_, ey, q _ H m M (Ext.refl ..) a (R0.onlyS hs ey)⟩
  · exact q.elim
theorem s_retN : SE1 X T W al (.Return none pos) sRetN := by
  refine PS.wk ps_retN ?_
  rintro D σ H ⟨s, m, M, G, R, a, q⟩
  exact q .non H m M (Ext.refl ..) a (R.only .non)
/-- if -/
def sIf (t : Sta → PR Bool) (g1 g2 : Sta → Fl) : Sta → Fl := fun s => (t s).fl s fun b => if b then g1 s else g2 s
theorem s_if {c : Expr} {A B : List Stmt} {t : Sta → PR Bool} (hc : PTv X T W c t) (ha : SEv X T W al A g1) (hb : SEv X T W al B g2) : SE1 X T W al (.If c A B pos) (sIf t g1 g2) := by
  refine PS.wk (ps_if hc ha hb) ?_
  rintro D σ H ⟨s, m, M, G, R, a, q⟩
  refine tT_fl (k := fun s b => if b then g1 s else g2 s) R a q fun b H' M' _ g k => ?_
  cases b with
  | true => exact ⟨s, m, M', G, R.grow g, a, k⟩
  | false => exact ⟨s, m, M', G, R.grow g, a, k⟩
/-- several targets -/
def sTup (t : Tg) (f : Sta → PR D) : Sta → Fl := fun s => (f s).fl s fun d => match t.bind d s.env with
  | some env => .nx { s with env := env }
  | none => .stuck
theorem s_tup {tg : Expr} {t : Tg} {f : Sta → PR D} (he : PDv X T W e f) (hg : PG X tg (tgR X.K t)) (hs : swapsWithSole [tg] e pos.line X.env = pure false := by rfl) (hw : swappedStores [tg] e X.env = pure none := by rfl)
    (h1 : (assignEach [tg] X.env).map (·.2) = [assign tg X.env] := by rfl) : SE1 X T W al (.Assign [tg] e pos) (sTup t f) := by
  refine PS.wk (ps_asg he hg hs hw h1) ?_
  rintro D σ H ⟨s, m, M, G, R, a, q⟩
  refine tD_fl (k := fun s d => match t.bind d s.env with | some env => .nx { s with env := env } | none => .stuck) R a q fun d y H' M' _ g r k => ?_
  cases hb : t.bind d s.env with
  | none => rw [hb] at k; exact k.elim
  | some env =>
    rw [hb] at k
    exact tgR_of (T := T) (G := G) hb r (R.grow g) (Off.refl t.ixs σ) (fun _ h => h) fun σ' R' _ => k σ' H' m M' (Ext.refl ..) a R'

/-! ### loops -/
def loopL (t : Tg) (g : Sta → Fl) : List D → Sta → Fl
  | [], s => .nx s
  | d :: ds, s => match t.bind d s.env with
    | none => .stuck
    | some env => match g { s with env := env } with
      | .nx s' => loopL t g ds s'
      | .cont s' => loopL t g ds s'
      | .brk s' => .nx s'
      | fl => fl
def sFor (f : Sta → PR (List D)) (t : Tg) (g : Sta → Fl) : Sta → Fl := fun s => (f s).fl s fun ds => loopL t g ds s
theorem s_for {tg iter : Expr} {body : List Stmt} {ff : Sta → PR (List D)} {t : Tg} (hp : PassesOwn (model X.prog X.w) X.A X.env X.xe) (hc : X.calm = true) (hi : PIv X T W tg iter ff) (hg : PG X tg (tgR X.K t)) (hb : SEv X T W al body g)
    (hs : ∀ x, foldedSetIterable iter X.env x = pure x := by intro _; rfl) : SE1 X T W al (.For tg iter body [] pos) (sFor ff t g) := by
  refine PS.wk (ps_for hp hc hi hg hb hs) ?_
  rintro D σ H ⟨s, m, M, G, R, a, q⟩
  refine ⟨s, m, M, G, R, ?_⟩
  unfold sFor PR.fl at q
  cases hf : ff s with
  | ok ds =>
    rw [hf] at q
    intro J H1 M1 g1 it
    refine ⟨fun i μ σ' H' => μ = ds.length - i ∧ i ≤ ds.length ∧ ∃ s' m' M', Ext al G m M1 m' M' ∧ AL al m' s' ∧ Rel X.K T m' M' G H' s' σ' ∧ FlP X T W al G m' M' D (loopL t g (ds.drop i) s'),
      ⟨ds.length, rfl, Nat.zero_le _, s, m, M1, Ext.refl .., a, R.grow g1, FlP.ext q (Ext.grow g1 R.gh)⟩, ?_⟩
    rintro i μ σ' H' ⟨rfl, hi', s', m', M', e', a', R', q'⟩
    have iti := fun d => (it i M' H' e'.mm R'.mh (Same.none _)).1 d
    by_cases hlt : i < ds.length
    · have hd : ds[i]? = some ds[i] := by simp [hlt]
      have hdrop : ds.drop i = ds[i] :: ds.drop (i + 1) := List.drop_eq_getElem_cons hlt
      generalize ds[i] = d at hd hdrop
      obtain ⟨go, yld⟩ := iti d hd
      rw [hdrop, loopL] at q'
      cases hb' : t.bind d s'.env with
      | none => rw [hb'] at q'; exact q'.elim
      | some env =>
        simp only [hb'] at q'
        refine .inr ⟨go, fun σ' H' => ∃ s' m' M', Ext al G m M1 m' M' ∧ AL al m' s' ∧ Rel X.K T m' M' G H' s' σ' ∧ FlP X T W al G m' M' D (loopL t g (ds.drop (i + 1)) s'),
          fun σ2 H2 hN => ⟨ds.length - (i + 1), by omega, rfl, hlt, hN⟩, fun x H2 hy => ?_⟩
        obtain ⟨M2, gy, rx⟩ := yld x H2 hy
        -- the iterator yields data at m: it is data at m' too
        have rx' : DR X.K m' M2 x d := DR.mono e'.ml (Same.refl _) _ _ rx
        refine tgR_of (T := T) (G := G) hb' rx' (R'.grow gy) (Off.refl t.ixs σ') (fun _ h => h) fun σ3 R3 _ => ?_
        refine ⟨_, m', M2, G, R3, a', ?_⟩
        have ey : Ext al G m' M' m' M2 := Ext.grow gy R'.gh
        cases hgo : g { s' with env := env } with
        | nx s4 =>
          simp only [hgo] at q'
          exact fun σ5 H5 m5 M5 e5 a5 R5 => ⟨s4, m5, M5, e'.trans (ey.trans e5), a5, R5, FlP.ext q' (ey.trans e5)⟩
        | cont s4 =>
          simp only [hgo] at q'
          exact fun σ5 H5 m5 M5 e5 a5 R5 => ⟨s4, m5, M5, e'.trans (ey.trans e5), a5, R5, FlP.ext q' (ey.trans e5)⟩
        | brk s4 =>
          simp only [hgo] at q'
          exact fun σ5 H5 m5 M5 e5 a5 R5 => q' σ5 H5 m5 M5 (ey.trans e5) a5 R5
        | ret r s4 =>
          simp only [hgo] at q'
          exact fun y H5 m5 M5 e5 a5 R5 => q' y H5 m5 M5 (ey.trans e5) a5 R5
        | exc x s4 =>
          simp only [hgo] at q'
          exact fun cls dd σ5 H5 m5 M5 e5 a5 R5 => q' cls dd σ5 H5 m5 M5 (ey.trans e5) a5 R5
        | stuck => simp only [hgo] at q'; exact q'
    · have hie : i = ds.length := by omega
      subst hie
      rw [List.drop_length, loopL] at q'
      exact .inl ⟨(it ds.length M' H' e'.mm R'.mh (Same.none _)).2 (Nat.le_refl _), q' σ' H' m' M' (Ext.refl ..) a' R'⟩
  | exc x =>
    rw [hf] at q
    exact fun cls d H' M' g x => q cls d σ H' m M' (Ext.grow g R.gh) a (R.grow g) x
  | stuck => rw [hf] at q; exact q
def whL (c : Sta → PR Bool) (g : Sta → Fl) : Nat → Sta → Fl
  | 0, _ => .stuck
  | n + 1, s => (c s).fl s fun b => if b then (match g s with
      | .nx s' => whL c g n s'
      | .cont s' => whL c g n s'
      | .brk s' => .nx s'
      | fl => fl) else .nx s
def sWhile (n : Nat) (c : Sta → PR Bool) (g : Sta → Fl) : Sta → Fl := whL c g n
theorem s_while {c : Expr} {body : List Stmt} {t : Sta → PR Bool} (n : Nat) (hp : PassesOwn (model X.prog X.w) X.A X.env X.xe) (hc : PTv X T W c t) (hb : SEv X T W al body g) : SE1 X T W al (.While c body [] pos) (sWhile n t g) := by
  refine PS.wk (ps_while hp hc hb) ?_
  rintro D σ H ⟨s, m, M, G, R, a, q⟩
  refine ⟨fun k σ' H' => ∃ s' m' M', Ext al G m M m' M' ∧ AL al m' s' ∧ Rel X.K T m' M' G H' s' σ' ∧ FlP X T W al G m' M' D (whL t g k s'), ⟨n, s, m, M, Ext.refl .., a, R, q⟩, ?_⟩
  rintro k σ' H' ⟨s', m', M', e', a', R', q'⟩
  cases k with
  | zero => exact q'.elim
  | succ k =>
    rw [whL] at q'
    refine tT_fl (k := fun s b => if b then (match g s with | .nx s' => whL t g k s' | .cont s' => whL t g k s' | .brk s' => .nx s' | fl => fl) else .nx s) R' a' q' fun b H2 M2 _ gg kk => ?_
    have ey : Ext al G m' M' m' M2 := Ext.grow gg R'.gh
    cases b with
    | false =>
      rw [if_neg Bool.false_ne_true]
      exact kk σ' H2 m' M2 (Ext.refl ..) a' (R'.grow gg)
    | true =>
      rw [if_pos rfl]
      simp only [if_true] at kk
      refine ⟨fun σ3 H3 => ∃ s' m' M', Ext al G m M m' M' ∧ AL al m' s' ∧ Rel X.K T m' M' G H3 s' σ3 ∧ FlP X T W al G m' M' D (whL t g k s'), fun σ3 H3 hN => ⟨k, Nat.lt_succ_self _, hN⟩, ?_⟩
      refine ⟨s', m', M2, G, R'.grow gg, a', ?_⟩
      cases hgo : g s' with
      | nx s4 =>
        simp only [hgo] at kk
        exact fun σ5 H5 m5 M5 e5 a5 R5 => ⟨s4, m5, M5, e'.trans (ey.trans e5), a5, R5, FlP.ext kk e5⟩
      | cont s4 =>
        simp only [hgo] at kk
        exact fun σ5 H5 m5 M5 e5 a5 R5 => ⟨s4, m5, M5, e'.trans (ey.trans e5), a5, R5, FlP.ext kk e5⟩
      | brk s4 =>
        simp only [hgo] at kk
        exact kk
      | ret r s4 =>
        simp only [hgo] at kk
        exact kk
      | exc x s4 =>
        simp only [hgo] at kk
        exact kk
      | stuck => simp only [hgo] at kk; exact kk

/-! ### a name's own list is changed -/
/-- the object of a slot rewritten -/
theorem Rel.mut {s : Sta} {σ : L2.St} {H : Hp} {i : Nat} {d d' : D} {b : Addr} {o' : HO} (R : Rel X.K T m M G H s σ) (hs : s.env[i]? = some (.own d)) (hσ : σ[i]? = some (some (.ref b))) (ho : ObD X.K m M o' d') :
    Rel X.K T m M G (upd H b o') { s with env := s.env.set i (.own d') } σ := by
  obtain ⟨mh, gh, ⟨f1, f2, h1, h2, nd, dj⟩⟩ := R
  obtain ⟨g0, g1, g2, y, ef, ey, ⟨a, o, ef1, rfl, ha, hd⟩, k⟩ := h1.split hs
  rw [hσ] at ey
  cases ey
  subst ef ef1
  have dja := dj b (by simp)
  have eσ : σ = σ.set i (some (.ref b)) := by
    apply List.ext_getElem?
    intro j
    by_cases hj : i = j
    · subst hj
      rw [List.getElem?_set_self (by rw [← h1.len]; exact (List.getElem?_eq_some_iff.mp hs).1)]
      exact hσ
    · rw [List.getElem?_set_ne hj]
  have perm : List.Perm ((g0 ++ [b] ++ g2) ++ f2) (b :: ((g0 ++ g2) ++ f2)) := by
    simp only [List.append_assoc, List.singleton_append]
    exact List.perm_middle
  have nd' := List.nodup_cons.mp (perm.nodup_iff.mp nd)
  have off : ∀ c ∈ (g0 ++ g2) ++ f2, upd H b o' c = H c := fun c hc => upd_ne fun z => nd'.1 (by rw [← z]; exact hc)
  have k2 := k m M (upd H b o') (.own d') (some (.ref b)) [b] (MLe.refl _) (Same.refl _) (fun c hc => off c (List.mem_append_left _ hc)) ⟨b, o', rfl, rfl, upd_same, ho⟩
  rw [← eσ] at k2
  refine ⟨fun c u e => ?_, fun c u e => ?_, g0 ++ [b] ++ g2, f2, k2, h2.mono (MLe.refl _) (MLe.refl _) (Same.refl _) fun c hc => off c (List.mem_append_right _ hc), nd, dj⟩
  · rw [upd_ne (fun z => by rw [z, dja.1] at e; cases e)]
    exact mh _ _ e
  · rw [upd_ne (fun z => by rw [z, dja.2] at e; cases e)]
    exact gh _ _ e
/-- x.append(e) -/
def sApp (i : Nat) (f : Sta → PR D) : Sta → Fl := fun s => match s.env[i]? with
  | some (.own (.list ds)) => (f s).fl s fun d => if ds.length < 16777216 then .nx { s with env := s.env.set i (.own (.list (ds ++ [d]))) } else .stuck
  | _ => .stuck
theorem Rel.own {s : Sta} {σ : L2.St} {H : Hp} {i : Nat} {d : D} (R : Rel X.K T m M G H s σ) (hs : s.env[i]? = some (.own d)) : ∃ b o, σ[i]? = some (some (.ref b)) ∧ H b = some o ∧ ObD X.K m M o d := by
  obtain ⟨mh, gh, ⟨f1, f2, h1, h2, nd, dj⟩⟩ := R
  obtain ⟨yy, fy, ey, ⟨b, o, _, rfl, hb, hd⟩, _⟩ := h1.at hs
  exact ⟨b, o, ey, hb, hd⟩
theorem Rel.ownL {s : Sta} {σ : L2.St} {H : Hp} {i : Nat} {ds : List D} (R : Rel X.K T m M G H s σ) (hs : s.env[i]? = some (.own (.list ds))) : ∃ b xs, σ[i]? = some (some (.ref b)) ∧ H b = some (.lst xs) ∧ DRs X.K m M xs ds := by
  obtain ⟨b, o, h1, h2, h3⟩ := R.own hs
  cases h3 with
  | lst h3 => exact ⟨b, _, h1, h2, h3⟩
theorem app_of {i : Nat} {f : Sta → PR D} {D : Ends} {σ : L2.St} {H : Hp} (h : tS X T W al (sApp i f) D σ H) :
    tDrop (tBM X.K "list" rAppend (tVar i) (tCons (tD X T W f) tNil)) D σ H := by
  obtain ⟨s, m, M, G, R, a, q⟩ := h
  unfold sApp at q
  split at q
  · rename_i ds hs
    obtain ⟨b, xs, hσ, hb, hd⟩ := R.ownL hs
    refine ⟨_, hσ, .inl ⟨rfl, xs, SqL.of hb⟩, ?_⟩
    refine tD_fl (k := fun s d => if ds.length < 16777216 then .nx { s with env := s.env.set i (.own (.list (ds ++ [d]))) } else .stuck) R a q fun d y H' M' _ g r k => ?_
    by_cases hl : ds.length < 16777216
    · rw [if_pos hl] at k
      refine ⟨b, xs, y, rfl, rfl, g.same _ _ hb, by rw [hd.length, sizeLine_eq]; exact hl, ?_⟩
      exact k σ _ m M' (Ext.refl ..) a ((R.grow g).mut hs hσ (.lst ((hd.up g.mm).append (.cons r .nil))))
    · rw [if_neg hl] at k
      exact k.elim
  · exact q.elim
theorem s_app {i : Nat} {x : Str} {e : Expr} {f : Sta → PR D} {px apos cpos : Pos} (hx : PE X (.Name x px) (tVar i)) (he : PDv X T W e f)
    (hbase : attributeBase (.Name x px) "append" X.env (eval (.Name x px) X.env) = eval (.Name x px) X.env := by rfl)
    (hfew : ((backTo cpos (starEach [e] X.env)).all (fun x => !x.1) && (backToKw cpos (keywordEach [] X.env)).all (fun x => x.1.isSome)
      && decide ([e].length + ([] : List Keyword).length + (if ([] : List Keyword).isEmpty then 0 else 1) < 30)) = true := by rfl)
    (hline : (apos.endLine == cpos.line) = true := by rfl) (hs : starEach [e] X.env = (false, eval e X.env) :: starEach [] X.env := by rfl) (hplain : (backTo cpos (starEach [] X.env)).any (·.1) = false := by rfl)
    (hsw : swapsWith (.Call (.Attribute (.Name x px) "append" apos) [e] [] cpos) none pos.line X.env = pure false := by rfl) :
    SE1 X T W al (.Expr (.Call (.Attribute (.Name x px) "append" apos) [e] [] cpos) pos) (sApp i f) :=
  PS.wk (ps_expr (pe_bm PySem.F.plainAttrs_list PySem.F.slot_list_append PySem.F.type_list_append mt_append hx (pa_cons he pa_nil hs) hbase hfew hline hs hplain) hsw) fun D σ H h => app_of h
end
end MP

/-! MP 6: defs, calls, objects. -/
namespace MP
open PySem PySem.Spec PyProof.Rows L2

inductive Fr where
  | ok (r : Slot) (st : List Ob) | exc (e : Ex) (st : List Ob) | stuck
/-- what a def does: its arguments, the objects ahead; its result, the objects behind -/
abbrev Sem := List D → List Ob → Fr
def spF (K : PySem.W.Frag) (T : Tab) (al : Bool) (n : Nat) (sem : Sem) : Sp := fun vs H Q E => ∃ ds st m M G, vs.length = n ∧ DRs K m M vs ds ∧ Rel K T m M G H ⟨[], st⟩ [] ∧ AL al m ⟨[], st⟩ ∧ match sem ds st with
  | .ok r st' => ∀ y H' m' M', Ext al G m M m' M' → AL al m' ⟨[], st'⟩ → Rel K T m' M' G H' ⟨[r], st'⟩ [some y] → Q y H'
  | .exc e st' => ∀ cls d H' m' M', Ext al G m M m' M' → AL al m' ⟨[], st'⟩ → Rel K T m' M' G H' ⟨[], st'⟩ [] → ExR K T m' M' H' e cls d → E cls d H'
  | .stuck => False
def runB (N : Nat) (g : Sta → Fl) : Sem := fun ds st => match g ⟨ds.map Slot.v ++ List.replicate (N - ds.length) .un, st⟩ with
  | .nx s => .ok (.v .none) s.st
  | .ret r s => .ok r s.st
  | .exc e s => .exc e s.st
  | _ => .stuck

section
variable {K : PySem.W.Frag} {T : Tab} {m : List Addr} {M G H : Hp}
theorem slots_start : ∀ {vs : List V} {ds : List D}, DRs K m M vs ds → ∀ n : Nat, SlotsR K m M H (ds.map Slot.v ++ List.replicate n .un) (vs.map some ++ List.replicate n Option.none) []
  | _, _, .nil, 0 => rfl
  | _, _, .nil, n + 1 => ⟨[], [], rfl, rfl, slots_start .nil n⟩
  | _, _, .cons r t, n => ⟨[], [], rfl, ⟨rfl, _, rfl, r⟩, slots_start t n⟩
theorem Rel.start {st : List Ob} {vs : List V} {ds : List D} (R : Rel K T m M G H ⟨[], st⟩ []) (r : DRs K m M vs ds) (n : Nat) : Rel K T m M G H ⟨ds.map Slot.v ++ List.replicate n .un, st⟩ (vs.map some ++ List.replicate n Option.none) := by
  obtain ⟨mh, gh, ⟨f1, f2, h1, h2, nd, dj⟩⟩ := R
  have e : f1 = [] := h1
  subst e
  exact ⟨mh, gh, [], f2, slots_start r n, h2, nd, dj⟩
theorem Rel.store {s : Sta} {σ : L2.St} (R : Rel K T m M G H s σ) : Rel K T m M G H ⟨[], s.st⟩ [] := by
  obtain ⟨mh, gh, ⟨f1, f2, h1, h2, nd, dj⟩⟩ := R
  exact ⟨mh, gh, [], f2, rfl, h2, (List.nodup_append.mp nd).2.1, fun a ha => dj a (by simpa using .inr ha)⟩
end

section
variable {P : Program} {w : World} {K : PySem.W.Frag} {mg : Str → Option Value} {base : Heap} {T : Tab}
/-- THE RULE of a def: its body evaluated -/
theorem fn_ok {x qual : Str} {st : Stmt} {f : Addr} {fd : FuncData} {N ps : List Str} {k : Nat} {al : Bool} {g : Sta → Fl} (F : Fun K x qual st f fd) (S : FnScope N ps (defScope st))
    (hb : ∀ (cdv : Value) (A : Around) (outer : List Env) (s : Shared) (H : Hp) (E : XK), Room k (A.deeper (envOfC qual (defScope st) s.heap.objs.size f cdv)) →
      SEv (cxOf (L2.CX P w) P w K mg base N qual (defScope st) f cdv A outer s H E) T (fun cls d _ H => E cls d H) al (defBody st) g) :
    FnOk P w K mg base (L2.CX P w) (k + 1) f fd ps (spF K T al ps.length (runB N.length g)) := by
  refine F.okX S (fun vs H Q E h => ?_) fun cdv A outer s H vs Q E hr h => ?_
  · obtain ⟨ds, sto, m, M, G, hl, _⟩ := h
    exact hl
  · obtain ⟨ds, sto, m, M, G, hl, r, R, a, q⟩ := h
    refine ⟨_, hb cdv A outer s H E hr, ?_⟩
    have e : start N vs = vs.map some ++ List.replicate (N.length - ds.length) Option.none := by
      unfold L2.start
      rw [r.length]
    rw [e]
    refine ⟨⟨ds.map Slot.v ++ List.replicate (N.length - ds.length) Slot.un, sto⟩, m, M, G, R.start r (N.length - ds.length), a, ?_⟩
    unfold runB at q
    cases hg : g ⟨ds.map Slot.v ++ List.replicate (N.length - ds.length) .un, sto⟩ with
    | nx s' =>
      rw [hg] at q
      intro σ' H' m' M' e' a' R'
      exact q .non H' m' M' e' a' (R'.only (X := cxOf (L2.CX P w) P w K mg base N qual (defScope st) f cdv A outer s H E) .non)
    | ret r s' =>
      rw [hg] at q
      exact fun y H' m' M' e' a' R' => q y H' m' M' e' a' R'
    | exc x s' =>
      rw [hg] at q
      exact fun cls d σ' H' m' M' e' a' R' xr => q cls d H' m' M' e' a' R'.store xr
    | brk s' => rw [hg] at q; exact q.elim
    | cont s' => rw [hg] at q; exact q.elim
    | stuck => rw [hg] at q; exact q.elim
/-- a def to be called by its name -/
def Callee (P : Program) (w : World) (K : PySem.W.Frag) (mg : Str → Option Value) (base : Heap) (T : Tab) (x : Str) (al : Bool) (k n : Nat) (sem : Sem) : Prop :=
  ∃ f fd ps, FnOk P w K mg base (L2.CX P w) k f fd ps (spF K T al n sem) ∧ mg x = some (.ref f) ∧ PySem.W.keepIn K (.ref f) = true ∧ Binds K fd ps []
end

/-! ### a def called that does not touch the objects -/
section
variable {X : Cx} {T : Tab} {W : WX} {e o : Expr} {es : List Expr} {pos p : Pos} {fs : Sta → PR (List D)} {k n : Nat} {sem : Sem} {x : Str}
def Slot.rv : Slot → PR RV
  | .v d => .ok (sh d)
  | .own d => .ok (fr d)
  | .un => .stuck
def pUser (n : Nat) (sem : Sem) (fs : Sta → PR (List D)) : Sta → PR RV := fun s => (fs s).bind fun ds => if ds.length = n then (match sem ds [] with
  | .ok r _ => r.rv
  | .exc e _ => .exc e
  | .stuck => .stuck) else .stuck
theorem rel_pure {K : PySem.W.Frag} {m : List Addr} {M H : Hp} (mh : Same M H) : Rel K T m M H H ⟨[], []⟩ [] := ⟨mh, Same.refl _, [], [], rfl, rfl, List.nodup_nil, fun a ha => nomatch ha⟩
theorem ev_user (c : Callee X.prog X.w X.K X.mg X.base T x false k n sem) (hr : Room k X.A) (hg : Gl X x) (tk : Takes X W) (ha : PAs X T W (e :: es) fs)
    (hdb : (x == ("__debug__" : Str)) = false := by decide) (he : starEach (e :: es) X.env = (false, eval e X.env) :: starEach es X.env := by rfl) (hpl : (backTo pos (starEach es X.env)).any (·.1) = false := by rfl) :
    PEv X T W (.Call (.Name x p) (e :: es) [] pos) (pUser n sem fs) := by
  obtain ⟨f, fd, ps, F, hm, hk, hb⟩ := c
  refine PE.wk (pe_callS F hr hg hm hk hb (fun σ => passAt tk σ) ha hdb he hpl) ?_
  rintro σ H Q ⟨s, m, M, G, R, q⟩
  refine ⟨s, m, M, G, R, ?_⟩
  revert q
  unfold pUser PR.bind
  cases fs s with
  | ok ds =>
    intro q ys H1 M1 g1 r1
    dsimp only at q
    by_cases hl : ds.length = n
    · rw [if_pos hl] at q
      refine ⟨ds, [], m, M1, H1, by rw [r1.length]; exact hl, r1, rel_pure g1.mh, (fun h => nomatch h), ?_⟩
      have grow : ∀ {m' : List Addr} {M' H' : Hp} {r : Slot} {st' : List Ob} {σ' : L2.St}, Ext false H1 m M1 m' M' → Rel X.K T m' M' H1 H' ⟨[r], st'⟩ σ' → m' = m ∧ Grow H1 M1 H' M' := fun e' R' => ⟨e'.nl rfl, R'.gh, e'.mm, R'.mh, e'.new⟩
      cases hs : sem ds [] with
      | ok r st' =>
        rw [hs] at q
        intro y H' m' M' e' a' R'
        obtain ⟨em, g2⟩ := grow e' R'
        subst em
        obtain ⟨mh, gh, ⟨f1, f2, h1, h2, nd, dj⟩⟩ := R'
        obtain ⟨f3, f4, ef, h3, h4⟩ := h1
        cases r with
        | un => exact q.elim
        | v d =>
          obtain ⟨_, y', ey, hd⟩ := h3
          cases ey
          exact q y H' M' (g1.trans g2) hd
        | own d =>
          obtain ⟨b, ob, ef3, ey, hb', hd⟩ := h3
          cases ey
          have dja := dj b (by simp [ef, ef3])
          refine q (.ref b) H' M' (g1.trans g2) ⟨b, ob, rfl, hb', hd, dja.1, ?_⟩
          exact g1.same.free dja.2
      | exc x st' =>
        rw [hs] at q
        intro cls d H' m' M' e' a' R' xr
        have em := e'.nl rfl
        subst em
        have g2 : Grow H1 M1 H' M' := ⟨R'.gh, e'.mm, R'.mh, e'.new⟩
        exact q cls d H' M' (g1.trans g2) xr
      | stuck => rw [hs] at q; exact q
    · rw [if_neg hl] at q
      exact q.elim
  | exc e => intro q; exact q
  | stuck => intro q; exact q
end

/-! ### expressions that may change objects: the result stands ahead of the slots -/
inductive Fe where
  | ok (r : Slot) (s : Sta) | exc (e : Ex) (s : Sta) | stuck
section
variable (X : Cx) (T : Tab) (W : WX)
def FeP (al : Bool) (G : Hp) (m : List Addr) (M : Hp) (σ : L2.St) (Q : VK) : Fe → Prop
  | .ok r s' => ∀ y H' m' M', Ext al G m M m' M' → AL al m' s' → Rel X.K T m' M' G H' ⟨r :: s'.env, s'.st⟩ (some y :: σ) → Q y H'
  | .exc e s' => ∀ cls d H' m' M', Ext al G m M m' M' → AL al m' s' → Rel X.K T m' M' G H' s' σ → ExR X.K T m' M' H' e cls d → W cls d σ H'
  | .stuck => False
def tF (al : Bool) (g : Sta → Fe) : TE := fun σ H Q => ∃ s m M G, Rel X.K T m M G H s σ ∧ AL al m s ∧ FeP X T W al G m M σ Q (g s)
abbrev FEv (al : Bool) (e : Expr) (g : Sta → Fe) : Prop := PE X e (tF X T W al g)
end
section
variable {X : Cx} {T : Tab} {W : WX} {al : Bool} {G : Hp} {m m' : List Addr} {M M' H H' : Hp}
theorem Rel.consU {s : Sta} {σ : L2.St} (R : Rel X.K T m M G H s σ) : Rel X.K T m M G H ⟨.un :: s.env, s.st⟩ (Option.none :: σ) := by
  obtain ⟨mh, gh, ⟨f1, f2, h1, h2, nd, dj⟩⟩ := R
  exact ⟨mh, gh, f1, f2, ⟨[], f1, rfl, rfl, h1⟩, h2, nd, dj⟩
theorem Rel.tail {r : Slot} {env : List Slot} {st : List Ob} {y : Option V} {σ : L2.St} (R : Rel X.K T m M G H ⟨r :: env, st⟩ (y :: σ)) : Rel X.K T m M G H ⟨env, st⟩ σ := by
  obtain ⟨mh, gh, ⟨f1, f2, h1, h2, nd, dj⟩⟩ := R
  obtain ⟨g1, g2, e, h3, h4⟩ := h1
  subst e
  have sub : (g2 ++ f2).Sublist ((g1 ++ g2) ++ f2) := List.Sublist.append (List.sublist_append_right _ _) (List.Sublist.refl _)
  exact ⟨mh, gh, g2, f2, h4, h2, nd.sublist sub, fun a ha => dj a (sub.subset ha)⟩
theorem SlotR.fpu {K : PySem.W.Frag} {sl : Slot} {y : Option V} {fa fb : List Addr} (p : SlotR K m M H sl y fa) (q : SlotR K m M H sl y fb) : fa = fb := by
  cases sl with
  | un => rw [show fa = [] from p, show fb = [] from q]
  | v d => rw [p.1, q.1]
  | own d =>
    obtain ⟨a, o, e, ex, _⟩ := p
    obtain ⟨b, o', e', ex', _⟩ := q
    rw [ex] at ex'
    cases ex'
    rw [e, e']
theorem SlotsR.fpu {K : PySem.W.Frag} : ∀ {s : List Slot} {x : List (Option V)} {fa fb : List Addr}, SlotsR K m M H s x fa → SlotsR K m M H s x fb → fa = fb
  | [], [], _, _, p, q => by rw [show _ = [] from p, show _ = [] from q]
  | s :: ss, x :: xs, fa, fb, p, q => by
    obtain ⟨p1, p2, ep, p3, p4⟩ := p
    obtain ⟨q1, q2, eq, q3, q4⟩ := q
    rw [ep, eq, SlotR.fpu p3 q3, SlotsR.fpu p4 q4]
  | [], _ :: _, _, _, p, _ => p.elim
  | _ :: _, [], _, _, p, _ => p.elim
theorem FsR.fpu {K : PySem.W.Frag} {nm : Nat → Str} : ∀ {s : List (Nat × Slot)} {x : List (Str × V)} {fa fb : List Addr}, FsR K nm m M H s x fa → FsR K nm m M H s x fb → fa = fb
  | [], [], _, _, p, q => by rw [show _ = [] from p, show _ = [] from q]
  | (i, s) :: ss, (x, v) :: xs, fa, fb, p, q => by
    obtain ⟨p1, p2, ep, _, p3, p4⟩ := p
    obtain ⟨q1, q2, eq, _, q3, q4⟩ := q
    rw [ep, eq, SlotR.fpu p3 q3, FsR.fpu p4 q4]
  | [], _ :: _, _, _, p, _ => p.elim
  | _ :: _, [], _, _, p, _ => p.elim
theorem StoreR.fpu {K : PySem.W.Frag} : ∀ {s : List Ob} {as : List Addr} {fa fb : List Addr}, StoreR K T m M H s as fa → StoreR K T m M H s as fb → fa = fb
  | [], _, _, _, p, q => by rw [show _ = [] from p, show _ = [] from q]
  | ob :: obs, a :: as, fa, fb, p, q => by
    obtain ⟨p1, p2, ep, ⟨dx, fs, f, e1, e2, e3⟩, p4⟩ := p
    obtain ⟨q1, q2, eq, ⟨dx', fs', f', e1', e2', e3'⟩, q4⟩ := q
    rw [e2] at e2'
    have e6 : fs = fs' := by
      injection e2' with e2'
      injection e2'
    subst e6
    rw [ep, eq, e1, e1', FsR.fpu e3 e3', StoreR.fpu p4 q4]
  | _ :: _, [], _, _, p, _ => p.elim
/-- the result goes to a name -/
theorem Rel.move {r : Slot} {env : List Slot} {st : List Ob} {y : Option V} {σ : L2.St} (R : Rel X.K T m M G H ⟨r :: env, st⟩ (y :: σ)) (i : Nat) : Rel X.K T m M G H ⟨env.set i r, st⟩ (σ.set i y) := by
  have R2 := R.tail
  obtain ⟨mh, gh, ⟨f1, f2, h1, h2, nd, dj⟩⟩ := R
  obtain ⟨g1, g2, e, h3, h4⟩ := h1
  subst e
  have nd' := List.nodup_append.mp (show (g1 ++ (g2 ++ f2)).Nodup by rw [← List.append_assoc]; exact nd)
  refine R2.setAny i h3 nd'.1 fun a ha => ⟨fun k1 k2 p1 p2 hm => ?_, dj a (by simp [ha])⟩
  rw [SlotsR.fpu p1 h4, StoreR.fpu p2 h2] at hm
  exact nd'.2.2 a ha a hm rfl
/-- .. or is returned -/
theorem Rel.ret {r : Slot} {env : List Slot} {st : List Ob} {y : Option V} {σ : L2.St} (R : Rel X.K T m M G H ⟨r :: env, st⟩ (y :: σ)) : Rel X.K T m M G H ⟨[r], st⟩ [y] := by
  obtain ⟨mh, gh, ⟨f1, f2, h1, h2, nd, dj⟩⟩ := R
  obtain ⟨g1, g2, e, h3, h4⟩ := h1
  subst e
  have sub : (g1 ++ f2).Sublist ((g1 ++ g2) ++ f2) := List.Sublist.append (List.sublist_append_left _ _) (List.Sublist.refl _)
  exact ⟨mh, gh, g1, f2, ⟨g1, [], by simp, h3, rfl⟩, h2, nd.sublist sub, fun a ha => dj a (sub.subset ha)⟩

variable {e o : Expr} {es : List Expr} {pos p : Pos} {f : Sta → PR RV} {g : Sta → Fe} {g1 g2 : Sta → Fl}
def Fe.fl (x : Fe) (k : Slot → Sta → Fl) : Fl := match x with
  | .ok r s => k r s
  | .exc e s => .exc e s
  | .stuck => .stuck
theorem tF_fl {k : Slot → Sta → Fl} {Dn : Ends} {σ : L2.St} {Q : VK} {s : Sta} (R : Rel X.K T m M G H s σ) (a : AL al m s) (q : FlP X T W al G m M Dn ((g s).fl k))
    (h : ∀ r s' y H' m' M', Ext al G m M m' M' → AL al m' s' → Rel X.K T m' M' G H' ⟨r :: s'.env, s'.st⟩ (some y :: σ) → FlP X T W al G m' M' Dn (k r s') → Q y H') : tF X T W al g σ H Q := by
  refine ⟨s, m, M, G, R, a, ?_⟩
  unfold Fe.fl at q
  cases hg : g s with
  | ok r s' => rw [hg] at q; exact fun y H' m' M' e' a' R' => h r s' y H' m' M' e' a' R' (FlP.ext q e')
  | exc x s' => rw [hg] at q; exact fun cls d H' m' M' e' a' R' xr => q cls d σ H' m' M' e' a' R' xr
  | stuck => rw [hg] at q; exact q
def sExprF (g : Sta → Fe) : Sta → Fl := fun s => (g s).fl fun _ s' => .nx s'
theorem s_exprF (he : FEv X T W al e g) (hs : swapsWith e none pos.line X.env = pure false := by rfl) : SE1 X T W al (.Expr e pos) (sExprF g) := by
  refine PS.wk (ps_expr he hs) ?_
  rintro D σ H ⟨s, m, M, G, R, a, q⟩
  exact tF_fl (k := fun _ s' => .nx s') R a q fun r s' y H' m' M' e' a' R' k => k σ H' m' M' (Ext.refl ..) a' R'.tail
def sSetF (i : Nat) (g : Sta → Fe) : Sta → Fl := fun s => (g s).fl fun r s' => .nx { s' with env := s'.env.set i r }
theorem s_setF {i : Nat} {x : Str} {pos' : Pos} (hN : X.N.Nodup) (hi : X.N[i]? = some x) (hx : Loc X.env.scope x) (he : FEv X T W al e g) (hs : swapsWith e (some (.Name x pos')) pos.line X.env = pure false := by rfl) (hf : X.fn x = true ∨ X.env.scope.names.lookup x = some .local := by first | exact .inl rfl | exact .inr rfl | assumption) :
    SE1 X T W al (.Assign [.Name x pos'] e pos) (sSetF i g) := by
  refine PS.wk (ps_set hN hi hx he hs hf) ?_
  rintro D σ H ⟨s, m, M, G, R, a, q⟩
  exact tF_fl (k := fun r s' => .nx { s' with env := s'.env.set i r }) R a q fun r s' y H' m' M' e' a' R' k => k _ H' m' M' (Ext.refl ..) a' (R'.move i)
def sRetF (g : Sta → Fe) : Sta → Fl := fun s => (g s).fl fun r s' => .ret r s'
theorem s_retF (he : FEv X T W al e g) : SE1 X T W al (.Return (some e) pos) (sRetF g) := by
  refine PS.wk (ps_ret he) ?_
  rintro D σ H ⟨s, m, M, G, R, a, q⟩
  exact tF_fl (k := fun r s' => .ret r s') R a q fun r s' y H' m' M' e' a' R' k => k y H' m' M' (Ext.refl ..) a' R'.ret
def sIfF (g : Sta → Fe) (g1 g2 : Sta → Fl) : Sta → Fl := fun s => (g s).fl fun r s' => match r with
  | .v (.bool b) => if b then g1 s' else g2 s'
  | _ => .stuck
theorem Rel.head {K : PySem.W.Frag} {d : D} {env : List Slot} {st : List Ob} {y : V} {σ : L2.St} (R : Rel K T m M G H ⟨.v d :: env, st⟩ (some y :: σ)) : DR K m M y d := by
  obtain ⟨mh, gh, ⟨f1, f2, h1, h2, nd, dj⟩⟩ := R
  obtain ⟨g1, g2, e, ⟨_, y', ey, hd⟩, h4⟩ := h1
  cases ey
  exact hd
theorem s_ifF {A B : List Stmt} (he : FEv X T W al e g) (ha : SEv X T W al A g1) (hb : SEv X T W al B g2) (hw : ∀ whole, isTrue e X.env whole = (do let v ← whole; standAt e.pos; holding [v] (truthy v)) := by intro _; rfl) :
    SE1 X T W al (.If e A B pos) (sIfF g g1 g2) := by
  refine PS.wk (ps_if (pt_val he hw) ha hb) ?_
  rintro D σ H ⟨s, m, M, G, R, a, q⟩
  refine tF_fl (k := fun r s' => match r with | .v (.bool b) => if b then g1 s' else g2 s' | _ => .stuck) R a q fun r s' y H' m' M' e' a' R' k => ?_
  split at k
  · rename_i b
    have hd := R'.head
    cases hd
    refine ⟨b, rfl, ?_⟩
    cases b with
    | true => exact ⟨s', m', M', G, R'.tail, a', k⟩
    | false => exact ⟨s', m', M', G, R'.tail, a', k⟩
  · exact k.elim
/-- an expression that changes nothing, as one that may -/
def fP (f : Sta → PR RV) : Sta → Fe := fun s => match f s with
  | .ok r => match r.slot with
    | .ok sl => .ok sl s
    | _ => .stuck
  | .exc e => .exc e s
  | .stuck => .stuck
theorem fe_of (h : PEv X T W e f) : FEv X T W al e (fP f) := by
  refine PE.wk h ?_
  rintro σ H Q ⟨s, m, M, G, R, a, q⟩
  refine ⟨s, m, M, G, R, ?_⟩
  unfold fP at q
  cases hf : f s with
  | ok r =>
    rw [hf] at q
    intro y H' M' g rr
    cases hs : r.slot with
    | ok sl =>
      simp only [hs] at q
      exact q y H' m M' (Ext.grow g R.gh) a (R.consU.setRV g rr hs 0)
    | exc e => exact (slot_ne hs).elim
    | stuck => simp only [hs] at q; exact q.elim
  | exc x => rw [hf] at q; exact fun cls d H' M' g xr => q cls d H' m M' (Ext.grow g R.gh) a (R.grow g) xr
  | stuck => rw [hf] at q; exact q

/-! ### the caller's state around a call -/
/-- what a callee must leave: all but the objects of the store -/
def guard (H : Hp) (f : List Addr) : Hp := fun b => if b ∈ f then Option.none else H b
theorem guard_off {H : Hp} {f : List Addr} {b : Addr} (h : b ∉ f) : guard H f b = H b := if_neg h
theorem guard_in {H : Hp} {f : List Addr} {b : Addr} (h : b ∈ f) : guard H f b = Option.none := if_pos h
/-- into a callee and back -/
theorem Rel.enter {s : Sta} {σ : L2.St} (R : Rel X.K T m M G H s σ) : ∃ Gc, Rel X.K T m M Gc H ⟨[], s.st⟩ [] ∧
    (∀ {m' : List Addr} {M' H' : Hp} {env' : List Slot} {st' : List Ob} {σ' : L2.St}, Ext al Gc m M m' M' → Rel X.K T m' M' Gc H' ⟨env', st'⟩ σ' → Ext al G m M m' M' ∧ Rel X.K T m' M' G H' ⟨env' ++ s.env, st'⟩ (σ' ++ σ)) := by
  obtain ⟨mh, gh, ⟨f1, f2, h1, h2, nd, dj⟩⟩ := R
  have nd' := List.nodup_append.mp nd
  refine ⟨guard H f2, ⟨mh, fun b o e => ?_, [], f2, rfl, h2, nd'.2.1, fun a ha => ⟨(dj a (by simpa using .inr ha)).1, guard_in (by simpa using ha)⟩⟩, fun {m' M' H' env' st' σ'} e' R' => ?_⟩
  · by_cases hb : b ∈ f2
    · rw [guard_in hb] at e; cases e
    · rw [guard_off hb] at e; exact e
  · obtain ⟨mh', gh', ⟨k1, k2, p1, p2, nd2, dj2⟩⟩ := R'
    have gG : ∀ b, guard H f2 b = Option.none → G b = Option.none := fun b hb => by
      by_cases hm : b ∈ f2
      · exact (dj b (by simp [hm])).2
      · rw [guard_off hm] at hb
        exact gh.free hb
    have gGH : Same G H' := fun b o e => gh' b o (by
      by_cases hm : b ∈ f2
      · rw [(dj b (by simp [hm])).2] at e; cases e
      · rw [guard_off hm]; exact gh _ _ e)
    have same1 : ∀ a ∈ f1, H' a = H a := fun a ha => by
      obtain ⟨o, ho⟩ := h1.here a ha
      have hn : a ∉ f2 := fun z => nd'.2.2 a ha a z rfl
      rw [ho]
      exact gh' a o (by rw [guard_off hn]; exact ho)
    have off1 : ∀ a ∈ f1, a ∉ k1 ++ k2 := fun a ha hm => by
      obtain ⟨o, ho⟩ := h1.here a ha
      have hn : a ∉ f2 := fun z => nd'.2.2 a ha a z rfl
      have := (dj2 a hm).2
      rw [guard_off hn, ho] at this
      cases this
    refine ⟨⟨e'.ml, e'.nl, e'.mm, fun b o hb => (e'.new b o hb).imp_right (gG b)⟩, mh', gGH, k1 ++ f1, k2, ?_, p2, ?_, fun a ha => ?_⟩
    · have sl : ∀ {s1 : List Slot} {x1 : List (Option V)} {q1 : List Addr}, SlotsR X.K m' M' H' s1 x1 q1 → SlotsR X.K m' M' H' (s1 ++ s.env) (x1 ++ σ) (q1 ++ f1) := by
        intro s1
        induction s1 with
        | nil =>
          intro x1 q1 hq
          cases x1 with
          | nil =>
            have : q1 = [] := hq
            subst this
            exact h1.mono e'.ml e'.mm same1
          | cons _ _ => exact hq.elim
        | cons s1 ss ih =>
          intro x1 q1 hq
          cases x1 with
          | nil => exact hq.elim
          | cons x xs =>
            obtain ⟨a1, a2, ea, b1, b2⟩ := hq
            exact ⟨a1, a2 ++ f1, by rw [ea, List.append_assoc], b1, ih b2⟩
      exact sl p1
    · have perm : List.Perm ((k1 ++ f1) ++ k2) (f1 ++ (k1 ++ k2)) := by
        rw [List.append_assoc]
        exact List.perm_append_comm_assoc k1 f1 k2
      rw [perm.nodup_iff, List.nodup_append]
      exact ⟨nd'.1, nd2, fun a ha b hb e => off1 a ha (by rw [e]; exact hb)⟩
    · simp only [List.mem_append] at ha
      have inner : a ∈ k1 ++ k2 → M' a = Option.none ∧ G a = Option.none := fun h => ⟨(dj2 a h).1, gG a (dj2 a h).2⟩
      rcases ha with (ha | ha) | ha
      · exact inner (by simp [ha])
      · refine ⟨?_, (dj a (by simp [ha])).2⟩
        cases hM : M' a with
        | none => rfl
        | some o =>
          rcases e'.new a o hM with z | z
          · rw [(dj a (by simp [ha])).1] at z; cases z
          · obtain ⟨o', ho⟩ := h1.here a ha
            have hn : a ∉ f2 := fun z => nd'.2.2 a ha a z rfl
            rw [guard_off hn, ho] at z
            cases z
      · exact inner (by simp [ha])
def Fr.fe (x : Fr) (s : Sta) : Fe := match x with
  | .ok r st => .ok r { s with st := st }
  | .exc e st => .exc e { s with st := st }
  | .stuck => .stuck
/-- the promise of a callee, from the caller's state -/
theorem spF_of {K : PySem.W.Frag} (hK : X.K = K) {n : Nat} {sem : Sem} {s : Sta} {σ : L2.St} {vs : List V} {ds : List D} {Q : VK} (R : Rel X.K T m M G H s σ) (a : AL al m s) (hl : vs.length = n) (r : DRs X.K m M vs ds) (q : FeP X T W al G m M σ Q ((sem ds s.st).fe s)) :
    spF K T al n sem vs H Q (WE W σ) := by
  subst hK
  obtain ⟨Gc, Rc, back⟩ := R.enter (al := al)
  refine ⟨ds, s.st, m, M, Gc, hl, r, Rc, a, ?_⟩
  unfold Fr.fe at q
  cases hs : sem ds s.st with
  | ok r st' =>
    rw [hs] at q
    intro y H' m' M' e' a' R'
    obtain ⟨e2, R2⟩ := back e' R'
    exact q y H' m' M' e2 a' R2
  | exc x st' =>
    rw [hs] at q
    intro cls d H' m' M' e' a' R' xr
    obtain ⟨e2, R2⟩ := back e' R'
    exact q cls d H' m' M' e2 a' R2 xr
  | stuck => rw [hs] at q; exact q
variable {fs : Sta → PR (List D)} {k n : Nat} {sem : Sem} {x : Str}
theorem tAs_fe {kk : Sta → List D → Fe} {σ : L2.St} {Q : VK} {R2 : List V → Hp → Prop} {s : Sta} (R : Rel X.K T m M G H s σ) (a : AL al m s) (q : FeP X T W al G m M σ Q (match fs s with | .ok ds => kk s ds | .exc e => .exc e s | .stuck => .stuck))
    (h : ∀ ds ys H' M', Grow H M H' M' → DRs X.K m M' ys ds → FeP X T W al G m M' σ Q (kk s ds) → R2 ys H') : tAs X T W fs σ H R2 := by
  refine ⟨s, m, M, G, R, ?_⟩
  cases hf : fs s with
  | ok ds =>
    rw [hf] at q
    intro ys H' M' g r
    refine h ds ys H' M' g r ?_
    have e0 := Ext.grow (al := al) (m := m) g R.gh
    revert q
    dsimp only
    cases kk s ds with
    | ok r s' => intro q y H2 m2 M2 e2; exact q y H2 m2 M2 (e0.trans e2)
    | exc x s' => intro q cls d H2 m2 M2 e2; exact q cls d H2 m2 M2 (e0.trans e2)
    | stuck => intro q; exact q
  | exc x => rw [hf] at q; exact fun cls d H' M' g xr => q cls d H' m M' (Ext.grow g R.gh) a (R.grow g) xr
  | stuck => rw [hf] at q; exact q
/-- f(..), with the objects -/
def fUser (n : Nat) (sem : Sem) (fs : Sta → PR (List D)) : Sta → Fe := fun s => match fs s with
  | .ok ds => if ds.length = n then (sem ds s.st).fe s else .stuck
  | .exc e => .exc e s
  | .stuck => .stuck
theorem fe_user (c : Callee X.prog X.w X.K X.mg X.base T x al k n sem) (hr : Room k X.A) (hg : Gl X x) (tk : Takes X W) (ha : PAs X T W (e :: es) fs)
    (hdb : (x == ("__debug__" : Str)) = false := by decide) (he : starEach (e :: es) X.env = (false, eval e X.env) :: starEach es X.env := by rfl) (hpl : (backTo pos (starEach es X.env)).any (·.1) = false := by rfl) :
    FEv X T W al (.Call (.Name x p) (e :: es) [] pos) (fUser n sem fs) := by
  obtain ⟨f, fd, ps, F, hm, hk, hb⟩ := c
  refine PE.wk (pe_callS F hr hg hm hk hb (fun σ => passAt tk σ) ha hdb he hpl) ?_
  rintro σ H Q ⟨s, m, M, G, R, a, q⟩
  refine tAs_fe (kk := fun s ds => if ds.length = n then (sem ds s.st).fe s else .stuck) R a q fun ds ys H' M' g r k => ?_
  by_cases hl : ds.length = n
  · rw [if_pos hl] at k
    exact spF_of rfl (R.grow g) a (by rw [r.length]; exact hl) r k
  · rw [if_neg hl] at k
    exact k.elim
end
end MP

/-! MP 7: objects with attributes. -/
namespace MP
open PySem PySem.Spec PyProof.Rows L2

/-- names by a table -/
def nmOf (l : List Str) (i : Nat) : Str := match l[i]? with
  | some x => x
  | none => ⟨Array.replicate (i + 1000) 97⟩
theorem nmOf_inj {l : List Str} (h : l.Nodup) (hs : ∀ x ∈ l, x.cps.size < 1000) : ∀ i j, nmOf l i = nmOf l j → i = j := by
  intro i j e
  unfold nmOf at e
  cases hi : l[i]? with
  | none =>
    cases hj : l[j]? with
    | none =>
      simp only [hi, hj] at e
      have := congrArg (fun x : Str => x.cps.size) e
      simp at this
      exact this
    | some y =>
      simp only [hi, hj] at e
      have := hs y (List.mem_of_getElem? hj)
      rw [← e] at this
      simp at this
      omega
  | some x =>
    cases hj : l[j]? with
    | none =>
      simp only [hi, hj] at e
      have := hs x (List.mem_of_getElem? hi)
      rw [e] at this
      simp at this
      omega
    | some y =>
      simp only [hi, hj] at e
      subst e
      exact nodup_ix h hi hj
theorem nmOf_ne {l : List Str} {x : Str} (h : x ∉ l) (hs : x.cps.size < 1000) : ∀ i, nmOf l i ≠ x := by
  intro i e
  unfold nmOf at e
  cases hi : l[i]? with
  | none =>
    simp only [hi] at e
    rw [← e] at hs
    simp at hs
    omega
  | some y =>
    simp only [hi] at e
    subst e
    exact h (List.mem_of_getElem? hi)

def putO (f : Nat) (s : Slot) : List (Nat × Slot) → List (Nat × Slot)
  | [] => [(f, s)]
  | (g, x) :: r => if g = f then (g, s) :: r else (g, x) :: putO f s r

section
variable {K : PySem.W.Frag} {T : Tab} {m m' : List Addr} {M M' G H H' : Hp}
theorem FsR.look : ∀ {s : List (Nat × Slot)} {x : List (Str × V)} {fp : List Addr} {f : Nat} {sl : Slot}, FsR K T.nm m M H s x fp → s.lookup f = some sl → ∃ v g, x.lookup (T.nm f) = some v ∧ SlotR K m M H sl (some v) g ∧ ∀ a ∈ g, a ∈ fp
  | [], [], _, _, _, _, e => by cases e
  | (i, s) :: ss, (x, v) :: xs, fp, f, sl, h, e => by
    obtain ⟨f1, f2, ef, ex, h1, h2⟩ := h
    by_cases hf : f = i
    · subst hf
      have e' : s = sl := by simpa [List.lookup] using e
      subst e'
      subst ex
      exact ⟨v, f1, by simp [List.lookup], h1, fun a ha => by rw [ef]; exact List.mem_append_left _ ha⟩
    · have hb : (f == i) = false := beq_eq_false_iff_ne.mpr hf
      have e' : ss.lookup f = some sl := by simpa only [List.lookup, hb] using e
      obtain ⟨v', g, e1, e2, e3⟩ := FsR.look h2 e'
      refine ⟨v', g, ?_, e2, fun a ha => by rw [ef]; exact List.mem_append_right _ (e3 a ha)⟩
      have hb2 : (T.nm f == x) = false := beq_eq_false_iff_ne.mpr fun z => hf (T.inj _ _ (z.trans ex))
      simp only [List.lookup, hb2]
      exact e1
  | [], _ :: _, _, _, _, h, _ => h.elim
  | _ :: _, [], _, _, _, h, _ => h.elim
theorem FsR.noName {x0 : Str} (hx : ∀ i, T.nm i ≠ x0) : ∀ {s : List (Nat × Slot)} {x : List (Str × V)} {fp : List Addr}, FsR K T.nm m M H s x fp → x.lookup x0 = Option.none
  | [], [], _, _ => rfl
  | (i, s) :: ss, (x, v) :: xs, fp, h => by
    obtain ⟨f1, f2, ef, ex, h1, h2⟩ := h
    have hb : (x0 == x) = false := beq_eq_false_iff_ne.mpr fun z => hx i (by rw [z, ex])
    simp only [List.lookup, hb]
    exact FsR.noName hx h2
  | [], _ :: _, _, h => h.elim
  | _ :: _, [], _, h => h.elim
theorem FsR.length : ∀ {s : List (Nat × Slot)} {x : List (Str × V)} {fp : List Addr}, FsR K T.nm m M H s x fp → x.length = s.length
  | [], [], _, _ => rfl
  | (i, s) :: ss, (x, v) :: xs, fp, h => by
    obtain ⟨f1, f2, ef, ex, h1, h2⟩ := h
    simp [FsR.length h2]
  | [], _ :: _, _, h => h.elim
  | _ :: _, [], _, h => h.elim
/-- an attribute stored -/
theorem FsR.put {f : Nat} {sl : Slot} {v : V} {g : List Addr} (hm : MLe m m') (mm : Same M M') (hs : SlotR K m' M' H' sl (some v) g) : ∀ {s : List (Nat × Slot)} {x : List (Str × V)} {fp : List Addr}, FsR K T.nm m M H s x fp → (∀ a ∈ fp, H' a = H a) →
    ∃ k1 k2, List.Perm fp (k1 ++ k2) ∧ ∃ fp', List.Perm fp' (g ++ k2) ∧ FsR K T.nm m' M' H' (putO f sl s) (putF (T.nm f) v x) fp'
  | [], [], _, h, _ => by
    have : _ = [] := h
    subst this
    exact ⟨[], [], List.Perm.refl _, g, by simp, g, [], by simp, rfl, hs, rfl⟩
  | (i, s) :: ss, (x, v0) :: xs, fp, h, hh => by
    obtain ⟨f1, f2, ef, ex, h1, h2⟩ := h
    subst ef
    by_cases hf : i = f
    · subst hf
      refine ⟨f1, f2, List.Perm.refl _, g ++ f2, List.Perm.refl _, ?_⟩
      rw [putO, if_pos rfl, putF, if_pos ex]
      exact ⟨g, f2, rfl, ex, hs, h2.mono hm mm fun a ha => hh a (List.mem_append_right _ ha)⟩
    · obtain ⟨k1, k2, p1, fp', p2, q⟩ := FsR.put hm mm hs h2 fun a ha => hh a (List.mem_append_right _ ha)
      refine ⟨k1, f1 ++ k2, ?_, f1 ++ fp', ?_, ?_⟩
      · refine (List.Perm.append_left f1 p1).trans ?_
        exact List.perm_append_comm_assoc f1 k1 k2
      · refine (List.Perm.append_left f1 p2).trans ?_
        exact List.perm_append_comm_assoc f1 g k2
      · rw [putO, if_neg hf, putF, if_neg (fun z => hf (T.inj _ _ (by rw [← ex]; exact z)))]
        exact ⟨f1, fp', rfl, ex, h1.mono hm mm fun a ha => hh a (List.mem_append_left _ ha), q⟩
  | [], _ :: _, _, h, _ => h.elim
  | _ :: _, [], _, h, _ => h.elim
/-- one object of the store, cut out -/
theorem StoreR.split : ∀ {s : List Ob} {as : List Addr} {fp : List Addr} {j : Nat} {ob : Ob}, StoreR K T m M H s as fp → s[j]? = some ob →
    ∃ f0 f1 f2 a, fp = f0 ++ f1 ++ f2 ∧ as[j]? = some a ∧ ObR K T m M H ob a f1 ∧
      ∀ (m' : List Addr) (M' H' : Hp) (ob' : Ob) (f1' : List Addr), MLe m m' → Same M M' → (∀ b ∈ f0 ++ f2, H' b = H b) → ObR K T m' M' H' ob' a f1' → StoreR K T m' M' H' (s.set j ob') as (f0 ++ f1' ++ f2)
  | [], _, _, _, _, _, e => by simp at e
  | s :: ss, [], _, _, _, h, _ => h.elim
  | s :: ss, a :: as, fp, 0, ob, h, e => by
    obtain ⟨f1, f2, ef, h1, h2⟩ := h
    have e' : s = ob := by simpa using e
    subst e'
    refine ⟨[], f1, f2, a, by simp [ef], rfl, h1, fun m' M' H' ob' f1' hm hM hh hs => ?_⟩
    exact ⟨f1', f2, by simp, hs, h2.mono hm (MLe.refl _) hM fun a ha => hh a (by simp [ha])⟩
  | s :: ss, a :: as, fp, j + 1, ob, h, e => by
    obtain ⟨f1, f2, ef, h1, h2⟩ := h
    obtain ⟨g0, g1, g2, y, eg, ey, hy, k⟩ := StoreR.split h2 (j := j) (ob := ob) (by simpa using e)
    refine ⟨f1 ++ g0, g1, g2, y, by simp [ef, eg, List.append_assoc], by simpa using ey, hy, fun m' M' H' ob' f1' hm hM hh hs => ?_⟩
    refine ⟨f1, g0 ++ f1' ++ g2, by simp [List.append_assoc], h1.mono hm hM fun a ha => hh a (by simp [ha]), ?_⟩
    exact k m' M' H' ob' f1' hm hM (fun b hb => hh b (by
      rcases List.mem_append.mp hb with hb | hb
      · simp [hb]
      · simp [hb])) hs
/-- an object of the store -/
theorem Rel.ob {s : Sta} {σ : L2.St} {j : Nat} {ob : Ob} (R : Rel K T m M G H s σ) (e : s.st[j]? = some ob) : ∃ a dx fs f, m[j]? = some a ∧ H a = some (.ins (T.ca ob.cls) dx fs) ∧ FsR K T.nm m M H ob.fs fs f := by
  obtain ⟨mh, gh, ⟨f1, f2, h1, h2, nd, dj⟩⟩ := R
  obtain ⟨g0, g1, g2, a, eg, ea, ⟨dx, fs, f, ef, h3, h4⟩, k⟩ := h2.split e
  exact ⟨a, dx, fs, f, ea, h3, h4⟩
/-- what the class of objects must have -/
structure ClsF (K : PySem.W.Frag) (T : Tab) (c : Nat) (fs : List Nat) : Prop where
  cl : Cls K (T.ca c)
  no : ∀ f ∈ fs, NoAttr K (T.ca c) (T.nm f)
end

section
variable {X : Cx} {T : Tab} {W : WX} {al : Bool} {G : Hp} {m m' : List Addr} {M M' H H' : Hp} {e o : Expr} {es : List Expr} {pos p : Pos} {fo : Sta → PR RV}
/-- o.f -/
def RV.ob (c : Nat) (st : List Ob) (r : RV) : PR (Nat × Ob) := match r.d with
  | .obj j => match st[j]? with
    | some ob => if ob.cls = c then .ok (j, ob) else .stuck
    | none => .stuck
  | _ => .stuck
def pFld (c f : Nat) (fo : Sta → PR RV) : Sta → PR RV := fun s => (fo s).bind fun r => (r.ob c s.st).bind fun jo => PR.of ((jo.2.fs.lookup f).bind Slot.look)
theorem RV.ob_ok {c : Nat} {st : List Ob} {r : RV} {j : Nat} {ob : Ob} (h : r.ob c st = .ok (j, ob)) : r.d = .obj j ∧ st[j]? = some ob ∧ ob.cls = c := by
  unfold RV.ob at h
  split at h
  · rename_i j' hd
    split at h
    · rename_i ob' ho
      by_cases hc : ob'.cls = c
      · rw [if_pos hc] at h
        cases h
        exact ⟨hd, ho, hc⟩
      · rw [if_neg hc] at h
        cases h
    · cases h
  · cases h
theorem RV.ob_ne {c : Nat} {st : List Ob} {r : RV} {e : Ex} (h : r.ob c st = .exc e) : False := by
  unfold RV.ob at h
  split at h
  · split at h
    · split at h <;> cases h
    · cases h
  · cases h
theorem Arg.obj {K : PySem.W.Frag} {y : V} {j : Nat} (h : Arg K m M H y (.obj j)) : ∃ a, y = .ref a ∧ m[j]? = some a := by
  rcases h with h | ⟨a, o, rfl, h2, h3⟩
  · cases h with
    | obj h => exact ⟨_, rfl, h⟩
  · cases h3
theorem SlotR.rr {K : PySem.W.Frag} {sl : Slot} {v : V} {g : List Addr} {r : RV} (h : SlotR K m M H sl (some v) g) (e : sl.look = some r) : RR K m M H H v r := by
  cases sl with
  | un => cases e
  | v d =>
    cases e
    obtain ⟨_, y, ey, hd⟩ := h
    cases ey
    exact hd
  | own d =>
    cases e
    obtain ⟨a, o, _, ey, hb, hd⟩ := h
    cases ey
    exact ⟨a, o, rfl, hb, hd⟩
theorem ev_fld {c f : Nat} {fs : List Nat} {x : Str} (C : ClsF X.K T c fs) (hf : f ∈ fs) (hx : T.nm f = x) (ho : PEv X T W o fo) (hb : attributeBase o x X.env (eval o X.env) = eval o X.env := by rfl) : PEv X T W (.Attribute o x pos) (pFld c f fo) := by
  subst hx
  refine PE.wk (pe_fld ho hb) ?_
  rintro σ H Q ⟨s, m, M, G, R, q⟩
  refine ⟨s, m, M, G, R, ?_⟩
  revert q
  unfold pFld PR.bind
  cases fo s with
  | ok r =>
    intro q y H1 M1 g1 rr
    dsimp only at q
    cases hr : r.ob c s.st with
    | ok jo =>
      obtain ⟨j, ob⟩ := jo
      simp only [hr] at q
      obtain ⟨h1, h2, h3⟩ := RV.ob_ok hr
      subst h3
      cases hl : (ob.fs.lookup f).bind Slot.look with
      | none => rw [hl] at q; exact q.elim
      | some r2 =>
        rw [hl] at q
        have R1 := R.grow g1
        obtain ⟨a, dx, fs', ff, e1, e2, e3⟩ := R1.ob h2
        have aa := rr.arg
        rw [h1] at aa
        obtain ⟨a', rfl, e4⟩ := aa.obj
        rw [e1] at e4
        cases e4
        cases hs : ob.fs.lookup f with
        | none => rw [hs] at hl; cases hl
        | some sl =>
          rw [hs] at hl
          obtain ⟨v, g, e5, e6, _⟩ := e3.look hs
          exact ⟨a, _, dx, fs', v, rfl, e2, C.cl, C.no f hf, e5, q v H1 M1 g1 ((e6.rr hl).since g1.same)⟩
    | exc e => exact (RV.ob_ne hr).elim
    | stuck => simp only [hr] at q
  | exc e => intro q; exact q
  | stuck => intro q; exact q

/-- the store with one attribute changed -/
def setF (st : List Ob) (j : Nat) (ob : Ob) (f : Nat) (sl : Slot) : List Ob := st.set j { ob with fs := putO f sl ob.fs }
theorem Rel.putF {s : Sta} {σ : L2.St} {j f : Nat} {ob : Ob} {a dx : Addr} {fs : List (Str × V)} {r : Slot} {y : V} (R : Rel X.K T m M G H ⟨r :: s.env, s.st⟩ (some y :: σ)) (e : s.st[j]? = some ob) (ea : m[j]? = some a) (eh : H a = some (.ins (T.ca ob.cls) dx fs)) :
    Rel X.K T m M G (upd H a (.ins (T.ca ob.cls) dx (L2.putF (T.nm f) y fs))) { s with st := setF s.st j ob f r } σ := by
  obtain ⟨mh, gh, ⟨f1, f2, h1, h2, nd, dj⟩⟩ := R
  obtain ⟨u1, u2, eu, hr, h1⟩ := h1
  obtain ⟨g0, g1, g2, a', eg, ea', ⟨dx', fs', ff, ef, h3, h4⟩, k⟩ := h2.split e
  rw [ea] at ea'
  cases ea'
  rw [eh] at h3
  cases h3
  subst eu eg ef
  have dja := dj a (by simp)
  -- a stands once in the footprint
  have nd1 : (a :: ((u1 ++ u2) ++ (g0 ++ (ff ++ g2)))).Nodup := by
    refine (List.Perm.nodup_iff ?_).mp nd
    have : ((u1 ++ u2) ++ (g0 ++ a :: ff ++ g2)) = (u1 ++ u2 ++ g0) ++ a :: (ff ++ g2) := by simp
    rw [this]
    refine List.perm_middle.trans ?_
    simp
  have na : ∀ b ∈ (u1 ++ u2) ++ (g0 ++ (ff ++ g2)), b ≠ a := fun b hb z => (List.nodup_cons.mp nd1).1 (by rw [← z]; exact hb)
  have off : ∀ b ∈ (u1 ++ u2) ++ (g0 ++ (ff ++ g2)), upd H a (.ins (T.ca ob.cls) dx (L2.putF (T.nm f) y fs)) b = H b := fun b hb => upd_ne (na b hb)
  have hr' : SlotR X.K m M (upd H a (.ins (T.ca ob.cls) dx (L2.putF (T.nm f) y fs))) r (some y) u1 := hr.mono (MLe.refl _) (Same.refl _) fun b hb => off b (by simp [hb])
  obtain ⟨k1, k2, p1, fp', p2, hput⟩ := FsR.put (f := f) (MLe.refl m) (Same.refl M) hr' h4 fun b hb => off b (by simp [hb])
  have hst := k m M (upd H a (.ins (T.ca ob.cls) dx (L2.putF (T.nm f) y fs))) { ob with fs := putO f r ob.fs } (a :: fp') (MLe.refl _) (Same.refl _) (fun b hb => off b (by
    rcases List.mem_append.mp hb with hb | hb <;> simp [hb])) ⟨dx, _, fp', rfl, upd_same, hput⟩
  have hMa : M a = Option.none := dja.1
  have hGa : G a = Option.none := dja.2
  have pm : List.Perm (u2 ++ (g0 ++ a :: fp' ++ g2)) (a :: (u1 ++ u2 ++ (g0 ++ (k2 ++ g2)))) := by
    have q1 : List.Perm (u2 ++ (g0 ++ a :: fp' ++ g2)) (u2 ++ (g0 ++ a :: (u1 ++ k2) ++ g2)) := List.Perm.append_left _ (List.Perm.append_right _ (List.Perm.append_left _ (List.Perm.cons _ p2)))
    refine q1.trans ?_
    have e1 : (u2 ++ (g0 ++ a :: (u1 ++ k2) ++ g2)) = (u2 ++ g0) ++ a :: (u1 ++ (k2 ++ g2)) := by simp
    rw [e1]
    refine List.perm_middle.trans (List.Perm.cons _ ?_)
    have e2 : (u1 ++ u2 ++ (g0 ++ (k2 ++ g2))) = u1 ++ ((u2 ++ g0) ++ (k2 ++ g2)) := by simp
    rw [e2]
    exact List.perm_append_comm_assoc (u2 ++ g0) u1 (k2 ++ g2)
  have sub : List.Sublist (u1 ++ u2 ++ (g0 ++ (k2 ++ g2))) (u1 ++ u2 ++ (g0 ++ ((k1 ++ k2) ++ g2))) :=
    List.Sublist.append (List.Sublist.refl _) (List.Sublist.append (List.Sublist.refl _) (List.Sublist.append (List.sublist_append_right _ _) (List.Sublist.refl _)))
  have pm2 : List.Perm (u1 ++ u2 ++ (g0 ++ (ff ++ g2))) (u1 ++ u2 ++ (g0 ++ ((k1 ++ k2) ++ g2))) := List.Perm.append_left _ (List.Perm.append_left _ (List.Perm.append_right _ p1))
  have mem : ∀ b ∈ u2 ++ (g0 ++ a :: fp' ++ g2), b = a ∨ b ∈ (u1 ++ u2) ++ (g0 ++ (ff ++ g2)) := fun b hb => by
    rcases List.mem_cons.mp (pm.mem_iff.mp hb) with z | z
    · exact .inl z
    · exact .inr (pm2.mem_iff.mpr (sub.subset z))
  refine ⟨fun b u e => ?_, fun b u e => ?_, u2, g0 ++ a :: fp' ++ g2, ?_, hst, ?_, fun b hb => ?_⟩
  · rw [upd_ne (fun z => by rw [z, hMa] at e; cases e)]
    exact mh _ _ e
  · rw [upd_ne (fun z => by rw [z, hGa] at e; cases e)]
    exact gh _ _ e
  · exact h1.mono (MLe.refl _) (Same.refl _) fun b hb => off b (by simp [hb])
  · rw [pm.nodup_iff, List.nodup_cons]
    have nd2 := pm2.nodup_iff.mp (List.nodup_cons.mp nd1).2
    exact ⟨fun z => (List.nodup_cons.mp nd1).1 (pm2.mem_iff.mpr (sub.subset z)), nd2.sublist sub⟩
  · rcases mem b hb with rfl | z
    · exact dja
    · refine dj b ?_
      simp only [List.mem_append, List.mem_cons] at z ⊢
      rcases z with z | z | z | z
      · exact .inl z
      · exact .inr (.inl (.inl z))
      · exact .inr (.inl (.inr (.inr z)))
      · exact .inr (.inr z)
/-- o.f = e, o a name or another expression that changes nothing -/
def sFld (c f : Nat) (fo : Sta → PR RV) (g : Sta → Fe) : Sta → Fl := fun s => (g s).fl fun r s' => (fo ⟨r :: s'.env, s'.st⟩).fl s' fun ro => (ro.ob c s'.st).fl s' fun jo =>
  if jo.2.fs.length < 900 then .nx { s' with st := setF s'.st jo.1 jo.2 f r } else .stuck
/-- as above, o the name in slot i -/
def sFldN (c f i : Nat) (g : Sta → Fe) : Sta → Fl := fun s => (g s).fl fun r s' => (pVar i s').fl s' fun ro => (ro.ob c s'.st).fl s' fun jo =>
  if jo.2.fs.length < 900 then .nx { s' with st := setF s'.st jo.1 jo.2 f r } else .stuck
theorem s_fldN {c f i : Nat} {fs : List Nat} {x n : Str} {g : Sta → Fe} {pn pos' : Pos} (C : ClsF X.K T c fs) (hf : f ∈ fs) (hx : T.nm f = x) (ho : PE X (.Name n pn) (tVar i)) (hv : FEv X T W al e g)
    (hs : swapsWith e (some (.Attribute (.Name n pn) x pos')) pos.line X.env = pure false := by rfl) : SE1 X T W al (.Assign [.Attribute (.Name n pn) x pos'] e pos) (sFldN c f i g) := by
  subst hx
  refine PS.wk (ps_fld ho hv hs) ?_
  rintro D σ H ⟨s, m, M, G, R, a, q⟩
  refine tF_fl (k := fun r s' => (pVar i s').fl s' fun ro => (ro.ob c s'.st).fl s' fun jo => if jo.2.fs.length < 900 then .nx { s' with st := setF s'.st jo.1 jo.2 f r } else .stuck) R a q fun r s' y H' m' M' e' a' R' k => ?_
  unfold PR.fl pVar at k
  cases hl : s'.env[i]?.bind Slot.look with
  | none => rw [hl] at k; exact k.elim
  | some ro =>
    rw [hl] at k
    simp only [PR.of] at k
    obtain ⟨yo, ey, rr⟩ := R'.tail.look hl
    cases hr : ro.ob c s'.st with
    | ok jo =>
      obtain ⟨j, ob⟩ := jo
      simp only [hr] at k
      obtain ⟨h1, h2, h3⟩ := RV.ob_ok hr
      subst h3
      have aa := rr.arg
      rw [h1] at aa
      obtain ⟨b, rfl, e4⟩ := aa.obj
      obtain ⟨b', dx, fs', ff, e1, e2, e3⟩ := R'.tail.ob h2
      rw [e4] at e1
      cases e1
      by_cases hlen : ob.fs.length < 900
      · rw [if_pos hlen] at k
        refine ⟨_, ey, b, _, dx, fs', rfl, e2, C.cl, C.no f hf, by rw [e3.length]; omega, ?_⟩
        refine k σ _ m' M' (Ext.refl ..) (fun h => ?_) (R'.putF h2 e4 e2)
        show m'.length = (setF s'.st j ob f r).length
        unfold setF
        rw [List.length_set]
        exact a' h
      · rw [if_neg hlen] at k
        exact k.elim
    | exc e => exact (RV.ob_ne hr).elim
    | stuck => simp only [hr] at k; exact k.elim

/-! ### methods -/
section
variable {k n : Nat} {f C : Addr} {fd : FuncData} {ps : List Str} {sp : Sp} {E : L2.St → XK} {x mn : Str} {apos : Pos} {ta : TE} {t : TA} {sem : Sem} {c : Nat} {fs : List Nat} {fa : Sta → PR (List D)}
def tMethS (C : Addr) (mn : Str) (sp : Sp) (E : L2.St → XK) (ta : TE) (t : TA) : TE := fun σ H Q => ta σ H fun x H1 => ∃ a dx fs, x = .ref a ∧ H1 a = some (.ins C dx fs) ∧ fs.lookup mn = Option.none ∧
  t σ H1 fun vs H2 => sp (x :: vs) H2 Q (E σ)
theorem pe_methS {pl : PySem.Sem Bool} (he : PE X o ta) (cl : Cls X.K C) (hm : Meth X.K C mn f) (F : FnOk X.prog X.w X.K X.mg X.base (L2.CX X.prog X.w) k f fd ps sp) (hr : Room k X.A) (hb : Binds X.K fd ps []) (hx : ∀ σ, PassesAt (L2.CX X.prog X.w) X σ (E σ)) (ha : PA X (e :: es) t)
    (hst : starEach (e :: es) X.env = (false, eval e X.env) :: starEach es X.env := by rfl) (hpl : (backTo pos (starEach es X.env)).any (·.1) = false := by rfl)
    (ht : eval (.Call (.Attribute o mn apos) (e :: es) [] pos) X.env = (do
      let ov ← eval o X.env
      standAt apos.atName
      let (f, first) ← holding [ov] (getMethod ov mn pl)
      callWith pos f first (backTo pos (starEach (e :: es) X.env)) (backToKw pos (keywordEach [] X.env))) := by rfl) :
    PE X (.Call (.Attribute o mn apos) (e :: es) [] pos) (tMethS C mn sp E ta t) := by
  refine ⟨fun pins s σ H Q I h => ?_⟩
  refine PySem.W.methodCall_KW (pl := pl) (thn (he.run pins s σ H _ I h) fun u s1 ⟨x, H1, I1, rx, a, dx, fs, ex, ea, l, q⟩ => ?_) ht
  subst ex
  obtain rfl : u = Value.ref a := rx
  refine getmeth_ok I1 ea cl hm l ?_
  refine PySem.W.callWith_K (first := [.ref a]) (h₀ := X.base) I.ok.mod.kin hm.kp (thn (ha.run pos pins s1 σ H1 _ I1 q) fun us s2 ⟨vs, H2, I2, r, q2⟩ => ⟨I2.kIn, ?_⟩) hst hpl
  exact run_fnS (us := .ref a :: us) (vs := .ref a :: vs) F hr hb (hx σ) I2 (.cons rfl r) q2
theorem pe_methS0 {pl : PySem.Sem Bool} (he : PE X o ta) (cl : Cls X.K C) (hm : Meth X.K C mn f) (F : FnOk X.prog X.w X.K X.mg X.base (L2.CX X.prog X.w) k f fd ps sp) (hr : Room k X.A) (hb : Binds X.K fd ps []) (hx : ∀ σ, PassesAt (L2.CX X.prog X.w) X σ (E σ))
    (ht : eval (.Call (.Attribute o mn apos) [] [] pos) X.env = (do
      let ov ← eval o X.env
      standAt apos.atName
      let (f, first) ← holding [ov] (getMethod ov mn pl)
      callWith pos f first (backTo pos (starEach [] X.env)) (backToKw pos (keywordEach [] X.env))) := by rfl) :
    PE X (.Call (.Attribute o mn apos) [] [] pos) (tMethS C mn sp E ta tNil) := by
  refine ⟨fun pins s σ H Q I h => ?_⟩
  refine PySem.W.methodCall_KW (pl := pl) (thn (he.run pins s σ H _ I h) fun u s1 ⟨x, H1, I1, rx, a, dx, fs, ex, ea, l, q⟩ => ?_) ht
  subst ex
  obtain rfl : u = Value.ref a := rx
  refine getmeth_ok I1 ea cl hm l ?_
  exact PySem.W.callWith_K0 (first := [.ref a]) I1.kIn hm.kp (run_fnS (us := [.ref a]) (vs := [.ref a]) F hr hb (hx σ) I1 (.cons rfl .nil) q)
/-- a method to be called -/
def Method (P : Program) (w : World) (K : PySem.W.Frag) (mg : Str → Option Value) (base : Heap) (T : Tab) (c : Nat) (mn : Str) (al : Bool) (k n : Nat) (sem : Sem) : Prop :=
  ∃ f fd ps, FnOk P w K mg base (L2.CX P w) k f fd ps (spF K T al n sem) ∧ Meth K (T.ca c) mn f ∧ Binds K fd ps []
/-- o.m(..) : the object, then the arguments -/
def fMeth (c n : Nat) (sem : Sem) (fo : Sta → PR RV) (fa : Sta → PR (List D)) : Sta → Fe := fun s => match fo s with
  | .ok r => match r.ob c s.st with
    | .ok jo => match fa s with
      | .ok ds => if ds.length + 1 = n then (sem (.obj jo.1 :: ds) s.st).fe s else .stuck
      | .exc e => .exc e s
      | .stuck => .stuck
    | _ => .stuck
  | .exc e => .exc e s
  | .stuck => .stuck
theorem FeP.ext {σ : L2.St} {Q : VK} {fe : Fe} (h : FeP X T W al G m M σ Q fe) (e : Ext al G m M m' M') : FeP X T W al G m' M' σ Q fe := by
  cases fe with
  | ok r s => exact fun y H' m2 M2 e2 => h y H' m2 M2 (e.trans e2)
  | exc x s => exact fun cls d H' m2 M2 e2 => h cls d H' m2 M2 (e.trans e2)
  | stuck => exact h
theorem meth_of (hno : ∀ i, T.nm i ≠ mn) {σ : L2.St} {H : Hp} {Q : VK} (h : tF X T W al (fMeth c n sem fo fa) σ H Q) : tMethS (T.ca c) mn (spF X.K T al n sem) (WE W) (tP X T W fo) (tAs X T W fa) σ H Q := by
  obtain ⟨s, m, M, G, R, a, q⟩ := h
  refine ⟨s, m, M, G, R, ?_⟩
  unfold fMeth at q
  cases hf : fo s with
  | ok r =>
    rw [hf] at q
    intro y H1 M1 g1 rr
    dsimp only at q
    cases hr : r.ob c s.st with
    | ok jo =>
      obtain ⟨j, ob⟩ := jo
      simp only [hr] at q
      obtain ⟨h1, h2, h3⟩ := RV.ob_ok hr
      subst h3
      have R1 := R.grow g1
      have aa := rr.arg
      rw [h1] at aa
      obtain ⟨b, rfl, e4⟩ := aa.obj
      obtain ⟨b', dx, fs', ff, e1, e2, e3⟩ := R1.ob h2
      rw [e4] at e1
      cases e1
      refine ⟨b, dx, fs', rfl, e2, e3.noName hno, ?_⟩
      have q1 := FeP.ext q (Ext.grow g1 R.gh)
      refine tAs_fe (Q := Q) (kk := fun s ds => if ds.length + 1 = n then (sem (.obj j :: ds) s.st).fe s else .stuck) R1 a ?_ fun ds ys H' M' g r k => ?_
      · exact q1
      · by_cases hl : ds.length + 1 = n
        · rw [if_pos hl] at k
          exact spF_of rfl (R1.grow g) a (by simp [r.length]; exact hl) (.cons (.obj e4) r) k
        · rw [if_neg hl] at k
          exact k.elim
    | exc e => exact (RV.ob_ne hr).elim
    | stuck => simp only [hr] at q; exact q.elim
  | exc x => rw [hf] at q; exact fun cls d H' M' g xr => q cls d H' m M' (Ext.grow g R.gh) a (R.grow g) xr
  | stuck => rw [hf] at q; exact q
theorem fe_meth {pl : PySem.Sem Bool} (cm : Method X.prog X.w X.K X.mg X.base T c mn al k n sem) (C : ClsF X.K T c fs) (hno : ∀ i, T.nm i ≠ mn) (hr : Room k X.A) (tk : Takes X W) (ho : PEv X T W o fo) (ha : PAs X T W (e :: es) fa)
    (hst : starEach (e :: es) X.env = (false, eval e X.env) :: starEach es X.env := by rfl) (hpl : (backTo pos (starEach es X.env)).any (·.1) = false := by rfl)
    (ht : eval (.Call (.Attribute o mn apos) (e :: es) [] pos) X.env = (do
      let ov ← eval o X.env
      standAt apos.atName
      let (f, first) ← holding [ov] (getMethod ov mn pl)
      callWith pos f first (backTo pos (starEach (e :: es) X.env)) (backToKw pos (keywordEach [] X.env))) := by rfl) :
    FEv X T W al (.Call (.Attribute o mn apos) (e :: es) [] pos) (fMeth c n sem fo fa) := by
  obtain ⟨f, fd, ps, F, hm, hb⟩ := cm
  exact PE.wk (pe_methS (pl := pl) ho C.cl hm F hr hb (fun σ => passAt tk σ) ha hst hpl ht) fun σ H Q h => meth_of hno h
theorem fe_meth0 {pl : PySem.Sem Bool} (cm : Method X.prog X.w X.K X.mg X.base T c mn al k n sem) (C : ClsF X.K T c fs) (hno : ∀ i, T.nm i ≠ mn) (hr : Room k X.A) (tk : Takes X W) (ho : PEv X T W o fo)
    (ht : eval (.Call (.Attribute o mn apos) [] [] pos) X.env = (do
      let ov ← eval o X.env
      standAt apos.atName
      let (f, first) ← holding [ov] (getMethod ov mn pl)
      callWith pos f first (backTo pos (starEach [] X.env)) (backToKw pos (keywordEach [] X.env))) := by rfl) :
    FEv X T W al (.Call (.Attribute o mn apos) [] [] pos) (fMeth c n sem fo pNil) := by
  obtain ⟨f, fd, ps, F, hm, hb⟩ := cm
  refine PE.wk (pe_methS0 (pl := pl) ho C.cl hm F hr hb (fun σ => passAt tk σ) ht) fun σ H Q h => ?_
  have h2 := meth_of (mn := mn) hno h
  -- no argument
  revert h2
  unfold tMethS
  intro h2
  obtain ⟨s, m, M, G, R, q⟩ := h2
  refine ⟨s, m, M, G, R, ?_⟩
  revert q
  cases fo s with
  | ok r =>
    intro q y H1 M1 g1 rr
    obtain ⟨b, dx, fs', e1, e2, e3, q⟩ := q y H1 M1 g1 rr
    refine ⟨b, dx, fs', e1, e2, e3, ?_⟩
    obtain ⟨s2, m2, M2, G2, R2, q⟩ := q
    exact q [] H1 M2 (Grow.refl R2.mh) .nil
  | exc x => intro q; exact q
  | stuck => intro q; exact q

/-! ### objects made -/
theorem run_makeS {pins : List (Addr × Obj)} {σ : L2.St} {H : Hp} {s : Shared} {Q : VK} {us : List Value} {vs : List V} (M : Mk X.K C f) (F : FnOk X.prog X.w X.K X.mg X.base (L2.CX X.prog X.w) k f fd ps sp) (hr : Room (k + 1) X.A) (hb : Binds X.K fd ps [])
    (hx : PassesAt (L2.CX X.prog X.w) X σ (E σ)) (I : Inv X pins σ H s) (r : Vals vs us)
    (h : ∀ x dx, H x = Option.none → H dx = Option.none → dx ≠ x → sp (.ref x :: vs) (upd (upd H dx (.own x)) x (.ins C dx [])) (fun v H2 => v = .non ∧ Q (.ref x) H2) (E σ)) :
    wpAny (model X.prog X.w) X.A (call (.ref C) us) (EP X pins σ Q) X.xe s := by
  have hq := h (s.heap.objs.size + 1) s.heap.objs.size (I.hok.fresh (Nat.le_succ _)) (I.hok.fresh (Nat.le_refl _)) (Nat.ne_of_lt (Nat.lt_succ_self _))
  have I2 := Inv.made (C := C) I
  have r2 : Vals (V.ref (s.heap.objs.size + 1) :: vs) (Value.ref (s.heap.objs.size + 1) :: us) := .cons rfl r
  have hl : (Value.ref (s.heap.objs.size + 1) :: us).length = ps.length := by
    have e := r2.length
    rw [F.len _ _ _ _ hq] at e
    exact e.symm
  have b := hb _ (Value.ref (s.heap.objs.size + 1) :: us) I2.kIn (by rw [List.append_nil]; exact hl)
  rw [List.append_nil] at b
  refine wpAny_call (make_map (f := f) I.kIn M.makes M.init (beq_iff_eq.mp M.fn) (codeAny_mono (F.run _ X.stack _ _ ⟨Value.ref (s.heap.objs.size + 1) :: us, []⟩ (Value.ref (s.heap.objs.size + 1) :: us) _ _ (E σ) (hr.make C us [])
    (I2.env0.make C us []) b r2 hq) fun r s' hq' => ?_))
  cases r with
  | error e => exact hx pins _ _ e s' I2 hq'
  | ok fl =>
    cases fl with
    | ret u =>
      obtain ⟨v, H', I3, rv, ev, q3⟩ := I2.after hq'
      subst ev
      exact ⟨rv, ⟨V.ref (s.heap.objs.size + 1), H', I3, rfl, q3⟩⟩
    | next => exact False.elim hq'
    | brk => exact False.elim hq'
    | cont => exact False.elim hq'
def tMakeS (C : Addr) (sp : Sp) (E : L2.St → XK) (t : TA) : TE := fun σ H Q => t σ H fun vs H1 => ∀ x dx, H1 x = Option.none → H1 dx = Option.none → dx ≠ x →
  sp (.ref x :: vs) (upd (upd H1 dx (.own x)) x (.ins C dx [])) (fun v H2 => v = .non ∧ Q (.ref x) H2) (E σ)
theorem pe_makeS (M : Mk X.K C f) (F : FnOk X.prog X.w X.K X.mg X.base (L2.CX X.prog X.w) k f fd ps sp) (hr : Room (k + 1) X.A) (hg : Gl X x) (hm : X.mg x = some (.ref C)) (hb : Binds X.K fd ps []) (hx : ∀ σ, PassesAt (L2.CX X.prog X.w) X σ (E σ))
    (ha : PA X (e :: es) t) (hdb : (x == ("__debug__" : Str)) = false := by decide) (he : starEach (e :: es) X.env = (false, eval e X.env) :: starEach es X.env := by rfl) (hpl : (backTo pos (starEach es X.env)).any (·.1) = false := by rfl) :
    PE X (.Call (.Name x p) (e :: es) [] pos) (tMakeS C sp E t) := by
  refine ⟨fun pins s σ H Q I h => ?_⟩
  refine wpAny_Call_Name_kw (ld_glob I hg hm ?_ hdb)
  refine PySem.W.callWith_K (h₀ := X.base) I.ok.mod.kin M.kp (thn (ha.run pos pins s σ H _ I h) fun us s1 ⟨vs, H1, I1, r, q⟩ => ⟨I1.kIn, ?_⟩) he hpl
  exact run_makeS M F hr hb (hx σ) I1 r q
theorem pe_makeS0 (M : Mk X.K C f) (F : FnOk X.prog X.w X.K X.mg X.base (L2.CX X.prog X.w) k f fd ps sp) (hr : Room (k + 1) X.A) (hg : Gl X x) (hm : X.mg x = some (.ref C)) (hb : Binds X.K fd ps []) (hx : ∀ σ, PassesAt (L2.CX X.prog X.w) X σ (E σ))
    (hdb : (x == ("__debug__" : Str)) = false := by decide) : PE X (.Call (.Name x p) [] [] pos) (tMakeS C sp E tNil) := by
  refine ⟨fun pins s σ H Q I h => ?_⟩
  refine wpAny_Call_Name_kw (ld_glob I hg hm ?_ hdb)
  exact PySem.W.callWith_K0 I.kIn M.kp (run_makeS (us := []) M F hr hb (hx σ) I .nil h)
/-- a class to be made by its name, with its __init__ -/
def Maker (P : Program) (w : World) (K : PySem.W.Frag) (mg : Str → Option Value) (base : Heap) (T : Tab) (c : Nat) (x : Str) (k n : Nat) (sem : Sem) : Prop :=
  ∃ f fd ps, Mk K (T.ca c) f ∧ FnOk P w K mg base (L2.CX P w) k f fd ps (spF K T true n sem) ∧ mg x = some (.ref (T.ca c)) ∧ Binds K fd ps []
/-- C(..): the new object is the store's last -/
def fMake (c n : Nat) (sem : Sem) (fa : Sta → PR (List D)) : Sta → Fe := fun s => match fa s with
  | .ok ds => if ds.length + 1 = n then (match sem (.obj s.st.length :: ds) (s.st ++ [⟨c, []⟩]) with
    | .ok (.v .none) st => .ok (.v (.obj s.st.length)) { s with st := st }
    | .ok _ _ => .stuck
    | .exc e st => .exc e { s with st := st }
    | .stuck => .stuck) else .stuck
  | .exc e => .exc e s
  | .stuck => .stuck
theorem StoreR.snoc {K : PySem.W.Frag} {ob : Ob} {a : Addr} {f2 : List Addr} : ∀ {st : List Ob} {as : List Addr} {f1 : List Addr}, StoreR K T m M H st as f1 → as.length = st.length → ObR K T m M H ob a f2 → StoreR K T m M H (st ++ [ob]) (as ++ [a]) (f1 ++ f2)
  | [], [], f1, h, _, ho => by
    have : f1 = [] := h
    subst this
    exact ⟨f2, [], by simp, ho, rfl⟩
  | ob' :: st, a' :: as, f1, h, hl, ho => by
    obtain ⟨g1, g2, e, h1, h2⟩ := h
    subst e
    exact ⟨g1, g2 ++ f2, by simp, h1, StoreR.snoc h2 (by simpa using hl) ho⟩
  | [], _ :: _, _, _, hl, _ => by simp at hl
  | _ :: _, [], _, h, _, _ => h.elim
theorem Rel.made {s : Sta} {σ : L2.St} (R : Rel X.K T m M G H s σ) (al : m.length = s.st.length) {a dx : Addr} (ha : H a = Option.none) (hd : H dx = Option.none) (hne : dx ≠ a) (c : Nat) :
    Rel X.K T (m ++ [a]) M G (upd (upd H dx (.own a)) a (.ins (T.ca c) dx [])) { s with st := s.st ++ [⟨c, []⟩] } σ := by
  have same : Same H (upd (upd H dx (.own a)) a (.ins (T.ca c) dx [])) := fun b o e => by
    rw [upd_ne (ne_of_none e ha), upd_ne (ne_of_none e hd)]
    exact e
  obtain ⟨mh, gh, ⟨f1, f2, h1, h2, nd, dj⟩⟩ := R
  have here : ∀ b ∈ f1 ++ f2, ∃ o, H b = some o := fun b hb => by
    rcases List.mem_append.mp hb with hb | hb
    · exact h1.here b hb
    · exact h2.here b hb
  have hh : ∀ b ∈ f1 ++ f2, (upd (upd H dx (.own a)) a (.ins (T.ca c) dx [])) b = H b := fun b hb => by
    obtain ⟨o, ho⟩ := here b hb
    rw [ho]
    exact same _ _ ho
  have ml : MLe m (m ++ [a]) := MLe.snoc m a
  refine ⟨mh.trans same, gh.trans same, f1, f2 ++ [a], h1.mono ml (Same.refl _) fun b hb => hh b (by simp [hb]), ?_, ?_, fun b hb => ?_⟩
  · refine StoreR.snoc (h2.mono ml (MLe.refl _) (Same.refl _) fun b hb => hh b (by simp [hb])) al ⟨dx, [], [], rfl, upd_same, rfl⟩
  · rw [← List.append_assoc, List.nodup_append]
    refine ⟨nd, by simp, fun b hb d hd e => ?_⟩
    have : d = a := by simpa using hd
    subst this
    obtain ⟨o, ho⟩ := here b hb
    rw [e, ha] at ho
    cases ho
  · rw [← List.append_assoc] at hb
    rcases List.mem_append.mp hb with hb | hb
    · exact dj b hb
    · have : b = a := by simpa using hb
      subst this
      exact ⟨mh.free ha, gh.free ha⟩
theorem fe_make_of {σ : L2.St} {H : Hp} {Q : VK} (h : tF X T W true (fMake c n sem fa) σ H Q) : tMakeS (T.ca c) (spF X.K T true n sem) (WE W) (tAs X T W fa) σ H Q := by
  obtain ⟨s, m, M, G, R, a, q⟩ := h
  refine tAs_fe (fs := fa) (kk := fun s ds => if ds.length + 1 = n then (match sem (.obj s.st.length :: ds) (s.st ++ [⟨c, []⟩]) with
    | .ok (.v .none) st => .ok (.v (.obj s.st.length)) { s with st := st }
    | .ok _ _ => .stuck
    | .exc e st => .exc e { s with st := st }
    | .stuck => .stuck) else .stuck) R a q fun ds ys H' M' g r k => ?_
  by_cases hl : ds.length + 1 = n
  · rw [if_pos hl] at k
    intro x dx hx hd hne
    have R1 := R.grow g
    have al := a rfl
    have R2 := R1.made al hx hd hne c
    have ml : MLe m (m ++ [x]) := MLe.snoc m x
    have e0 : Ext true G m M' (m ++ [x]) M' := ⟨ml, (fun h => nomatch h), Same.refl _, fun _ _ h => .inl h⟩
    have mx : (m ++ [x])[s.st.length]? = some x := by rw [← al]; simp
    refine spF_of (s := { s with st := s.st ++ [⟨c, []⟩] }) rfl R2 (fun _ => by simp [al]) (by simp [r.length]; exact hl) (.cons (.obj mx) (DRs.mono ml (Same.refl _) _ _ r)) ?_
    unfold Fr.fe
    dsimp only
    cases hs : sem (.obj s.st.length :: ds) (s.st ++ [⟨c, []⟩]) with
    | ok r st' =>
      rw [hs] at k
      cases r with
      | v d =>
        cases d <;> try (exact k.elim)
        intro y H2 m2 M2 e2 a2 R3
        have hd := R3.head
        cases hd
        refine ⟨rfl, k _ H2 m2 M2 (e0.trans e2) a2 ?_⟩
        have R4 := R3.tail.consU.setV 0 (d := .obj s.st.length) (.obj (e2.ml _ _ mx))
        exact R4
      | un => exact k.elim
      | own d => exact k.elim
    | exc e st' =>
      rw [hs] at k
      exact fun cls d H2 m2 M2 e2 a2 R3 xr => k cls d H2 m2 M2 (e0.trans e2) a2 R3 xr
    | stuck => rw [hs] at k; exact k
  · rw [if_neg hl] at k
    exact k.elim
theorem fe_make (cm : Maker X.prog X.w X.K X.mg X.base T c x k n sem) (hr : Room (k + 1) X.A) (hg : Gl X x) (tk : Takes X W) (ha : PAs X T W (e :: es) fa)
    (hdb : (x == ("__debug__" : Str)) = false := by decide) (he : starEach (e :: es) X.env = (false, eval e X.env) :: starEach es X.env := by rfl) (hpl : (backTo pos (starEach es X.env)).any (·.1) = false := by rfl) :
    FEv X T W true (.Call (.Name x p) (e :: es) [] pos) (fMake c n sem fa) := by
  obtain ⟨f, fd, ps, M, F, hm, hb⟩ := cm
  exact PE.wk (pe_makeS M F hr hg hm hb (fun σ => passAt tk σ) ha hdb he hpl) fun σ H Q h => fe_make_of h
end
end
end MP

/-! MP 8: calls of defs with objects of their own, calls that only look. -/
namespace MP
open PySem PySem.Spec PyProof.Rows L2
mutual
def D.noObj : D → Bool
  | .list xs => noObjs xs
  | .lk xs => noObjs xs
  | .tup xs => noObjs xs
  | .dic kvs => noObjk kvs
  | .obj _ => false
  | .xv _ fs => noObjf fs
  | _ => true
def noObjs : List D → Bool
  | [] => true
  | x :: xs => x.noObj && noObjs xs
def noObjk : List (Key × D) → Bool
  | [] => true
  | (_, x) :: xs => x.noObj && noObjk xs
def noObjf : List (Str × D) → Bool
  | [] => true
  | (_, x) :: xs => x.noObj && noObjf xs
end
section
variable {K : PySem.W.Frag} {m m' : List Addr} {H : Hp}
mutual
theorem DR.noObj : ∀ (d : D) (v : V), DR K m H v d → d.noObj = true → DR K m' H v d
  | .none, _, h, _ => by cases h; exact .non
  | .bool b, _, h, _ => by cases h; exact .bl b
  | .int i, _, h, _ => by cases h; exact .int i
  | .str x, _, h, _ => by cases h; exact .str x
  | .list ds, _, h, c => by
    cases h with
    | list h1 h2 => rw [D.noObj] at c; exact .list h1 (DRs.noObj ds _ h2 c)
  | .lk ds, _, h, c => by
    cases h with
    | lk h1 h2 => rw [D.noObj] at c; exact .lk h1 (DRs.noObj ds _ h2 c)
  | .tup ds, _, h, c => by
    cases h with
    | tup h1 h2 => rw [D.noObj] at c; exact .tup h1 (DRs.noObj ds _ h2 c)
  | .dic kvs, _, h, c => by
    cases h with
    | dic h1 h2 => rw [D.noObj] at c; exact .dic h1 (DRk.noObj kvs _ h2 c)
  | .obj n, _, h, c => by rw [D.noObj] at c; cases c
  | .xv c' fs, _, h, c => by
    rw [D.noObj] at c
    cases h with
    | xn h1 h2 => exact .xn h1 h2
    | xf h1 h2 h3 h4 => exact .xf h1 h2 h3 (DRf.noObj fs _ h4 c)
theorem DRs.noObj : ∀ (ds : List D) (vs : List V), DRs K m H vs ds → noObjs ds = true → DRs K m' H vs ds
  | [], _, h, _ => by cases h; exact .nil
  | d :: ds, _, h, c => by
    cases h with
    | cons h1 h2 =>
      rw [noObjs, Bool.and_eq_true] at c
      exact .cons (DR.noObj d _ h1 c.1) (DRs.noObj ds _ h2 c.2)
theorem DRk.noObj : ∀ (ds : List (Key × D)) (vs : List (Key × V)), DRk K m H vs ds → noObjk ds = true → DRk K m' H vs ds
  | [], _, h, _ => by cases h; exact .nil
  | (k, d) :: ds, _, h, c => by
    cases h with
    | cons h1 h2 =>
      rw [noObjk, Bool.and_eq_true] at c
      exact .cons (DR.noObj d _ h1 c.1) (DRk.noObj ds _ h2 c.2)
theorem DRf.noObj : ∀ (ds : List (Str × D)) (vs : List (Str × V)), DRf K m H vs ds → noObjf ds = true → DRf K m' H vs ds
  | [], _, h, _ => by cases h; exact .nil
  | (k, d) :: ds, _, h, c => by
    cases h with
    | cons h1 h2 =>
      rw [noObjf, Bool.and_eq_true] at c
      exact .cons (DR.noObj d _ h1 c.1) (DRf.noObj ds _ h2 c.2)
end
theorem ObD.noObj {o : HO} {d : D} (h : ObD K m H o d) (c : d.noObj = true) : ObD K m' H o d := by
  cases h with
  | lst h => rw [D.noObj] at c; exact .lst (DRs.noObj _ _ h c)
  | dic h => rw [D.noObj] at c; exact .dic (DRk.noObj _ _ h c)
theorem noObjs_map {α : Type} {f : α → D} (h : ∀ a, (f a).noObj = true) : ∀ l : List α, noObjs (l.map f) = true
  | [] => by simp [noObjs]
  | a :: l => by simp [noObjs, h a, noObjs_map h l]
end
/-! what holds no list -/
mutual
def coldD : D → Bool
  | .none => true
  | .bool _ => true
  | .int _ => true
  | .str _ => true
  | .tup xs => coldDs xs
  | _ => false
def coldDs : List D → Bool
  | [] => true
  | x :: xs => coldD x && coldDs xs
end
def coldDf : List (Str × D) → Bool
  | [] => true
  | (_, x) :: xs => coldD x && coldDf xs
/-- a list or a dict, not frozen -/
def hoOpen : HO → Bool
  | .lst _ => true
  | .dK _ => true
  | _ => false
/-- the objects at some places, shared for a while -/
def opn (S : List Addr) (H M : Hp) : Hp := fun a => if a ∈ S then H a else M a
/-- and no more -/
def shut (S : List Addr) (M M' : Hp) : Hp := fun a => if a ∈ S then M a else M' a
theorem opn_sub {S : List Addr} {H M : Hp} (s : Same M H) : Same (opn S H M) H := fun a o h => by
  unfold opn at h
  by_cases hs : a ∈ S
  · rw [if_pos hs] at h; exact h
  · rw [if_neg hs] at h; exact s _ _ h
theorem Same.opn {M H : Hp} (s : Same M H) (S : List Addr) : Same M (opn S H M) := fun a o h => by
  unfold MP.opn
  by_cases hs : a ∈ S
  · rw [if_pos hs]; exact s _ _ h
  · rw [if_neg hs]; exact h
theorem shut_grow {S : List Addr} {H M H' M' : Hp} (s : Same M H) (mm : Same (opn S H M) M') (gh : Same H H') (mh : Same M' H') (new : ∀ a o, M' a = some o → opn S H M a = some o ∨ H a = Option.none) : Grow H M H' (shut S M M') := by
  refine ⟨gh, fun a o h => ?_, fun a o h => ?_, fun a o h => ?_⟩
  · unfold shut
    by_cases hs : a ∈ S
    · rw [if_pos hs]; exact h
    · rw [if_neg hs]; exact mm _ _ (Same.opn s S _ _ h)
  · unfold shut at h
    by_cases hs : a ∈ S
    · rw [if_pos hs] at h; exact gh _ _ (s _ _ h)
    · rw [if_neg hs] at h; exact mh _ _ h
  · unfold shut at h
    by_cases hs : a ∈ S
    · rw [if_pos hs] at h; exact .inl h
    · rw [if_neg hs] at h
      rcases new _ _ h with q | q
      · unfold opn at q
        rw [if_neg hs] at q
        exact .inl q
      · exact .inr q
theorem shut_open {S : List Addr} {H M M' : Hp} (hS : ∀ a ∈ S, ∃ o, H a = some o ∧ hoOpen o = true) (mm : Same (opn S H M) M') : ∀ a ∈ S, ∃ o, M' a = some o ∧ hoOpen o = true := fun a ha => by
  obtain ⟨o, h1, h2⟩ := hS a ha
  refine ⟨o, mm _ _ ?_, h2⟩
  unfold opn
  rw [if_pos ha]
  exact h1
theorem shut_keep {S : List Addr} {M M' : Hp} {a : Addr} {o : HO} (hS : ∀ a ∈ S, ∃ o, M' a = some o ∧ hoOpen o = true) (h : M' a = some o) (ho : hoOpen o = false) : shut S M M' a = some o := by
  unfold shut
  by_cases hs : a ∈ S
  · obtain ⟨o', h1, h2⟩ := hS a hs
    rw [h] at h1
    cases h1
    rw [ho] at h2
    cases h2
  · rw [if_neg hs]; exact h
section
variable {K : PySem.W.Frag} {m : List Addr} {S : List Addr} {M M' : Hp}
theorem ObD.openD {M : Hp} {o : HO} {d : D} (h : ObD K m M o d) : hoOpen o = true := by cases h <;> rfl
mutual
theorem DR.cold (hS : ∀ a ∈ S, ∃ o, M' a = some o ∧ hoOpen o = true) : ∀ (d : D) (v : V), DR K m M' v d → coldD d = true → DR K m (shut S M M') v d
  | .none, _, h, _ => by cases h; exact .non
  | .bool b, _, h, _ => by cases h; exact .bl b
  | .int i, _, h, _ => by cases h; exact .int i
  | .str x, _, h, _ => by cases h; exact .str x
  | .tup ds, _, h, c => by
    cases h with
    | tup h1 h2 =>
      rw [coldD] at c
      refine .tup ?_ (DRs.cold hS ds _ h2 c)
      rcases h1 with (h1 | ⟨o, h1⟩) | h1
      · exact .inl (.inl (shut_keep hS h1 rfl))
      · exact .inl (.inr ⟨o, shut_keep hS h1 rfl⟩)
      · exact .inr h1
  | .list _, _, _, c => by unfold coldD at c; cases c
  | .lk _, _, _, c => by unfold coldD at c; cases c
  | .dic _, _, _, c => by unfold coldD at c; cases c
  | .obj _, _, _, c => by unfold coldD at c; cases c
  | .xv _ _, _, _, c => by unfold coldD at c; cases c
theorem DRs.cold (hS : ∀ a ∈ S, ∃ o, M' a = some o ∧ hoOpen o = true) : ∀ (ds : List D) (vs : List V), DRs K m M' vs ds → coldDs ds = true → DRs K m (shut S M M') vs ds
  | [], _, h, _ => by cases h; exact .nil
  | d :: ds, _, h, c => by
    cases h with
    | cons h1 h2 =>
      rw [coldDs, Bool.and_eq_true] at c
      exact .cons (DR.cold hS d _ h1 c.1) (DRs.cold hS ds _ h2 c.2)
end
theorem DRf.cold (hS : ∀ a ∈ S, ∃ o, M' a = some o ∧ hoOpen o = true) : ∀ (ds : List (Str × D)) (vs : List (Str × V)), DRf K m M' vs ds → coldDf ds = true → DRf K m (shut S M M') vs ds
  | [], _, h, _ => by cases h; exact .nil
  | (k, d) :: ds, _, h, c => by
    cases h with
    | cons h1 h2 =>
      rw [coldDf, Bool.and_eq_true] at c
      exact .cons (DR.cold hS d _ h1 c.1) (DRf.cold hS ds _ h2 c.2)
end
section
variable {X : Cx} {T : Tab} {W : WX} {e o : Expr} {es : List Expr} {pos p : Pos} {k n : Nat} {sem : Sem} {x : Str}
/-- a def that makes objects of its own, which nobody sees -/
def pSeal (n : Nat) (sem : Sem) (fs : Sta → PR (List D)) : Sta → PR RV := fun s => (fs s).bind fun ds => if ds.length = n ∧ noObjs ds = true then (match sem ds [] with
  | .ok (.v d) _ => if d.noObj = true then .ok (sh d) else .stuck
  | .ok (.own d) _ => if d.noObj = true then .ok (fr d) else .stuck
  | _ => .stuck) else .stuck
theorem ev_seal {fs : Sta → PR (List D)} (c : Callee X.prog X.w X.K X.mg X.base T x true k n sem) (hr : Room k X.A) (hg : Gl X x) (tk : Takes X W) (ha : PAs X T W (e :: es) fs)
    (hdb : (x == ("__debug__" : Str)) = false := by decide) (he : starEach (e :: es) X.env = (false, eval e X.env) :: starEach es X.env := by rfl) (hpl : (backTo pos (starEach es X.env)).any (·.1) = false := by rfl) :
    PEv X T W (.Call (.Name x p) (e :: es) [] pos) (pSeal n sem fs) := by
  obtain ⟨f, fd, ps, F, hm, hk, hb⟩ := c
  refine PE.wk (pe_callS F hr hg hm hk hb (fun σ => passAt tk σ) ha hdb he hpl) ?_
  rintro σ H Q ⟨s, m, M, G, R, q⟩
  refine ⟨s, m, M, G, R, ?_⟩
  revert q
  unfold pSeal PR.bind
  cases fs s with
  | ok ds =>
    intro q ys H1 M1 g1 r1
    dsimp only at q
    by_cases hl : ds.length = n ∧ noObjs ds = true
    · rw [if_pos hl] at q
      refine ⟨ds, [], [], M1, H1, by rw [r1.length]; exact hl.1, DRs.noObj _ _ r1 hl.2, rel_pure g1.mh, (fun _ => rfl), ?_⟩
      cases hs : sem ds [] with
      | ok r st' =>
        rw [hs] at q
        intro y H' m' M' e' a' R'
        have g2 : Grow H1 M1 H' M' := ⟨R'.gh, e'.mm, R'.mh, e'.new⟩
        obtain ⟨mh, gh, ⟨f1, f2, h1, h2, nd, dj⟩⟩ := R'
        obtain ⟨f3, f4, ef, h3, h4⟩ := h1
        cases r with
        | un => exact q.elim
        | v d =>
          obtain ⟨_, y', ey, hd⟩ := h3
          cases ey
          dsimp only at q
          by_cases hn : d.noObj = true
          · rw [if_pos hn] at q
            exact q y H' M' (g1.trans g2) (DR.noObj _ _ hd hn)
          · rw [if_neg hn] at q
            exact q.elim
        | own d =>
          obtain ⟨b, ob, ef3, ey, hb', hd⟩ := h3
          cases ey
          have dja := dj b (by simp [ef, ef3])
          dsimp only at q
          by_cases hn : d.noObj = true
          · rw [if_pos hn] at q
            exact q (.ref b) H' M' (g1.trans g2) ⟨b, ob, rfl, hb', hd.noObj hn, dja.1, g1.same.free dja.2⟩
          · rw [if_neg hn] at q
            exact q.elim
      | exc x st' => rw [hs] at q; exact q.elim
      | stuck => rw [hs] at q; exact q
    · rw [if_neg hl] at q
      exact q.elim
  | exc e => intro q; exact q
  | stuck => intro q; exact q
/-- a def that only looks at its arguments; what it hands back holds no list -/
def pLook (n : Nat) (sem : Sem) (fs : Sta → PR (List RV)) : Sta → PR RV := fun s => (fs s).bind fun rs => if rs.length = n then (match sem (rs.map RV.d) [] with
  | .ok (.v d) _ => if coldD d = true then .ok (sh d) else .stuck
  | .ok (.own (.list ds)) _ => if coldDs ds = true then .ok (fr (.list ds)) else .stuck
  | .exc e _ => if coldDf e.fs = true then .exc e else .stuck
  | _ => .stuck) else .stuck
theorem args_cold {K : PySem.W.Frag} {m : List Addr} {M H0 H : Hp} (s : Same M H) : ∀ {ys : List V} {rs : List RV}, Paired (RR K m M H0 H) ys rs →
    ∃ S : List Addr, (∀ a ∈ S, ∃ o, H a = some o ∧ hoOpen o = true) ∧ ∀ S' : List Addr, (∀ a ∈ S, a ∈ S') → DRs K m (opn S' H M) ys (rs.map RV.d)
  | _, _, .nil => ⟨[], (fun _ h => nomatch h), fun _ _ => .nil⟩
  | y :: ys, ⟨k, d⟩ :: rs, .cons r t => by
    obtain ⟨S, h1, h2⟩ := args_cold s t
    have own : ∀ {a : Addr} {o : HO}, y = .ref a → H a = some o → ObD K m M o d → ∃ S : List Addr, (∀ a ∈ S, ∃ o, H a = some o ∧ hoOpen o = true) ∧ ∀ S' : List Addr, (∀ a ∈ S, a ∈ S') → DRs K m (opn S' H M) (y :: ys) ((⟨k, d⟩ :: rs : List RV).map RV.d) := by
      intro a o ey e q
      subst ey
      refine ⟨a :: S, fun b hb => ?_, fun S' hS => ?_⟩
      · rcases List.mem_cons.mp hb with rfl | hb
        · exact ⟨o, e, q.openD⟩
        · exact h1 b hb
      · refine .cons (q.dr (Same.opn s S') ?_) (h2 S' fun b hb => hS b (List.mem_cons_of_mem _ hb))
        unfold opn
        rw [if_pos (hS a (List.mem_cons_self ..))]
        exact e
    cases k with
    | sh => exact ⟨S, h1, fun S' hS => .cons (DR.up r (Same.opn s S')) (h2 S' hS)⟩
    | fr =>
      obtain ⟨a, o, ey, e, q, _⟩ := r
      exact own ey e q
    | pk =>
      obtain ⟨a, o, ey, e, q⟩ := r
      exact own ey e q
theorem ev_look {fs : Sta → PR (List RV)} (c : Callee X.prog X.w X.K X.mg X.base T x false k n sem) (hr : Room k X.A) (hg : Gl X x) (tk : Takes X W) (ha : PAr X T W (e :: es) fs)
    (hdb : (x == ("__debug__" : Str)) = false := by decide) (he : starEach (e :: es) X.env = (false, eval e X.env) :: starEach es X.env := by rfl) (hpl : (backTo pos (starEach es X.env)).any (·.1) = false := by rfl) :
    PEv X T W (.Call (.Name x p) (e :: es) [] pos) (pLook n sem fs) := by
  obtain ⟨f, fd, ps, F, hm, hk, hb⟩ := c
  refine PE.wk (pe_callS F hr hg hm hk hb (fun σ => passAt tk σ) ha hdb he hpl) ?_
  rintro σ H Q ⟨s, m, M, G, R, q⟩
  refine ⟨s, m, M, G, R, ?_⟩
  revert q
  unfold pLook PR.bind
  cases fs s with
  | ok rs =>
    intro q ys H1 M1 g1 r1
    dsimp only at q
    by_cases hl : rs.length = n
    · rw [if_pos hl] at q
      obtain ⟨S, hS, rd0⟩ := args_cold g1.mh r1
      have rd := rd0 S fun _ h => h
      refine ⟨rs.map RV.d, [], m, opn S H1 M1, H1, by rw [rd.length]; simpa using hl, rd, rel_pure (opn_sub g1.mh), (fun h => nomatch h), ?_⟩
      have grow : ∀ {m' : List Addr} {M' H' : Hp}, Ext false H1 m (opn S H1 M1) m' M' → Same H1 H' → Same M' H' → m' = m ∧ Grow H1 M1 H' (shut S M1 M') := fun e' gh mh => ⟨e'.nl rfl, shut_grow g1.mh e'.mm gh mh e'.new⟩
      cases hs : sem (rs.map RV.d) [] with
      | ok r st' =>
        rw [hs] at q
        intro y H' m' M' e' a' R'
        obtain ⟨em, g2⟩ := grow e' R'.gh R'.mh
        subst em
        have hS' := shut_open hS e'.mm
        obtain ⟨mh, gh, ⟨f1, f2, h1, h2, nd, dj⟩⟩ := R'
        obtain ⟨f3, f4, ef, h3, h4⟩ := h1
        cases r with
        | un => exact q.elim
        | v d =>
          obtain ⟨_, y', ey, hd⟩ := h3
          cases ey
          dsimp only at q
          by_cases hn : coldD d = true
          · rw [if_pos hn] at q
            exact q y H' _ (g1.trans g2) (DR.cold hS' d _ hd hn)
          · rw [if_neg hn] at q
            exact q.elim
        | own d =>
          obtain ⟨b, ob, ef3, ey, hb', hd⟩ := h3
          cases ey
          have dja := dj b (by simp [ef, ef3])
          cases hd with
          | lst hd =>
            rename_i xs ds
            dsimp only at q
            by_cases hn : coldDs ds = true
            · rw [if_pos hn] at q
              refine q (.ref b) H' _ (g1.trans g2) ⟨b, _, rfl, hb', .lst (DRs.cold hS' _ _ hd hn), ?_, g1.same.free dja.2⟩
              unfold shut
              by_cases hbS : b ∈ S
              · obtain ⟨o, e, _⟩ := hS b hbS
                rw [dja.2] at e
                cases e
              · rw [if_neg hbS]
                exact dja.1
            · rw [if_neg hn] at q
              exact q.elim
          | dic hd => exact q.elim
      | exc x st' =>
        rw [hs] at q
        intro cls d H' m' M' e' a' R' xr
        obtain ⟨em, g2⟩ := grow e' R'.gh R'.mh
        subst em
        have hS' := shut_open hS e'.mm
        dsimp only at q
        by_cases hn : coldDf x.fs = true
        · rw [if_pos hn] at q
          obtain ⟨C, h1, h2, h3⟩ := xr
          refine q cls d H' _ (g1.trans g2) ⟨C, h1, h2, ?_⟩
          rcases h3 with h3 | ⟨dd, fs, h4, h5, h6⟩
          · exact .inl h3
          · exact .inr ⟨dd, fs, h4, shut_keep hS' h5 rfl, DRf.cold hS' _ _ h6 hn⟩
        · rw [if_neg hn] at q
          exact q.elim
      | stuck => rw [hs] at q; exact q
    · rw [if_neg hl] at q
      exact q.elim
  | exc e => intro q; exact q
  | stuck => intro q; exact q
section
variable {a b c : Expr} {fa fb fc : Sta → PR RV}
theorem ev_chain {op op' : CmpOp} {g g' : D → D → Option RV} (ho : Op2Ok X (compareOp op) g) (ho' : Op2Ok X (compareOp op') g') (ha : PEv X T W a fa) (hb : PEv X T W b fb) (hc : PEv X T W c fc)
    (hm : lastMarks [op, op'] [b, c] = false := by with_unfolding_all rfl) : PEv X T W (.Compare a [op, op'] [b, c] pos) (p3 g g' fa fb fc) := by
  obtain ⟨r, h1, h2⟩ := ho
  obtain ⟨r', h1', h2'⟩ := ho'
  exact PE.wk (pe_chain h1 h1' ha hb hc hm) fun σ H Q h => ev_chain_r h2 h2' h
theorem et_chain {op op' : CmpOp} {g g' : D → D → Option RV} (ho : Op2Ok X (compareOp op) g) (ho' : Op2Ok X (compareOp op') g') (ha : PEv X T W a fa) (hb : PEv X T W b fb) (hc : PEv X T W c fc)
    (hm : lastMarks [op, op'] [b, c] = false := by with_unfolding_all rfl) : PTv X T W (.Compare a [op, op'] [b, c] pos) (pB (p3 g g' fa fb fc)) := by
  obtain ⟨r, h1, h2⟩ := ho
  obtain ⟨r', h1', h2'⟩ := ho'
  exact PT.wk (pt_chain h1 h1' ha hb hc hm) fun σ H Q h => ev_chain_r h2 h2' (tB_of h)
end
theorem hu64 {k : Nat} {A : Around} (hr : Room k A) : A.units + 64 < cLine := hr.units
theorem hu65 {k : Nat} {A : Around} (hr : Room k A) : A.units + 65 < cLine := by have := hr.un; omega
/-- a name's new list is shared at once -/
def sThaw (i : Nat) (g : Sta → Fl) : Sta → Fl := fun s => match g s with
  | .nx s' => .nx (frz i s')
  | fl => fl
theorem s_thaw {al : Bool} {st : Stmt} {g : Sta → Fl} {i : Nat} (h : SE1 X T W al st g) : SE1 X T W al st (sThaw i g) := by
  refine PS.wk h ?_
  rintro D σ H ⟨s, m, M, G, R, a, q⟩
  refine ⟨s, m, M, G, R, a, ?_⟩
  unfold sThaw at q
  cases hg : g s with
  | nx s' =>
    rw [hg] at q
    intro σ' H' m' M' e' a' R'
    obtain ⟨M2, e2, R2⟩ := R'.frz (al := al) i
    refine q σ' H' m' M2 (e'.trans e2) (fun h => ?_) R2
    rw [a' h]
    unfold frz
    split <;> rfl
  | brk s' => rw [hg] at q; exact q
  | cont s' => rw [hg] at q; exact q
  | ret r s' => rw [hg] at q; exact q
  | exc x s' => rw [hg] at q; exact q
  | stuck => rw [hg] at q; exact q
/-- a constant of the module's top -/
theorem ev_glob {v : V} {u : Value} {d : D} (hg : Gl X x) (hm : X.mg x = some u) (r : RelV v u) (hd : ∀ m M, DR X.K m M v d) (hdb : (x == ("__debug__" : Str)) = false := by decide) : PEv X T W (.Name x pos) (pC d) :=
  ev_const (pe_glob hg hm r hdb) hd
end
end MP

/-! MP 9: the evaluator's steps as equations, loops by an invariant. -/
namespace MP
open PySem PySem.Spec PyProof.Rows L2


/-! ### the steps of the evaluator, as functions of results -/
variable {env : List Slot} {st : List Ob}
def xD : PR RV → PR D
  | .ok ⟨.sh, d⟩ => .ok d
  | .ok ⟨.fr, d⟩ => .ok d
  | .ok ⟨.pk, _⟩ => .stuck
  | .exc e => .exc e
  | .stuck => .stuck
def x1 (g : D → Option RV) : PR RV → PR RV
  | .ok x => .of (g x.d)
  | .exc e => .exc e
  | .stuck => .stuck
def x2 (g : D → D → Option RV) : PR RV → PR RV → PR RV
  | .ok x, .ok y => .of (g x.d y.d)
  | .ok _, .exc e => .exc e
  | .ok _, .stuck => .stuck
  | .exc e, _ => .exc e
  | .stuck, _ => .stuck
def xB : PR RV → PR Bool
  | .ok ⟨_, .bool b⟩ => .ok b
  | .ok _ => .stuck
  | .exc e => .exc e
  | .stuck => .stuck
def xNot : PR Bool → PR Bool
  | .ok b => .ok (!b)
  | .exc e => .exc e
  | .stuck => .stuck
def xAnd (g : Sta → PR Bool) (s : Sta) : PR Bool → PR Bool
  | .ok true => g s
  | .ok false => .ok false
  | .exc e => .exc e
  | .stuck => .stuck
def xOr (g : Sta → PR Bool) (s : Sta) : PR Bool → PR Bool
  | .ok true => .ok true
  | .ok false => g s
  | .exc e => .exc e
  | .stuck => .stuck
def xAndV (g : Sta → PR RV) (s : Sta) : PR Bool → PR RV
  | .ok true => g s
  | .ok false => .ok ⟨.sh, .bool false⟩
  | .exc e => .exc e
  | .stuck => .stuck
def xOrV (g : Sta → PR RV) (s : Sta) : PR Bool → PR RV
  | .ok true => .ok ⟨.sh, .bool true⟩
  | .ok false => g s
  | .exc e => .exc e
  | .stuck => .stuck
def xNotV : PR Bool → PR RV
  | .ok b => .ok ⟨.sh, .bool (!b)⟩
  | .exc e => .exc e
  | .stuck => .stuck
def xIfV (f g : Sta → PR RV) (s : Sta) : PR Bool → PR RV
  | .ok true => f s
  | .ok false => g s
  | .exc e => .exc e
  | .stuck => .stuck
def x3b (g' : D → D → Option RV) (y : D) (fc : Sta → PR RV) (s : Sta) : PR Bool → PR RV
  | .ok true => x1 (g' y) (fc s)
  | .ok false => .ok ⟨.sh, .bool false⟩
  | .exc e => .exc e
  | .stuck => .stuck
def x3 (g g' : D → D → Option RV) (fc : Sta → PR RV) (s : Sta) : PR RV → PR RV → PR RV
  | .ok x, .ok y => x3b g' y.d fc s (xB (.of (g x.d y.d)))
  | .ok _, .exc e => .exc e
  | .ok _, .stuck => .stuck
  | .exc e, _ => .exc e
  | .stuck, _ => .stuck
def xCons {α : Type} : PR α → PR (List α) → PR (List α)
  | .ok x, .ok y => .ok (x :: y)
  | .ok _, .exc e => .exc e
  | .ok _, .stuck => .stuck
  | .exc e, _ => .exc e
  | .stuck, _ => .stuck
def xTp : PR (List D) → PR RV
  | .ok ds => if ds.length ≤ 1000 then .ok ⟨.sh, .tup ds⟩ else .stuck
  | .exc e => .exc e
  | .stuck => .stuck
def xLs : PR (List D) → PR RV
  | .ok ds => if ds.length ≤ 1000 then .ok ⟨.fr, .list ds⟩ else .stuck
  | .exc e => .exc e
  | .stuck => .stuck
def xSo : PR RV → PR (Option Int)
  | .ok ⟨_, .int i⟩ => .ok (some i)
  | .ok _ => .stuck
  | .exc e => .exc e
  | .stuck => .stuck
def xSl : PR RV → PR (Option Int) → PR (Option Int) → PR RV
  | .ok x, .ok l, .ok u => .of (gSl x.d l u)
  | .exc e, _, _ => .exc e
  | .stuck, _, _ => .stuck
  | .ok _, .exc e, _ => .exc e
  | .ok _, .stuck, _ => .stuck
  | .ok _, .ok _, .exc e => .exc e
  | .ok _, .ok _, .stuck => .stuck
def xG {α : Type} (g : List D → Option α) : PR (List RV) → PR α
  | .ok rs => .of (g (rs.map RV.d))
  | .exc e => .exc e
  | .stuck => .stuck
def xSq : PR D → PR (List D)
  | .ok d => .of (seqOf d)
  | .exc e => .exc e
  | .stuck => .stuck
def xSqR : PR RV → PR (List D)
  | .ok d => .of (seqOf d.d)
  | .exc e => .exc e
  | .stuck => .stuck
def xEn : PR (List D) → PR (List D)
  | .ok d => .of (gEnum d)
  | .exc e => .exc e
  | .stuck => .stuck
def xC2 : PR (List D) → PR RV
  | .ok r => .ok ⟨.fr, .list r⟩
  | .exc e => .exc e
  | .stuck => .stuck
def xC (t : Tg) (tt : Sta → PR Bool) (te : Sta → PR D) (s : Sta) : PR (List D) → PR RV
  | .ok ds => if ds.length ≤ 16777216 then xC2 (compL t tt te s ds) else .stuck
  | .exc e => .exc e
  | .stuck => .stuck
def xF : Fr → PR RV
  | .ok (.v d) _ => .ok ⟨.sh, d⟩
  | .ok (.own d) _ => .ok ⟨.fr, d⟩
  | .ok .un _ => .stuck
  | .exc e _ => .exc e
  | .stuck => .stuck
def xU (n : Nat) (sem : Sem) : PR (List D) → PR RV
  | .ok ds => if ds.length = n then xF (sem ds []) else .stuck
  | .exc e => .exc e
  | .stuck => .stuck
def xSeF : Fr → PR RV
  | .ok (.v d) _ => if d.noObj = true then .ok ⟨.sh, d⟩ else .stuck
  | .ok (.own d) _ => if d.noObj = true then .ok ⟨.fr, d⟩ else .stuck
  | _ => .stuck
def xSe (n : Nat) (sem : Sem) : PR (List D) → PR RV
  | .ok ds => if ds.length = n ∧ noObjs ds = true then xSeF (sem ds []) else .stuck
  | .exc e => .exc e
  | .stuck => .stuck
def xLoF : Fr → PR RV
  | .ok (.v d) _ => if coldD d = true then .ok ⟨.sh, d⟩ else .stuck
  | .ok (.own (.list ds)) _ => if coldDs ds = true then .ok ⟨.fr, .list ds⟩ else .stuck
  | .exc e _ => if coldDf e.fs = true then .exc e else .stuck
  | _ => .stuck
def xLo (n : Nat) (sem : Sem) : PR (List RV) → PR RV
  | .ok rs => if rs.length = n then xLoF (sem (rs.map RV.d) []) else .stuck
  | .exc e => .exc e
  | .stuck => .stuck
def xLk (f : Nat) : List (Nat × Slot) → PR RV
  | [] => .stuck
  | (g, s) :: r => if f = g then PR.of s.look else xLk f r
def xOb (c f : Nat) : Option Ob → PR RV
  | some ob => if ob.cls = c then xLk f ob.fs else .stuck
  | none => .stuck
def xFd (c f : Nat) (st : List Ob) : PR RV → PR RV
  | .ok ⟨_, .obj j⟩ => xOb c f st[j]?
  | .ok _ => .stuck
  | .exc e => .exc e
  | .stuck => .stuck

theorem of_some {α : Type} (a : α) : PR.of (some a) = .ok a := Eq.trans rfl rfl
theorem map_some {α β : Type} (a : α) (f : α → β) : (some a).map f = some (f a) := Eq.trans rfl rfl
theorem e_lv (d : D) : Slot.look (.v d) = some ⟨.sh, d⟩ := Eq.trans rfl rfl
theorem e_lo (d : D) : Slot.look (.own d) = some ⟨.pk, d⟩ := Eq.trans rfl rfl
theorem e_pD (f : Sta → PR RV) : pD f ⟨env, st⟩ = xD (f ⟨env, st⟩) := by
  unfold pD PR.bind xD RV.shr
  cases f ⟨env, st⟩ with
  | ok r => obtain ⟨k, d⟩ := r; cases k <;> rfl
  | exc e => rfl
  | stuck => rfl
theorem e_xDs (d : D) : xD (.ok ⟨.sh, d⟩) = .ok d := Eq.trans rfl rfl
theorem e_xDf (d : D) : xD (.ok ⟨.fr, d⟩) = .ok d := Eq.trans rfl rfl
theorem e_pC (d : D) : pC d ⟨env, st⟩ = .ok ⟨.sh, d⟩ := Eq.trans rfl rfl
theorem e_pYes : pYes ⟨env, st⟩ = .ok true := Eq.trans rfl rfl
theorem e_pVar (i : Nat) : pVar i ⟨env, st⟩ = PR.of (env[i]?.bind Slot.look) := Eq.trans rfl rfl
theorem e_p2 (g : D → D → Option RV) (fa fb : Sta → PR RV) : p2 g fa fb ⟨env, st⟩ = x2 g (fa ⟨env, st⟩) (fb ⟨env, st⟩) := by
  unfold p2 PR.bind x2
  cases fa ⟨env, st⟩ <;> cases fb ⟨env, st⟩ <;> rfl
theorem e_x2 (g : D → D → Option RV) (k k' : RK) (x y : D) : x2 g (.ok ⟨k, x⟩) (.ok ⟨k', y⟩) = PR.of (g x y) := Eq.trans rfl rfl
theorem e_p1 (g : D → Option RV) (fa : Sta → PR RV) : p1 g fa ⟨env, st⟩ = x1 g (fa ⟨env, st⟩) := by
  unfold p1 PR.bind x1
  cases fa ⟨env, st⟩ <;> rfl
theorem e_x1 (g : D → Option RV) (k : RK) (x : D) : x1 g (.ok ⟨k, x⟩) = PR.of (g x) := Eq.trans rfl rfl
theorem e_pB (f : Sta → PR RV) : pB f ⟨env, st⟩ = xB (f ⟨env, st⟩) := by
  unfold pB PR.bind xB RV.bool
  cases f ⟨env, st⟩ with
  | ok r => obtain ⟨k, d⟩ := r; cases d <;> rfl
  | exc e => rfl
  | stuck => rfl
theorem e_xB (k : RK) (b : Bool) : xB (.ok ⟨k, .bool b⟩) = .ok b := Eq.trans rfl rfl
theorem e_pNot (f : Sta → PR Bool) : pNot f ⟨env, st⟩ = xNot (f ⟨env, st⟩) := by
  unfold pNot PR.bind xNot
  cases f ⟨env, st⟩ <;> rfl
theorem e_xNot (b : Bool) : xNot (.ok b) = .ok (!b) := Eq.trans rfl rfl
theorem e_pAnd (f g : Sta → PR Bool) : pAnd f g ⟨env, st⟩ = xAnd g ⟨env, st⟩ (f ⟨env, st⟩) := by
  unfold pAnd PR.bind xAnd
  rcases f ⟨env, st⟩ with (_ | _) | e | _ <;> rfl
theorem e_xAndT (g : Sta → PR Bool) (s : Sta) : xAnd g s (.ok true) = g s := Eq.trans rfl rfl
theorem e_xAndF (g : Sta → PR Bool) (s : Sta) : xAnd g s (.ok false) = .ok false := Eq.trans rfl rfl
theorem e_pOr (f g : Sta → PR Bool) : pOr f g ⟨env, st⟩ = xOr g ⟨env, st⟩ (f ⟨env, st⟩) := by
  unfold pOr PR.bind xOr
  rcases f ⟨env, st⟩ with (_ | _) | e | _ <;> rfl
theorem e_xOrT (g : Sta → PR Bool) (s : Sta) : xOr g s (.ok true) = .ok true := Eq.trans rfl rfl
theorem e_xOrF (g : Sta → PR Bool) (s : Sta) : xOr g s (.ok false) = g s := Eq.trans rfl rfl
theorem e_pAndV (f g : Sta → PR RV) : pAndV f g ⟨env, st⟩ = xAndV g ⟨env, st⟩ (xB (f ⟨env, st⟩)) := by
  rw [← e_pB]
  unfold pAndV PR.bind xAndV
  rcases pB f ⟨env, st⟩ with (_ | _) | e | _ <;> rfl
theorem e_xAndVT (g : Sta → PR RV) (s : Sta) : xAndV g s (.ok true) = g s := Eq.trans rfl rfl
theorem e_xAndVF (g : Sta → PR RV) (s : Sta) : xAndV g s (.ok false) = .ok ⟨.sh, .bool false⟩ := Eq.trans rfl rfl
theorem e_pOrV (f g : Sta → PR RV) : pOrV f g ⟨env, st⟩ = xOrV g ⟨env, st⟩ (xB (f ⟨env, st⟩)) := by
  rw [← e_pB]
  unfold pOrV PR.bind xOrV
  rcases pB f ⟨env, st⟩ with (_ | _) | e | _ <;> rfl
theorem e_xOrVT (g : Sta → PR RV) (s : Sta) : xOrV g s (.ok true) = .ok ⟨.sh, .bool true⟩ := Eq.trans rfl rfl
theorem e_xOrVF (g : Sta → PR RV) (s : Sta) : xOrV g s (.ok false) = g s := Eq.trans rfl rfl
theorem e_pNotV (f : Sta → PR RV) : pNotV f ⟨env, st⟩ = xNotV (xB (f ⟨env, st⟩)) := by
  rw [← e_pB]
  unfold pNotV PR.bind xNotV
  cases pB f ⟨env, st⟩ <;> rfl
theorem e_xNotV (b : Bool) : xNotV (.ok b) = .ok ⟨.sh, .bool (!b)⟩ := Eq.trans rfl rfl
theorem e_pIf (t : Sta → PR Bool) (f g : Sta → PR RV) : pIf t f g ⟨env, st⟩ = xIfV f g ⟨env, st⟩ (t ⟨env, st⟩) := by
  unfold pIf PR.bind xIfV
  rcases t ⟨env, st⟩ with (_ | _) | e | _ <;> rfl
theorem e_xIfT (f g : Sta → PR RV) (s : Sta) : xIfV f g s (.ok true) = f s := Eq.trans rfl rfl
theorem e_xIfF (f g : Sta → PR RV) (s : Sta) : xIfV f g s (.ok false) = g s := Eq.trans rfl rfl
theorem e_p3 (g g' : D → D → Option RV) (fa fb fc : Sta → PR RV) : p3 g g' fa fb fc ⟨env, st⟩ = x3 g g' fc ⟨env, st⟩ (fa ⟨env, st⟩) (fb ⟨env, st⟩) := by
  unfold p3 PR.bind x3
  cases fa ⟨env, st⟩ with
  | ok x =>
    cases fb ⟨env, st⟩ with
    | ok y =>
      simp only []
      cases PR.of (g x.d y.d) with
      | ok r =>
        obtain ⟨k, d⟩ := r
        cases d <;> try rfl
        rename_i b
        cases b with
        | true => show _ = x1 (g' y.d) (fc ⟨env, st⟩); unfold x1; cases fc ⟨env, st⟩ <;> rfl
        | false => rfl
      | exc e => rfl
      | stuck => rfl
    | exc e => rfl
    | stuck => rfl
  | exc e => rfl
  | stuck => rfl
theorem e_x3 (g g' : D → D → Option RV) (fc : Sta → PR RV) (s : Sta) (k k' : RK) (x y : D) : x3 g g' fc s (.ok ⟨k, x⟩) (.ok ⟨k', y⟩) = x3b g' y fc s (xB (.of (g x y))) := Eq.trans rfl rfl
theorem e_x3bT (g' : D → D → Option RV) (y : D) (fc : Sta → PR RV) (s : Sta) : x3b g' y fc s (.ok true) = x1 (g' y) (fc s) := Eq.trans rfl rfl
theorem e_x3bF (g' : D → D → Option RV) (y : D) (fc : Sta → PR RV) (s : Sta) : x3b g' y fc s (.ok false) = .ok ⟨.sh, .bool false⟩ := Eq.trans rfl rfl
theorem e_pNil {α : Type} : (pNil : Sta → PR (List α)) ⟨env, st⟩ = .ok [] := Eq.trans rfl rfl
theorem e_pCons {α : Type} (f : Sta → PR α) (fs : Sta → PR (List α)) : pCons f fs ⟨env, st⟩ = xCons (f ⟨env, st⟩) (fs ⟨env, st⟩) := by
  unfold pCons PR.bind xCons
  cases f ⟨env, st⟩ <;> cases fs ⟨env, st⟩ <;> rfl
theorem e_xCons {α : Type} (x : α) (xs : List α) : xCons (.ok x) (.ok xs) = .ok (x :: xs) := Eq.trans rfl rfl
theorem e_pTup (fs : Sta → PR (List D)) : pTup fs ⟨env, st⟩ = xTp (fs ⟨env, st⟩) := by
  unfold pTup PR.bind xTp
  cases fs ⟨env, st⟩ <;> rfl
theorem e_xTp {ds : List D} (h : ds.length ≤ 1000) : xTp (.ok ds) = .ok ⟨.sh, .tup ds⟩ := if_pos h
theorem e_pLst (fs : Sta → PR (List D)) : pLst fs ⟨env, st⟩ = xLs (fs ⟨env, st⟩) := by
  unfold pLst PR.bind xLs
  cases fs ⟨env, st⟩ <;> rfl
theorem e_xLs {ds : List D} (h : ds.length ≤ 1000) : xLs (.ok ds) = .ok ⟨.fr, .list ds⟩ := if_pos h
theorem e_pNo : pNo ⟨env, st⟩ = .ok none := Eq.trans rfl rfl
theorem e_pSome (f : Sta → PR RV) : pSome f ⟨env, st⟩ = xSo (f ⟨env, st⟩) := by
  unfold pSome PR.bind xSo RV.int
  cases f ⟨env, st⟩ with
  | ok r => obtain ⟨k, d⟩ := r; cases d <;> rfl
  | exc e => rfl
  | stuck => rfl
theorem e_xSo (k : RK) (i : Int) : xSo (.ok ⟨k, .int i⟩) = .ok (some i) := Eq.trans rfl rfl
theorem e_pSl (fa : Sta → PR RV) (lo hi : Sta → PR (Option Int)) : pSl fa lo hi ⟨env, st⟩ = xSl (fa ⟨env, st⟩) (lo ⟨env, st⟩) (hi ⟨env, st⟩) := by
  unfold pSl PR.bind xSl
  cases fa ⟨env, st⟩ <;> cases lo ⟨env, st⟩ <;> cases hi ⟨env, st⟩ <;> rfl
theorem e_xSl (k : RK) (x : D) (l u : Option Int) : xSl (.ok ⟨k, x⟩) (.ok l) (.ok u) = PR.of (gSl x l u) := Eq.trans rfl rfl
theorem e_pCall (g : List D → Option RV) (fs : Sta → PR (List RV)) : pCall g fs ⟨env, st⟩ = xG g (fs ⟨env, st⟩) := by
  unfold pCall PR.bind xG
  cases fs ⟨env, st⟩ <;> rfl
theorem e_xG {α : Type} (g : List D → Option α) (rs : List RV) : xG g (.ok rs) = PR.of (g (rs.map RV.d)) := Eq.trans rfl rfl
theorem e_pSeq (f : Sta → PR D) : pSeq f ⟨env, st⟩ = xSq (f ⟨env, st⟩) := by
  unfold pSeq PR.bind xSq
  cases f ⟨env, st⟩ <;> rfl
theorem e_xSq (d : D) : xSq (.ok d) = PR.of (seqOf d) := Eq.trans rfl rfl
theorem e_pSeqR (f : Sta → PR RV) : pSeqR f ⟨env, st⟩ = xSqR (f ⟨env, st⟩) := by
  unfold pSeqR PR.bind xSqR
  cases f ⟨env, st⟩ <;> rfl
theorem e_xSqR (k : RK) (d : D) : xSqR (.ok ⟨k, d⟩) = PR.of (seqOf d) := Eq.trans rfl rfl
theorem e_pRng (g : List D → Option (List D)) (fs : Sta → PR (List RV)) : pRng g fs ⟨env, st⟩ = xG g (fs ⟨env, st⟩) := by
  unfold pRng PR.bind xG
  cases fs ⟨env, st⟩ <;> rfl
theorem e_pEnum (fs : Sta → PR (List D)) : pEnum fs ⟨env, st⟩ = xEn (fs ⟨env, st⟩) := by
  unfold pEnum PR.bind xEn
  cases fs ⟨env, st⟩ <;> rfl
theorem e_xEn (d : List D) : xEn (.ok d) = PR.of (gEnum d) := Eq.trans rfl rfl
theorem e_pComp (f : Sta → PR (List D)) (t : Tg) (vs : List Nat) (tt : Sta → PR Bool) (te : Sta → PR D) : pComp f t vs tt te ⟨env, st⟩ = xC t tt te ⟨wipeE env vs, st⟩ (f ⟨env, st⟩) := by
  unfold pComp PR.bind xC xC2
  cases f ⟨env, st⟩ with
  | ok ds =>
    simp only []
    split
    · cases compL t tt te ⟨wipeE env vs, st⟩ ds <;> rfl
    · rfl
  | exc e => rfl
  | stuck => rfl
theorem e_xC {t : Tg} {tt : Sta → PR Bool} {te : Sta → PR D} {s : Sta} {ds : List D} (h : ds.length ≤ 16777216) : xC t tt te s (.ok ds) = xC2 (compL t tt te s ds) := if_pos h
theorem e_xC2 (r : List D) : xC2 (.ok r) = .ok ⟨.fr, .list r⟩ := Eq.trans rfl rfl
theorem e_pUser (n : Nat) (sem : Sem) (fs : Sta → PR (List D)) : pUser n sem fs ⟨env, st⟩ = xU n sem (fs ⟨env, st⟩) := by
  unfold pUser PR.bind xU xF
  cases fs ⟨env, st⟩ with
  | ok ds =>
    simp only []
    split
    · cases sem ds [] with
      | ok r st' => cases r <;> rfl
      | exc e st' => rfl
      | stuck => rfl
    · rfl
  | exc e => rfl
  | stuck => rfl
theorem e_xU {n : Nat} {sem : Sem} {ds : List D} (h : ds.length = n) : xU n sem (.ok ds) = xF (sem ds []) := if_pos h
theorem e_xFv (d : D) (st : List Ob) : xF (.ok (.v d) st) = .ok ⟨.sh, d⟩ := Eq.trans rfl rfl
theorem e_xFo (d : D) (st : List Ob) : xF (.ok (.own d) st) = .ok ⟨.fr, d⟩ := Eq.trans rfl rfl
theorem e_xFe (e : Ex) (st : List Ob) : xF (.exc e st) = .exc e := Eq.trans rfl rfl
theorem e_pSeal (n : Nat) (sem : Sem) (fs : Sta → PR (List D)) : pSeal n sem fs ⟨env, st⟩ = xSe n sem (fs ⟨env, st⟩) := by
  unfold pSeal PR.bind xSe xSeF
  cases fs ⟨env, st⟩ <;> rfl
theorem e_xSe {n : Nat} {sem : Sem} {ds : List D} (h : ds.length = n) (h2 : noObjs ds = true) : xSe n sem (.ok ds) = xSeF (sem ds []) := if_pos ⟨h, h2⟩
theorem e_xSeFv {d : D} {st : List Ob} (h : d.noObj = true) : xSeF (.ok (.v d) st) = .ok ⟨.sh, d⟩ := if_pos h
theorem e_xSeFo {d : D} {st : List Ob} (h : d.noObj = true) : xSeF (.ok (.own d) st) = .ok ⟨.fr, d⟩ := if_pos h
theorem e_pLook (n : Nat) (sem : Sem) (fs : Sta → PR (List RV)) : pLook n sem fs ⟨env, st⟩ = xLo n sem (fs ⟨env, st⟩) := by
  unfold pLook PR.bind xLo xLoF
  cases fs ⟨env, st⟩ <;> rfl
theorem e_xLo {n : Nat} {sem : Sem} {rs : List RV} (h : rs.length = n) : xLo n sem (.ok rs) = xLoF (sem (rs.map RV.d) []) := if_pos h
theorem e_xLoF {d : D} {st : List Ob} (h : coldD d = true) : xLoF (.ok (.v d) st) = .ok ⟨.sh, d⟩ := if_pos h
theorem e_xLoO {ds : List D} {st : List Ob} (h : coldDs ds = true) : xLoF (.ok (.own (.list ds)) st) = .ok ⟨.fr, .list ds⟩ := if_pos h
theorem e_xLoE {e : Ex} {st : List Ob} (h : coldDf e.fs = true) : xLoF (.exc e st) = .exc e := if_pos h
theorem cold_map {α : Type} {f : α → D} (h : ∀ a, coldD (f a) = true) : ∀ l : List α, coldDs (l.map f) = true
  | [] => by rw [List.map_nil, coldDs]
  | a :: l => by rw [List.map_cons, coldDs, h a, cold_map h l]; rfl
theorem xLk_eq (f : Nat) : ∀ fs : List (Nat × Slot), PR.of ((fs.lookup f).bind Slot.look) = xLk f fs
  | [] => rfl
  | (g, s) :: r => by
    rw [List.lookup, xLk]
    by_cases h : f = g
    · rw [if_pos h, beq_iff_eq.mpr h]; rfl
    · rw [if_neg h, beq_eq_false_iff_ne.mpr h]; exact xLk_eq f r
theorem e_pFld (c f : Nat) (fo : Sta → PR RV) : pFld c f fo ⟨env, st⟩ = xFd c f st (fo ⟨env, st⟩) := by
  unfold pFld PR.bind xFd xOb RV.ob
  cases fo ⟨env, st⟩ with
  | ok r =>
    obtain ⟨k, d⟩ := r
    cases d <;> try rfl
    rename_i j
    simp only []
    cases st[j]? with
    | none => rfl
    | some ob =>
      simp only []
      by_cases h : ob.cls = c
      · rw [if_pos h, if_pos h]; exact xLk_eq f ob.fs
      · rw [if_neg h, if_neg h]
  | exc e => rfl
  | stuck => rfl
theorem e_xFd (c f j : Nat) (k : RK) : xFd c f st (.ok ⟨k, .obj j⟩) = xOb c f st[j]? := Eq.trans rfl rfl
theorem e_xOb {c f : Nat} {ob : Ob} (h : ob.cls = c) : xOb c f (some ob) = xLk f ob.fs := if_pos h
theorem e_xLk0 (f : Nat) (s : Slot) (r : List (Nat × Slot)) : xLk f ((f, s) :: r) = PR.of s.look := if_pos rfl
theorem e_xLk1 {f g : Nat} {s : Slot} {r : List (Nat × Slot)} (h : f ≠ g) : xLk f ((g, s) :: r) = xLk f r := if_neg h
theorem e_c0 : ((0 : Nat) : Int) = 0 := Eq.trans rfl rfl
theorem e_c1 : ((1 : Nat) : Int) = 1 := Eq.trans rfl rfl

/-! ### operations -/
theorem g_add (i j : Int) : gPlus (.int i) (.int j) = some ⟨.sh, .int (i + j)⟩ := Eq.trans rfl rfl
theorem g_catS {x y : Str} (h : x.length + y.length ≤ 16777216) : gPlus (.str x) (.str y) = some ⟨.sh, .str (x ++ y)⟩ := by
  show (gAdd _ _).or ((gCatS _ _).or _) = _
  unfold gCatS
  simp only [if_pos h]
  rfl
theorem g_catL {x y : List D} (h : x.length + y.length ≤ 16777216) : gPlus (.list x) (.list y) = some ⟨.fr, .list (x ++ y)⟩ := by
  show (gAdd _ _).or ((gCatS _ _).or ((gCatL _ _).or _)) = _
  unfold gCatL
  simp only [if_pos h]
  rfl
theorem g_catT {x y : List D} (h : x.length + y.length ≤ 16777216) : gPlus (.tup x) (.tup y) = some ⟨.sh, .tup (x ++ y)⟩ := by
  show (gAdd _ _).or ((gCatS _ _).or ((gCatL _ _).or (gCatT _ _))) = _
  unfold gCatT
  simp only [if_pos h]
  rfl
theorem g_sub (i j : Int) : gSub (.int i) (.int j) = some ⟨.sh, .int (i - j)⟩ := Eq.trans rfl rfl
theorem g_mul {i j : Int} (h : (-(18446744073709551616) < i ∧ i < 18446744073709551616) ∨ (-(18446744073709551616) < j ∧ j < 18446744073709551616)) : gTimes (.int i) (.int j) = some ⟨.sh, .int (i * j)⟩ := by
  have : (small64b i || small64b j) = true := by
    unfold small64b
    rw [Bool.or_eq_true, decide_eq_true_eq, decide_eq_true_eq]
    omega
  show (if (small64b i || small64b j) = true then _ else _ : Option RV).or _ = _
  rw [if_pos this]
  rfl
theorem g_rep {x : D} {n : Int} (h : n ≤ 16000000 ∧ -16000000 < n) : gTimes (.list [x]) (.int n) = some ⟨.fr, .list (List.replicate n.toNat x)⟩ := by
  have : n < 16777216 ∧ [x].length * n.toNat ≤ 16777216 ∧ -16777216 < n := by simp only [List.length_singleton]; omega
  show (gMul _ _).or (if _ then _ else _) = _
  rw [if_pos this]
  show some _ = _
  rw [List.flatten_replicate_singleton]
theorem g_div {i j : Int} (h : 0 < j ∧ j < 1606938044258990275541962092341162602522202993782792835301376) : gDiv (.int i) (.int j) = some ⟨.sh, .int (i / j)⟩ := by
  show (if decide _ = true then _ else _ : Option RV) = _
  rw [if_pos (decide_eq_true ⟨h.1, Int.lt_of_lt_of_le h.2 (by decide +kernel)⟩)]
theorem g_mod {i j : Int} (h : 0 < j) : gMod (.int i) (.int j) = some ⟨.sh, .int (i % j)⟩ := by
  show (if decide _ = true then _ else _ : Option RV) = _
  rw [if_pos (decide_eq_true h)]
theorem g_pow {i j : Int} (h : 0 ≤ j ∧ j ≤ 1000000 ∧ -(18446744073709551616) < i ∧ i < 18446744073709551616) : gPow (.int i) (.int j) = some ⟨.sh, .int (i ^ j.toNat)⟩ := by
  show (if decide _ = true then _ else _ : Option RV) = _
  rw [if_pos (decide_eq_true ⟨h.1, h.2.1, by omega⟩)]
theorem g_shl {i j : Int} (h : 0 ≤ j ∧ j ≤ 1000000 ∧ -(18446744073709551616) < i ∧ i < 18446744073709551616) : gShl (.int i) (.int j) = some ⟨.sh, .int (i * 2 ^ j.toNat)⟩ := by
  show (if decide _ = true then _ else _ : Option RV) = _
  rw [if_pos (decide_eq_true ⟨h.1, h.2.1, by omega⟩)]
theorem g_shr {i j : Int} (h : 0 ≤ j) : gShr (.int i) (.int j) = some ⟨.sh, .int (i / 2 ^ j.toNat)⟩ := by
  show (if decide _ = true then _ else _ : Option RV) = _
  rw [if_pos (decide_eq_true h)]
theorem g_and (i j : Int) : gAnd (.int i) (.int j) = some ⟨.sh, .int (Builtin.bitAnd i j)⟩ := Eq.trans rfl rfl
theorem g_orI (i j : Int) : gOr (.int i) (.int j) = some ⟨.sh, .int (Builtin.bitOr i j)⟩ := Eq.trans rfl rfl
theorem g_neg (i : Int) : gNeg (.int i) = some ⟨.sh, .int (-i)⟩ := Eq.trans rfl rfl
theorem g_lt (i j : Int) : gLt (.int i) (.int j) = some ⟨.sh, .bool (decide (i < j))⟩ := Eq.trans rfl rfl
theorem g_le (i j : Int) : gLe (.int i) (.int j) = some ⟨.sh, .bool (decide (i ≤ j))⟩ := Eq.trans rfl rfl
theorem g_gt (i j : Int) : gGt (.int i) (.int j) = some ⟨.sh, .bool (decide (j < i))⟩ := Eq.trans rfl rfl
theorem g_ge (i j : Int) : gGe (.int i) (.int j) = some ⟨.sh, .bool (decide (j ≤ i))⟩ := Eq.trans rfl rfl
theorem g_eqI (i j : Int) : gEq (.int i) (.int j) = some ⟨.sh, .bool (decide (i = j))⟩ := Eq.trans rfl rfl
theorem g_eqS (i j : Str) : gEq (.str i) (.str j) = some ⟨.sh, .bool (i == j)⟩ := Eq.trans rfl rfl
theorem g_eqBo (i j : Bool) : gEq (.bool i) (.bool j) = some ⟨.sh, .bool (i == j)⟩ := Eq.trans rfl rfl
theorem g_neI (i j : Int) : gNe (.int i) (.int j) = some ⟨.sh, .bool (!decide (i = j))⟩ := Eq.trans rfl rfl
theorem g_neS (i j : Str) : gNe (.str i) (.str j) = some ⟨.sh, .bool (!(i == j))⟩ := Eq.trans rfl rfl
theorem g_neBo (i j : Bool) : gNe (.bool i) (.bool j) = some ⟨.sh, .bool (!(i == j))⟩ := Eq.trans rfl rfl
theorem g_is (d : D) : gIs d .none = some ⟨.sh, .bool d.isNone⟩ := Eq.trans rfl rfl
theorem g_isNot (d : D) : gIsNot d .none = some ⟨.sh, .bool (!d.isNone)⟩ := Eq.trans rfl rfl
theorem n_none : D.isNone .none = true := Eq.trans rfl rfl
theorem n_int (i : Int) : D.isNone (.int i) = false := Eq.trans rfl rfl
theorem n_str (i : Str) : D.isNone (.str i) = false := Eq.trans rfl rfl
theorem n_tup (i : List D) : D.isNone (.tup i) = false := Eq.trans rfl rfl
theorem n_list (i : List D) : D.isNone (.list i) = false := Eq.trans rfl rfl
theorem n_bool (i : Bool) : D.isNone (.bool i) = false := Eq.trans rfl rfl
theorem g_max (i j : Int) : gMax [.int i, .int j] = some ⟨.sh, .int (if j > i then j else i)⟩ := Eq.trans rfl rfl
theorem g_min (i j : Int) : gMin [.int i, .int j] = some ⟨.sh, .int (if j < i then j else i)⟩ := Eq.trans rfl rfl
theorem g_lenL (x : List D) : gLen [.list x] = some ⟨.sh, .int x.length⟩ := Eq.trans rfl rfl
theorem g_lenK (x : List D) : gLen [.lk x] = some ⟨.sh, .int x.length⟩ := Eq.trans rfl rfl
theorem g_lenT (x : List D) : gLen [.tup x] = some ⟨.sh, .int x.length⟩ := Eq.trans rfl rfl
theorem g_listL (x : List D) : gList [.list x] = some ⟨.fr, .list x⟩ := Eq.trans rfl rfl
theorem g_listK (x : List D) : gList [.lk x] = some ⟨.fr, .list x⟩ := Eq.trans rfl rfl
theorem g_listT (x : List D) : gList [.tup x] = some ⟨.fr, .list x⟩ := Eq.trans rfl rfl
theorem g_tupL (x : List D) : gTuple [.list x] = some ⟨.sh, .tup x⟩ := Eq.trans rfl rfl
theorem g_tupT (x : List D) : gTuple [.tup x] = some ⟨.sh, .tup x⟩ := Eq.trans rfl rfl
theorem q_list (x : List D) : seqOf (.list x) = some x := Eq.trans rfl rfl
theorem q_lk (x : List D) : seqOf (.lk x) = some x := Eq.trans rfl rfl
theorem q_tup (x : List D) : seqOf (.tup x) = some x := Eq.trans rfl rfl
theorem g_rng1 {j : Int} (h : -4611686018427387904 ≤ j ∧ j < 4611686018427387904) : gRng1 [.int j] = some (rng 0 j) := by
  show (if big62 j = true then _ else _ : Option (List D)) = _
  rw [if_pos (by unfold big62; exact decide_eq_true h)]
theorem g_rng2 {i j : Int} (h : -4611686018427387904 ≤ i ∧ i < 4611686018427387904 ∧ -4611686018427387904 ≤ j ∧ j < 4611686018427387904) : gRng2 [.int i, .int j] = some (rng i j) := by
  show (if (big62 i && big62 j) = true then _ else _ : Option (List D)) = _
  rw [if_pos (by unfold big62; rw [Bool.and_eq_true]; exact ⟨decide_eq_true ⟨h.1, h.2.1⟩, decide_eq_true h.2.2⟩)]
theorem g_enumL (x : List D) : gEnum [.list x] = some (enumD 0 x) := Eq.trans rfl rfl
theorem g_enumK (x : List D) : gEnum [.lk x] = some (enumD 0 x) := Eq.trans rfl rfl
theorem g_ixL (x : List D) (i : Int) : gIx (.list x) (.int i) = (atI x i).map (RV.mk .sh) := Eq.trans rfl rfl
theorem g_ixK (x : List D) (i : Int) : gIx (.lk x) (.int i) = (atI x i).map (RV.mk .sh) := Eq.trans rfl rfl
theorem g_ixT (x : List D) (i : Int) : gIx (.tup x) (.int i) = (atI x i).map (RV.mk .sh) := Eq.trans rfl rfl
theorem atN {α : Type} (x : List α) (i : Nat) : atI x (i : Int) = x[i]? := by
  unfold atI ixN
  rw [if_pos (by omega)]
  by_cases h : (i : Int) < x.length
  · rw [if_pos h, Option.bind_some, Int.toNat_natCast]
  · rw [if_neg h, Option.bind_none, List.getElem?_eq_none (by omega)]
theorem atPos {α : Type} (x : List α) {i : Int} (h : 0 ≤ i) : atI x i = x[i.toNat]? := by
  conv => lhs; rw [← Int.toNat_of_nonneg h]
  exact atN x _
theorem at0 {α : Type} (x : List α) : atI x 0 = x[0]? := atN x 0
theorem at1 {α : Type} (x : List α) : atI x 1 = x[1]? := atN x 1
theorem at2 {α : Type} (x : List α) : atI x 2 = x[2]? := atN x 2
theorem atLit {α : Type} (x : List α) (n : Nat) : atI x (no_index (OfNat.ofNat (n + 2))) = x[n + 2]? := atN x (n + 2)
theorem atLast {α : Type} (x : List α) : atI x (-1) = x.getLast? := by
  unfold atI ixN
  rw [if_neg (by omega)]
  cases x with
  | nil => rfl
  | cons a l =>
    rw [if_pos (by simp only [List.length_cons]; omega), Option.bind_some, List.getLast?_eq_getElem?]
    congr 1
    simp only [List.length_cons]
    omega
theorem g_slL (x : List D) (l h : Option Int) : gSl (.list x) l h = some ⟨.fr, .list (cutD x l h)⟩ := Eq.trans rfl rfl
theorem g_slK (x : List D) (l h : Option Int) : gSl (.lk x) l h = some ⟨.fr, .list (cutD x l h)⟩ := Eq.trans rfl rfl
theorem g_slT (x : List D) (l h : Option Int) : gSl (.tup x) l h = some ⟨.sh, .tup (cutD x l h)⟩ := Eq.trans rfl rfl
theorem cut_eq {α : Type} (x : List α) {l h : Int} (hl : 0 ≤ l) (hh : 0 ≤ h) : cutD x (some l) (some h) = (x.drop l.toNat).take (h.toNat - l.toNat) := by
  unfold cutD HT.sIx
  simp only []
  rw [if_neg (by omega), if_neg (by omega)]
  by_cases h1 : l.toNat ≤ x.length
  · rw [Nat.min_eq_left h1]
    by_cases h2 : h.toNat ≤ x.length
    · rw [Nat.min_eq_left h2]
    · rw [Nat.min_eq_right (by omega), List.take_of_length_le (by simp), List.take_of_length_le (by simp; omega)]
  · have e : min l.toNat x.length = x.length := Nat.min_eq_right (by omega)
    rw [e, List.drop_eq_nil_of_le (Nat.le_refl _), List.drop_eq_nil_of_le (by omega)]
    simp
theorem cut_lo {α : Type} (x : List α) {l : Int} (hl : 0 ≤ l) : cutD x (some l) none = x.drop l.toNat := by
  unfold cutD HT.sIx
  simp only []
  rw [if_neg (by omega)]
  by_cases h1 : l.toNat ≤ x.length
  · rw [Nat.min_eq_left h1, List.take_of_length_le (by simp)]
  · rw [Nat.min_eq_right (by omega), List.drop_eq_nil_of_le (Nat.le_refl _), List.drop_eq_nil_of_le (by omega)]
    simp
theorem cut_hi {α : Type} (x : List α) {h : Int} (hh : 0 ≤ h) : cutD x none (some h) = x.take h.toNat := by
  unfold cutD HT.sIx
  simp only []
  rw [if_neg (by omega), List.drop_zero, Nat.sub_zero]
  by_cases h1 : h.toNat ≤ x.length
  · rw [Nat.min_eq_left h1]
  · rw [Nat.min_eq_right (by omega), List.take_of_length_le (Nat.le_refl _), List.take_of_length_le (by omega)]
theorem rng_0 (n : Nat) : rng 0 (n : Int) = (List.range n).map fun k => D.int (k : Nat) := by
  unfold rng
  rw [Int.sub_zero, Int.toNat_natCast]
  congr 1
  funext k
  rw [Int.zero_add]

theorem rngAt {n : Int} {i : Nat} {d : D} (h : (rng 0 n)[i]? = some d) : d = .int (i : Int) ∧ (i : Int) < n := by
  unfold rng at h
  rw [List.getElem?_map] at h
  have hi : i < (n - 0).toNat := by
    by_cases c : i < (n - 0).toNat
    · exact c
    · rw [List.getElem?_eq_none (by simp; omega)] at h
      cases h
  rw [List.getElem?_range hi] at h
  refine ⟨?_, by omega⟩
  rw [← Option.some.inj h]
  show D.int (0 + (i : Int)) = _
  rw [Int.zero_add]
theorem rngLen (n : Int) : (rng 0 n).length = n.toNat := by unfold rng; simp
theorem rngLenN (n : Nat) : (rng 0 (n : Int)).length = n := by rw [rngLen]; simp

/-! ### statements -/
def xSeq (g2 : Sta → Fl) : Fl → Fl
  | .nx s' => g2 s'
  | .ret r s => .ret r s
  | .brk s => .brk s
  | .cont s => .cont s
  | .exc e s => .exc e s
  | .stuck => .stuck
def xEx (s : Sta) : PR RV → Fl
  | .ok _ => .nx s
  | .exc e => .exc e s
  | .stuck => .stuck
def xSV (i : Nat) (env : List Slot) (st : List Ob) : PR D → Fl
  | .ok d => .nx ⟨env.set i (.v d), st⟩
  | .exc e => .exc e ⟨env, st⟩
  | .stuck => .stuck
def xSO (i : Nat) (env : List Slot) (st : List Ob) : PR RV → Fl
  | .ok ⟨.sh, d⟩ => .nx ⟨env.set i (.v d), st⟩
  | .ok ⟨.fr, d⟩ => .nx ⟨env.set i (.own d), st⟩
  | .ok ⟨.pk, _⟩ => .stuck
  | .exc e => .exc e ⟨env, st⟩
  | .stuck => .stuck
def xRt (s : Sta) : PR RV → Fl
  | .ok ⟨.sh, d⟩ => .ret (.v d) s
  | .ok ⟨.fr, d⟩ => .ret (.own d) s
  | .ok ⟨.pk, _⟩ => .stuck
  | .exc e => .exc e s
  | .stuck => .stuck
def xRS (s : Sta) : Option Slot → Fl
  | some (.own d) => .ret (.own d) s
  | some (.v d) => .ret (.v d) s
  | some .un => .stuck
  | none => .stuck
def xIf (g1 g2 : Sta → Fl) (s : Sta) : PR Bool → Fl
  | .ok true => g1 s
  | .ok false => g2 s
  | .exc e => .exc e s
  | .stuck => .stuck
def xTb (st : List Ob) : Option (List Slot) → Fl
  | some env => .nx ⟨env, st⟩
  | none => .stuck
def xTu (t : Tg) (env : List Slot) (st : List Ob) : PR D → Fl
  | .ok d => xTb st (t.bind d env)
  | .exc e => .exc e ⟨env, st⟩
  | .stuck => .stuck
def xFor (t : Tg) (g : Sta → Fl) (s : Sta) : PR (List D) → Fl
  | .ok ds => loopL t g ds s
  | .exc e => .exc e s
  | .stuck => .stuck
def xAp (i : Nat) (env : List Slot) (st : List Ob) : Option Slot → PR D → Fl
  | some (.own (.list ds)), .ok d => if ds.length < 16777216 then .nx ⟨env.set i (.own (.list (ds ++ [d]))), st⟩ else .stuck
  | some (.own (.list _)), .exc e => .exc e ⟨env, st⟩
  | some (.own (.list _)), .stuck => .stuck
  | _, _ => .stuck
def xFz (i : Nat) (env : List Slot) (st : List Ob) : Option Slot → Sta
  | some (.own d) => ⟨env.set i (.v d), st⟩
  | some (.v _) => ⟨env, st⟩
  | some .un => ⟨env, st⟩
  | none => ⟨env, st⟩
def xTh (i : Nat) : Fl → Fl
  | .nx s => .nx (frz i s)
  | .ret r s => .ret r s
  | .brk s => .brk s
  | .cont s => .cont s
  | .exc e s => .exc e s
  | .stuck => .stuck
def xEF : Fe → Fl
  | .ok _ s => .nx s
  | .exc e s => .exc e s
  | .stuck => .stuck
def xSF (i : Nat) : Fe → Fl
  | .ok r s => .nx ⟨s.env.set i r, s.st⟩
  | .exc e s => .exc e s
  | .stuck => .stuck
def xRF : Fe → Fl
  | .ok r s => .ret r s
  | .exc e s => .exc e s
  | .stuck => .stuck
def xIF (g1 g2 : Sta → Fl) : Fe → Fl
  | .ok (.v (.bool true)) s => g1 s
  | .ok (.v (.bool false)) s => g2 s
  | .ok _ _ => .stuck
  | .exc e s => .exc e s
  | .stuck => .stuck
def xN3 (c f : Nat) (r : Slot) (j : Nat) (env : List Slot) (st : List Ob) : Option Ob → Fl
  | some ob => if ob.cls = c then (if ob.fs.length < 900 then .nx ⟨env, st.set j ⟨ob.cls, putO f r ob.fs⟩⟩ else .stuck) else .stuck
  | none => .stuck
def xN2 (c f : Nat) (r : Slot) (env : List Slot) (st : List Ob) : PR RV → Fl
  | .ok ⟨_, .obj j⟩ => xN3 c f r j env st st[j]?
  | .ok _ => .stuck
  | .exc e => .exc e ⟨env, st⟩
  | .stuck => .stuck
def xN (c f i : Nat) : Fe → Fl
  | .ok r ⟨env, st⟩ => xN2 c f r env st (PR.of (env[i]?.bind Slot.look))
  | .exc e s => .exc e s
  | .stuck => .stuck
def xP (s : Sta) : PR RV → Fe
  | .ok ⟨.sh, d⟩ => .ok (.v d) s
  | .ok ⟨.fr, d⟩ => .ok (.own d) s
  | .ok ⟨.pk, _⟩ => .stuck
  | .exc e => .exc e s
  | .stuck => .stuck
def xFU (n : Nat) (sem : Sem) (env : List Slot) (st : List Ob) : PR (List D) → Fe
  | .ok ds => if ds.length = n then (sem ds st).fe ⟨env, st⟩ else .stuck
  | .exc e => .exc e ⟨env, st⟩
  | .stuck => .stuck
def xM2 (c n : Nat) (sem : Sem) (env : List Slot) (st : List Ob) (j : Nat) (r : PR (List D)) : Option Ob → Fe
  | some ob => if ob.cls = c then (match r with
      | .ok ds => if ds.length + 1 = n then (sem (.obj j :: ds) st).fe ⟨env, st⟩ else .stuck
      | .exc e => .exc e ⟨env, st⟩
      | .stuck => .stuck) else .stuck
  | none => .stuck
def xM (c n : Nat) (sem : Sem) (env : List Slot) (st : List Ob) : PR RV → PR (List D) → Fe
  | .ok ⟨_, .obj j⟩, r => xM2 c n sem env st j r st[j]?
  | .ok _, _ => .stuck
  | .exc e, _ => .exc e ⟨env, st⟩
  | .stuck, _ => .stuck
def xMkF (j : Nat) (env : List Slot) : Fr → Fe
  | .ok (.v .none) st' => .ok (.v (.obj j)) ⟨env, st'⟩
  | .ok _ _ => .stuck
  | .exc e st' => .exc e ⟨env, st'⟩
  | .stuck => .stuck
def xMk (c n : Nat) (sem : Sem) (env : List Slot) (st : List Ob) : PR (List D) → Fe
  | .ok ds => if ds.length + 1 = n then xMkF st.length env (sem (.obj st.length :: ds) (st ++ [⟨c, []⟩])) else .stuck
  | .exc e => .exc e ⟨env, st⟩
  | .stuck => .stuck
theorem s_Nil : sNil ⟨env, st⟩ = .nx ⟨env, st⟩ := Eq.trans rfl rfl
theorem s_Brk : sBrk ⟨env, st⟩ = .brk ⟨env, st⟩ := Eq.trans rfl rfl
theorem s_Cont : sCont ⟨env, st⟩ = .cont ⟨env, st⟩ := Eq.trans rfl rfl
theorem s_Seq (g1 g2 : Sta → Fl) : sSeq g1 g2 ⟨env, st⟩ = xSeq g2 (g1 ⟨env, st⟩) := by
  unfold sSeq xSeq
  cases g1 ⟨env, st⟩ <;> rfl
theorem s_xSn (g2 : Sta → Fl) (s : Sta) : xSeq g2 (.nx s) = g2 s := Eq.trans rfl rfl
theorem s_xSr (g2 : Sta → Fl) (r : Slot) (s : Sta) : xSeq g2 (.ret r s) = .ret r s := Eq.trans rfl rfl
theorem s_xSb (g2 : Sta → Fl) (s : Sta) : xSeq g2 (.brk s) = .brk s := Eq.trans rfl rfl
theorem s_xSc (g2 : Sta → Fl) (s : Sta) : xSeq g2 (.cont s) = .cont s := Eq.trans rfl rfl
theorem s_xSe (g2 : Sta → Fl) (e : Ex) (s : Sta) : xSeq g2 (.exc e s) = .exc e s := Eq.trans rfl rfl
theorem s_Expr (f : Sta → PR RV) : sExpr f ⟨env, st⟩ = xEx ⟨env, st⟩ (f ⟨env, st⟩) := by
  unfold sExpr PR.fl xEx
  cases f ⟨env, st⟩ <;> rfl
theorem s_xEx (r : RV) (s : Sta) : xEx s (.ok r) = .nx s := Eq.trans rfl rfl
theorem s_SetV (i : Nat) (f : Sta → PR D) : sSetV i f ⟨env, st⟩ = xSV i env st (f ⟨env, st⟩) := by
  unfold sSetV PR.fl xSV
  cases f ⟨env, st⟩ <;> rfl
theorem s_xSV (i : Nat) (d : D) : xSV i env st (.ok d) = .nx ⟨env.set i (.v d), st⟩ := Eq.trans rfl rfl
theorem s_SetO (i : Nat) (f : Sta → PR RV) : sSetO i f ⟨env, st⟩ = xSO i env st (f ⟨env, st⟩) := by
  unfold sSetO PR.fl xSO RV.slot
  cases f ⟨env, st⟩ with
  | ok r => obtain ⟨k, d⟩ := r; cases k <;> rfl
  | exc e => rfl
  | stuck => rfl
theorem s_xSOs (i : Nat) (d : D) : xSO i env st (.ok ⟨.sh, d⟩) = .nx ⟨env.set i (.v d), st⟩ := Eq.trans rfl rfl
theorem s_xSOf (i : Nat) (d : D) : xSO i env st (.ok ⟨.fr, d⟩) = .nx ⟨env.set i (.own d), st⟩ := Eq.trans rfl rfl
theorem s_Ret (f : Sta → PR RV) : sRet f ⟨env, st⟩ = xRt ⟨env, st⟩ (f ⟨env, st⟩) := by
  unfold sRet PR.fl xRt RV.slot
  cases f ⟨env, st⟩ with
  | ok r => obtain ⟨k, d⟩ := r; cases k <;> rfl
  | exc e => rfl
  | stuck => rfl
theorem s_xRts (s : Sta) (d : D) : xRt s (.ok ⟨.sh, d⟩) = .ret (.v d) s := Eq.trans rfl rfl
theorem s_xRtf (s : Sta) (d : D) : xRt s (.ok ⟨.fr, d⟩) = .ret (.own d) s := Eq.trans rfl rfl
theorem s_RetN : sRetN ⟨env, st⟩ = .ret (.v .none) ⟨env, st⟩ := Eq.trans rfl rfl
theorem s_RetS (i : Nat) : sRetS i ⟨env, st⟩ = xRS ⟨env, st⟩ env[i]? := by
  unfold sRetS xRS
  cases env[i]? with
  | none => rfl
  | some s => cases s <;> rfl
theorem s_xRSo (s : Sta) (d : D) : xRS s (some (.own d)) = .ret (.own d) s := Eq.trans rfl rfl
theorem s_xRSv (s : Sta) (d : D) : xRS s (some (.v d)) = .ret (.v d) s := Eq.trans rfl rfl
theorem s_If (t : Sta → PR Bool) (g1 g2 : Sta → Fl) : sIf t g1 g2 ⟨env, st⟩ = xIf g1 g2 ⟨env, st⟩ (t ⟨env, st⟩) := by
  unfold sIf PR.fl xIf
  rcases t ⟨env, st⟩ with (_ | _) | e | _ <;> rfl
theorem s_xIfT (g1 g2 : Sta → Fl) (s : Sta) : xIf g1 g2 s (.ok true) = g1 s := Eq.trans rfl rfl
theorem s_xIfF (g1 g2 : Sta → Fl) (s : Sta) : xIf g1 g2 s (.ok false) = g2 s := Eq.trans rfl rfl
theorem s_Tup (t : Tg) (f : Sta → PR D) : sTup t f ⟨env, st⟩ = xTu t env st (f ⟨env, st⟩) := by
  unfold sTup PR.fl xTu xTb
  cases f ⟨env, st⟩ <;> rfl
theorem s_xTu (t : Tg) (d : D) : xTu t env st (.ok d) = xTb st (t.bind d env) := Eq.trans rfl rfl
theorem s_xTb : xTb st (some env) = .nx ⟨env, st⟩ := Eq.trans rfl rfl
theorem s_For (f : Sta → PR (List D)) (t : Tg) (g : Sta → Fl) : sFor f t g ⟨env, st⟩ = xFor t g ⟨env, st⟩ (f ⟨env, st⟩) := by
  unfold sFor PR.fl xFor
  cases f ⟨env, st⟩ <;> rfl
theorem s_xFor (t : Tg) (g : Sta → Fl) (s : Sta) (ds : List D) : xFor t g s (.ok ds) = loopL t g ds s := Eq.trans rfl rfl
theorem s_App (i : Nat) (f : Sta → PR D) : sApp i f ⟨env, st⟩ = xAp i env st env[i]? (f ⟨env, st⟩) := by
  unfold sApp PR.fl xAp
  rcases env[i]? with _ | (_ | d | d) <;> try rfl
  cases d <;> try rfl
  cases f ⟨env, st⟩ <;> rfl
theorem s_xAp {i : Nat} {ds : List D} {d : D} (h : ds.length < 16777216) : xAp i env st (some (.own (.list ds))) (.ok d) = .nx ⟨env.set i (.own (.list (ds ++ [d]))), st⟩ := if_pos h
theorem s_Thaw (i : Nat) (g : Sta → Fl) : sThaw i g ⟨env, st⟩ = xTh i (g ⟨env, st⟩) := by
  unfold sThaw xTh
  cases g ⟨env, st⟩ <;> rfl
theorem s_xTh (i : Nat) : xTh i (.nx ⟨env, st⟩) = .nx (xFz i env st env[i]?) := by
  unfold xTh frz xFz
  simp only []
  rcases env[i]? with _ | (_ | d | d) <;> rfl
theorem s_Frz (i : Nat) (g : Sta → Fl) : sFrz i g ⟨env, st⟩ = g (xFz i env st env[i]?) := by
  unfold sFrz frz xFz
  simp only []
  rcases env[i]? with _ | (_ | d | d) <;> rfl
theorem s_xFzo (i : Nat) (d : D) : xFz i env st (some (.own d)) = ⟨env.set i (.v d), st⟩ := Eq.trans rfl rfl
theorem s_xFzv (i : Nat) (d : D) : xFz i env st (some (.v d)) = ⟨env, st⟩ := Eq.trans rfl rfl
theorem s_ExprF (g : Sta → Fe) : sExprF g ⟨env, st⟩ = xEF (g ⟨env, st⟩) := by
  unfold sExprF Fe.fl xEF
  cases g ⟨env, st⟩ <;> rfl
theorem s_xEF (r : Slot) (s : Sta) : xEF (.ok r s) = .nx s := Eq.trans rfl rfl
theorem s_SetF (i : Nat) (g : Sta → Fe) : sSetF i g ⟨env, st⟩ = xSF i (g ⟨env, st⟩) := by
  unfold sSetF Fe.fl xSF
  cases g ⟨env, st⟩ <;> rfl
theorem s_xSF (i : Nat) (r : Slot) : xSF i (.ok r ⟨env, st⟩) = .nx ⟨env.set i r, st⟩ := Eq.trans rfl rfl
theorem s_RetF (g : Sta → Fe) : sRetF g ⟨env, st⟩ = xRF (g ⟨env, st⟩) := by
  unfold sRetF Fe.fl xRF
  cases g ⟨env, st⟩ <;> rfl
theorem s_xRF (r : Slot) (s : Sta) : xRF (.ok r s) = .ret r s := Eq.trans rfl rfl
theorem s_IfF (g : Sta → Fe) (g1 g2 : Sta → Fl) : sIfF g g1 g2 ⟨env, st⟩ = xIF g1 g2 (g ⟨env, st⟩) := by
  unfold sIfF Fe.fl xIF
  rcases g ⟨env, st⟩ with ⟨(_ | d | d), s⟩ | ⟨e, s⟩ | _ <;> try rfl
  cases d <;> try rfl
  rename_i b
  cases b <;> rfl
theorem s_xIFT (g1 g2 : Sta → Fl) (s : Sta) : xIF g1 g2 (.ok (.v (.bool true)) s) = g1 s := Eq.trans rfl rfl
theorem s_xIFF (g1 g2 : Sta → Fl) (s : Sta) : xIF g1 g2 (.ok (.v (.bool false)) s) = g2 s := Eq.trans rfl rfl
theorem s_FldN (c f i : Nat) (g : Sta → Fe) : sFldN c f i g ⟨env, st⟩ = xN c f i (g ⟨env, st⟩) := by
  unfold sFldN Fe.fl xN
  cases g ⟨env, st⟩ with
  | ok r s =>
    obtain ⟨env', st'⟩ := s
    simp only [pVar]
    cases PR.of (env'[i]?.bind Slot.look) with
    | ok q =>
      obtain ⟨k, d⟩ := q
      cases d <;> try rfl
      rename_i j
      simp only [PR.fl, RV.ob, xN2]
      cases st'[j]? with
      | none => rfl
      | some ob =>
        simp only [xN3]
        by_cases h : ob.cls = c
        · rw [if_pos h, if_pos h]; rfl
        · rw [if_neg h, if_neg h]
    | exc e => rfl
    | stuck => rfl
  | exc e s => rfl
  | stuck => rfl
theorem s_xN (c f i : Nat) (r : Slot) : xN c f i (.ok r ⟨env, st⟩) = xN2 c f r env st (PR.of (env[i]?.bind Slot.look)) := Eq.trans rfl rfl
theorem s_xN2 (c f j : Nat) (r : Slot) (k : RK) : xN2 c f r env st (.ok ⟨k, .obj j⟩) = xN3 c f r j env st st[j]? := Eq.trans rfl rfl
theorem s_xN3 {c f j : Nat} {r : Slot} {ob : Ob} (h : ob.cls = c) (h2 : ob.fs.length < 900) : xN3 c f r j env st (some ob) = .nx ⟨env, st.set j ⟨ob.cls, putO f r ob.fs⟩⟩ := (if_pos h).trans (if_pos h2)
theorem s_put0 (f : Nat) (s x : Slot) (r : List (Nat × Slot)) : putO f s ((f, x) :: r) = (f, s) :: r := by unfold putO; rw [if_pos rfl]
theorem s_put1 {f g : Nat} {s x : Slot} {r : List (Nat × Slot)} (h : g ≠ f) : putO f s ((g, x) :: r) = (g, x) :: putO f s r := by conv => lhs; unfold putO
                                                                                                                                  rw [if_neg h]
theorem s_putN (f : Nat) (s : Slot) : putO f s [] = [(f, s)] := Eq.trans rfl rfl
theorem f_P (f : Sta → PR RV) : fP f ⟨env, st⟩ = xP ⟨env, st⟩ (f ⟨env, st⟩) := by
  unfold fP xP RV.slot
  cases f ⟨env, st⟩ with
  | ok r => obtain ⟨k, d⟩ := r; cases k <;> rfl
  | exc e => rfl
  | stuck => rfl
theorem f_xPs (s : Sta) (d : D) : xP s (.ok ⟨.sh, d⟩) = .ok (.v d) s := Eq.trans rfl rfl
theorem f_xPf (s : Sta) (d : D) : xP s (.ok ⟨.fr, d⟩) = .ok (.own d) s := Eq.trans rfl rfl
theorem f_User (n : Nat) (sem : Sem) (fs : Sta → PR (List D)) : fUser n sem fs ⟨env, st⟩ = xFU n sem env st (fs ⟨env, st⟩) := by
  unfold fUser xFU
  cases fs ⟨env, st⟩ <;> rfl
theorem f_xFU {n : Nat} {sem : Sem} {ds : List D} (h : ds.length = n) : xFU n sem env st (.ok ds) = (sem ds st).fe ⟨env, st⟩ := if_pos h
theorem f_Meth (c n : Nat) (sem : Sem) (fo : Sta → PR RV) (fa : Sta → PR (List D)) : fMeth c n sem fo fa ⟨env, st⟩ = xM c n sem env st (fo ⟨env, st⟩) (fa ⟨env, st⟩) := by
  unfold fMeth xM
  cases fo ⟨env, st⟩ with
  | ok r =>
    obtain ⟨k, d⟩ := r
    cases d <;> try rfl
    rename_i j
    simp only [RV.ob, xM2]
    cases st[j]? with
    | none => rfl
    | some ob =>
      simp only []
      by_cases h : ob.cls = c
      · rw [if_pos h, if_pos h] <;> cases fa ⟨env, st⟩ <;> rfl
      · rw [if_neg h, if_neg h]
  | exc e => rfl
  | stuck => rfl
theorem f_xM (c n j : Nat) (sem : Sem) (k : RK) (r : PR (List D)) : xM c n sem env st (.ok ⟨k, .obj j⟩) r = xM2 c n sem env st j r st[j]? := Eq.trans rfl rfl
theorem f_xM2 {c n j : Nat} {sem : Sem} {ds : List D} {ob : Ob} (h : ob.cls = c) (h2 : ds.length + 1 = n) : xM2 c n sem env st j (.ok ds) (some ob) = (sem (.obj j :: ds) st).fe ⟨env, st⟩ := (if_pos h).trans (if_pos h2)
theorem f_Make (c n : Nat) (sem : Sem) (fa : Sta → PR (List D)) : fMake c n sem fa ⟨env, st⟩ = xMk c n sem env st (fa ⟨env, st⟩) := by
  unfold fMake xMk
  cases fa ⟨env, st⟩ with
  | ok ds =>
    simp only []
    split
    · cases sem (.obj st.length :: ds) (st ++ [⟨c, []⟩]) with
      | ok r st' =>
        rcases r with _ | d | d <;> rfl
      | exc e st' => rfl
      | stuck => rfl
    · rfl
  | exc e => rfl
  | stuck => rfl
theorem f_xMk {c n : Nat} {sem : Sem} {ds : List D} (h : ds.length + 1 = n) : xMk c n sem env st (.ok ds) = xMkF st.length env (sem (.obj st.length :: ds) (st ++ [⟨c, []⟩])) := if_pos h
theorem f_xMkF (j : Nat) (st' : List Ob) : xMkF j env (.ok (.v .none) st') = .ok (.v (.obj j)) ⟨env, st'⟩ := Eq.trans rfl rfl
theorem fe_ok (r : Slot) (st' : List Ob) : (Fr.ok r st').fe ⟨env, st⟩ = .ok r ⟨env, st'⟩ := Eq.trans rfl rfl
def Fl.fr : Fl → Fr
  | .nx s => .ok (.v .none) s.st
  | .ret r s => .ok r s.st
  | .exc e s => .exc e s.st
  | _ => .stuck
theorem r_run {N : Nat} {g : Sta → Fl} {ds : List D} : runB N g ds st = (g ⟨ds.map Slot.v ++ List.replicate (N - ds.length) .un, st⟩).fr := by
  unfold runB Fl.fr
  cases g ⟨ds.map Slot.v ++ List.replicate (N - ds.length) .un, st⟩ <;> rfl
theorem r_un (n : Nat) : List.replicate (n + 1) Slot.un = .un :: List.replicate n .un := Eq.trans rfl rfl
theorem r_un0 : List.replicate 0 Slot.un = [] := Eq.trans rfl rfl
theorem r_nx : (Fl.nx ⟨env, st⟩).fr = .ok (.v .none) st := Eq.trans rfl rfl
theorem r_ret (r : Slot) : (Fl.ret r ⟨env, st⟩).fr = .ok r st := Eq.trans rfl rfl
theorem r_exc (e : Ex) : (Fl.exc e ⟨env, st⟩).fr = .exc e st := Eq.trans rfl rfl
/-- one statement after the other -/
theorem sq {P : Fl → Prop} {g1 g2 : Sta → Fl} {s s' : Sta} (h : g1 s = .nx s') (k : P (g2 s')) : P (sSeq g1 g2 s) := by
  unfold sSeq; rw [h]; exact k
/-- a def by its body -/
theorem run_ex {N : Nat} {g : Sta → Fl} {ds : List D} {Q : Fr → Prop} (env : List Slot) (he : ds.map Slot.v ++ List.replicate (N - ds.length) .un = env) (h : Q (g ⟨env, st⟩).fr) : Q (runB N g ds st) := by
  subst he; exact h
theorem sqR {r : Fr} {g1 g2 : Sta → Fl} {s s' : Sta} (h : g1 s = .nx s') (k : (g2 s').fr = r) : (sSeq g1 g2 s).fr = r := by
  unfold sSeq; rw [h]; exact k
theorem sqX {r : Fl} {g1 g2 : Sta → Fl} {s s' : Sta} (h : g1 s = .nx s') (k : g2 s' = r) : sSeq g1 g2 s = r := by
  unfold sSeq; rw [h]; exact k
/-! ### loops -/
/-- what a turn of a loop must bring -/
def Turn (I : Sta → Prop) (P : Fl → Prop) : Fl → Prop
  | .nx s => I s
  | .cont s => I s
  | .brk s => P (.nx s)
  | .ret r s => P (.ret r s)
  | .exc e s => P (.exc e s)
  | .stuck => False
theorem t_nx (I : Sta → Prop) (P : Fl → Prop) (s : Sta) : Turn I P (.nx s) = I s := Eq.trans rfl rfl
theorem t_cont (I : Sta → Prop) (P : Fl → Prop) (s : Sta) : Turn I P (.cont s) = I s := Eq.trans rfl rfl
theorem t_brk (I : Sta → Prop) (P : Fl → Prop) (s : Sta) : Turn I P (.brk s) = P (.nx s) := Eq.trans rfl rfl
theorem t_ret (I : Sta → Prop) (P : Fl → Prop) (r : Slot) (s : Sta) : Turn I P (.ret r s) = P (.ret r s) := Eq.trans rfl rfl
theorem tq {I : Sta → Prop} {P : Fl → Prop} {g1 g2 : Sta → Fl} {s s' : Sta} (h : g1 s = .nx s') (k : Turn I P (g2 s')) : Turn I P (sSeq g1 g2 s) := by
  unfold sSeq; rw [h]; exact k
theorem Turn.wk {I : Sta → Prop} {P : Fl → Prop} {x : Fl} (h : Turn I (fun _ => False) x) : Turn I P x := by
  cases x <;> first | exact h | exact h.elim
theorem loop_inv {t : Tg} {g : Sta → Fl} {P : Fl → Prop} : ∀ (ds : List D) (I : Nat → Sta → Prop) (s : Sta), I 0 s →
    (∀ i d s, ds[i]? = some d → I i s → ∃ env, t.bind d s.env = some env ∧ Turn (I (i + 1)) P (g { s with env := env })) →
    (∀ s, I ds.length s → P (.nx s)) → P (loopL t g ds s)
  | [], I, s, h0, _, he => he s h0
  | d :: ds, I, s, h0, hs, he => by
    obtain ⟨env, h1, h2⟩ := hs 0 d s rfl h0
    rw [loopL, h1]
    simp only []
    have next : ∀ s', I 1 s' → P (loopL t g ds s') := fun s' h => loop_inv ds (fun i => I (i + 1)) s' h (fun i d s e hi => hs (i + 1) d s (by simpa using e) hi) fun s h => he s (by simpa using h)
    cases hg : g { s with env := env } with
    | nx s' => rw [hg] at h2; exact next s' h2
    | cont s' => rw [hg] at h2; exact next s' h2
    | brk s' => rw [hg] at h2; exact h2
    | ret r s' => rw [hg] at h2; exact h2
    | exc e s' => rw [hg] at h2; exact h2
    | stuck => rw [hg] at h2; exact h2.elim
theorem sq_for {P : Fl → Prop} {f : Sta → PR (List D)} {t : Tg} {g g2 : Sta → Fl} {s : Sta} (ds : List D) (I : Nat → Sta → Prop) (hf : f s = .ok ds) (h0 : I 0 s)
    (hs : ∀ i d s, ds[i]? = some d → I i s → ∃ env, t.bind d s.env = some env ∧ Turn (I (i + 1)) (fun fl => P (match fl with
      | .nx s => g2 s
      | fl => fl)) (g { s with env := env })) (he : ∀ s, I ds.length s → P (g2 s)) : P (sSeq (sFor f t g) g2 s) := by
  unfold sSeq sFor
  rw [hf]
  exact loop_inv (P := fun fl => P (match fl with
      | .nx s => g2 s
      | fl => fl)) ds I s h0 hs he
theorem forP {P : Fl → Prop} {f : Sta → PR (List D)} {t : Tg} {g g2 : Sta → Fl} {s : Sta} (ds : List D) (I : Nat → Sta → Prop) (hf : f s = .ok ds) (h0 : I 0 s)
    (hs : ∀ i d s, ds[i]? = some d → I i s → ∃ env, t.bind d s.env = some env ∧ Turn (I (i + 1)) (fun _ => False) (g { s with env := env })) (he : ∀ s, I ds.length s → P (g2 s)) : P (sSeq (sFor f t g) g2 s) :=
  sq_for (P := P) ds I hf h0 (fun i d s e h => by
    obtain ⟨env, h1, h2⟩ := hs i d s e h
    exact ⟨env, h1, Turn.wk h2⟩) he
/-- the same at a def's end -/
theorem forR {r : Fr} {f : Sta → PR (List D)} {t : Tg} {g g2 : Sta → Fl} {s : Sta} (ds : List D) (I : Nat → Sta → Prop) (hf : f s = .ok ds) (h0 : I 0 s)
    (hs : ∀ i d s, ds[i]? = some d → I i s → ∃ env, t.bind d s.env = some env ∧ Turn (I (i + 1)) (fun _ => False) (g { s with env := env })) (he : ∀ s, I ds.length s → (g2 s).fr = r) : (sSeq (sFor f t g) g2 s).fr = r :=
  sq_for (P := fun fl => fl.fr = r) ds I hf h0 (fun i d s e h => by
    obtain ⟨env, h1, h2⟩ := hs i d s e h
    exact ⟨env, h1, Turn.wk h2⟩) he
theorem forX {r : Fl} {f : Sta → PR (List D)} {t : Tg} {g g2 : Sta → Fl} {s : Sta} (ds : List D) (I : Nat → Sta → Prop) (hf : f s = .ok ds) (h0 : I 0 s)
    (hs : ∀ i d s, ds[i]? = some d → I i s → ∃ env, t.bind d s.env = some env ∧ Turn (I (i + 1)) (fun _ => False) (g { s with env := env })) (he : ∀ s, I ds.length s → g2 s = r) : sSeq (sFor f t g) g2 s = r :=
  sq_for (P := fun fl => fl = r) ds I hf h0 (fun i d s e h => by
    obtain ⟨env, h1, h2⟩ := hs i d s e h
    exact ⟨env, h1, Turn.wk h2⟩) he
/-- a loop that is the last of its row -/
theorem forE {f : Sta → PR (List D)} {t : Tg} {g : Sta → Fl} {s : Sta} (ds : List D) (I : Nat → Sta → Prop) (hf : f s = .ok ds) (h0 : I 0 s)
    (hs : ∀ i d s, ds[i]? = some d → I i s → ∃ env, t.bind d s.env = some env ∧ Turn (I (i + 1)) (fun _ => False) (g { s with env := env })) : ∃ s', sFor f t g s = .nx s' ∧ I ds.length s' := by
  unfold sFor
  rw [hf]
  exact loop_inv (P := fun fl => ∃ s', fl = .nx s' ∧ I ds.length s') ds I s h0 (fun i d s e h => by
    obtain ⟨env, h1, h2⟩ := hs i d s e h
    exact ⟨env, h1, Turn.wk h2⟩) fun s h => ⟨s, rfl, h⟩
theorem loopE {t : Tg} {g : Sta → Fl} {s : Sta} (ds : List D) (I : Nat → Sta → Prop) (h0 : I 0 s)
    (hs : ∀ i d s, ds[i]? = some d → I i s → ∃ env, t.bind d s.env = some env ∧ Turn (I (i + 1)) (fun _ => False) (g { s with env := env })) : ∃ s', loopL t g ds s = .nx s' ∧ I ds.length s' :=
  loop_inv (P := fun fl => ∃ s', fl = .nx s' ∧ I ds.length s') ds I s h0 (fun i d s e h => by
    obtain ⟨env, h1, h2⟩ := hs i d s e h
    exact ⟨env, h1, Turn.wk h2⟩) fun s h => ⟨s, rfl, h⟩
theorem comp_eq {t : Tg} {te : Sta → PR D} {s : Sta} (f : D → D) : ∀ (ds : List D), (∀ d ∈ ds, ∃ env, t.bind d s.env = some env ∧ te { s with env := env } = .ok (f d)) → compL t pYes te s ds = .ok (ds.map f)
  | [], _ => rfl
  | d :: ds, h => by
    obtain ⟨env, h1, h2⟩ := h d (by simp)
    rw [compL, h1]
    simp only [pYes, h2]
    rw [comp_eq f ds fun d hd => h d (by simp [hd])]
    rfl
theorem comp_if {t : Tg} {tt : Sta → PR Bool} {te : Sta → PR D} {s : Sta} (p : D → Bool) (f : D → D) : ∀ (ds : List D), (∀ d ∈ ds, ∃ env, t.bind d s.env = some env ∧ tt { s with env := env } = .ok (p d) ∧ (p d = true → te { s with env := env } = .ok (f d))) → compL t tt te s ds = .ok ((ds.filter p).map f)
  | [], _ => rfl
  | d :: ds, h => by
    obtain ⟨env, h1, h2, h3⟩ := h d (by simp)
    rw [compL, h1]
    simp only [h2]
    have ih := comp_if (t := t) (tt := tt) (te := te) (s := s) p f ds fun d hd => h d (by simp [hd])
    cases hp : p d with
    | true =>
      simp only [h3 hp]
      rw [ih, List.filter_cons, hp]
      rfl
    | false =>
      simp only []
      rw [ih, List.filter_cons, hp]
      rfl
theorem b_nm (i : Nat) (d : D) : (Tg.nm i).bind d env = some (env.set i (.v d)) := Eq.trans rfl rfl
theorem b_tp2 (i j : Nat) (a b : D) : (Tg.tp [i, j]).bind (.tup [a, b]) env = some ((env.set i (.v a)).set j (.v b)) := Eq.trans rfl rfl
theorem b_tp3 (i j k : Nat) (a b c : D) : (Tg.tp [i, j, k]).bind (.tup [a, b, c]) env = some (((env.set i (.v a)).set j (.v b)).set k (.v c)) := Eq.trans rfl rfl

/-! ### equality of data -/
def D.plain : Nat → D → Bool
  | _, .none => true
  | _, .bool _ => true
  | _, .int _ => true
  | _, .str x => PyData.strOk x
  | 0, .list _ => false
  | n + 1, .list xs => xs.all (D.plain n)
  | 0, .lk _ => false
  | n + 1, .lk xs => xs.all (D.plain n)
  | 0, .tup _ => false
  | n + 1, .tup xs => xs.all (D.plain n)
  | _, _ => false
theorem pys_lay {n : Nat} (ih : ∀ d : D, d.plain n = true → d.py.canLay0 = true ∧ d.py.depth ≤ n) : ∀ xs : List D, xs.all (D.plain n) = true → PyData.canLayAll0 (pys xs) = true ∧ PyData.depthAll (pys xs) ≤ n
  | [], _ => ⟨rfl, Nat.zero_le _⟩
  | x :: xs, h => by
    rw [List.all_cons, Bool.and_eq_true] at h
    have h1 := ih x h.1
    have h2 := pys_lay ih xs h.2
    refine ⟨?_, ?_⟩
    · show (x.py.canLay0 && PyData.canLayAll0 (pys xs)) = true
      rw [h1.1, h2.1]; rfl
    · show max x.py.depth (PyData.depthAll (pys xs)) ≤ n
      exact Nat.max_le.mpr ⟨h1.2, h2.2⟩
theorem plain_lay : ∀ (n : Nat) (d : D), d.plain n = true → d.py.canLay0 = true ∧ d.py.depth ≤ n := by
  intro n
  induction n with
  | zero =>
    intro d h
    cases d <;> first | exact ⟨rfl, Nat.zero_le _⟩ | exact ⟨h, Nat.zero_le _⟩ | exact absurd h Bool.false_ne_true
  | succ n ih =>
    intro d h
    cases d with
    | none => exact ⟨rfl, Nat.zero_le _⟩
    | bool b => exact ⟨rfl, Nat.zero_le _⟩
    | int b => exact ⟨rfl, Nat.zero_le _⟩
    | str b => exact ⟨h, Nat.zero_le _⟩
    | list xs => exact ⟨(pys_lay ih xs h).1, Nat.succ_le_succ (pys_lay ih xs h).2⟩
    | lk xs => exact ⟨(pys_lay ih xs h).1, Nat.succ_le_succ (pys_lay ih xs h).2⟩
    | tup xs => exact ⟨(pys_lay ih xs h).1, Nat.succ_le_succ (pys_lay ih xs h).2⟩
    | dic xs => exact absurd h Bool.false_ne_true
    | obj n => exact absurd h Bool.false_ne_true
    | xv _ _ => exact absurd h Bool.false_ne_true
theorem plain_shaped {d : D} (h : d.plain 9 = true) : SeqAt.shaped d.py = true := by
  unfold SeqAt.shaped
  rw [Bool.and_eq_true]
  exact ⟨(plain_lay 9 d h).1, decide_eq_true (Nat.le_trans (plain_lay 9 d h).2 (by decide))⟩
theorem eqB_gen {a b : D} (ha : a.plain 9 = true) (hb : b.plain 9 = true) : eqB a b = some (PyData.eqv a.py b.py) := by
  have k := plain_shaped ha
  have l := plain_shaped hb
  unfold eqB
  split
  · rfl
  · rfl
  · rfl
  · rw [if_pos ⟨k, l⟩]
theorem g_eqR {a b : D} (ha : a.plain 9 = true) (e : a.py = b.py) : gEq a b = some ⟨.sh, .bool true⟩ := by
  have k := plain_shaped ha
  have q : eqB a b = some true := by
    have r := SeqAt.eqv_refl a.py (plain_lay 9 a ha).1
    unfold eqB
    split
    · simp only [D.py] at e; cases e; simp
    · simp only [D.py] at e; cases e; simp
    · simp only [D.py] at e; cases e; simp
    · rw [if_pos ⟨k, e ▸ k⟩, ← e, r]
  unfold gEq
  rw [q]
  rfl
theorem g_neR {a b : D} (ha : a.plain 9 = true) (e : a.py = b.py) : gNe a b = some ⟨.sh, .bool false⟩ := by
  have h := g_eqR ha e
  unfold gEq at h
  unfold gNe
  cases q : eqB a b with
  | none => rw [q] at h; cases h
  | some r =>
    rw [q] at h
    have : r = true := by
      have := Option.some.inj h
      cases this
      rfl
    rw [this]
    rfl

/-- a loop that may break off -/
def Bk (J : Sta → Prop) : Fl → Prop
  | .nx s => J s
  | _ => False
theorem t_bk (J : Sta → Prop) (s : Sta) : Bk J (.nx s) = J s := Eq.trans rfl rfl
theorem forB {P : Fl → Prop} {f : Sta → PR (List D)} {t : Tg} {g g2 : Sta → Fl} {s : Sta} (ds : List D) (J : Sta → Prop) (hf : f s = .ok ds) (h0 : J s)
    (hs : ∀ (i : Nat) (d : D) (s : Sta), ds[i]? = some d → J s → ∃ env, t.bind d s.env = some env ∧ Turn J (Bk J) (g { s with env := env })) (he : ∀ s, J s → P (g2 s)) : P (sSeq (sFor f t g) g2 s) :=
  sq_for (P := P) ds (fun _ => J) hf h0 (fun i d s e h => by
    obtain ⟨env, h1, h2⟩ := hs i d s e h
    refine ⟨env, h1, ?_⟩
    revert h2
    cases g { s with env := env } with
    | nx s => exact fun h => h
    | cont s => exact fun h => h
    | brk s => exact fun h => he s h
    | ret r s => exact fun h => h.elim
    | exc e s => exact fun h => h.elim
    | stuck => exact fun h => h.elim) fun s h => he s h

/-! ### a law, from its plain proof -/
def spLaw (K : PySem.W.Frag) : Sp := fun vs H Q E => ∃ (a : Addr) (ns : List Int), vs = [.ref a] ∧ SqL K H a (ns.map V.int) ∧ ns.length ≤ 63 ∧ ∀ H', Q (.bl true) H'
theorem law_imp {K : PySem.W.Frag} {T : Tab} {al : Bool} {sem : Sem} (h : ∀ ns : List Int, ns.length ≤ 63 → ∃ st, sem [.lk (ns.map D.int)] [] = .ok (.v (.bool true)) st) : ∀ vs H Q E, spLaw K vs H Q E → spF K T al 1 sem vs H Q E := by
  rintro vs H Q E ⟨a, ns, rfl, hS, hl, hQ⟩
  obtain ⟨st, hs⟩ := h ns hl
  refine ⟨[.lk (ns.map D.int)], [], [], H, H, rfl, .cons (.lk hS DRs.ints) .nil, rel_pure (Same.refl H), fun _ => rfl, ?_⟩
  rw [hs]
  intro y H' m' M' _ _ R
  have q := R.head
  cases q
  exact hQ _
theorem law_end {l : PySem.W.OpenLaw} {k : Nat} {x : Str} {q : Program} {loose : List Str} {XP : (Str → Option Value) → Heap → Prop} {YP : World → Heap → Prop} {d : DefRec} {K : Params → PySem.W.Frag} (hn : l.most = some 63) (hdf : d.params.defaults = [])
    (hr : Room k callerA) (hY : ∀ (w : World) (h : Heap), YP w h → (K w.params).In h)
    (F : ∀ (w : World) (mg : Str → Option Value) (fa : Addr) (h : Heap), (K w.params).In h → h.Ns mainGlobals mg → mg d.name = some (.ref fa) →
      ∃ fd : FuncData, (∀ (s : Shared) (u : Value), BindsTo s fd ⟨[u], []⟩ [(x, u)]) ∧ ∀ base : Heap, (K w.params).In base → base.Ns mainGlobals mg → FnOk l.prog w (K w.params) mg base (L2.CX l.prog w) k fa fd [x] (spLaw (K w.params))) :
    PySem.W.WalkO q loose XP YP l.row.toRowW d [] (fun f vs => PySem.call f vs) :=
  L2.walk_of (n := 63) (k := k) (x := x) (CX := fun w => L2.CX l.prog w) (sp := fun w => spLaw (K w.params)) hn (by decide) hdf hr hY F (fun _ _ a ns hl _ hS => ⟨a, ns, rfl, hS, hl, fun _ => rfl⟩)
    fun _ _ _ _ _ ⟨_, _, _, _, _, _, _, _, _, _, _, _, z⟩ => z
end MP

/-! MP 10: divmod, sorted, all, any, sum, abs, int, tuple * int, list(range), pop. -/
namespace MP
open PySem PySem.Spec PyProof.Rows L2
section
variable {X : Cx} {T : Tab} {W : WX} {a b c e : Expr} {es : List Expr} {pos p : Pos} {fa fb fc : Sta → PR RV}

def gDivmod : List D → Option RV
  | [.int i, .int j] => if 0 < j ∧ j < 1073741824 then some (sh (.tup [.int (i / j), .int (i % j)])) else none
  | _ => none
theorem ok_divmod : CallOk X (.builtin "divmod") gDivmod := by
  refine ⟨_, call_divmod, fun m M H ys ds res Q s a e k => ?_⟩
  unfold gDivmod at e
  split at e
  · rename_i i j
    by_cases hj : 0 < j ∧ j < 1073741824
    · rw [if_pos hj] at e
      cases e
      cases a with
      | cons a1 an => cases an with
        | cons a2 an =>
          cases an
          refine ⟨i, j, by rw [a1.int, a2.int], hj, fun p hp => ?_⟩
          have gs := Grow.share (o := .tup [.int (i / j), .int (i % j)]) s hp
          exact k _ _ _ gs (.tup (SqT.of upd_same) (.cons (.int _) (.cons (.int _) .nil)))
    · rw [if_neg hj] at e; cases e
  · cases e
/-! ### lists of ints, of bools -/
def intsOf : List D → Option (List Int)
  | [] => some []
  | .int i :: ds => (intsOf ds).map (i :: ·)
  | _ => none
theorem intsOf_eq : ∀ {ds : List D} {ns : List Int}, intsOf ds = some ns → ds = ns.map D.int
  | [], ns, h => by cases h; rfl
  | d :: ds, ns, h => by
    cases d <;> try (cases h; done)
    rename_i i
    unfold intsOf at h
    cases hi : intsOf ds with
    | none => rw [hi] at h; cases h
    | some ms =>
      rw [hi] at h
      cases h
      rw [intsOf_eq hi]
      rfl
theorem intsOf_map : ∀ ns : List Int, intsOf (ns.map D.int) = some ns
  | [] => rfl
  | n :: ns => by show (intsOf (ns.map D.int)).map (n :: ·) = _; rw [intsOf_map ns]; rfl
def boolsOf : List D → Option (List Bool)
  | [] => some []
  | .bool i :: ds => (boolsOf ds).map (i :: ·)
  | _ => none
theorem boolsOf_eq : ∀ {ds : List D} {ns : List Bool}, boolsOf ds = some ns → ds = ns.map D.bool
  | [], ns, h => by cases h; rfl
  | d :: ds, ns, h => by
    cases d <;> try (cases h; done)
    rename_i i
    unfold boolsOf at h
    cases hi : boolsOf ds with
    | none => rw [hi] at h; cases h
    | some ms =>
      rw [hi] at h
      cases h
      rw [boolsOf_eq hi]
      rfl
theorem boolsOf_map : ∀ ns : List Bool, boolsOf (ns.map D.bool) = some ns
  | [] => rfl
  | n :: ns => by show (boolsOf (ns.map D.bool)).map (n :: ·) = _; rw [boolsOf_map ns]; rfl
theorem DRs.bools_of {K : PySem.W.Frag} {m : List Addr} {H : Hp} : ∀ {vs : List V} {ns : List Bool}, DRs K m H vs (ns.map D.bool) → vs = ns.map V.bl
  | _, [], h => by cases h; rfl
  | _, n :: ns, h => by
    cases h with
    | cons h1 h2 =>
      cases h1
      rw [DRs.bools_of h2]
      rfl
/-- the one rising row of the same ints -/
def insI (x : Int) : List Int → List Int
  | [] => [x]
  | y :: ys => if x ≤ y then x :: y :: ys else y :: insI x ys
def sortI : List Int → List Int
  | [] => []
  | x :: xs => insI x (sortI xs)
theorem insI_perm (x : Int) : ∀ ys : List Int, (insI x ys).Perm (x :: ys)
  | [] => List.Perm.refl _
  | y :: ys => by
    unfold insI
    split
    · exact List.Perm.refl _
    · exact ((insI_perm x ys).cons y).trans (List.Perm.swap x y ys)
theorem sortI_perm : ∀ xs : List Int, (sortI xs).Perm xs
  | [] => List.Perm.refl _
  | x :: xs => (insI_perm x _).trans ((sortI_perm xs).cons x)
theorem insI_rise (x : Int) : ∀ ys : List Int, ys.Pairwise (· ≤ ·) → (insI x ys).Pairwise (· ≤ ·)
  | [], _ => List.pairwise_singleton _ _
  | y :: ys, h => by
    unfold insI
    have h1 := List.pairwise_cons.mp h
    split
    · rename_i hx
      refine List.pairwise_cons.mpr ⟨fun z hz => ?_, h⟩
      rcases List.mem_cons.mp hz with rfl | hz
      · exact hx
      · exact Int.le_trans hx (h1.1 z hz)
    · rename_i hx
      refine List.pairwise_cons.mpr ⟨fun z hz => ?_, insI_rise x ys h1.2⟩
      rcases List.mem_cons.mp ((insI_perm x ys).subset hz) with rfl | hz
      · omega
      · exact h1.1 z hz
theorem sortI_rise : ∀ xs : List Int, (sortI xs).Pairwise (· ≤ ·)
  | [] => List.Pairwise.nil
  | x :: xs => insI_rise x _ (sortI_rise xs)
theorem rise_eq : ∀ {xs ys : List Int}, xs.Perm ys → xs.Pairwise (· ≤ ·) → ys.Pairwise (· ≤ ·) → xs = ys
  | [], ys, p, _, _ => (List.nil_perm.mp p).symm
  | x :: xs, [], p, _, _ => by have := p.length_eq; simp at this
  | x :: xs, y :: ys, p, h1, h2 => by
    have a := List.pairwise_cons.mp h1
    have b := List.pairwise_cons.mp h2
    have e : x = y := by
      have hx : x ∈ y :: ys := p.subset (List.mem_cons_self ..)
      have hy : y ∈ x :: xs := p.symm.subset (List.mem_cons_self ..)
      rcases List.mem_cons.mp hx with h | h
      · exact h
      · rcases List.mem_cons.mp hy with h' | h'
        · exact h'.symm
        · have := a.1 y h'
          have := b.1 x h
          omega
    subst e
    rw [rise_eq (List.perm_cons x |>.mp p) a.2 b.2]
theorem sortI_eq {xs ys : List Int} (p : ys.Perm xs) (h : ys.Pairwise (· ≤ ·)) : ys = sortI xs := rise_eq (p.trans (sortI_perm xs).symm) h (sortI_rise xs)
def gSorted : List D → Option RV
  | [d] => (lstOf d).bind fun ds => (intsOf ds).map fun ns => fr (.list ((sortI ns).map D.int))
  | _ => none
theorem ok_sorted : CallOk X (.builtin "sorted") gSorted := by
  refine ⟨_, cr_sortedI, fun m M H ys ds res Q s a e k => ?_⟩
  unfold gSorted at e
  split at e
  · rename_i d
    cases a with
    | cons a1 an =>
      cases an
      cases hl : lstOf d with
      | none => rw [hl] at e; cases e
      | some ds =>
        rw [hl] at e
        cases hi : intsOf ds with
        | none => simp only [Option.bind_some, hi] at e; cases e
        | some ns =>
          simp only [Option.bind_some, hi, Option.map_some] at e
          cases e
          obtain ⟨p, xs, rfl, h1, r1⟩ := a1.lst hl s
          rw [intsOf_eq hi] at r1
          rw [DRs.ints_of r1] at h1
          refine ⟨p, ns, rfl, h1, fun ns' q hp hr hq => ?_⟩
          rw [sortI_eq hp hr]
          exact k _ _ M (Grow.fresh s hq) ⟨q, _, rfl, upd_same, .lst DRs.ints, s.free hq, hq⟩
  · cases e
def gAll : List D → Option RV
  | [d] => (lstOf d).bind fun ds => (boolsOf ds).map fun bs => sh (.bool (bs.all id))
  | _ => none
def gAny : List D → Option RV
  | [d] => (lstOf d).bind fun ds => (boolsOf ds).map fun bs => sh (.bool (bs.any id))
  | _ => none
def gSum : List D → Option RV
  | [d] => (lstOf d).bind fun ds => (intsOf ds).map fun bs => sh (.int bs.sum)
  | _ => none
theorem bools_at {m : List Addr} {M H : Hp} {y : V} {d : D} {ds : List D} {bs : List Bool} (s : Same M H) (a : Arg X.K m M H y d) (hl : lstOf d = some ds) (hb : boolsOf ds = some bs) : ∃ p, y = .ref p ∧ SqL X.K H p (bs.map V.bl) := by
  obtain ⟨p, xs, rfl, h1, r1⟩ := a.lst hl s
  rw [boolsOf_eq hb] at r1
  rw [DRs.bools_of r1] at h1
  exact ⟨p, rfl, h1⟩
theorem ints_at {m : List Addr} {M H : Hp} {y : V} {d : D} {ds : List D} {bs : List Int} (s : Same M H) (a : Arg X.K m M H y d) (hl : lstOf d = some ds) (hb : intsOf ds = some bs) : ∃ p, y = .ref p ∧ SqL X.K H p (bs.map V.int) := by
  obtain ⟨p, xs, rfl, h1, r1⟩ := a.lst hl s
  rw [intsOf_eq hb] at r1
  rw [DRs.ints_of r1] at h1
  exact ⟨p, rfl, h1⟩
theorem ok_all (hc : X.calm = true) : CallOk X (.builtin "all") gAll := by
  refine ⟨_, cr_all hc, fun m M H ys ds res Q s a e k => ?_⟩
  unfold gAll at e
  split at e
  · rename_i d
    cases a with
    | cons a1 an =>
      cases an
      cases hl : lstOf d with
      | none => rw [hl] at e; cases e
      | some ds =>
        rw [hl] at e
        cases hi : boolsOf ds with
        | none => simp only [Option.bind_some, hi] at e; cases e
        | some ns =>
          simp only [Option.bind_some, hi, Option.map_some] at e
          cases e
          obtain ⟨p, rfl, h1⟩ := bools_at s a1 hl hi
          exact ⟨p, ns, rfl, h1, k _ H M (Grow.refl s) (.bl _)⟩
  · cases e
theorem ok_any (hc : X.calm = true) : CallOk X (.builtin "any") gAny := by
  refine ⟨_, cr_any hc, fun m M H ys ds res Q s a e k => ?_⟩
  unfold gAny at e
  split at e
  · rename_i d
    cases a with
    | cons a1 an =>
      cases an
      cases hl : lstOf d with
      | none => rw [hl] at e; cases e
      | some ds =>
        rw [hl] at e
        cases hi : boolsOf ds with
        | none => simp only [Option.bind_some, hi] at e; cases e
        | some ns =>
          simp only [Option.bind_some, hi, Option.map_some] at e
          cases e
          obtain ⟨p, rfl, h1⟩ := bools_at s a1 hl hi
          exact ⟨p, ns, rfl, h1, k _ H M (Grow.refl s) (.bl _)⟩
  · cases e
theorem ok_sum (hc : X.calm = true) : CallOk X (.builtin "sum") gSum := by
  refine ⟨_, cr_sum hc, fun m M H ys ds res Q s a e k => ?_⟩
  unfold gSum at e
  split at e
  · rename_i d
    cases a with
    | cons a1 an =>
      cases an
      cases hl : lstOf d with
      | none => rw [hl] at e; cases e
      | some ds =>
        rw [hl] at e
        cases hi : intsOf ds with
        | none => simp only [Option.bind_some, hi] at e; cases e
        | some ns =>
          simp only [Option.bind_some, hi, Option.map_some] at e
          cases e
          obtain ⟨p, rfl, h1⟩ := ints_at s a1 hl hi
          exact ⟨p, ns, rfl, h1, k _ H M (Grow.refl s) (.int _)⟩
  · cases e
def gAbs : List D → Option RV
  | [.int i] => some (sh (.int (if i < 0 then -i else i)))
  | _ => none
theorem ok_abs : CallOk X (.builtin "abs") gAbs := by
  refine ⟨_, call_abs, fun m M H ys ds res Q s a e k => ?_⟩
  unfold gAbs at e
  split at e
  · cases e
    cases a with
    | cons a1 an =>
      cases an
      exact ⟨_, by rw [a1.int], k _ H M (Grow.refl s) (.int _)⟩
  · cases e
def gInt : List D → Option RV
  | [.int i] => some (sh (.int i))
  | [.bool b] => some (sh (.int (if b then 1 else 0)))
  | _ => none
theorem ok_int : CallOk X (.type "int") gInt := by
  refine ⟨_, call_int1, fun m M H ys ds res Q s a e k => ?_⟩
  unfold gInt at e
  split at e
  · cases e
    cases a with
    | cons a1 an =>
      cases an
      exact .inl ⟨_, by rw [a1.int], k _ H M (Grow.refl s) (.int _)⟩
  · cases e
    cases a with
    | cons a1 an =>
      cases an
      exact .inr ⟨_, by rw [a1.bl], k _ H M (Grow.refl s) (.int _)⟩
  · cases e
/-! ### list(range(n)), list(range(a, b)) -/
def pLRng (g : List D → Option (List D)) (fs : Sta → PR (List RV)) : Sta → PR RV := fun s => (fs s).bind fun rs => (PR.of (g (rs.map RV.d))).bind fun ds => if ds.length ≤ 16777216 then .ok (fr (.list ds)) else .stuck
theorem rgV_rng {K : PySem.W.Frag} {m : List Addr} {H : Hp} (i j : Int) : DRs K m H (rgV i j) (rng i j) := by
  unfold rgV rng
  generalize (j - i).toNat = n
  have : ∀ l : List Nat, DRs K m H (l.map fun (k : Nat) => V.int (i + k)) (l.map fun (k : Nat) => D.int (i + k)) := by
    intro l
    induction l with
    | nil => exact .nil
    | cons x l ih => exact .cons (.int _) ih
  exact this _
theorem ev_lrng1 {x : Expr} {pr q pos' : Pos} (hc : X.calm = true) (hg : Gl X "list") (hm : X.mg "list" = none) (hg2 : Gl X "range") (hm2 : X.mg "range" = none) (ha : PEv X T W x fa)
    (na2 : starEach [x] X.env = (false, eval x X.env) :: starEach [] X.env := by rfl)
    (na : starEach [Expr.Call (.Name "range" pr) [x] [] pos] X.env = (false, eval (Expr.Call (.Name "range" pr) [x] [] pos) X.env) :: starEach [] X.env := by rfl) :
    PEv X T W (.Call (.Name "list" q) [.Call (.Name "range" pr) [x] [] pos] [] pos') (pLRng gRng1 (pCons fa pNil)) := by
  refine PE.wk (pe_listRg hc hg hm (prg_1 hg2 hm2 ha na2) na) fun σ H Q h => ?_
  obtain ⟨s, m, M, G, R, q⟩ := h
  refine ⟨s, m, M, G, R, ?_⟩
  cases hf : fa s with
  | ok r =>
    obtain ⟨k, d⟩ := r
    have e1 : pLRng gRng1 (pCons fa pNil) s = (PR.of (gRng1 [d])).bind fun ds => if ds.length ≤ 16777216 then .ok (fr (.list ds)) else .stuck := by
      unfold pLRng pCons pNil PR.bind
      rw [hf]
      rfl
    rw [e1] at q
    intro y H1 M1 g1 rr
    cases d <;> try (exact q.elim)
    rename_i j
    by_cases hb : big62 j = true
    · have e2 : gRng1 [.int j] = some (rng 0 j) := if_pos hb
      rw [e2] at q
      by_cases hlen : (rng 0 j).length ≤ 16777216
      · have e3 : ((PR.of (some (rng 0 j))).bind fun ds => if ds.length ≤ 16777216 then PR.ok (fr (.list ds)) else .stuck) = .ok (fr (.list (rng 0 j))) := if_pos hlen
        rw [e3] at q
        refine ⟨j, rr.arg.int, ?_, fun p hp => ?_⟩
        · have hb2 := of_decide_eq_true hb
          unfold rng at hlen
          rw [List.length_map, List.length_range] at hlen
          exact ⟨by omega, by omega, hb2.1, hb2.2, hlen⟩
        · exact q _ _ M1 (g1.trans (Grow.fresh g1.mh hp)) ⟨p, _, rfl, upd_same, .lst (rgV_rng 0 j), g1.mh.free hp, g1.same.free hp⟩
      · have e3 : ((PR.of (some (rng 0 j))).bind fun ds => if ds.length ≤ 16777216 then PR.ok (fr (.list ds)) else .stuck) = .stuck := if_neg hlen
        rw [e3] at q
        exact q.elim
    · have e2 : gRng1 [.int j] = none := if_neg hb
      rw [e2] at q
      exact q.elim
  | exc e =>
    have e1 : pLRng gRng1 (pCons fa pNil) s = .exc e := by unfold pLRng pCons pNil PR.bind; rw [hf]
    rw [e1] at q
    exact q
  | stuck =>
    have e1 : pLRng gRng1 (pCons fa pNil) s = .stuck := by unfold pLRng pCons pNil PR.bind; rw [hf]
    rw [e1] at q
    exact q
/-! ### tuple * int -/
theorem tuple_mul1 (l : Addr) (items : Array Value) (n : Nat) (dd : Option Addr) (sl : Array (Option Value)) (u : Tok) :
    Meets (Builtin.«tuple.__mul__» ⟨[.ref l, .int 1 u], []⟩) (fun _ R s => s.heap.get? l = some { cls := .type "tuple", dict := dd, data := .seq items n, slots := sl } ∧ R (.ok (.ret (Value.ref l))) s) :=
  .of_wp fun prog w A R s h => by
    obtain ⟨hp, g, d, tk, os⟩ := s
    obtain ⟨hl, h⟩ := h
    have f1 := AutoSeq1.idx_int
    wp_walk using wpAny_loadPart' hl
    exact ⟨_, rfl, h⟩
def rRepT1 (K : PySem.W.Frag) : R2 := fun x y H Q => ∃ l xs, x = .ref l ∧ y = .int 1 ∧ SqT K H l xs ∧ Q (.ref l) H
theorem op_repT1 : OpR X (binaryOp .Mult) (rRepT1 X.K) := by
  intro pins s σ H x y v u Q I rx ry h
  obtain ⟨l, xs, rfl, rfl, hT, q⟩ := h
  cases rx
  obtain ⟨t, rfl⟩ := ry
  obtain ⟨its, r, ⟨⟨cls, dd, data, sl⟩, ho, hc, n, hd⟩, hs⟩ := I.tuple hT
  simp only at hc hd
  subst hc hd
  exact wpAny_binaryOp_repeat_ref (T := "tuple") (U := "int") (by decide) ⟨_, ho, rfl⟩ (fun s' => typeIs_int s' 1 t) noFill_tuple_mul PySem.F.fills_int_mul PySem.F.slot_int_rmul repeat_tuple PySem.F.slot_int_index.lookup
    (call_meets PySem.F.slot_int_rmul (typeIs_int s 1 t) PySem.F.entry_int_rmul (PySem.F.args_int_rmul_2 _ _) (int_rmul_tuple 1 t l its.toArray n dd sl)
      ⟨ho, rfl, ⟨_, ho, rfl⟩, call_meets PySem.F.slot_tuple_mul ⟨_, ho, rfl⟩ PySem.F.entry_tuple_mul (PySem.F.args_tuple_mul_2 _ _) (tuple_mul1 l its.toArray n dd sl t) ⟨ho, ⟨.ref l, H, I, rfl, q⟩⟩⟩)
def gRepT : D → D → Option RV
  | .tup xs, .int n => if 1 ≤ n ∧ n ≤ 1000 ∧ xs.length ≤ 1000 ∧ xs.length ≠ 0 then some (sh (.tup (List.replicate n.toNat xs).flatten)) else none
  | _, _ => none
theorem ok_repT : Op2Ok X (binaryOp .Mult) gRepT := by
  refine ⟨_, op_repT.or op_repT1, fun m M H x y d1 d2 res Q s a1 a2 e k => ?_⟩
  cases d1 <;> try (cases e; done)
  cases d2 <;> try (cases e; done)
  rename_i xs n
  dsimp only [gRepT] at e
  by_cases hc : 1 ≤ n ∧ n ≤ 1000 ∧ xs.length ≤ 1000 ∧ xs.length ≠ 0
  · rw [if_pos hc] at e
    cases e
    obtain ⟨p, us, rfl, h1, r1, rt⟩ := a1.tup s
    have hl := r1.length
    by_cases h2 : n = 1
    · subst h2
      refine .inr ⟨p, us, rfl, a2.int, h1, k _ H M (Grow.refl s) ?_⟩
      rw [show (List.replicate (1 : Int).toNat xs).flatten = xs by simp]
      exact rt
    · refine .inl ⟨p, n, us, rfl, a2.int, h1, fun h => ?_, by omega, by omega, by omega, fun q hq => ?_⟩
      · rw [h] at hl; simp at hl; omega
      · have gs := Grow.share (o := .tup (List.replicate n.toNat us).flatten) s hq
        exact k _ _ _ gs (.tup (SqT.of upd_same) ((r1.rep n.toNat).up gs.mm))
  · rw [if_neg hc] at e
    cases e
def gMulT : D → D → Option RV := fun a b => (gTimes a b).or (gRepT a b)
theorem ok_mulT : Op2Ok X (binaryOp .Mult) gMulT := ok_times.or ok_repT

/-! ### xs.pop(i), within an expression -/
def fPop (i : Nat) (f : Sta → PR RV) : Sta → Fe := fun s => match s.env[i]? with
  | some (.own (.list ds)) => match f s with
    | .ok r => match r.d with
      | .int j => if ds.length ≤ 16777216 then (match ixN ds.length j with
          | some k => match ds[k]? with
            | some d => .ok (.v d) { s with env := s.env.set i (.own (.list (ds.eraseIdx k))) }
            | none => .stuck
          | none => .stuck) else .stuck
      | _ => .stuck
    | .exc e => .exc e s
    | .stuck => .stuck
  | _ => .stuck
theorem fe_pop {al : Bool} {i : Nat} {x : Str} {f : Sta → PR RV} {px apos cpos : Pos} (hx : PE X (.Name x px) (tVar i)) (he : PEv X T W e f)
    (hbase : attributeBase (.Name x px) "pop" X.env (eval (.Name x px) X.env) = eval (.Name x px) X.env := by rfl)
    (hfew : ((backTo cpos (starEach [e] X.env)).all (fun x => !x.1) && (backToKw cpos (keywordEach [] X.env)).all (fun x => x.1.isSome)
      && decide ([e].length + ([] : List Keyword).length + (if ([] : List Keyword).isEmpty then 0 else 1) < 30)) = true := by rfl)
    (hline : (apos.endLine == cpos.line) = true := by rfl) (hs : starEach [e] X.env = (false, eval e X.env) :: starEach [] X.env := by rfl) (hplain : (backTo cpos (starEach [] X.env)).any (·.1) = false := by rfl) :
    FEv X T W al (.Call (.Attribute (.Name x px) "pop" apos) [e] [] cpos) (fPop i f) := by
  refine PE.wk (pe_bm PySem.F.plainAttrs_list PySem.F.slot_list_pop PySem.F.type_list_pop mt_popAt hx (pa_cons he pa_nil hs) hbase hfew hline hs hplain) fun σ H Q h => ?_
  obtain ⟨s, m, M, G, R, a, q⟩ := h
  unfold fPop at q
  split at q
  · rename_i ds hds
    obtain ⟨b, xs, hσ, hb, hd⟩ := R.ownL hds
    refine ⟨_, hσ, .inl ⟨rfl, xs, SqL.of hb⟩, s, m, M, G, R, ?_⟩
    cases hf : f s with
    | ok r =>
      rw [hf] at q
      obtain ⟨kk, d⟩ := r
      cases d <;> try (exact q.elim)
      rename_i j
      simp only [] at q
      by_cases hl : ds.length ≤ 16777216
      · rw [if_pos hl] at q
        cases hk : ixN ds.length j with
        | none => simp only [hk] at q; exact q.elim
        | some k =>
          simp only [hk] at q
          cases hy : ds[k]? with
          | none => simp only [hy] at q; exact q.elim
          | some y =>
            simp only [hy] at q
            obtain ⟨v, hv, rv⟩ := hd.get hy
            intro z H1 M1 g1 rr
            obtain ⟨hk1, hk2, hk3, hk4⟩ := ixN_seq hk
            have hxl := hd.length
            refine ⟨b, xs, j, k, v, rfl, by rw [rr.arg.int], g1.same _ _ hb, by omega, by omega, by rw [hxl]; exact hk1, hv, ?_⟩
            have R1 := (R.grow g1).mut hds hσ (.lst ((hd.up g1.mm).eraseIdx k))
            exact q v _ m M1 (Ext.grow g1 R.gh) a (R1.consU.setV 0 (rv.up g1.mm))
      · rw [if_neg hl] at q; exact q.elim
    | exc ex => rw [hf] at q; exact fun cls d H' M' g xr => q cls d H' m M' (Ext.grow g R.gh) a (R.grow g) xr
    | stuck => rw [hf] at q; exact q.elim
  · exact q.elim

/-! ### x.append(e), e an expression that may change objects -/
def sAppF (i : Nat) (g : Sta → Fe) : Sta → Fl := fun s => match s.env[i]? with
  | some (.own (.list _)) => (g s).fl fun r s' => match r, s'.env[i]? with
    | .v d, some (.own (.list ds)) => if ds.length < 16777216 then .nx { s' with env := s'.env.set i (.own (.list (ds ++ [d]))) } else .stuck
    | _, _ => .stuck
  | _ => .stuck
theorem s_appF {al : Bool} {i : Nat} {x : Str} {g : Sta → Fe} {px apos cpos : Pos} (hx : PE X (.Name x px) (tVar i)) (he : FEv X T W al e g)
    (hbase : attributeBase (.Name x px) "append" X.env (eval (.Name x px) X.env) = eval (.Name x px) X.env := by rfl)
    (hfew : ((backTo cpos (starEach [e] X.env)).all (fun x => !x.1) && (backToKw cpos (keywordEach [] X.env)).all (fun x => x.1.isSome)
      && decide ([e].length + ([] : List Keyword).length + (if ([] : List Keyword).isEmpty then 0 else 1) < 30)) = true := by rfl)
    (hline : (apos.endLine == cpos.line) = true := by rfl) (hs : starEach [e] X.env = (false, eval e X.env) :: starEach [] X.env := by rfl) (hplain : (backTo cpos (starEach [] X.env)).any (·.1) = false := by rfl)
    (hsw : swapsWith (.Call (.Attribute (.Name x px) "append" apos) [e] [] cpos) none pos.line X.env = pure false := by rfl) :
    SE1 X T W al (.Expr (.Call (.Attribute (.Name x px) "append" apos) [e] [] cpos) pos) (sAppF i g) := by
  refine PS.wk (ps_expr (pe_bm PySem.F.plainAttrs_list PySem.F.slot_list_append PySem.F.type_list_append mt_append hx (pa_cons he pa_nil hs) hbase hfew hline hs hplain) hsw) fun D σ H h => ?_
  obtain ⟨s, m, M, G, R, a, q⟩ := h
  unfold sAppF at q
  split at q
  · rename_i ds0 hds
    obtain ⟨b, xs, hσ, hb, hd⟩ := R.ownL hds
    refine ⟨_, hσ, .inl ⟨rfl, xs, SqL.of hb⟩, ?_⟩
    refine tF_fl (k := fun r s' => match r, s'.env[i]? with
      | .v d, some (.own (.list ds)) => if ds.length < 16777216 then .nx { s' with env := s'.env.set i (.own (.list (ds ++ [d]))) } else .stuck
      | _, _ => .stuck) R a q fun r s' y H' m' M' e' a' R' k => ?_
    split at k
    · rename_i d ds hds2
      by_cases hl : ds.length < 16777216
      · rw [if_pos hl] at k
        obtain ⟨b2, xs2, hσ2, hb2, hd2⟩ := R'.tail.ownL hds2
        rw [hσ] at hσ2
        cases hσ2
        refine ⟨b, xs2, y, rfl, rfl, hb2, by rw [hd2.length, sizeLine_eq]; exact hl, ?_⟩
        exact k σ _ m' M' (Ext.refl ..) a' (R'.tail.mut hds2 hσ (.lst (hd2.append (.cons R'.head .nil))))
      · rw [if_neg hl] at k; exact k.elim
    · exact k.elim
  · exact q.elim
end

/-! ### zip -/
def zipD : List D → List D → List D
  | x :: xs, y :: ys => .tup [x, y] :: zipD xs ys
  | _, _ => []
theorem zipD_get : ∀ (xs ys : List D) (i : Nat) (d : D), (zipD xs ys)[i]? = some d → ∃ x y, xs[i]? = some x ∧ ys[i]? = some y ∧ d = .tup [x, y]
  | [], _, _, _, e => by simp [zipD] at e
  | _ :: _, [], _, _, e => by simp [zipD] at e
  | x :: xs, y :: ys, 0, d, e => by
    simp [zipD] at e
    exact ⟨x, y, rfl, rfl, e.symm⟩
  | x :: xs, y :: ys, i + 1, d, e => by
    obtain ⟨a, b, h1, h2, h3⟩ := zipD_get xs ys i d (by simpa [zipD] using e)
    exact ⟨a, b, by simpa using h1, by simpa using h2, h3⟩
theorem zipD_len : ∀ (xs ys : List D), (zipD xs ys).length = min xs.length ys.length
  | [], ys => by simp [zipD]
  | _ :: _, [] => by simp [zipD]
  | x :: xs, y :: ys => by simp [zipD, zipD_len xs ys, Nat.succ_min_succ]
section
variable {X : Cx} {T : Tab} {W : WX} {e e2 : Expr} {pos p : Pos}
theorem itz_ok {K : PySem.W.Frag} {m : List Addr} {a b : Addr} {xs ys : List V} {ds es : List D} {M0 B : Hp} (h : ∀ M H, Same M0 M → Same M H → Same B H → SqL K H a xs ∧ SqL K H b ys) (r : DRs K m M0 xs ds) (r2 : DRs K m M0 ys es) : ItOk K m (Itz K a b) (zipD ds es) M0 B := by
  intro i M H s1 s2 s3
  have hh := h M H s1 s2 s3
  refine ⟨fun d e => ?_, fun hl => ⟨xs, ys, hh.1, hh.2, by rw [zipD_len] at hl; rw [r.length, r2.length]; omega⟩⟩
  obtain ⟨x, y, hx, hy, rfl⟩ := zipD_get ds es i d e
  obtain ⟨v, hv, rv⟩ := r.get hx
  obtain ⟨u, hu, ru⟩ := r2.get hy
  refine ⟨⟨xs, ys, v, u, hh.1, hh.2, hv, hu⟩, fun q H' z => ?_⟩
  obtain ⟨T, x', y', rfl, hT, rfl, z1, z2⟩ := z
  have z1 := z1 xs hh.1
  have z2 := z2 ys hh.2
  rw [hv] at z1
  rw [hu] at z2
  cases z1
  cases z2
  have gs := Grow.share (o := .tup [v, u]) s2 hT
  exact ⟨_, gs, .tup (SqT.of upd_same) (.cons ((rv.up s1).up gs.mm) (.cons ((ru.up s1).up gs.mm) .nil))⟩
theorem itzT_ok {K : PySem.W.Frag} {m : List Addr} {a b : Addr} {xs ys : List V} {ds es : List D} {M0 B : Hp} (h : ∀ M H, Same M0 M → Same M H → Same B H → SqT K H a xs ∧ SqT K H b ys) (r : DRs K m M0 xs ds) (r2 : DRs K m M0 ys es) : ItOk K m (RZ.ItzT K a b) (zipD ds es) M0 B := by
  intro i M H s1 s2 s3
  have hh := h M H s1 s2 s3
  refine ⟨fun d e => ?_, fun hl => ⟨xs, ys, hh.1, hh.2, by rw [zipD_len] at hl; rw [r.length, r2.length]; omega⟩⟩
  obtain ⟨x, y, hx, hy, rfl⟩ := zipD_get ds es i d e
  obtain ⟨v, hv, rv⟩ := r.get hx
  obtain ⟨u, hu, ru⟩ := r2.get hy
  refine ⟨⟨xs, ys, v, u, hh.1, hh.2, hv, hu⟩, fun q H' z => ?_⟩
  obtain ⟨T, x', y', rfl, hT, rfl, z1, z2⟩ := z
  have z1 := z1 xs hh.1
  have z2 := z2 ys hh.2
  rw [hv] at z1
  rw [hu] at z2
  cases z1
  cases z2
  have gs := Grow.share (o := .tup [v, u]) s2 hT
  exact ⟨_, gs, .tup (SqT.of upd_same) (.cons ((rv.up s1).up gs.mm) (.cons ((ru.up s1).up gs.mm) .nil))⟩
def gZip : List D → Option (List D)
  | [.list xs, .list ys] => some (zipD xs ys)
  | [.tup xs, .tup ys] => some (zipD xs ys)
  | _ => none
def pZip (fs : Sta → PR (List D)) : Sta → PR (List D) := fun s => (fs s).bind fun ds => .of (gZip ds)
theorem iv_zip {elts : List Expr} {kk : Nat} {tpos : Pos} {fs : Sta → PR (List D)} (hg : Gl X "zip") (hm : X.mg "zip" = none) (ha : PAs X T W [e, e2] fs)
    (hs : starEach [e, e2] X.env = (false, eval e X.env) :: starEach [e2] X.env := by rfl) (hpl : (backTo pos (starEach [e2] X.env)).any (·.1) = false := by rfl) :
    PIv X T W (.Tuple elts kk tpos) (.Call (.Name "zip" p) [e, e2] [] pos) (pZip fs) := by
  refine PI.wk (RZ.pi_zipA hg hm ha hs hpl) ?_
  rintro σ H R ⟨s, m, M, G, Rl, q⟩
  refine ⟨s, m, M, G, Rl, ?_⟩
  revert q
  unfold pZip PR.bind
  cases fs s with
  | ok ds =>
    intro q ys H' M' g rr
    dsimp only at q
    cases hr : gZip ds with
    | none => simp only [hr, PR.of] at q
    | some es =>
      simp only [hr, PR.of] at q
      unfold gZip at hr
      split at hr
      · cases hr
        cases rr with
        | cons r1 rn => cases rn with
          | cons r2 rn =>
            cases rn
            cases r1 with
            | list h1 h2 => cases r2 with
              | list h3 h4 => exact ⟨_, _, _, _, rfl, .inl ⟨SqL.of (g.mh _ _ h1), SqL.of (g.mh _ _ h3), q _ H' M' g (itz_ok (fun M H a b _ => ⟨SqL.of (b _ _ (a _ _ h1)), SqL.of (b _ _ (a _ _ h3))⟩) h2 h4)⟩⟩
      · cases hr
        cases rr with
        | cons r1 rn => cases rn with
          | cons r2 rn =>
            cases rn
            cases r1 with
            | tup h1 h2 => cases r2 with
              | tup h3 h4 => exact ⟨_, _, _, _, rfl, .inr ⟨Same.seqT g.mh h1, Same.seqT g.mh h3, q _ H' M' g (itzT_ok (fun M H a b _ => ⟨Same.seqT b (Same.seqT a h1), Same.seqT b (Same.seqT a h3)⟩) h2 h4)⟩⟩
      · cases hr
  | exc e => intro q; exact q
  | stuck => intro q; exact q
/-! ### a sign within a text -/
def gInS : D → D → Option RV
  | .str x, .str z => match x.cps.toList with
    | [c] => some (sh (.bool (decide (c ∈ z.cps.toList))))
    | _ => none
  | _, _ => none
theorem ok_inS : Op2Ok X (compareOp .In) gInS := by
  refine ⟨_, op_in_sign, fun m M H x y d1 d2 res Q s a1 a2 e k => ?_⟩
  cases d1 <;> try (cases e; done)
  cases d2 <;> try (cases e; done)
  rename_i u z
  dsimp only [gInS] at e
  split at e
  · rename_i c hl
    cases e
    have hx : u = ⟨#[c]⟩ := by
      obtain ⟨a⟩ := u
      exact congrArg Str.mk (Array.toList_inj.mp hl)
    exact ⟨c, z, by rw [a1.str, hx], a2.str, k _ H M (Grow.refl s) (.bl _)⟩
  · cases e
/-! ### a def that calls itself: what is never reached -/
theorem fn_stuck {P : Program} {w : World} {K : PySem.W.Frag} {mg : Str → Option Value} {base : Heap} {T : Tab} {al : Bool} {k n : Nat} {f : Addr} {fd : FuncData} {ps : List Str} (h : ps.length = n) :
    FnOk P w K mg base (L2.CX P w) k f fd ps (spF K T al n fun _ _ => .stuck) := by
  refine ⟨fun vs H Q E hs => ?_, fun A outer s H args us vs Q E _ _ _ _ hs => ?_⟩
  · obtain ⟨_, _, _, _, _, hl, _⟩ := hs
    rw [hl, h]
  · obtain ⟨_, _, _, _, _, _, _, _, _, z⟩ := hs
    exact z.elim
end
/-! ### a statement that is never come to -/
section
variable {X : Cx} {T : Tab} {W : WX} {al : Bool} {st : Stmt}
def sDead : Sta → Fl := fun _ => .stuck
theorem s_dead : SE1 X T W al st sDead := ⟨fun pins s σ H D I h => by
  obtain ⟨s', m, M, G, R, a, q⟩ := h
  exact q.elim⟩
end
/-! ### as equations -/
section
variable {env : List Slot} {st : List Ob}
theorem g_divmod {i j : Int} (h : 0 < j ∧ j < 1073741824) : gDivmod [.int i, .int j] = some ⟨.sh, .tup [.int (i / j), .int (i % j)]⟩ := if_pos h
theorem g_sorted (ns : List Int) : gSorted [.list (ns.map D.int)] = some ⟨.fr, .list ((sortI ns).map D.int)⟩ := by
  show (intsOf (ns.map D.int)).map _ = _
  rw [intsOf_map]
  rfl
theorem g_allB (bs : List Bool) : gAll [.list (bs.map D.bool)] = some ⟨.sh, .bool (bs.all id)⟩ := by
  show (boolsOf (bs.map D.bool)).map _ = _
  rw [boolsOf_map]
  rfl
theorem g_anyB (bs : List Bool) : gAny [.list (bs.map D.bool)] = some ⟨.sh, .bool (bs.any id)⟩ := by
  show (boolsOf (bs.map D.bool)).map _ = _
  rw [boolsOf_map]
  rfl
theorem g_sumI (bs : List Int) : gSum [.list (bs.map D.int)] = some ⟨.sh, .int bs.sum⟩ := by
  show (intsOf (bs.map D.int)).map _ = _
  rw [intsOf_map]
  rfl
theorem g_zipT (x y : List D) : gZip [.tup x, .tup y] = some (zipD x y) := Eq.trans rfl rfl
theorem g_zipL (x y : List D) : gZip [.list x, .list y] = some (zipD x y) := Eq.trans rfl rfl
def xZp : PR (List D) → PR (List D)
  | .ok d => .of (gZip d)
  | .exc e => .exc e
  | .stuck => .stuck
theorem e_pZip (fs : Sta → PR (List D)) : pZip fs ⟨env, st⟩ = xZp (fs ⟨env, st⟩) := by
  unfold pZip PR.bind xZp
  cases fs ⟨env, st⟩ <;> rfl
theorem e_xZp (d : List D) : xZp (.ok d) = PR.of (gZip d) := Eq.trans rfl rfl
theorem g_abs (i : Int) : gAbs [.int i] = some ⟨.sh, .int (if i < 0 then -i else i)⟩ := Eq.trans rfl rfl
theorem g_intI (i : Int) : gInt [.int i] = some ⟨.sh, .int i⟩ := Eq.trans rfl rfl
theorem g_intB (b : Bool) : gInt [.bool b] = some ⟨.sh, .int (if b then 1 else 0)⟩ := Eq.trans rfl rfl
theorem g_repT {d : D} {n : Int} (h : 1 ≤ n ∧ n ≤ 1000) : gRepT (.tup [d]) (.int n) = some ⟨.sh, .tup (List.replicate n.toNat d)⟩ := by
  show (if _ then _ else _) = _
  rw [if_pos ⟨h.1, h.2, by simp, by simp⟩, List.flatten_replicate_singleton]
def xLR : PR (List D) → PR RV
  | .ok ds => if ds.length ≤ 16777216 then .ok ⟨.fr, .list ds⟩ else .stuck
  | .exc e => .exc e
  | .stuck => .stuck
theorem e_pLRng (g : List D → Option (List D)) (fs : Sta → PR (List RV)) : pLRng g fs ⟨env, st⟩ = xLR (xG g (fs ⟨env, st⟩)) := by
  unfold pLRng PR.bind xG xLR
  cases fs ⟨env, st⟩ with
  | ok rs => simp only []; cases PR.of (g (rs.map RV.d)) <;> rfl
  | exc e => rfl
  | stuck => rfl
theorem e_xLR {ds : List D} (h : ds.length ≤ 16777216) : xLR (.ok ds) = .ok ⟨.fr, .list ds⟩ := if_pos h
def xPop (i : Nat) (env : List Slot) (st : List Ob) : Option Slot → PR RV → Fe
  | some (.own (.list ds)), .ok ⟨_, .int j⟩ => if ds.length ≤ 16777216 then (match ixN ds.length j with
      | some k => match ds[k]? with
        | some d => .ok (.v d) ⟨env.set i (.own (.list (ds.eraseIdx k))), st⟩
        | none => .stuck
      | none => .stuck) else .stuck
  | some (.own (.list _)), .ok _ => .stuck
  | some (.own (.list _)), .exc e => .exc e ⟨env, st⟩
  | some (.own (.list _)), .stuck => .stuck
  | _, _ => .stuck
theorem f_Pop (i : Nat) (f : Sta → PR RV) : fPop i f ⟨env, st⟩ = xPop i env st env[i]? (f ⟨env, st⟩) := by
  unfold fPop xPop
  rcases env[i]? with _ | (_ | d | d) <;> try rfl
  cases d <;> try rfl
  cases f ⟨env, st⟩ with
  | ok r => obtain ⟨k, d⟩ := r; cases d <;> rfl
  | exc e => rfl
  | stuck => rfl
theorem f_xPop {i : Nat} {ds : List D} {j : Int} {k : RK} (h : 0 ≤ j ∧ j < ds.length) (hl : ds.length ≤ 16777216) : xPop i env st (some (.own (.list ds))) (.ok ⟨k, .int j⟩) = .ok (.v (ds.getD j.toNat .none)) ⟨env.set i (.own (.list (ds.eraseIdx j.toNat))), st⟩ := by
  have e1 : ixN ds.length j = some j.toNat := by unfold ixN; rw [if_pos h.1, if_pos h.2]
  have e2 : ds[j.toNat]? = some (ds.getD j.toNat .none) := by
    have : j.toNat < ds.length := by omega
    rw [List.getD_eq_getElem?_getD, List.getElem?_eq_getElem this]
    rfl
  show (if _ then _ else _) = _
  rw [if_pos hl]
  simp only [e1, e2]
def xAF2 (i : Nat) (d : D) (env : List Slot) (st : List Ob) : Option Slot → Fl
  | some (.own (.list ds)) => if ds.length < 16777216 then .nx ⟨env.set i (.own (.list (ds ++ [d]))), st⟩ else .stuck
  | _ => .stuck
def xAF (i : Nat) : Fe → Fl
  | .ok (.v d) ⟨env, st⟩ => xAF2 i d env st env[i]?
  | .ok _ _ => .stuck
  | .exc e s => .exc e s
  | .stuck => .stuck
def xAF0 (i : Nat) : Option Slot → Fe → Fl
  | some (.own (.list _)), x => xAF i x
  | _, _ => .stuck
theorem s_AppF (i : Nat) (g : Sta → Fe) : sAppF i g ⟨env, st⟩ = xAF0 i env[i]? (g ⟨env, st⟩) := by
  unfold sAppF xAF0
  rcases env[i]? with _ | (_ | d | d) <;> try rfl
  cases d <;> try rfl
  unfold Fe.fl xAF
  rcases g ⟨env, st⟩ with ⟨r, ⟨env', st'⟩⟩ | ⟨e, s⟩ | _ <;> try rfl
  rcases r with _ | d | d
  · rfl
  · simp only [xAF2]
    rcases env'[i]? with _ | (_ | d | d) <;> try rfl
    cases d <;> rfl
  · rfl
theorem s_xAF0 (i : Nat) (ds : List D) (x : Fe) : xAF0 i (some (.own (.list ds))) x = xAF i x := Eq.trans rfl rfl
theorem s_xAF (i : Nat) (d : D) : xAF i (.ok (.v d) ⟨env, st⟩) = xAF2 i d env st env[i]? := Eq.trans rfl rfl
theorem s_xAF2 {i : Nat} {d : D} {ds : List D} (h : ds.length < 16777216) : xAF2 i d env st (some (.own (.list ds))) = .nx ⟨env.set i (.own (.list (ds ++ [d]))), st⟩ := if_pos h
theorem inB_int (i : Int) (ns : List Int) : (ns.map D.int).any (fun z => eqF z (.int i)) = decide (i ∈ ns) := by
  induction ns with
  | nil => simp
  | cons n ns ih =>
    rw [List.map_cons, List.any_cons, ih]
    show (n == i || _) = _
    by_cases h : n = i
    · subst h; simp
    · have h' : ¬ i = n := fun e => h e.symm
      simp [h, h']
theorem flat_ints (ns : List Int) : (ns.map D.int).all flatD = true := by
  rw [List.all_map]
  exact List.all_eq_true.mpr fun _ _ => rfl
theorem g_inI (i : Int) (ns : List Int) : gIn (.int i) (.list (ns.map D.int)) = some ⟨.sh, .bool (decide (i ∈ ns))⟩ := by
  unfold gIn inB
  simp only [seqOf]
  rw [if_pos ⟨rfl, flat_ints ns⟩, inB_int]
  rfl
theorem g_ninI (i : Int) (ns : List Int) : gNin (.int i) (.list (ns.map D.int)) = some ⟨.sh, .bool (!decide (i ∈ ns))⟩ := by
  unfold gNin inB
  simp only [seqOf]
  rw [if_pos ⟨rfl, flat_ints ns⟩, inB_int]
  rfl
theorem g_inT (i : Int) (ns : List Int) : gIn (.int i) (.tup (ns.map D.int)) = some ⟨.sh, .bool (decide (i ∈ ns))⟩ := by
  unfold gIn inB
  simp only [seqOf]
  rw [if_pos ⟨rfl, flat_ints ns⟩, inB_int]
  rfl
theorem g_ninT (i : Int) (ns : List Int) : gNin (.int i) (.tup (ns.map D.int)) = some ⟨.sh, .bool (!decide (i ∈ ns))⟩ := by
  unfold gNin inB
  simp only [seqOf]
  rw [if_pos ⟨rfl, flat_ints ns⟩, inB_int]
  rfl
/-- a comprehension over numbers -/
theorem compN {t : Tg} {tt : Sta → PR Bool} {te : Sta → PR D} {s : Sta} (q : Nat → Bool) : ∀ (ms : List Nat), (∀ m ∈ ms, ∃ env, t.bind (.int (m : Int)) s.env = some env ∧ tt { s with env := env } = .ok (q m) ∧ (q m = true → te { s with env := env } = .ok (.int (m : Int)))) →
    compL t tt te s (ms.map fun m : Nat => D.int (m : Int)) = .ok ((ms.filter q).map fun m : Nat => D.int (m : Int))
  | [], _ => rfl
  | m :: ms, h => by
    obtain ⟨env, h1, h2, h3⟩ := h m (by simp)
    have ih := compN q ms fun m hm => h m (by simp [hm])
    rw [List.map_cons, compL, h1]
    simp only [h2]
    cases hq : q m with
    | true =>
      simp only [h3 hq]
      rw [ih, List.filter_cons, hq]
      rfl
    | false =>
      simp only []
      rw [ih, List.filter_cons, hq]
      rfl
theorem compM {t : Tg} {te : Sta → PR D} {s : Sta} (f : Nat → D) : ∀ (ms : List Nat), (∀ m ∈ ms, ∃ env, t.bind (.int (m : Int)) s.env = some env ∧ te { s with env := env } = .ok (f m)) →
    compL t pYes te s (ms.map fun m : Nat => D.int (m : Int)) = .ok (ms.map f)
  | [], _ => rfl
  | m :: ms, h => by
    obtain ⟨env, h1, h2⟩ := h m (by simp)
    rw [List.map_cons, compL, h1]
    simp only [pYes, h2]
    rw [compM f ms fun m hm => h m (by simp [hm])]
    rfl
theorem compG {α : Type} {t : Tg} {tt : Sta → PR Bool} {te : Sta → PR D} {s : Sta} (mk f : α → D) (q : α → Bool) : ∀ (l : List α), (∀ a ∈ l, ∃ env, t.bind (mk a) s.env = some env ∧ tt { s with env := env } = .ok (q a) ∧ (q a = true → te { s with env := env } = .ok (f a))) →
    compL t tt te s (l.map mk) = .ok ((l.filter q).map f)
  | [], _ => rfl
  | a :: l, h => by
    obtain ⟨env, h1, h2, h3⟩ := h a (by simp)
    have ih := compG mk f q l fun m hm => h m (by simp [hm])
    rw [List.map_cons, compL, h1]
    simp only [h2]
    cases hq : q a with
    | true =>
      simp only [h3 hq]
      rw [ih, List.filter_cons, hq]
      rfl
    | false =>
      simp only []
      rw [ih, List.filter_cons, hq]
      rfl
theorem compA {α : Type} {t : Tg} {te : Sta → PR D} {s : Sta} (mk f : α → D) : ∀ (l : List α), (∀ a ∈ l, ∃ env, t.bind (mk a) s.env = some env ∧ te { s with env := env } = .ok (f a)) →
    compL t pYes te s (l.map mk) = .ok (l.map f)
  | [], _ => rfl
  | a :: l, h => by
    obtain ⟨env, h1, h2⟩ := h a (by simp)
    rw [List.map_cons, compL, h1]
    simp only [pYes, h2]
    rw [compA mk f l fun m hm => h m (by simp [hm])]
    rfl
theorem compE {α : Type} {t : Tg} {te : Sta → PR D} {s : Sta} (P : α → Prop) (mk : α → D) : ∀ (ds : List D), (∀ d ∈ ds, ∃ a, P a ∧ ∃ env, t.bind d s.env = some env ∧ te { s with env := env } = .ok (mk a)) →
    ∃ l : List α, l.length = ds.length ∧ (∀ a ∈ l, P a) ∧ compL t pYes te s ds = .ok (l.map mk)
  | [], _ => ⟨[], rfl, (fun a h => by cases h), rfl⟩
  | d :: ds, h => by
    obtain ⟨a, ha, env, h1, h2⟩ := h d (by simp)
    obtain ⟨l, hl, hp, hc⟩ := compE P mk ds fun m hm => h m (by simp [hm])
    refine ⟨a :: l, by simp [hl], fun b hb => ?_, ?_⟩
    · rcases List.mem_cons.mp hb with rfl | hb
      · exact ha
      · exact hp b hb
    · rw [compL, h1]
      simp only [pYes, h2]
      rw [hc]
      rfl
theorem eqvAll_ints : ∀ a b : List Nat, PyData.eqvAll (pys (a.map fun m : Nat => D.int (m : Int))) (pys (b.map fun m : Nat => D.int (m : Int))) = decide (a = b)
  | [], [] => rfl
  | [], b :: bs => rfl
  | a :: as, [] => rfl
  | a :: as, b :: bs => by
    show ((a : Int) == (b : Int) && PyData.eqvAll _ _) = _
    rw [eqvAll_ints as bs]
    by_cases h1 : a = b
    · subst h1; simp
    · have : ¬ (a : Int) = b := by omega
      simp [h1, this]
theorem plain_ints (a : List Nat) : (D.tup (a.map fun m : Nat => D.int (m : Int))).plain 9 = true := by
  show (a.map fun m : Nat => D.int (m : Int)).all (D.plain 8) = true
  rw [List.all_map]
  exact List.all_eq_true.mpr fun _ _ => rfl
theorem eqB_ints (a b : List Nat) : eqB (.tup (a.map fun m : Nat => D.int (m : Int))) (.tup (b.map fun m : Nat => D.int (m : Int))) = some (decide (a = b)) := by
  rw [eqB_gen (plain_ints a) (plain_ints b)]
  show some (PyData.eqvAll (pys _) (pys _)) = _
  rw [eqvAll_ints]
theorem gEq_ints (a b : List Nat) : gEq (.tup (a.map fun m : Nat => D.int (m : Int))) (.tup (b.map fun m : Nat => D.int (m : Int))) = some ⟨.sh, .bool (decide (a = b))⟩ := by unfold gEq; rw [eqB_ints]; rfl
theorem gNe_ints (a b : List Nat) : gNe (.tup (a.map fun m : Nat => D.int (m : Int))) (.tup (b.map fun m : Nat => D.int (m : Int))) = some ⟨.sh, .bool (!decide (a = b))⟩ := by unfold gNe; rw [eqB_ints]; rfl
/-- a tuple of numbers among such -/
theorem shaped_ints (a : List Nat) : SeqAt.shaped (D.tup (a.map fun m : Nat => D.int (m : Int))).py = true := plain_shaped (plain_ints a)
theorem shaped_many (as : List (List Nat)) : SeqAt.shaped (.list (pys (as.map fun a => D.tup (a.map fun m : Nat => D.int (m : Int))))) = true := by
  have h : (D.list (as.map fun a => D.tup (a.map fun m : Nat => D.int (m : Int)))).plain 9 = true := by
    show (as.map fun a => D.tup (a.map fun m : Nat => D.int (m : Int))).all (D.plain 8) = true
    rw [List.all_map]
    refine List.all_eq_true.mpr fun a _ => ?_
    show (a.map fun m : Nat => D.int (m : Int)).all (D.plain 7) = true
    rw [List.all_map]
    exact List.all_eq_true.mpr fun _ _ => rfl
  exact plain_shaped h
theorem any_many (k : List Nat) : ∀ as : List (List Nat), ((pys (as.map fun a => D.tup (a.map fun m : Nat => D.int (m : Int)))).any fun z => PyData.eqv z (D.tup (k.map fun m : Nat => D.int (m : Int))).py) = decide (k ∈ as)
  | [] => by simp [pys]
  | a :: as => by
    show (PyData.eqv (D.tup (a.map fun m : Nat => D.int (m : Int))).py (D.tup (k.map fun m : Nat => D.int (m : Int))).py || _) = _
    rw [any_many k as]
    show (PyData.eqvAll (pys _) (pys _) || _) = _
    rw [eqvAll_ints]
    by_cases h1 : a = k
    · subst h1; simp
    · have : ¬ k = a := fun e => h1 e.symm
      simp [h1, this]
theorem inB_many (k : List Nat) (as : List (List Nat)) : inB (.tup (k.map fun m : Nat => D.int (m : Int))) (.list (as.map fun a => D.tup (a.map fun m : Nat => D.int (m : Int)))) = some (decide (k ∈ as)) := by
  unfold inB
  simp only [seqOf]
  rw [if_neg (fun h => Bool.false_ne_true h.1), if_pos ⟨rfl, shaped_ints k, shaped_many as⟩, any_many]
theorem gIn_many (k : List Nat) (as : List (List Nat)) : gIn (.tup (k.map fun m : Nat => D.int (m : Int))) (.list (as.map fun a => D.tup (a.map fun m : Nat => D.int (m : Int)))) = some ⟨.sh, .bool (decide (k ∈ as))⟩ := by unfold gIn; rw [inB_many]; rfl
theorem gNin_many (k : List Nat) (as : List (List Nat)) : gNin (.tup (k.map fun m : Nat => D.int (m : Int))) (.list (as.map fun a => D.tup (a.map fun m : Nat => D.int (m : Int)))) = some ⟨.sh, .bool (!decide (k ∈ as))⟩ := by unfold gNin; rw [inB_many]; rfl
/-- tuples of texts -/
theorem flat_strs (ss : List Str) : (ss.map D.str).all flatD = true := by
  rw [List.all_map]
  exact List.all_eq_true.mpr fun _ _ => rfl
theorem inB_str (x : Str) (ss : List Str) : (ss.map D.str).any (fun z => eqF z (.str x)) = decide (x ∈ ss) := by
  induction ss with
  | nil => simp
  | cons n ns ih =>
    rw [List.map_cons, List.any_cons, ih]
    show (n == x || _) = _
    by_cases h : n = x
    · subst h; simp
    · have h' : ¬ x = n := fun e => h e.symm
      have h2 : (n == x) = false := beq_eq_false_iff_ne.mpr h
      simp [h', h2]
theorem g_ninST (x : Str) (ss : List Str) : gNin (.str x) (.tup (ss.map D.str)) = some ⟨.sh, .bool (!decide (x ∈ ss))⟩ := by
  unfold gNin inB
  simp only [seqOf]
  rw [if_pos ⟨rfl, flat_strs ss⟩, inB_str]
  rfl
theorem e_c2 : ((2 : Nat) : Int) = 2 := Eq.trans rfl rfl
theorem e_c3 : ((3 : Nat) : Int) = 3 := Eq.trans rfl rfl
theorem e_c4 : ((4 : Nat) : Int) = 4 := Eq.trans rfl rfl
theorem e_c5 : ((5 : Nat) : Int) = 5 := Eq.trans rfl rfl
theorem e_pIsi (n : String) (f : Sta → PR RV) : pIsi n f ⟨env, st⟩ = x1 (fun d => (isiB n d).map fun b => sh (.bool b)) (f ⟨env, st⟩) := by
  unfold pIsi
  exact e_p1 _ _
end
end MP

set_option maxHeartbeats 2000000
/-! MP 11: exceptions: raised, caught, kept as values. -/
namespace MP
open PySem PySem.Spec PyProof.Rows L2

/-! ### an object of ours that was not tracked is tracked from now on -/
section
variable {X : Cx} {pins : List (Addr × Obj)} {σ : L2.St} {H : Hp} {s : Shared} {a : Addr} {u : HO}
theorem track (I : Inv X pins σ H s) (n0 : X.s_0.heap.get? a = none) (na : H a = none) (nL : a ≠ X.env.locals) {oe : Obj} {vs : Array Value}
    (he : s.heap.get? a = some oe) (hd : oe.data = .fields vs) (np : ∀ p ∈ X.pn ++ pins, p.1 ≠ a)
    (ok : ObjOk X.prog X.w (upd H a u) s.heap a u) : Inv X pins σ (upd H a u) s := by
  have off : ∀ {b : Addr} {w : HO}, H b = some w → b ≠ a := fun q => ne_of_none q na
  have cl : ∀ {x : Str} {c : Addr}, X.env.cells.lookup x = some c → c ≠ a := by
    intro x c q z
    obtain ⟨v, o, h1, h2⟩ := I.cell x c q
    rw [z, he] at h1
    cases h1
    rw [hd] at h2
    cases h2
  exact {
    ok := I.ok
    os := I.os
    bare := I.bare
    base := {
      keep := I.base.keep
      slot := I.base.slot
      free := fun b o q n hx => by
        rw [upd_ne (fun z => by rw [z, n0] at q; cases q)]
        exact I.base.free b o q n hx
      there := I.base.there
      tups := fun b xs q => by
        have q2 := I.base.tups b xs q
        rw [upd_ne (off q2)]; exact q2
      frzs := fun b o w q => by
        have q2 := I.base.frzs b o w q
        rw [upd_ne (off q2)]; exact q2
      tbls := fun b ps q => by
        obtain ⟨r, q2⟩ := I.base.tbls b ps q
        exact ⟨r, by rw [upd_ne (off q2)]; exact q2⟩ }
    loc := I.loc
    cell := I.cell
    free := by rw [upd_ne (Ne.symm nL)]; exact I.free
    freeC := fun x c q => by rw [upd_ne (cl q)]; exact I.freeC x c q
    pin := fun p hp => by
      obtain ⟨h1, h2, h3⟩ := I.pin p hp
      exact ⟨h1, by rw [upd_ne (np p hp)]; exact h2, h3⟩
    hok := fun b w q => by
      by_cases hb : b = a
      · subst hb
        rw [upd_same] at q
        cases q
        exact ok
      · rw [upd_ne hb] at q
        exact (I.hok b w q).stay (fun _ _ _ z => z) (fun c z => by rw [upd_ne (off z)]; exact z) (fun c xs z => by rw [upd_ne (off z)]; exact z)
    len := I.len }
theorem exv_ok {P : Program} {w : World} {h : Heap} {C : Addr} {d : Option Addr} {oe : Obj} {vs : Array Value} (e : h.get? a = some oe) (z : Zc (.ref C) d oe) (q : oe.data = .fields vs) : ObjOk P w H h a (exv a C d) :=
  ⟨⟨oe, vs, e, z, q⟩, ⟨oe, e⟩, fun _ _ ⟨o, v, x, r⟩ k => ⟨o, v, k o x, r⟩⟩
theorem exv_at {C : Addr} {d : Option Addr} (I : Inv X pins σ H s) (e : H a = some (exv a C d)) : ∃ (oe : Obj) (vs : Array Value), s.heap.get? a = some oe ∧ Zc (.ref C) d oe ∧ oe.data = .fields vs := by
  have x : ObjOk X.prog X.w H s.heap a (.ext fun h => ∃ (oe : Obj) (vs : Array Value), h.get? a = some oe ∧ Zc (.ref C) d oe ∧ oe.data = .fields vs) := I.hok a _ e
  exact x.1
end

/-! ### try, except C as n: suite; behind the suite the exception is a value -/
/-- the suite's ends, the exception at a tracked from there on, slot i empty -/
def endV (D : Ends) (i a C : Nat) (d : Option Addr) : Ends where
  nx σ H := D.nx (σ.set i none) (upd H a (exv a C d))
  rt v H := D.rt v (upd H a (exv a C d))
  bk σ H := D.bk (σ.set i none) (upd H a (exv a C d))
  ct σ H := D.ct (σ.set i none) (upd H a (exv a C d))
def wVal (K : PySem.W.Frag) (c : Value) (i : Nat) (ts : Addr → Value → Option Addr → TS) (Wo : WX) (D : Ends) : WX := fun cls d σ H =>
  ∃ b, PySem.W.exmOne K cls c = some b ∧ (b = false → Wo cls d σ H) ∧
    (b = true → ∃ C, cls = .ref C ∧ ∀ a, H a = none → ts a cls d (endV D i a C d) (σ.set i (some (.ref a))) H)
section
variable {X : Cx} {x n : Str} {c : Value} {i : Nat} {body suite : List Stmt} {b₀ : Stmt} {np pos pos' : Pos} {tb : WX → TS} {ts : Addr → Value → Option Addr → TS} {Wo : WX}
theorem ps_try_v (hs : X.stack = X.env :: X.outer) (hf : X.env.frame = some X.env.locals) (hx : X.ex = [])
    (hN : X.N.Nodup) (hi : X.N[i]? = some n) (hln : X.env.kindOf n = some .local) (hc : Names X x c) (tk : Takes X Wo)
    (hb : ∀ W pn xe, Takes (X.tr pn xe) W → PassesOwn (model X.prog X.w) X.A X.env xe → PSs (X.tr pn xe) body (tb W))
    (hsu : ∀ a oe cls d pn, Zc cls d oe → (∃ vs, oe.data = .fields vs) → PSs (X.suite a ((a, oe) :: pn)) (b₀ :: suite) (ts a cls d)) :
    PS X (.Try body [.ExceptHandler (some (.Name x np)) (some n) (b₀ :: suite) pos'] [] [] pos) fun D σ H => tb (wVal X.K c i ts Wo D) D σ H := by
  constructor
  intro pins s σ H D I hyp
  have ok := I.ok
  have frames : X.A.frames = some (X.env :: X.outer) := by
    rw [ok.frames, hs]
  apply wpAny_Try_except
  let land : Value → Shared → Prop := fun e t1 => wpAny (model X.prog X.w) X.A (noteFrame e X.env)
    (fun _ t2 => wpAny (model X.prog X.w) X.A (setFlight e none) (fun _ t3 => wpAny (model X.prog X.w) X.A
      (handleBy e X.env [.ExceptHandler (some (.Name x np)) (some n) (b₀ :: suite) pos']) (SP X pins D) X.xe t3) X.xe t2) X.xe t1
  have takes : Takes (X.tr (X.pn ++ pins) land) (wVal X.K c i ts Wo D) := by
    rintro _ t ⟨a, B, t0, pins2, σ2, H2, cls, d, rfl, J0, below, up, sky, free, os, bare, b, hb1, no, yes⟩
    have J : Inv X pins σ2 H2 t0 := J0.ofTry ok
    have sky2 : Sky B (X.env :: X.outer) a (Zc cls d) X.env.locals t.heap := hs ▸ sky
    show wpAny _ X.A (noteFrame (.ref a) X.env) _ _ _
    apply Sky.land Zc.steady frames hf sky2
    intro h3 fly up3
    have J3 : Inv X pins σ2 H2 { t with heap := h3 } := J.landed below fly.1 (up.trans up3) os bare
    obtain ⟨o3, w3, e3, z3, d3⟩ := fly.there
    have notFrame : a ∉ frs (X.env :: X.outer) := by
      intro hm
      obtain ⟨_, o', e', hnf⟩ := fly.2.2.1.mem hm
      rw [e3] at e'
      cases e'
      exact hnf _ d3
    have nL : a ≠ X.env.locals := by
      intro z
      exact notFrame (List.mem_filterMap.mpr ⟨X.env, List.mem_cons_self, by rw [hf, z]⟩)
    have nF : a ∉ X.fs := by
      intro hm
      obtain ⟨e, h1, h2⟩ := List.mem_filterMap.mp hm
      exact notFrame (List.mem_filterMap.mpr ⟨e, List.mem_cons_of_mem _ h1, h2⟩)
    have gone : t0.heap.get? a = none := by
      cases q : t0.heap.get? a with
      | none => rfl
      | some o =>
        have z := below a o q (by rw [hs]; exact notFrame)
        rw [fly.2.1] at z
        cases z
    have n0 : X.s_0.heap.get? a = none := by
      cases q : X.s_0.heap.get? a with
      | none => rfl
      | some o =>
        obtain ⟨o', z⟩ := J.base.there a o q (by rw [hx]; exact List.not_mem_nil)
        rw [gone] at z
        cases z
    have npin : ∀ p ∈ X.pn ++ pins, p.1 ≠ a := by
      intro p hp z
      have q := (J.pin p hp).1
      rw [z, gone] at q
      cases q
    have S3 := J3.suite e3 d3 free nL nF
    apply wpAny_handleBy_cons (codeAny_handlers_test ?_) (by intro q; cases q)
    have look : PySem.W.Looks (model X.prog X.w) h3 (typeOf (.ref a)) cls := by
      intro A Q E s' k q
      exact wpAny_typeOf_ref (k _ _ e3) (by rw [z3.1]; exact q)
    have hit := PySem.W.exm_one (M := model X.prog X.w) J3.kIn look hb1
    have test : ∀ {Q E : Value → Shared → Prop}, Q c { t with heap := h3 } →
        wpAny (model X.prog X.w) (X.A.mark (some (.ref a))) (eval (.Name x np) X.env) Q E { t with heap := h3 } := by
      intro Q E q
      obtain ⟨hg, hdbg, hm | ⟨hm, hv, hnn⟩⟩ := hc
      · exact ld_glob (X := X.suite a ((a, o3) :: (X.pn ++ pins))) S3 hg hm q hdbg
      · exact ld_blt (X := X.suite a ((a, o3) :: (X.pn ++ pins))) S3 hg hm hv q hnn hdbg
    apply test
    apply hit.here
    cases b with
    | true =>
      obtain ⟨C, rfl, hyes⟩ := yes rfl
      apply codeAny_handlers_suite_as
      apply HandSPX.lands_againZ fly
      intro h4 fly4 up4
      have J4 : Inv X pins σ2 H2 { t with heap := h4 } := J.landed below fly4.1 ((up.trans up3).trans up4) os bare
      obtain ⟨o4, w4, e4, z4, d4⟩ := fly4.there
      have S4 := J4.suite e4 d4 free nL nF
      refine store_ok (X := X.suite a ((a, o4) :: (X.pn ++ pins))) (v := .ref a) S4 hN hi (.inl hln) rfl ?_ (.inr hln)
      intro s5 S5
      refine wpAny_mono ((hsu a o4 (.ref C) d (X.pn ++ pins) z4 ⟨_, d4⟩).run [] s5 _ H2 _ S5 (hyes a free)) ?_ (fun _ _ z => z.elim)
      intro f s6 hsp
      have fin : ∀ {σ6 : L2.St} {H6 : Hp} {Q : Shared → Prop}, Inv (X.suite a ((a, o4) :: (X.pn ++ pins))) [] σ6 H6 s6 → (∀ s7, Inv X pins (σ6.set i none) (upd H6 a (exv a C d)) s7 → Q s7) →
          wpAny (model X.prog X.w) X.A (do bindName X.env n .none; unbindBehindTheSuite X.env n pos') (fun _ s7 => Q s7) X.xe s6 := by
        intro σ6 H6 Q S6 hq
        obtain ⟨p1, p2, p3, p4, p5⟩ := S6.pin (a, o4) (List.mem_append_left _ List.mem_cons_self)
        have U := S6.unsuite ok
        exact gone_ok (track U n0 p2 nL p1 d4 npin (exv_ok p1 z4 d4)) hN hi hln hq
      cases f with
      | next =>
        obtain ⟨σ6, H6, S6, q6⟩ := hsp
        exact fin S6 fun s7 J7 => ⟨_, _, J7, q6⟩
      | brk =>
        obtain ⟨σ6, H6, S6, q6⟩ := hsp
        exact fin S6 fun s7 J7 => ⟨_, _, J7, q6⟩
      | cont =>
        obtain ⟨σ6, H6, S6, q6⟩ := hsp
        exact fin S6 fun s7 J7 => ⟨_, _, J7, q6⟩
      | ret u =>
        obtain ⟨v6, σ6, H6, S6, r6, q6⟩ := hsp
        exact fin S6 fun s7 J7 => ⟨_, _, _, J7, r6, q6⟩
    | false =>
      show wpAny _ X.A (handleBy (.ref a) X.env []) _ _ _
      apply wpAny_handleBy_nil
      obtain ⟨k1, k2, k3, oe, vs, T, oT, ts', he, hz, hd, h1, hr⟩ := id fly
      unfold PySem.passOn
      apply wpAny_bind
      apply wpAny_field he hd h1
      rw [if_neg (by simp)]
      have out : wpAny (model X.prog X.w) X.A (setFlight (.ref a) X.env.frame) (fun _ s4 => wpAny (model X.prog X.w) X.A
          (throw (.ref a) : PySem.Sem Flow) (SP X pins D) X.xe s4) X.xe { t with heap := h3 } := by
        rw [hf]
        apply HandSPX.setFlight_upZ fly
        intro h4 hh4 up4
        exact wpAny_throw (tk _ _ ⟨a, B, t0, pins, σ2, H2, cls, d, rfl, J, below, (up.trans up3).trans up4, .inr (.inr (hs ▸ hh4)), free, os, bare, no rfl⟩)
      first
        | exact wpAny_bind (wpAny_pure (wpAny_bind out))
        | exact wpAny_bind out
  refine wpAny_mono ((hb (wVal X.K c i ts Wo D) (X.pn ++ pins) land takes PassesOwn.looking).run [] s σ H D (I.toTry _) hyp) ?_ (fun _ _ z => z)
  intro f s1 hsp
  cases f with
  | next =>
    obtain ⟨σ', H', J', q⟩ := hsp
    exact wpAny_execs_nil ⟨σ', H', J'.ofTry ok, q⟩
  | brk =>
    obtain ⟨σ', H', J', q⟩ := hsp
    exact ⟨σ', H', J'.ofTry ok, q⟩
  | cont =>
    obtain ⟨σ', H', J', q⟩ := hsp
    exact ⟨σ', H', J'.ofTry ok, q⟩
  | ret u =>
    obtain ⟨v, σ', H', J', r, q⟩ := hsp
    exact ⟨v, σ', H', J'.ofTry ok, r, q⟩
end

/-! ### try at content: `except C as n: y = n`, y another name -/
section
variable {X : Cx} {T : Tab} {W : WX} {al : Bool} {x n y : Str} {c : Value} {i j : Nat} {body : List Stmt} {np pos pos' p1 p2 p3 : Pos} {g : Sta → Fl}
/-- which classes (by name) the clause takes -/
def CatchOk (K : PySem.W.Frag) (ct : Str → Option Bool) (c : Value) : Prop := ∀ x b C, ct x = some b → NmC K x C → PySem.W.exmOne K (.ref C) c = some b
def sTryV (ct : Str → Option Bool) (i j : Nat) (g : Sta → Fl) : Sta → Fl := fun s => match g s with
  | .exc e s' => match ct e.cls with
    | some true => match s'.env[i]? with
      | some _ => .nx { s' with env := (s'.env.set j (.v (.xv e.cls e.fs))).set i .un }
      | none => .stuck
    | some false => .exc e s'
    | none => .stuck
  | fl => fl
theorem ExR.dr {K : PySem.W.Frag} {m : List Addr} {M H : Hp} {e : Ex} {C a : Addr} {d : Option Addr} (h : ExR K T m M H e (.ref C) d) (na : M a = none) : DR K m (upd M a (exv a C d)) (.ref a) (.xv e.cls e.fs) := by
  obtain ⟨C', hn, ec, h⟩ := h
  cases ec
  obtain ⟨cl, fs⟩ := e
  rcases h with ⟨h1, rfl⟩ | ⟨dd, vs, rfl, h2, h3⟩
  · dsimp only at h1 hn ⊢
    subst h1
    exact .xn hn upd_same
  · exact .xf hn upd_same (by rw [upd_ne (ne_of_none h2 na)]; exact h2) (DRf.mono (MLe.refl _) (Same.upd na) _ _ h3)
theorem s_tryV {ct : Str → Option Bool} (hs : X.stack = X.env :: X.outer) (hf : X.env.frame = some X.env.locals) (hx : X.ex = []) (hN : X.N.Nodup)
    (hi : X.N[i]? = some n) (hln : X.env.kindOf n = some .local) (hj : X.N[j]? = some y) (hlj : Loc X.env.scope y) (hij : i ≠ j) (hc : Names X x c) (hct : CatchOk X.K ct c) (tk : Takes X W)
    (hb : ∀ W' pn xe, Takes (X.tr pn xe) W' → PassesOwn (model X.prog X.w) X.A X.env xe → SEv (X.tr pn xe) T W' al body g)
    (hd : (n == ("__debug__" : Str)) = false := by decide) (hcd : (n == ("__classdict__" : Str)) = false := by decide)
    (hs3 : swapsWith (.Name n p2) (some (.Name y p1)) p3.line X.env = pure false := by rfl)
    (hfj : X.fn y = true ∨ X.env.scope.names.lookup y = some .local := by first | exact .inl rfl | exact .inr rfl | assumption) :
    SE1 X T W al (.Try body [.ExceptHandler (some (.Name x np)) (some n) [.Assign [.Name y p1] (.Name n p2) p3] pos'] [] [] pos) (sTryV ct i j g) := by
  refine PS.wk (ps_try_v (ts := fun a cls d => tAsg (tVar i) (gName j)) (tb := fun W' => tS X T W' al g) hs hf hx hN hi hln hc tk (fun W' pn xe t po => hb W' pn xe t po) fun a oe cls d pn hz hv => ?_) ?_
  · exact pss_one (ps_set hN hj hlj (pe_var hi (.inl hln) hd hcd) hs3 hfj)
  · rintro D σ H ⟨s, m, M, G, R, a, q⟩
    refine ⟨s, m, M, G, R, a, ?_⟩
    unfold sTryV at q
    cases hg : g s with
    | nx s' => rw [hg] at q; exact q
    | brk s' => rw [hg] at q; exact q
    | cont s' => rw [hg] at q; exact q
    | ret r s' => rw [hg] at q; exact q
    | stuck => rw [hg] at q; exact q
    | exc e s' =>
      rw [hg] at q
      intro cls d σ' H' m' M' e' a' R' xr
      obtain ⟨C, hn, rfl, hfs⟩ := id xr
      dsimp only at q
      cases hc1 : ct e.cls with
      | none => rw [hc1] at q; exact q.elim
      | some b =>
        rw [hc1] at q
        refine ⟨b, hct _ _ _ hc1 hn, fun hb0 => ?_, fun hb1 => ⟨C, rfl, fun x0 hx0 => ?_⟩⟩
        · subst hb0
          exact q _ d σ' H' m' M' e' a' R' xr
        · subst hb1
          cases hi2 : s'.env[i]? with
          | none => simp only [hi2] at q; exact q.elim
          | some sl =>
            simp only [hi2] at q
            obtain ⟨f1, f2, h1, h2, nd, dj⟩ := R'.fp
            have hl : i < σ'.length := by
              rw [← h1.len]
              exact (List.getElem?_eq_some_iff.mp hi2).1
            refine ⟨_, List.getElem?_set_self hl, ?_⟩
            have g2 : Grow H' M' (upd H' x0 (exv x0 C d)) (upd M' x0 (exv x0 C d)) := Grow.share R'.mh hx0
            have hM : M' x0 = none := R'.mh.free hx0
            have R2 := ((R'.grow g2).setV j (xr.dr hM)).setU i none
            have es : ((σ'.set i (some (.ref x0))).set j (some (.ref x0))).set i none = (σ'.set j (some (.ref x0))).set i none := by
              apply List.ext_getElem?
              intro k
              by_cases h1 : i = k
              · subst h1
                by_cases h2 : i < σ'.length
                · rw [List.getElem?_set_self (by simpa using h2), List.getElem?_set_self (by simpa using h2)]
                · rw [List.getElem?_eq_none (by simpa using h2), List.getElem?_eq_none (by simpa using h2)]
              · rw [List.getElem?_set_ne h1, List.getElem?_set_ne h1]
                by_cases h3 : j = k
                · subst h3
                  by_cases h4 : j < σ'.length
                  · rw [List.getElem?_set_self (by simpa using h4), List.getElem?_set_self h4]
                  · rw [List.getElem?_eq_none (by simpa using h4), List.getElem?_eq_none (by simpa using h4)]
                · rw [List.getElem?_set_ne h3, List.getElem?_set_ne h3, List.getElem?_set_ne h1]
            show D.nx (((σ'.set i (some (.ref x0))).set j (some (.ref x0))).set i none) (upd H' x0 (exv x0 C d))
            rw [es]
            exact q _ _ m' _ (e'.trans (Ext.grow g2 R'.gh)) a' R2
end

/-! ### raise C(..), C an own class whose __init__ sets the fields fs -/
def spInit (C : Addr) (fs : List Str) : Sp := fun vs H Q _ => ∃ a ws, vs = .ref a :: ws ∧ ws.length = fs.length ∧ H a = some (exo a C none) ∧
  ∀ dx, H dx = none → dx ≠ a → Q .non (upd (upd H dx (exd dx (fs.zip ws).reverse)) a (exo a C (some dx)))
def ExcT (P : Program) (w : World) (K : PySem.W.Frag) (mg : Str → Option Value) (base : Heap) (x : Str) (fs : List Str) : Prop :=
  fs.length ≤ 1000 ∧ ∃ C fI fd ps, NmC K x C ∧ mg x = some (.ref C) ∧ OexC K C ∧ PySem.W.findIn K (.ref C) "__init__" = some (some (.ref fI)) ∧
    PySem.W.typeIn K (.ref fI) = some (.type "function") ∧ FnOk P w K mg base (L2.CX P w) 1 fI fd ps (spInit C fs) ∧ Binds K fd ps []
section
variable {X : Cx} {T : Tab} {W : WX} {al : Bool} {x : Str} {fs : List Str} {e : Expr} {es : List Expr} {p pos pos2 : Pos} {f : Sta → PR (List D)}
def sRaise (x : Str) (fs : List Str) (f : Sta → PR (List D)) : Sta → Fl := fun s => match f s with
  | .ok ds => if ds.length = fs.length then .exc ⟨x, (fs.zip ds).reverse⟩ s else .stuck
  | .exc e => .exc e s
  | .stuck => .stuck
theorem DRf.append {K : PySem.W.Frag} {m : List Addr} {H : Hp} : ∀ {xs ys : List (Str × V)} {us ws : List (Str × D)}, DRf K m H xs us → DRf K m H ys ws → DRf K m H (xs ++ ys) (us ++ ws)
  | _, _, _, _, .nil, s => s
  | _, _, _, _, .cons r t, s => .cons r (DRf.append t s)
theorem DRf.zipR {K : PySem.W.Frag} {m : List Addr} {H : Hp} : ∀ {fs : List Str} {vs : List V} {ds : List D}, DRs K m H vs ds → DRf K m H (fs.zip vs).reverse (fs.zip ds).reverse
  | [], _, _, _ => by simp; exact .nil
  | _ :: _, _, _, .nil => by simp; exact .nil
  | f :: fs, _, _, .cons r t => by
    rw [List.zip_cons_cons, List.zip_cons_cons, List.reverse_cons, List.reverse_cons]
    exact (DRf.zipR t).append (.cons r .nil)
theorem made_same {H : Hp} {a dx C : Addr} {o : HO} {u : HO} (ha : H a = none) (hd : dx ≠ a) :
    upd (L2.del (upd (upd (upd H a (exo a C none)) dx u) a (exo a C (some dx))) a) dx o = upd H dx o := by
  funext b
  by_cases h1 : b = dx
  · subst h1
    rw [upd_same, upd_same]
  · rw [upd_ne h1, upd_ne h1]
    by_cases h2 : b = a
    · subst h2
      rw [del_same, ha]
    · rw [del_ne h2, upd_ne h2, upd_ne h1, upd_ne h2]
theorem s_raise (E : ExcT X.prog X.w X.K X.mg X.base x fs) (hr : Room 2 X.A) (hg : Gl X x) (tk : Takes X W) (hc : X.calm = true) (ha : PAs X T W (e :: es) f)
    (hdb : (x == ("__debug__" : Str)) = false := by decide) (he : starEach (e :: es) X.env = (false, eval e X.env) :: starEach es X.env := by rfl)
    (hpl : (backTo pos (starEach es X.env)).any (·.1) = false := by rfl) :
    SE1 X T W al (.Raise (some (.Call (.Name x p) (e :: es) [] pos)) none pos2) (sRaise x fs f) := by
  obtain ⟨hl, C, fI, fd, ps, hn, hm, O, iC, tI, F, hb⟩ := E
  refine PS.wk (ps_raise hc tk (pmk_oex O iC tI F hr hb .nil (passes_call (E := fun _ _ _ => False) tk fun _ _ _ _ h => h.elim) hg hm ha hdb he hpl)) ?_
  rintro D σ H ⟨s, m, M, G, R, a, q⟩
  refine ⟨s, m, M, G, R, ?_⟩
  unfold sRaise at q
  cases hf : f s with
  | stuck => rw [hf] at q; exact q
  | exc x' =>
    rw [hf] at q
    exact fun cls d H' M' g xr => q cls d σ H' m M' (Ext.grow g R.gh) a (R.grow g) xr
  | ok ds =>
    rw [hf] at q
    intro ys H' M' g r
    dsimp only at q
    by_cases hlen : ds.length = fs.length
    · rw [if_pos hlen] at q
      have hy : ys.length = fs.length := r.length.trans hlen
      refine ⟨by omega, fun a0 ha0 => ⟨a0, ys, by rw [List.append_nil], hy, upd_same, fun dx hd hne => ⟨rfl, dx, _, upd_same, by rw [upd_ne hne, upd_same], ?_, ?_⟩⟩⟩
      · rw [upd_ne hne] at hd
        exact hd
      · rw [upd_ne hne] at hd
        rw [made_same ha0 hne]
        have g2 : Grow H' M' (upd H' dx (.xd (fs.zip ys).reverse)) (upd M' dx (.xd (fs.zip ys).reverse)) := Grow.share g.mh hd
        refine q _ _ σ _ m _ (Ext.grow (g.trans g2) R.gh) a (R.grow (g.trans g2)) ⟨C, hn, rfl, .inr ⟨dx, _, rfl, upd_same, ?_⟩⟩
        exact DRf.mono (MLe.refl _) g2.mm _ _ (DRf.zipR r)
    · rw [if_neg hlen] at q
      exact q.elim
end
/-! ### .. a class without own __init__, one text -/
def ExcN (K : PySem.W.Frag) (mg : Str → Option Value) (x : Str) : Prop :=
  ∃ C, NmC K x C ∧ mg x = some (.ref C) ∧ PySem.W.excIn K C [.type "ValueError", .type "Exception", .type "BaseException", .type "object"] "ValueError.__new__" = true ∧ PySem.W.keepIn K (.ref C) = true ∧
    PySem.W.subIn K (.ref C) (.type "BaseException") = some true ∧ PySem.W.typeIn K (.ref C) = some (.type "type")
section
variable {X : Cx} {T : Tab} {W : WX} {al : Bool} {x t : Str} {j : Nat} {p p2 pos pos2 : Pos}
def sRaiseN (x : Str) : Sta → Fl := fun s => .exc ⟨x, []⟩ s
theorem s_raiseN (E : ExcN X.K X.mg x) (hg : Gl X x) (tk : Takes X W) (hc : X.calm = true) (hdb : (x == ("__debug__" : Str)) = false := by decide) :
    SE1 X T W al (.Raise (some (.Call (.Name x p) [.Constant (.str t) j p2] [] pos)) none pos2) (sRaiseN x) := by
  obtain ⟨C, hn, hm, xP, kP, bP, tP⟩ := E
  refine PS.wk (ps_raise hc tk (pmk_own PySem.F.excBase_ValueError xP hm kP (raises_own bP tP) hg hdb)) ?_
  rintro D σ H ⟨s, m, M, G, R, a, q⟩
  exact q _ _ σ H m M (Ext.refl ..) a R ⟨C, hn, rfl, .inl ⟨rfl, rfl⟩⟩
end
/-! ### the __init__ of such a class: `B.__init__(self, 'text')`, then the fields -/
/-- the class B, whose __init__ is ValueError's -/
structure BasC (K : PySem.W.Frag) (mg : Str → Option Value) (x : Str) (B : Addr) : Prop where
  mg : mg x = some (.ref B)
  rd : PySem.W.readsIn K B (.type "type") = true
  sg : PySem.W.specialIn K (.ref B) "__getattribute__" = some (some (.builtin "type.__getattribute__"))
  fc : PySem.W.findCls K (.ref B) (.type "type") "__init__" = some (.val (.builtin "ValueError.__init__"))
section
variable {X : Cx} {x : Str} {B : Addr} {e : Expr} {es : List Expr} {ta : TA} {p1 p2 pos : Pos}
theorem pe_beinit {pl : PySem.Sem Bool} (O : BasC X.K X.mg x B) (hg : Gl X x) (ha : PA X (e :: es) ta)
    (hc : eval (.Call (.Attribute (.Name x p1) "__init__" p2) (e :: es) [] pos) X.env = (do
      let ov ← eval (.Name x p1) X.env
      standAt p2.atName
      let (f, first) ← holding [ov] (getMethod ov "__init__" pl)
      callWith pos f first (backTo pos (starEach (e :: es) X.env)) (backToKw pos (keywordEach [] X.env))) := by rfl)
    (hdb : (x == ("__debug__" : Str)) = false := by decide)
    (he : starEach (e :: es) X.env = (false, eval e X.env) :: starEach es X.env := by rfl) (hpl : (backTo pos (starEach es X.env)).any (·.1) = false := by rfl) :
    PE X (.Call (.Attribute (.Name x p1) "__init__" p2) (e :: es) [] pos) (tVeI X.K ta) := by
  constructor
  intro pins s σ H Q I h
  apply PySem.W.methodCall_KW (ld_glob I hg O.mg ?_ hdb) hc
  apply PySem.W.method_cls I.kIn O.sg
  apply PySem.W.cls_value I.kIn O.rd O.fc (by decide +kernel)
  show wpAny _ _ (callWith pos (Value.builtin "ValueError.__init__") [] (backTo pos (starEach (e :: es) X.env)) []) _ _ _
  refine PyProof.Rows.callWith_method1 (thn (ha.run pos pins _ σ H _ (I.tok _) h) ?_) he hpl
  rintro us s1 ⟨vs, H1, I1, r1, a, C, ws, rfl, hl, O2, ea, q⟩
  cases r1 with
  | @cons _ u0 _ ur ra rw' =>
    obtain rfl : u0 = Value.ref a := ra
    have hlen : ur.length ≤ sizeLine := by
      rw [← Paired.length rw', sizeLine_eq]
      omega
    exact oinit_ok O2 I1 ea hlen fun s' J => ⟨.non, H1, J, rfl, q⟩
end
section
variable {P : Program} {w : World} {K : PySem.W.Frag} {mg : Str → Option Value} {base : Heap} {C : Addr} {qual x a b : Str} {st : Stmt} {f : Addr} {fd : FuncData} {t : Str}
theorem init1_ok (O : OexC K C) (nC : PySem.W.findIn K (.ref C) a = some none) (F : Fun K "__init__" qual st f fd) (S : FnScope ["self", a] ["self", a] (defScope st))
    (hb : ∀ (cdv : Value) (A : Around) (outer : List Env) (s : Shared) (H : Hp) (E : XK), Room 0 (A.deeper (envOfC qual (defScope st) s.heap.objs.size f cdv)) →
      PSs (cxOf (L2.CX P w) P w K mg base ["self", a] qual (defScope st) f cdv A outer s H E) (defBody st) (tSeq (tDrop (tVeI K (tCons (tVar 0) (tCons (tC (.str t)) tNil)))) (tOst K a (tVar 0) (tVar 1)))) :
    FnOk P w K mg base (L2.CX P w) 1 f fd ["self", a] (spInit C [a]) := by
  refine F.okX S (fun vs H Q E h => ?_) fun cdv A outer s H vs Q E hr h => ⟨_, hb cdv A outer s H E hr, ?_⟩
  · obtain ⟨a0, ws, rfl, hl, _⟩ := h
    simpa using hl
  · obtain ⟨a0, ws, rfl, hl, ha, q⟩ := h
    obtain ⟨v, rfl⟩ : ∃ v, ws = [v] := by
      match ws, hl with
      | [v], _ => exact ⟨v, rfl⟩
    exact ⟨_, rfl, ⟨a0, C, [.str t], rfl, by simp, O, ha, v, rfl, .ref a0, rfl, a0, C, rfl, O, nC, .inl ⟨ha, fun dx h1 h2 => q dx h1 h2⟩⟩⟩
theorem init2_ok (O : OexC K C) (nC : PySem.W.findIn K (.ref C) a = some none) (nC2 : PySem.W.findIn K (.ref C) b = some none) (F : Fun K "__init__" qual st f fd) (S : FnScope ["self", a, b] ["self", a, b] (defScope st))
    (hb : ∀ (cdv : Value) (A : Around) (outer : List Env) (s : Shared) (H : Hp) (E : XK), Room 0 (A.deeper (envOfC qual (defScope st) s.heap.objs.size f cdv)) →
      PSs (cxOf (L2.CX P w) P w K mg base ["self", a, b] qual (defScope st) f cdv A outer s H E) (defBody st) (tSeq (tDrop (tVeI K (tCons (tVar 0) (tCons (tC (.str t)) tNil)))) (tSeq (tOst K a (tVar 0) (tVar 1)) (tOst K b (tVar 0) (tVar 2))))) :
    FnOk P w K mg base (L2.CX P w) 1 f fd ["self", a, b] (spInit C [a, b]) := by
  refine F.okX S (fun vs H Q E h => ?_) fun cdv A outer s H vs Q E hr h => ⟨_, hb cdv A outer s H E hr, ?_⟩
  · obtain ⟨a0, ws, rfl, hl, _⟩ := h
    simpa using hl
  · obtain ⟨a0, ws, rfl, hl, ha, q⟩ := h
    obtain ⟨v, v2, rfl⟩ : ∃ v v2, ws = [v, v2] := by
      match ws, hl with
      | [v, v2], _ => exact ⟨v, v2, rfl⟩
    refine ⟨_, rfl, ⟨a0, C, [.str t], rfl, by simp, O, ha, v, rfl, .ref a0, rfl, a0, C, rfl, O, nC, .inl ⟨ha, fun dx h1 h2 => ?_⟩⟩⟩
    refine ⟨v2, rfl, .ref a0, rfl, a0, C, rfl, O, nC2, .inr ⟨dx, [(a, v)], upd_same, by rw [upd_ne h2, upd_same], by simp, ?_⟩⟩
    have e : upd (upd (upd H dx (exd dx [(a, v)])) a0 (exo a0 C (some dx))) dx (exd dx [(b, v2), (a, v)]) = upd (upd H dx (exd dx [(b, v2), (a, v)])) a0 (exo a0 C (some dx)) := by
      funext c
      by_cases hc : c = dx
      · subst hc
        rw [upd_same, upd_ne h2, upd_same]
      · rw [upd_ne hc]
        by_cases hc2 : c = a0
        · subst hc2
          rw [upd_same, upd_same]
        · rw [upd_ne hc2, upd_ne hc2, upd_ne hc, upd_ne hc]
    show Q .non (upd (upd (upd H dx (exd dx [(a, v)])) a0 (exo a0 C (some dx))) dx (exd dx [(b, v2), (a, v)]))
    rw [e]
    exact q dx h1 h2
end

/-! ### a caught exception, asked -/
/-- what its class must say -/
structure XcC (K : PySem.W.Frag) (C : Addr) : Prop where
  hcl : (PySem.W.clsIn K C).isSome = true
  ga : PySem.W.findIn K (.ref C) "__getattribute__" = some (some (.builtin "BaseException.__getattribute__"))
  gg : PySem.W.findIn K (.ref C) "__getattr__" = some none
  sb : PySem.W.subIn K (.ref C) (.type "BaseException") = some true
  ac : PySem.W.findIn K (.ref C) "__class__" = some (some (.builtin "object.__class__"))
  gn : PySem.W.specialIn K (.builtin "object.__class__") "__get__" = some (some (.builtin "getset_descriptor.__get__"))
  tk : PySem.W.takesIn K (.builtin "object.__class__") = some true
  mr : PySem.W.mroIn K C (.type "object") = some true
  hd : PySem.W.hasDictIn K C = true
section
variable {X : Cx} {pins : List (Addr × Obj)} {σ : L2.St} {H : Hp} {s : Shared} {a C : Addr} {d : Option Addr}
/-- the dict of a tracked exception, if any, is tracked -/
def HasD (H : Hp) (d : Option Addr) : Prop := d = none ∨ ∃ dd fs, d = some dd ∧ H dd = some (.xd fs)
theorem exv_inst (I : Inv X pins σ H s) (e : H a = some (exv a C d)) (hd : HasD H d) : ∃ oe od, PySem.W.InstAt s.heap a oe C od ∧ ∀ dd fs, d = some dd → H dd = some (.xd fs) → ∃ (mA : Str → Option Value) (o2 : Obj), od = some o2 ∧ (∀ f, RelO (fs.lookup f) (mA f)) ∧ ∀ n, PySem.W.lookIn n o2 = some (mA n) := by
  obtain ⟨oe, vs, h1, h2, h3⟩ := exv_at I e
  rcases hd with rfl | ⟨dd, fs, rfl, h4⟩
  · refine ⟨oe, none, ⟨h1, h2.1, by unfold PySem.W.notCls; rw [h3], by rw [h2.2]; trivial⟩, fun dd fs z => by cases z⟩
  · have hx : ObjOk X.prog X.w H s.heap dd (.xd fs) := I.hok dd _ h4
    obtain ⟨mA, hns, hr⟩ := hx
    obtain ⟨o2, ho, hl⟩ := lookIn_ns hns
    refine ⟨oe, some o2, ⟨h1, h2.1, by unfold PySem.W.notCls; rw [h3], by rw [h2.2]; exact ho⟩, fun dd' fs' z z' => ?_⟩
    cases z
    rw [h4] at z'
    cases z'
    exact ⟨mA, o2, rfl, hr, hl⟩
theorem call_isx : CallR X (.builtin "isinstance") fun xs H Q => ∃ a C d c cv b, xs = [.ref a, c] ∧ H a = some (exv a C d) ∧ HasD H d ∧ ClsV c cv ∧ PySem.W.kitOne X.K (.ref C) cv = some b ∧ XcC X.K C ∧ Q (.bl b) H := by
  intro pins s σ H xs us Q I r h
  obtain ⟨a, C, d, c, cv, b, rfl, ha, hd, k, e, x, q⟩ := h
  obtain ⟨u1, u2, rfl, r1, r2⟩ := vals2 r
  have e2 := k.eq r2
  subst e2
  obtain rfl : u1 = Value.ref a := r1
  obtain ⟨oe, od, J, _⟩ := exv_inst I ha hd
  exact PySem.W.kia_one (PySem.W.kitx_exc x.hcl x.ga x.gg x.sb x.ac x.gn x.tk x.mr) I.kIn J e (fun z => nomatch z) fun tk => ⟨.bl b, H, I.tok tk, rfl, q⟩
end
/-- isinstance by a table of class names -/
def IsxOk (K : PySem.W.Frag) (tab : List (Str × Bool)) (cv : Value) : Prop := ∀ x b C, tab.lookup x = some b → NmC K x C → PySem.W.kitOne K (.ref C) cv = some b ∧ XcC K C
def gIsx (tab : List (Str × Bool)) : D → Option RV
  | .xv c _ => (tab.lookup c).map fun b => sh (.bool b)
  | _ => none
def gXf (cs : List Str) (f : Str) : D → Option RV
  | .xv c fs => if c ∈ cs then (fs.lookup f).map sh else none
  | _ => none
def XfOk (K : PySem.W.Frag) (cs : List Str) (f : Str) : Prop := ∀ c ∈ cs, ∀ C, NmC K c C → XcC K C ∧ PySem.W.findIn K (.ref C) f = some none
section
variable {X : Cx} {T : Tab} {W : WX} {a o : Expr} {fa : Sta → PR RV} {p p' pos : Pos} {x f : Str} {tab : List (Str × Bool)} {cs : List Str}
theorem Arg.xv {K : PySem.W.Frag} {m : List Addr} {M H : Hp} {y : V} {c : Str} {fs : List (Str × D)} (h : Arg K m M H y (.xv c fs)) (s : Same M H) :
    ∃ (a C : Addr) (d : Option Addr) (vs : List (Str × V)), y = .ref a ∧ NmC K c C ∧ H a = some (exv a C d) ∧ HasD H d ∧ DRf K m M vs fs ∧ (d = none → fs = []) ∧ ∀ dd, d = some dd → H dd = some (.xd vs) := by
  rcases h with h | ⟨a, o, rfl, h2, h3⟩
  · cases h with
    | xn h1 h2 => exact ⟨_, _, none, [], rfl, h1, s _ _ h2, .inl rfl, .nil, fun _ => rfl, fun _ z => by cases z⟩
    | xf h1 h2 h3 h4 => exact ⟨_, _, some _, _, rfl, h1, s _ _ h2, .inr ⟨_, _, rfl, s _ _ h3⟩, h4, (fun z => by cases z), fun _ z => by cases z; exact s _ _ h3⟩
  · cases h3
theorem ev_isx_of {c : V} {cv : Value} (k : ClsV c cv) (hc : PE X (.Name x p') (tC c)) (ok : IsxOk X.K tab cv) (ha : PEv X T W a fa) (hg : Gl X "isinstance") (hm : X.mg "isinstance" = Option.none)
    (he1 : starEach [.Name x p'] X.env = (false, eval (.Name x p') X.env) :: starEach [] X.env := by rfl)
    (he : starEach [a, .Name x p'] X.env = (false, eval a X.env) :: starEach [.Name x p'] X.env := by rfl) (hpl : (backTo pos (starEach [.Name x p'] X.env)).any (·.1) = false := by rfl) :
    PEv X T W (.Call (.Name "isinstance" p) [a, .Name x p'] [] pos) (p1 (gIsx tab) fa) := by
  refine PE.wk (pe_callB call_isx hg hm (by decide +kernel) (pa_cons ha (pa_cons hc pa_nil he1) he) (by decide) (by decide) he hpl) ?_
  rintro σ H Q ⟨s, m, M, G, R, q⟩
  refine ⟨s, m, M, G, R, ?_⟩
  revert q
  unfold p1 PR.bind
  cases fa s with
  | exc e => intro q; exact q
  | stuck => intro q; exact q
  | ok r =>
    intro q y H1 M1 g1 rr
    dsimp only at q
    obtain ⟨rk, rd⟩ := r
    cases rd <;> try (exact q.elim)
    rename_i cn fs
    cases hb : tab.lookup cn with
    | none => simp only [gIsx, hb, Option.map_none, PR.of] at q
    | some b =>
      simp only [gIsx, hb, Option.map_some, PR.of] at q
      obtain ⟨a0, C, d, vs, rfl, hn, h1, h2, _⟩ := rr.arg.xv g1.mh
      obtain ⟨h3, h4⟩ := ok _ _ _ hb hn
      exact ⟨a0, C, d, c, cv, b, rfl, h1, h2, k, h3, h4, q _ H1 M1 g1 (.bl b)⟩
theorem ev_isx {C : Addr} (hgx : Gl X x) (hmx : X.mg x = some (.ref C)) (ok : IsxOk X.K tab (.ref C)) (ha : PEv X T W a fa) (hg : Gl X "isinstance") (hm : X.mg "isinstance" = Option.none) (hdx : (x == ("__debug__" : Str)) = false := by decide)
    (he1 : starEach [.Name x p'] X.env = (false, eval (.Name x p') X.env) :: starEach [] X.env := by rfl)
    (he : starEach [a, .Name x p'] X.env = (false, eval a X.env) :: starEach [.Name x p'] X.env := by rfl) (hpl : (backTo pos (starEach [.Name x p'] X.env)).any (·.1) = false := by rfl) :
    PEv X T W (.Call (.Name "isinstance" p) [a, .Name x p'] [] pos) (p1 (gIsx tab) fa) := ev_isx_of (.own C) (pe_glob hgx hmx rfl hdx) ok ha hg hm he1 he hpl
theorem ev_isxB {n : String} (hgx : Gl X x) (hmx : X.mg x = Option.none) (hv : bootBuiltins x = some (.type n)) (ok : IsxOk X.K tab (.type n)) (ha : PEv X T W a fa) (hg : Gl X "isinstance") (hm : X.mg "isinstance" = Option.none) (hnx : x ≠ "__name__" := by decide) (hdx : (x == ("__debug__" : Str)) = false := by decide)
    (he1 : starEach [.Name x p'] X.env = (false, eval (.Name x p') X.env) :: starEach [] X.env := by rfl)
    (he : starEach [a, .Name x p'] X.env = (false, eval a X.env) :: starEach [.Name x p'] X.env := by rfl) (hpl : (backTo pos (starEach [.Name x p'] X.env)).any (·.1) = false := by rfl) :
    PEv X T W (.Call (.Name "isinstance" p) [a, .Name x p'] [] pos) (p1 (gIsx tab) fa) := ev_isx_of (.ty n) (pe_bltn (v := .ty n) hgx hmx hv rfl hnx hdx) ok ha hg hm he1 he hpl
/-- e.f of a caught exception -/
def tXv (K : PySem.W.Frag) (f : Str) (te : TE) : TE := fun σ H Q => te σ H fun x H1 => ∃ (a C dd : Addr) (vs : List (Str × V)) (v : V), x = .ref a ∧ H1 a = some (exv a C (some dd)) ∧ H1 dd = some (.xd vs) ∧ vs.lookup f = some v ∧ XcC K C ∧ PySem.W.findIn K (.ref C) f = some none ∧ Q v H1
theorem pe_xv {te : TE} (he : PE X o te) (hb : attributeBase o f X.env (eval o X.env) = eval o X.env) : PE X (.Attribute o f pos) (tXv X.K f te) := by
  constructor
  intro pins s σ H Q I h
  apply attr_of hb
  refine thn (he.run pins s σ H _ I h) ?_
  rintro u s1 ⟨x, H1, I1, rx, a, C, dd, vs, v, rfl, ea, ed, l, xc, no, q⟩
  obtain rfl : u = Value.ref a := rx
  obtain ⟨oe, od, J, hJ⟩ := exv_inst I1 ea (.inr ⟨dd, vs, rfl, ed⟩)
  obtain ⟨mA, o2, rfl, hr, hl⟩ := hJ dd vs rfl ed
  obtain ⟨u, hu, ru⟩ := RelO.some_of (v := v) (o := mA f) (by rw [← l]; exact hr f)
  exact HandSPX.exc_get I1.kIn J xc.ga xc.gg xc.sb (PySem.W.findObj_own xc.hd no rfl (by rw [hl, hu])) (handed_of ru) ⟨v, H1, I1.tok _, ru, q⟩
theorem DRf.look {K : PySem.W.Frag} {m : List Addr} {H : Hp} {f : Str} {d : D} : ∀ {vs : List (Str × V)} {fs : List (Str × D)}, DRf K m H vs fs → fs.lookup f = some d → ∃ v, vs.lookup f = some v ∧ DR K m H v d
  | _, _, .nil, e => by cases e
  | _, _, .cons (k := k) (v := v) r t, e => by
    by_cases h : f = k
    · subst h
      simp only [List.lookup_cons, BEq.rfl] at e ⊢
      cases e
      exact ⟨v, rfl, r⟩
    · have hb : (f == k) = false := beq_eq_false_iff_ne.mpr h
      simp only [List.lookup, hb] at e ⊢
      exact DRf.look t e
theorem ev_xf (ok : XfOk X.K cs f) (ho : PEv X T W o fa) (hb : attributeBase o f X.env (eval o X.env) = eval o X.env := by rfl) : PEv X T W (.Attribute o f pos) (p1 (gXf cs f) fa) := by
  refine PE.wk (pe_xv ho hb) ?_
  rintro σ H Q ⟨s, m, M, G, R, q⟩
  refine ⟨s, m, M, G, R, ?_⟩
  revert q
  unfold p1 PR.bind
  cases fa s with
  | exc e => intro q; exact q
  | stuck => intro q; exact q
  | ok r =>
    intro q y H1 M1 g1 rr
    dsimp only at q
    obtain ⟨rk, rd⟩ := r
    cases rd <;> try (exact q.elim)
    rename_i cn fs
    by_cases hc : cn ∈ cs
    · cases hb : fs.lookup f with
      | none => simp only [gXf, if_pos hc, hb, Option.map_none, PR.of] at q
      | some d =>
        simp only [gXf, if_pos hc, hb, Option.map_some, PR.of] at q
        obtain ⟨a0, C, dd, vs, rfl, hn, h1, h2, h3, h4, h5⟩ := rr.arg.xv g1.mh
        obtain ⟨h6, h7⟩ := ok _ hc _ hn
        cases dd with
        | none =>
          rw [h4 rfl] at hb
          cases hb
        | some dd =>
          obtain ⟨v, h8, h9⟩ := h3.look hb
          exact ⟨a0, C, dd, vs, v, rfl, h1, h5 _ rfl, h8, h6, h7, q v H1 M1 g1 h9⟩
    · simp only [gXf, if_neg hc, PR.of] at q
end

/-! ### list.count, list.index of flat items; ^ -/
section
variable {X : Cx}
def rCnt (K : PySem.W.Frag) : V → List V → Hp → VK → Prop := fun x xs H Q => ∃ (p : Addr) (ys : List V) (y : V), x = .ref p ∧ xs = [y] ∧ SqL K H p ys ∧ flatV y = true ∧ ys.all flatV = true ∧ Q (.int (ys.countP fun z => eqV z y : Nat)) H
theorem count_eqU {y : V} : ∀ {ys : List V} {us : List Value}, Vals ys us → ys.all flatV = true → us.countP (eqU y) = ys.countP fun z => eqV z y
  | _, _, .nil, _ => rfl
  | z :: ys, u :: us, .cons r t, f => by
    rw [List.all_cons, Bool.and_eq_true] at f
    rw [List.countP_cons, List.countP_cons, count_eqU t f.2, eqU_of r f.1]
theorem mt_cnt : MtR X "list.count" (rCnt X.K) := by
  intro pins s σ H x xs v us Q I rx rxs h
  obtain ⟨p, ys, y, rfl, rfl, hs, fy, fys, q⟩ := h
  cases rx
  obtain ⟨u, rfl, ru⟩ := rxs.one
  obtain ⟨its, rv, ⟨⟨cls, dd, data, sl⟩, n, ho, hc, hdn, hd⟩, hlen⟩ := I.list hs
  simp only at hc hd
  subst hc hd
  refine call_meets PySem.F.slot_list_count ⟨_, ho, rfl⟩ PySem.F.entry_list_count (PySem.F.args_list_count_2 _ _)
    (SeqAt.list_countAt p its.toArray n dd sl u (eqU y)) ⟨ho, fun w hw => mem_eqAt ru fy rv fys w (by simpa using hw), ?_⟩
  have ec : its.toArray.toList.countP (eqU y) = ys.countP fun z => eqV z y := count_eqU rv fys
  refine ⟨.int (ys.countP fun z => eqV z y : Nat), H, I.tok _, ⟨s.toks, ?_⟩, q⟩
  show Value.int ((its.toArray.toList.countP (eqU y) : Nat) : Int) s.toks = _
  rw [ec]
end
/-- a method of a list, one argument, that changes nothing -/
def pMt (g : List D → D → Option RV) (fo fe : Sta → PR RV) : Sta → PR RV := fun s => (fo s).bind fun r => match lstOf r.d with
  | some ds => (fe s).bind fun y => PR.of (g ds y.d)
  | none => .stuck
def gCount (ds : List D) (y : D) : Option RV := if ds.all flatD = true ∧ flatD y = true then some (sh (.int (ds.countP fun z => eqF z y : Nat))) else none
def gIndex (ds : List D) (y : D) : Option RV := if ds.all flatD = true ∧ flatD y = true then (ds.findIdx? fun z => eqF z y).map fun j => sh (.int (j : Nat)) else none
section
variable {X : Cx} {T : Tab} {W : WX} {o e : Expr} {fo fe : Sta → PR RV} {apos cpos : Pos}
theorem lstOf_ok {K : PySem.W.Frag} {m : List Addr} {M H : Hp} {y : V} {d : D} {ds : List D} (h : Arg K m M H y d) (e : lstOf d = some ds) (s : Same M H) : ∃ a xs, y = .ref a ∧ SqL K H a xs ∧ DRs K m M xs ds := by
  cases d <;> try (cases e; done)
  · cases e
    obtain ⟨a, xs, h1, h2, h3⟩ := h.list s
    exact ⟨a, xs, h1, SqL.of h2, h3⟩
  · cases e
    obtain ⟨a, xs, h1, h2, h3⟩ := h.lk s
    exact ⟨a, xs, h1, h2, h3⟩
theorem count_eqF {K : PySem.W.Frag} {m : List Addr} {H : Hp} {x : V} {d : D} (h : DR K m H x d) (f : flatD d = true) : ∀ {vs : List V} {ds : List D}, DRs K m H vs ds → ds.all flatD = true → (vs.countP fun y => eqV y x) = ds.countP fun z => eqF z d
  | _, _, .nil, _ => rfl
  | _, _, .cons r t, g => by
    rw [List.all_cons, Bool.and_eq_true] at g
    rw [List.countP_cons, List.countP_cons, count_eqF h f t g.2, eqV_eqF r h g.1 f]
theorem Same.seqL {K : PySem.W.Frag} {H H' : Hp} {a : Addr} {xs : List V} (e : Same H H') (h : SqL K H a xs) : SqL K H' a xs := e.seq h
/-- the rule's promise by content -/
def MtOk (K : PySem.W.Frag) (r : V → List V → Hp → VK → Prop) (g : List D → D → Option RV) : Prop := ∀ m M H a xs y ds d res Q, Same M H → SqL K H a xs → DRs K m M xs ds → Arg K m M H y d → g ds d = some res →
  (∀ z H' M', Grow H M H' M' → RR K m M' H H' z res → Q z H') → r (.ref a) [y] H Q
theorem mt_of {r : V → List V → Hp → VK → Prop} {g : List D → D → Option RV} (hg : MtOk X.K r g) {σ : L2.St} {H : Hp} {Q : VK} (h : tP X T W (pMt g fo fe) σ H Q) : tBM X.K "list" r (tP X T W fo) (tCons (tP X T W fe) tNil) σ H Q := by
  obtain ⟨s, m, M, G, R, q⟩ := h
  refine ⟨s, m, M, G, R, ?_⟩
  revert q
  unfold pMt PR.bind
  cases fo s with
  | exc e => intro q; exact q
  | stuck => intro q; exact q
  | ok r1 =>
    intro q y H1 M1 g1 rr1
    dsimp only at q
    cases hl : lstOf r1.d with
    | none => simp only [hl] at q
    | some ds =>
      simp only [hl] at q
      obtain ⟨a, xs, rfl, h2, h3⟩ := lstOf_ok rr1.arg hl g1.mh
      refine ⟨.inl ⟨rfl, xs, h2⟩, s, m, M1, G, R.grow g1, ?_⟩
      cases hf : fe s with
      | exc e => rw [hf] at q; exact fun cls d H' M' g xr => q cls d H' M' (g1.trans g) xr
      | stuck => rw [hf] at q; exact q
      | ok r2 =>
        simp only [hf] at q
        intro y2 H2 M2 g2 rr2
        cases hr : g ds r2.d with
        | none => simp only [hr, PR.of] at q
        | some res =>
          simp only [hr, PR.of] at q
          exact hg m M2 H2 a xs y2 ds _ res Q g2.mh (g2.same.seq h2) (h3.up g2.mm) rr2.arg hr fun z H' M' g3 rr3 => q z H' M' ((g1.trans g2).trans g3) (rr3.since (g1.trans g2).same)
theorem ok_count : MtOk X.K (rCnt X.K) gCount := by
  intro m M H a xs y ds d res Q s h1 h2 h3 e k
  unfold gCount at e
  by_cases hc : ds.all flatD = true ∧ flatD d = true
  · rw [if_pos hc] at e
    cases e
    have hd : DR X.K m H y d := h3.dr s
    have hx := h2.up s
    refine ⟨a, xs, y, rfl, rfl, h1, hd.flat hc.2, hx.flat hc.1, ?_⟩
    rw [count_eqF hd hc.2 hx hc.1]
    exact k _ H M (Grow.refl s) (.int _)
  · rw [if_neg hc] at e
    cases e
theorem ok_index : MtOk X.K (rIndex X.K) gIndex := by
  intro m M H a xs y ds d res Q s h1 h2 h3 e k
  unfold gIndex at e
  by_cases hc : ds.all flatD = true ∧ flatD d = true
  · rw [if_pos hc] at e
    cases hj : ds.findIdx? fun z => eqF z d with
    | none => rw [hj] at e; cases e
    | some j =>
      rw [hj] at e
      cases e
      have hd : DR X.K m H y d := h3.dr s
      have hx := h2.up s
      obtain ⟨hjl, hjt, hjm⟩ := List.findIdx?_eq_some_iff_getElem.mp hj
      obtain ⟨z, hz1, hz2⟩ := hx.get (List.getElem?_eq_getElem hjl)
      have fl : ∀ {i : Nat} {w : D}, ds[i]? = some w → flatD w = true := fun h => List.all_eq_true.mp hc.1 _ (List.mem_of_getElem? h)
      refine ⟨a, xs, y, j, z, rfl, rfl, h1, hd.flat hc.2, hx.flat hc.1, hz1, ?_, fun i z' hi hz' => ?_, k _ H M (Grow.refl s) (.int _)⟩
      · rw [eqV_eqF hz2 hd (fl (List.getElem?_eq_getElem hjl)) hc.2]
        exact hjt
      · obtain ⟨w, hw1, hw2⟩ := hx.get' hz'
        rw [eqV_eqF hw2 hd (fl hw1) hc.2]
        have hil : i < ds.length := (List.getElem?_eq_some_iff.mp hw1).1
        have e1 : ds[i] = w := (List.getElem?_eq_some_iff.mp hw1).2
        have := hjm i hi
        rw [e1] at this
        simpa using this
  · rw [if_neg hc] at e
    cases e
theorem ev_count (ho : PEv X T W o fo) (he : PEv X T W e fe)
    (hbase : attributeBase o "count" X.env (eval o X.env) = eval o X.env := by rfl)
    (hfew : ((backTo cpos (starEach [e] X.env)).all (fun x => !x.1) && (backToKw cpos (keywordEach [] X.env)).all (fun x => x.1.isSome)
      && decide ([e].length + ([] : List Keyword).length + (if ([] : List Keyword).isEmpty then 0 else 1) < 30)) = true := by rfl)
    (hline : (apos.endLine == cpos.line) = true := by rfl) (hs : starEach [e] X.env = (false, eval e X.env) :: starEach [] X.env := by rfl) (hplain : (backTo cpos (starEach [] X.env)).any (·.1) = false := by rfl) :
    PEv X T W (.Call (.Attribute o "count" apos) [e] [] cpos) (pMt gCount fo fe) :=
  PE.wk (pe_bm PySem.F.plainAttrs_list PySem.F.slot_list_count PySem.F.type_list_count mt_cnt ho (pa_cons he pa_nil hs) hbase hfew hline hs hplain) fun σ H Q h => mt_of ok_count h
theorem ev_index (ho : PEv X T W o fo) (he : PEv X T W e fe)
    (hbase : attributeBase o "index" X.env (eval o X.env) = eval o X.env := by rfl)
    (hfew : ((backTo cpos (starEach [e] X.env)).all (fun x => !x.1) && (backToKw cpos (keywordEach [] X.env)).all (fun x => x.1.isSome)
      && decide ([e].length + ([] : List Keyword).length + (if ([] : List Keyword).isEmpty then 0 else 1) < 30)) = true := by rfl)
    (hline : (apos.endLine == cpos.line) = true := by rfl) (hs : starEach [e] X.env = (false, eval e X.env) :: starEach [] X.env := by rfl) (hplain : (backTo cpos (starEach [] X.env)).any (·.1) = false := by rfl) :
    PEv X T W (.Call (.Attribute o "index" apos) [e] [] cpos) (pMt gIndex fo fe) :=
  PE.wk (pe_bm PySem.F.plainAttrs_list PySem.F.slot_list_index PySem.F.type_list_index mt_index ho (pa_cons he pa_nil hs) hbase hfew hline hs hplain) fun σ H Q h => mt_of ok_index h
def gXor : D → D → Option RV := gI0 fun i j => .int (Builtin.bitXor i j)
theorem ok_xor : Op2Ok X (binaryOp .BitXor) gXor := ok_I0 op_xor fun _ _ _ _ => .int _
end
/-! ### as equations -/
section
variable {env : List Slot} {st : List Ob}
def xMt (g : List D → D → Option RV) (fe : Sta → PR RV) (s : Sta) : PR RV → PR RV
  | .ok ⟨_, .list ds⟩ => x1 (g ds) (fe s)
  | .ok ⟨_, .lk ds⟩ => x1 (g ds) (fe s)
  | .ok _ => .stuck
  | .exc e => .exc e
  | .stuck => .stuck
theorem e_pMt (g : List D → D → Option RV) (fo fe : Sta → PR RV) : pMt g fo fe ⟨env, st⟩ = xMt g fe ⟨env, st⟩ (fo ⟨env, st⟩) := by
  unfold pMt PR.bind xMt
  rcases fo ⟨env, st⟩ with ⟨k, d⟩ | e | _ <;> try rfl
  cases d <;> try rfl
  · simp only [lstOf]
    unfold x1
    cases fe ⟨env, st⟩ <;> rfl
  · simp only [lstOf]
    unfold x1
    cases fe ⟨env, st⟩ <;> rfl
theorem e_xMtL (g : List D → D → Option RV) (fe : Sta → PR RV) (s : Sta) (k : RK) (ds : List D) : xMt g fe s (.ok ⟨k, .list ds⟩) = x1 (g ds) (fe s) := Eq.trans rfl rfl
theorem e_xMtK (g : List D → D → Option RV) (fe : Sta → PR RV) (s : Sta) (k : RK) (ds : List D) : xMt g fe s (.ok ⟨k, .lk ds⟩) = x1 (g ds) (fe s) := Eq.trans rfl rfl
theorem g_xor (i j : Int) : gXor (.int i) (.int j) = some ⟨.sh, .int (Builtin.bitXor i j)⟩ := Eq.trans rfl rfl
def xRa (x : Str) (fs : List Str) (s : Sta) : PR (List D) → Fl
  | .ok ds => if ds.length = fs.length then .exc ⟨x, (fs.zip ds).reverse⟩ s else .stuck
  | .exc e => .exc e s
  | .stuck => .stuck
theorem s_Raise (x : Str) (fs : List Str) (f : Sta → PR (List D)) : sRaise x fs f ⟨env, st⟩ = xRa x fs ⟨env, st⟩ (f ⟨env, st⟩) := by
  unfold sRaise xRa
  cases f ⟨env, st⟩ <;> rfl
theorem s_xRa1 (x a : Str) (s : Sta) (d : D) : xRa x [a] s (.ok [d]) = .exc ⟨x, [(a, d)]⟩ s := Eq.trans rfl rfl
theorem s_xRa2 (x a b : Str) (s : Sta) (d d' : D) : xRa x [a, b] s (.ok [d, d']) = .exc ⟨x, [(b, d'), (a, d)]⟩ s := Eq.trans rfl rfl
theorem s_RaiseN (x : Str) : sRaiseN x ⟨env, st⟩ = .exc ⟨x, []⟩ ⟨env, st⟩ := Eq.trans rfl rfl
def xTV (ct : Str → Option Bool) (i j : Nat) : Fl → Fl
  | .exc e s' => match ct e.cls with
    | some true => match s'.env[i]? with
      | some _ => .nx { s' with env := (s'.env.set j (.v (.xv e.cls e.fs))).set i .un }
      | none => .stuck
    | some false => .exc e s'
    | none => .stuck
  | fl => fl
theorem s_TryV (ct : Str → Option Bool) (i j : Nat) (g : Sta → Fl) : sTryV ct i j g ⟨env, st⟩ = xTV ct i j (g ⟨env, st⟩) := by
  unfold sTryV xTV
  cases g ⟨env, st⟩ <;> rfl
theorem s_xTVn (ct : Str → Option Bool) (i j : Nat) (s : Sta) : xTV ct i j (.nx s) = .nx s := Eq.trans rfl rfl
theorem s_xTVr (ct : Str → Option Bool) (i j : Nat) (r : Slot) (s : Sta) : xTV ct i j (.ret r s) = .ret r s := Eq.trans rfl rfl
theorem s_xTVe {ct : Str → Option Bool} {i j : Nat} {c : Str} {fs : List (Str × D)} (h : ct c = some true) (hi : i < env.length) : xTV ct i j (.exc ⟨c, fs⟩ ⟨env, st⟩) = .nx ⟨(env.set j (.v (.xv c fs))).set i .un, st⟩ := by
  unfold xTV
  simp only [h, List.getElem?_eq_getElem hi]
end

/-! ### as a law's text takes them -/
def CatX (K : PySem.W.Frag) (mg : Str → Option Value) (x : Str) (ct : Str → Option Bool) : Prop := ∃ C, mg x = some (.ref C) ∧ CatchOk K ct (.ref C)
def IsX (K : PySem.W.Frag) (mg : Str → Option Value) (x : Str) (tab : List (Str × Bool)) : Prop := ∃ C, mg x = some (.ref C) ∧ IsxOk K tab (.ref C)
section
variable {K : PySem.W.Frag} {c cv : Value} {x f : Str} {C : Addr} {b : Bool} {l : List (Str × Bool)} {cs : List Str}
theorem lookup_cases {α : Type} {x y : Str} {b b' : α} {l : List (Str × α)} (h : List.lookup y ((x, b) :: l) = some b') : (y = x ∧ b = b') ∨ l.lookup y = some b' := by
  by_cases e : y = x
  · subst e
    simp only [List.lookup_cons, BEq.rfl] at h
    exact .inl ⟨rfl, Option.some.inj h⟩
  · have q : (y == x) = false := beq_eq_false_iff_ne.mpr e
    simp only [List.lookup, q] at h
    exact .inr h
theorem catch_nil : CatchOk K (fun y => List.lookup y []) c := fun _ _ _ h => by cases h
theorem catch_cons (h : NmC K x C) (e : PySem.W.exmOne K (.ref C) c = some b) (r : CatchOk K (fun y => List.lookup y l) c) : CatchOk K (fun y => List.lookup y ((x, b) :: l)) c := fun y b' C' h1 h2 => by
  rcases lookup_cases h1 with ⟨rfl, rfl⟩ | h3
  · rw [← h.eq h2]
    exact e
  · exact r _ _ _ h3 h2
theorem isx_nil : IsxOk K [] cv := fun _ _ _ h => by cases h
theorem isx_cons (h : NmC K x C) (e : PySem.W.kitOne K (.ref C) cv = some b) (o : XcC K C) (r : IsxOk K l cv) : IsxOk K ((x, b) :: l) cv := fun y b' C' h1 h2 => by
  rcases lookup_cases h1 with ⟨rfl, rfl⟩ | h3
  · rw [← h.eq h2]
    exact ⟨e, o⟩
  · exact r _ _ _ h3 h2
theorem xf_nil : XfOk K [] f := fun _ h => by cases h
theorem xf_cons (h : NmC K x C) (o : XcC K C) (e : PySem.W.findIn K (.ref C) f = some none) (r : XfOk K cs f) : XfOk K (x :: cs) f := fun y h1 C' h2 => by
  rcases List.mem_cons.mp h1 with rfl | h3
  · rw [← h.eq h2]
    exact ⟨o, e⟩
  · exact r _ h3 _ h2
end
section
variable {X : Cx} {T : Tab} {W : WX} {al : Bool} {x n y : Str} {i j : Nat} {body : List Stmt} {np pos pos' p1 p2 p3 p p' : Pos} {g : Sta → Fl} {ct : Str → Option Bool} {tab : List (Str × Bool)} {a : Expr} {fa : Sta → PR RV}
theorem s_tryC (E : CatX X.K X.mg x ct) (hg : Gl X x) (hs : X.stack = X.env :: X.outer) (hf : X.env.frame = some X.env.locals) (hx : X.ex = []) (hN : X.N.Nodup)
    (hi : X.N[i]? = some n) (hln : X.env.kindOf n = some .local) (hj : X.N[j]? = some y) (hlj : Loc X.env.scope y) (hij : i ≠ j) (tk : Takes X W)
    (hb : ∀ W' pn xe, Takes (X.tr pn xe) W' → PassesOwn (model X.prog X.w) X.A X.env xe → SEv (X.tr pn xe) T W' al body g) (hdb : (x == ("__debug__" : Str)) = false := by decide)
    (hd : (n == ("__debug__" : Str)) = false := by decide) (hcd : (n == ("__classdict__" : Str)) = false := by decide)
    (hs3 : swapsWith (.Name n p2) (some (.Name y p1)) p3.line X.env = pure false := by rfl)
    (hfj : X.fn y = true ∨ X.env.scope.names.lookup y = some .local := by first | exact .inl rfl | exact .inr rfl | assumption) :
    SE1 X T W al (.Try body [.ExceptHandler (some (.Name x np)) (some n) [.Assign [.Name y p1] (.Name n p2) p3] pos'] [] [] pos) (sTryV ct i j g) := by
  obtain ⟨C, hm, ok⟩ := E
  exact s_tryV hs hf hx hN hi hln hj hlj hij ⟨hg, hdb, .inl hm⟩ ok tk hb hd hcd hs3 hfj
theorem ev_isxO (E : IsX X.K X.mg x tab) (hgx : Gl X x) (ha : PEv X T W a fa) (hg : Gl X "isinstance") (hm : X.mg "isinstance" = Option.none) (hdx : (x == ("__debug__" : Str)) = false := by decide)
    (he1 : starEach [.Name x p'] X.env = (false, eval (.Name x p') X.env) :: starEach [] X.env := by rfl)
    (he : starEach [a, .Name x p'] X.env = (false, eval a X.env) :: starEach [.Name x p'] X.env := by rfl) (hpl : (backTo pos (starEach [.Name x p'] X.env)).any (·.1) = false := by rfl) :
    PEv X T W (.Call (.Name "isinstance" p) [a, .Name x p'] [] pos) (MP.p1 (gIsx tab) fa) := by
  obtain ⟨C, hmx, ok⟩ := E
  exact ev_isx hgx hmx ok ha hg hm hdx he1 he hpl
end
/-! ### an exception goes on -/
section
variable {env : List Slot} {st : List Ob}
theorem e_xDe (e : Ex) : xD (.exc e) = .exc e := Eq.trans rfl rfl
theorem e_x1e (g : D → Option RV) (e : Ex) : x1 g (.exc e) = .exc e := Eq.trans rfl rfl
theorem e_x2e (g : D → D → Option RV) (e : Ex) (r : PR RV) : x2 g (.exc e) r = .exc e := Eq.trans rfl rfl
theorem e_xBe (e : Ex) : xB (.exc e) = .exc e := Eq.trans rfl rfl
theorem s_xExe (e : Ex) (s : Sta) : xEx s (.exc e) = .exc e s := Eq.trans rfl rfl
theorem s_xSVe (i : Nat) (e : Ex) : xSV i env st (.exc e) = .exc e ⟨env, st⟩ := Eq.trans rfl rfl
theorem s_xSOe (i : Nat) (e : Ex) : xSO i env st (.exc e) = .exc e ⟨env, st⟩ := Eq.trans rfl rfl
theorem s_xRte (e : Ex) (s : Sta) : xRt s (.exc e) = .exc e s := Eq.trans rfl rfl
theorem s_xIfe (g1 g2 : Sta → Fl) (s : Sta) (e : Ex) : xIf g1 g2 s (.exc e) = .exc e s := Eq.trans rfl rfl
theorem s_xTue (t : Tg) (e : Ex) : xTu t env st (.exc e) = .exc e ⟨env, st⟩ := Eq.trans rfl rfl
theorem s_xThe (i : Nat) (e : Ex) (s : Sta) : xTh i (.exc e s) = .exc e s := Eq.trans rfl rfl
theorem s_xEFe (e : Ex) (s : Sta) : xEF (.exc e s) = .exc e s := Eq.trans rfl rfl
theorem s_xSFe (i : Nat) (e : Ex) (s : Sta) : xSF i (.exc e s) = .exc e s := Eq.trans rfl rfl
theorem s_xRFe (e : Ex) (s : Sta) : xRF (.exc e s) = .exc e s := Eq.trans rfl rfl
theorem fe_exc (e : Ex) (st' : List Ob) : (Fr.exc e st').fe ⟨env, st⟩ = .exc e ⟨env, st'⟩ := Eq.trans rfl rfl
theorem t_exc (I : Sta → Prop) (P : Fl → Prop) (e : Ex) (s : Sta) : Turn I P (.exc e s) = P (.exc e s) := Eq.trans rfl rfl
end
theorem n_xv (c : Str) (fs : List (Str × D)) : D.isNone (.xv c fs) = false := Eq.trans rfl rfl
theorem isx_eq {tab : List (Str × Bool)} {c : Str} {b : Bool} {fs : List (Str × D)} (h : tab.lookup c = some b) : gIsx tab (.xv c fs) = some ⟨.sh, .bool b⟩ := by
  simp only [gIsx, h, Option.map_some]
theorem xf_eq {cs : List Str} {f c : Str} {d : D} {fs : List (Str × D)} (h : c ∈ cs) (h2 : fs.lookup f = some d) : gXf cs f (.xv c fs) = some ⟨.sh, d⟩ := by
  simp only [gXf, if_pos h, h2, Option.map_some]
theorem xf_look0 (f : Str) (d : D) (fs : List (Str × D)) : List.lookup f ((f, d) :: fs) = some d := by
  simp only [List.lookup_cons, BEq.rfl]
theorem xf_look1 {f g : Str} (h : (f == g) = false) (d d' : D) (fs : List (Str × D)) : List.lookup f ((g, d') :: (f, d) :: fs) = some d := by
  simp only [List.lookup, h, BEq.rfl]
end MP

namespace L_k01
open PySem L2 MP
/-! ## what the printer has written: the text by places, the names of each def, its body by content -/
def top (i : Nat) : Stmt := PySem.Challenge.pw_chordbed_k01_frames_made.main.body.getD i (.Pass ⟨0, 0, 0, 0⟩)
abbrev s_l_cell : Stmt := top 17
abbrev s_l_take : Stmt := top 18
abbrev s_l_frame : Stmt := top 19
abbrev s_l_first_bad : Stmt := top 24
abbrev s_frame_of : Stmt := top 15
abbrev s_l_spoilt : Stmt := top 23
abbrev s_l_classes : Stmt := top 22
abbrev s_l_whole : Stmt := top 20
abbrev s_l_refused : Stmt := top 25
abbrev s_law : Stmt := top 26
abbrev s_NoFrame___init__ : Stmt := inClass (top 2) 0
def ct_BedError : Str → Option Bool := fun x => List.lookup x [("NoFrame", true)]
theorem ct_BedError_NoFrame : ct_BedError "NoFrame" = some true := by decide +kernel
def tab_NoChord : List (Str × Bool) := [("NoFrame", false)]
theorem gi_NoChord_NoFrame (fs : List (Str × D)) : gIsx tab_NoChord (.xv "NoFrame" fs) = some ⟨.sh, .bool false⟩ := isx_eq (by decide +kernel)
def tab_NoBed : List (Str × Bool) := [("NoFrame", false)]
theorem gi_NoBed_NoFrame (fs : List (Str × D)) : gIsx tab_NoBed (.xv "NoFrame" fs) = some ⟨.sh, .bool false⟩ := isx_eq (by decide +kernel)
def tab_NoReading : List (Str × Bool) := [("NoFrame", false)]
theorem gi_NoReading_NoFrame (fs : List (Str × D)) : gIsx tab_NoReading (.xv "NoFrame" fs) = some ⟨.sh, .bool false⟩ := isx_eq (by decide +kernel)
def tab_NoFrame : List (Str × Bool) := [("NoFrame", true)]
theorem gi_NoFrame_NoFrame (fs : List (Str × D)) : gIsx tab_NoFrame (.xv "NoFrame" fs) = some ⟨.sh, .bool true⟩ := isx_eq (by decide +kernel)
def tab_NoBook : List (Str × Bool) := [("NoFrame", false)]
theorem gi_NoBook_NoFrame (fs : List (Str × D)) : gIsx tab_NoBook (.xv "NoFrame" fs) = some ⟨.sh, .bool false⟩ := isx_eq (by decide +kernel)
def tab_NoKeys : List (Str × Bool) := [("NoFrame", false)]
theorem gi_NoKeys_NoFrame (fs : List (Str × D)) : gIsx tab_NoKeys (.xv "NoFrame" fs) = some ⟨.sh, .bool false⟩ := isx_eq (by decide +kernel)
def tab_TooMany : List (Str × Bool) := [("NoFrame", false)]
theorem gi_TooMany_NoFrame (fs : List (Str × D)) : gIsx tab_TooMany (.xv "NoFrame" fs) = some ⟨.sh, .bool false⟩ := isx_eq (by decide +kernel)
def tab_NoText : List (Str × Bool) := [("NoFrame", false)]
theorem gi_NoText_NoFrame (fs : List (Str × D)) : gIsx tab_NoText (.xv "NoFrame" fs) = some ⟨.sh, .bool false⟩ := isx_eq (by decide +kernel)
def tab_NoRow : List (Str × Bool) := [("NoFrame", false)]
theorem gi_NoRow_NoFrame (fs : List (Str × D)) : gIsx tab_NoRow (.xv "NoFrame" fs) = some ⟨.sh, .bool false⟩ := isx_eq (by decide +kernel)
def tab_NoWord : List (Str × Bool) := [("NoFrame", false)]
theorem gi_NoWord_NoFrame (fs : List (Str × D)) : gIsx tab_NoWord (.xv "NoFrame" fs) = some ⟨.sh, .bool false⟩ := isx_eq (by decide +kernel)
def tab_ValueError : List (Str × Bool) := [("NoFrame", true)]
theorem gi_ValueError_NoFrame (fs : List (Str × D)) : gIsx tab_ValueError (.xv "NoFrame" fs) = some ⟨.sh, .bool true⟩ := isx_eq (by decide +kernel)
def cs_place : List Str := ["NoFrame"]
theorem gx_place_NoFrame (d_place : D) : gXf cs_place "place" (.xv "NoFrame" [("place", d_place)]) = some ⟨.sh, d_place⟩ := by
  refine xf_eq (by decide +kernel) ?_
  exact xf_look0 _ _ _
def k_MOST_WIRES : D := .int 6
def k_MOST_KEYS : D := .int 12
def b_l_cell : Sta → Fl :=
  sSeq (sIf (pB (p2 gLt (pVar 1) (pCall gLen (pCons (pVar 0) (pNil))))) (sRet (p2 gIx (pVar 0) (pVar 1))) (sNil)) (sRet (pC (.int 0)))
def sem_l_cell : MP.Sem := runB 2 b_l_cell
def lp_l_take_1 : Sta → Fl :=
  sSetV 0 (pD (p2 gDiv (pVar 0) (pC (.int 1000))))
def b_l_take : Sta → Fl :=
  sSeq (sIf (pOr (pB (p2 gLt (pVar 0) (pC (.int 0)))) (pB (p2 gGe (pVar 0) (p2 gPow (pC (.int 10)) (pC (.int 18)))))) (sSeq (sFor (pRng gRng1 (pCons (pVar 1) (pNil))) (.nm 4) (lp_l_take_1)) (sRet (p2 gMod (pVar 0) (pVar 2)))) (sNil)) (sSeq (sSetV 3 (pD (p2 gTimes (p2 gPlus (p2 gPlus (p2 gMod (pVar 0) (pC (.int 1000033))) (p2 gTimes (pC (.int 77)) (pVar 1))) (pC (.int 5))) (p2 gPlus (p2 gTimes (pVar 1) (pVar 1)) (pC (.int 40009)))))) (sRet (p2 gMod (p2 gDiv (p2 gMod (p2 gPlus (p2 gTimes (p2 gMod (pVar 3) (pC (.int 998857))) (pC (.int 30011))) (pVar 1)) (pC (.int 999983))) (pC (.int 3))) (pVar 2))))
def sem_l_take : MP.Sem := runB 5 b_l_take
def lp_l_frame_1 : Sta → Fl :=
  sAppF 6 (fPop 5 (pUser 3 sem_l_take (pCons (pD (pUser 2 sem_l_cell (pCons (pD (pVar 0)) (pCons (pD (p2 gPlus (pC (.int 1)) (pVar 7))) (pNil))))) (pCons (pD (pC (.int 4))) (pCons (pD (pCall gLen (pCons (pVar 5) (pNil)))) (pNil))))))
def b_l_frame : Sta → Fl :=
  sSeq (sSetV 2 (pD (pUser 2 sem_l_cell (pCons (pD (pVar 0)) (pCons (pD (pC (.int 0))) (pNil)))))) (sSeq (sSetV 3 (pD (p2 gPlus (pC (.int 1)) (pUser 3 sem_l_take (pCons (pD (pVar 2)) (pCons (pD (pC (.int 1))) (pCons (pD (pC (.int 6))) (pNil)))))))) (sSeq (sSetV 4 (pD (p2 gPlus (pC (.int 1)) (pUser 3 sem_l_take (pCons (pD (pVar 2)) (pCons (pD (pC (.int 2))) (pCons (pD (pC (.int 6))) (pNil)))))))) (sSeq (sSetO 5 (pComp (pRng gRng1 (pCons (p2 gTimes (pVar 3) (pVar 4)) (pNil))) (.nm 8) [8] (pYes) (pD (pCall gDivmod (pCons (pVar 8) (pCons (pVar 4) (pNil))))))) (sSeq (sSetO 6 (pLst (pNil))) (sSeq (sFor (pRng gRng1 (pCons (pCall gMin (pCons (pCall gLen (pCons (pVar 5) (pNil))) (pCons (p2 gPlus (pC (.int 1)) (pUser 3 sem_l_take (pCons (pD (pVar 2)) (pCons (pD (pC (.int 3))) (pCons (pD (pVar 1)) (pNil)))))) (pNil)))) (pNil))) (.nm 7) (lp_l_frame_1)) (sRet (pTup (pCons (pD (pVar 3)) (pCons (pD (pVar 4)) (pCons (pD (pCall gTuple (pCons (pVar 6) (pNil)))) (pNil)))))))))))
def sem_l_frame : MP.Sem := runB 9 b_l_frame
def lp_l_first_bad_1 : Sta → Fl :=
  sSeq (sTup (.tp [4, 5]) (pD (p2 gIx (pVar 2) (pVar 3)))) (sIf (pOr (pB (p2 gLt (pVar 4) (pC (.int 0)))) (pOr (pB (p2 gGe (pVar 4) (pVar 0))) (pOr (pB (p2 gLt (pVar 5) (pC (.int 0)))) (pOr (pB (p2 gGe (pVar 5) (pVar 1))) (pB (p2 gIn (p2 gIx (pVar 2) (pVar 3)) (pSl (pVar 2) (pNo) (pSome (pVar 3))))))))) (sRet (pTup (pCons (pD (pC (.bool true))) (pCons (pD (pVar 3)) (pNil))))) (sNil))
def b_l_first_bad : Sta → Fl :=
  sSeq (sIf (pOr (pB (p2 gLt (pVar 0) (pC (.int 1)))) (pOr (pB (p2 gGt (pVar 0) (pC (.int 6)))) (pOr (pB (p2 gLt (pVar 1) (pC (.int 1)))) (pOr (pB (p2 gGt (pVar 1) (pC (.int 6)))) (pOr (pB (p2 gLt (pCall gLen (pCons (pVar 2) (pNil))) (pC (.int 1)))) (pB (p2 gGt (pCall gLen (pCons (pVar 2) (pNil))) (pC (.int 12))))))))) (sRet (pTup (pCons (pD (pC (.bool true))) (pCons (pD (pC .none)) (pNil))))) (sNil)) (sSeq (sFor (pRng gRng1 (pCons (pCall gLen (pCons (pVar 2) (pNil))) (pNil))) (.nm 3) (lp_l_first_bad_1)) (sRet (pTup (pCons (pD (pC (.bool false))) (pCons (pD (pC .none)) (pNil))))))
def sem_l_first_bad : MP.Sem := runB 6 b_l_first_bad
def lp_frame_of_1 : Sta → Fl :=
  sSeq (sTup (.tp [4, 5]) (pD (p2 gIx (pVar 2) (pVar 3)))) (sIf (pOr (pNot (pB (p3 gLe gLt (pC (.int 0)) (pVar 4) (pVar 0)))) (pOr (pNot (pB (p3 gLe gLt (pC (.int 0)) (pVar 5) (pVar 1)))) (pB (p2 gIn (p2 gIx (pVar 2) (pVar 3)) (pSl (pVar 2) (pNo) (pSome (pVar 3))))))) (sRaise "NoFrame" ["place"] (pCons (pD (pVar 3)) (pNil))) (sNil))
def b_frame_of : Sta → Fl :=
  sSeq (sIf (pOr (pNot (pB (p3 gLe gLe (pC (.int 1)) (pVar 0) (pC k_MOST_WIRES)))) (pOr (pNot (pB (p3 gLe gLe (pC (.int 1)) (pVar 1) (pC k_MOST_WIRES)))) (pNot (pB (p3 gLe gLe (pC (.int 1)) (pCall gLen (pCons (pVar 2) (pNil))) (pC k_MOST_KEYS)))))) (sRaise "NoFrame" ["place"] (pCons (pD (pC .none)) (pNil))) (sNil)) (sSeq (sFor (pRng gRng1 (pCons (pCall gLen (pCons (pVar 2) (pNil))) (pNil))) (.nm 3) (lp_frame_of_1)) (sRet (pTup (pCons (pD (pVar 0)) (pCons (pD (pVar 1)) (pCons (pD (pCall gTuple (pCons (pVar 2) (pNil)))) (pNil)))))))
def sem_frame_of : MP.Sem := runB 6 b_frame_of
def b_l_spoilt : Sta → Fl :=
  sSeq (sSetV 4 (pD (pUser 3 sem_l_take (pCons (pD (pVar 1)) (pCons (pD (pC (.int 5))) (pCons (pD (pCall gLen (pCons (pVar 0) (pNil)))) (pNil))))))) (sSeq (sTup (.tp [7, 8]) (pD (p2 gIx (pVar 0) (pVar 4)))) (sSeq (sSetV 5 (pD (pUser 3 sem_l_take (pCons (pD (pVar 1)) (pCons (pD (pC (.int 6))) (pCons (pD (pC (.int 6))) (pNil))))))) (sSeq (sIf (pB (p2 gEq (pVar 5) (pC (.int 0)))) (sRet (p2 gPlus (pVar 0) (pLst (pCons (pD (p2 gIx (pVar 0) (pVar 4))) (pNil))))) (sNil)) (sSeq (sSetV 6 (pD (p2 gIx (pLst (pCons (pD (p2 gIx (pVar 0) (p2 gSub (pVar 4) (pC (.int 1))))) (pCons (pD (pTup (pCons (pD (pVar 7)) (pCons (pD (pVar 3)) (pNil))))) (pCons (pD (pTup (pCons (pD (pVar 2)) (pCons (pD (pVar 8)) (pNil))))) (pCons (pD (pTup (pCons (pD (p1 gNeg (pC (.int 1)))) (pCons (pD (pVar 8)) (pNil))))) (pCons (pD (pTup (pCons (pD (pVar 7)) (pCons (pD (p2 gSub (p1 gNeg (pC (.int 1))) (pVar 8))) (pNil))))) (pCons (pD (pTup (pCons (pD (p2 gPlus (pVar 2) (p2 gPow (pC (.int 10)) (pC (.int 18))))) (pCons (pD (pC (.int 0))) (pNil))))) (pNil)))))))) (pVar 5)))) (sRet (p2 gPlus (p2 gPlus (pSl (pVar 0) (pNo) (pSome (pVar 4))) (pLst (pCons (pD (pVar 6)) (pNil)))) (pSl (pVar 0) (pSome (p2 gPlus (pVar 4) (pC (.int 1)))) (pNo))))))))
def sem_l_spoilt : MP.Sem := runB 9 b_l_spoilt
def b_l_classes : Sta → Fl :=
  sSeq (sSetV 1 (pD (pLst (pCons (pD (p1 (gIsx tab_NoFrame) (pVar 0))) (pCons (pD (p1 (gIsx tab_NoReading) (pVar 0))) (pCons (pD (p1 (gIsx tab_NoBed) (pVar 0))) (pCons (pD (p1 (gIsx tab_NoChord) (pVar 0))) (pNil)))))))) (sSeq (sSetV 1 (pD (p2 gPlus (pVar 1) (pLst (pCons (pD (p1 (gIsx tab_NoText) (pVar 0))) (pCons (pD (p1 (gIsx tab_TooMany) (pVar 0))) (pCons (pD (p1 (gIsx tab_NoKeys) (pVar 0))) (pCons (pD (p1 (gIsx tab_NoBook) (pVar 0))) (pNil))))))))) (sSeq (sSetV 1 (pD (p2 gPlus (pVar 1) (pLst (pCons (pD (p1 (gIsx tab_NoWord) (pVar 0))) (pCons (pD (p1 (gIsx tab_NoRow) (pVar 0))) (pNil))))))) (sSeq (sIf (pOr (pNot (pB (p1 (gIsx tab_ValueError) (pVar 0)))) (pB (p2 gNe (pMt gCount (pVar 1) (pC (.bool true))) (pC (.int 1))))) (sRet (p1 gNeg (pC (.int 1)))) (sNil)) (sRet (pMt gIndex (pVar 1) (pC (.bool true)))))))
def sem_l_classes : MP.Sem := runB 2 b_l_classes
def b_l_whole : Sta → Fl :=
  sRet (pAndV (pIsi "int" (pVar 0)) (pNotV (pIsi "bool" (pVar 0))))
def sem_l_whole : MP.Sem := runB 1 b_l_whole
def b_l_refused : Sta → Fl :=
  sSeq (sSetV 3 (pD (pC .none))) (sSeq (sTryV ct_BedError 4 3 (sExpr (pUser 3 sem_frame_of (pCons (pD (pVar 0)) (pCons (pD (pVar 1)) (pCons (pD (pVar 2)) (pNil))))))) (sSeq (sIf (pOr (pB (p2 gIs (pVar 3) (pC .none))) (pB (p2 gNe (pUser 1 sem_l_classes (pCons (pD (pVar 3)) (pNil))) (pC (.int 0))))) (sRet (pTup (pCons (pD (pC (.bool false))) (pCons (pD (pC .none)) (pNil))))) (sNil)) (sSeq (sIf (pAnd (pB (p2 gIsNot (p1 (gXf cs_place "place") (pVar 3)) (pC .none))) (pNot (pB (pUser 1 sem_l_whole (pCons (pD (p1 (gXf cs_place "place") (pVar 3))) (pNil)))))) (sRet (pTup (pCons (pD (pC (.bool false))) (pCons (pD (pC .none)) (pNil))))) (sNil)) (sRet (pTup (pCons (pD (pC (.bool true))) (pCons (pD (p1 (gXf cs_place "place") (pVar 3))) (pNil))))))))
def sem_l_refused : MP.Sem := runB 5 b_l_refused
def st_law_1 : Sta → Fl :=
  sTup (.tp [5, 6, 7]) (pD (pUser 2 sem_l_frame (pCons (pD (pVar 0)) (pCons (pD (pC (.int 12))) (pNil)))))
def st_law_2 : Sta → Fl :=
  sSetV 1 (pD (pCall gList (pCons (pVar 7) (pNil))))
def st_law_3 : Sta → Fl :=
  sSetV 2 (pD (pUser 2 sem_l_cell (pCons (pD (pVar 0)) (pCons (pD (pC (.int 13))) (pNil)))))
def st_law_4 : Sta → Fl :=
  sIf (pB (p2 gEq (p2 gMod (pVar 2) (pC (.int 4))) (pC (.int 1)))) (sSetV 1 (pD (pUser 4 sem_l_spoilt (pCons (pD (pVar 1)) (pCons (pD (pUser 2 sem_l_cell (pCons (pD (pVar 0)) (pCons (pD (pC (.int 14))) (pNil))))) (pCons (pD (pVar 5)) (pCons (pD (pVar 6)) (pNil)))))))) (sNil)
def st_law_5 : Sta → Fl :=
  sIf (pAnd (pB (p2 gEq (p2 gMod (pVar 2) (pC (.int 8))) (pC (.int 1)))) (pB (p2 gLt (pCall gLen (pCons (pVar 1) (pNil))) (pC (.int 13))))) (sSetV 1 (pD (pUser 4 sem_l_spoilt (pCons (pD (pVar 1)) (pCons (pD (pUser 2 sem_l_cell (pCons (pD (pVar 0)) (pCons (pD (pC (.int 15))) (pNil))))) (pCons (pD (pVar 5)) (pCons (pD (pVar 6)) (pNil)))))))) (sNil)
def st_law_6 : Sta → Fl :=
  sIf (pB (p2 gEq (p2 gMod (pVar 2) (pC (.int 4))) (pC (.int 3)))) (sSeq (sSetV 8 (pD (p2 gIx (pLst (pCons (pD (pC (.int 0))) (pCons (pD (pC (.int 7))) (pCons (pD (p1 gNeg (pC (.int 1)))) (pCons (pD (p2 gPow (pC (.int 10)) (pC (.int 19)))) (pNil)))))) (pUser 3 sem_l_take (pCons (pD (pVar 2)) (pCons (pD (pC (.int 7))) (pCons (pD (pC (.int 4))) (pNil)))))))) (sTup (.tp [5, 6]) (pD (p2 gIx (pLst (pCons (pD (pTup (pCons (pD (pVar 8)) (pCons (pD (pVar 6)) (pNil))))) (pCons (pD (pTup (pCons (pD (pVar 5)) (pCons (pD (pVar 8)) (pNil))))) (pNil)))) (pUser 3 sem_l_take (pCons (pD (pVar 2)) (pCons (pD (pC (.int 8))) (pCons (pD (pC (.int 2))) (pNil))))))))) (sNil)
def st_law_7 : Sta → Fl :=
  sIf (pB (p2 gEq (p2 gMod (pVar 2) (pC (.int 8))) (pC (.int 5)))) (sSetV 1 (pD (p2 gIx (pLst (pCons (pD (pLst (pNil))) (pCons (pD (pSl (p2 gTimes (pVar 1) (pC (.int 13))) (pNo) (pSome (pC (.int 13))))) (pNil)))) (pUser 3 sem_l_take (pCons (pD (pVar 2)) (pCons (pD (pC (.int 9))) (pCons (pD (pC (.int 2))) (pNil)))))))) (sNil)
def st_law_8 : Sta → Fl :=
  sSetO 3 (pCall gList (pCons (pVar 1) (pNil)))
def st_law_9 : Sta → Fl :=
  sTup (.tp [9, 10]) (pD (pUser 3 sem_l_first_bad (pCons (pD (pVar 5)) (pCons (pD (pVar 6)) (pCons (pD (pVar 1)) (pNil))))))
def st_law_10 : Sta → Fl :=
  sIf (pB (pVar 9)) (sRet (pAndV (p2 gEq (pLook 3 sem_l_refused (pCons (pVar 5) (pCons (pVar 6) (pCons (pVar 3) (pNil))))) (pTup (pCons (pD (pC (.bool true))) (pCons (pD (pVar 10)) (pNil))))) (p2 gEq (pVar 3) (pVar 1)))) (sNil)
def st_law_11 : Sta → Fl :=
  sSetV 4 (pD (pLook 3 sem_frame_of (pCons (pVar 5) (pCons (pVar 6) (pCons (pVar 3) (pNil))))))
def st_law_12 : Sta → Fl :=
  sIf (pOr (pNot (pB (pIsi "tuple" (pVar 4)))) (pOr (pB (p2 gNe (pVar 4) (pTup (pCons (pD (pVar 5)) (pCons (pD (pVar 6)) (pCons (pD (pCall gTuple (pCons (pVar 1) (pNil)))) (pNil))))))) (pB (p2 gNe (pVar 3) (pVar 1))))) (sRet (pC (.bool false))) (sNil)
def st_law_13 : Sta → Fl :=
  sApp 3 (pD (pTup (pCons (pD (pC (.int 0))) (pCons (pD (pC (.int 0))) (pNil)))))
def st_law_14 : Sta → Fl :=
  sRet (pAndV (pIsi "tuple" (p2 gIx (pVar 4) (pC (.int 2)))) (p2 gEq (pVar 4) (pTup (pCons (pD (pVar 5)) (pCons (pD (pVar 6)) (pCons (pD (pCall gTuple (pCons (pVar 1) (pNil)))) (pNil)))))))
def b_law : Sta → Fl :=
  sSeq st_law_1 (sSeq st_law_2 (sSeq st_law_3 (sSeq st_law_4 (sSeq st_law_5 (sSeq st_law_6 (sSeq st_law_7 (sSeq st_law_8 (sSeq st_law_9 (sSeq st_law_10 (sSeq st_law_11 (sSeq st_law_12 (sSeq st_law_13 (st_law_14)))))))))))))
def sem_law : MP.Sem := runB 11 b_law
end L_k01

namespace L_k01
open PySem L2 MP
/-! ## each def as the machine has it -/
def fnames : List Str := ["place", "layer", "key", "row", "most", "word"]
def tab (ca : Nat → Addr) : Tab := ⟨ca, nmOf fnames, nmOf_inj (by decide +kernel) (by decide +kernel)⟩
theorem T_ne {ca : Nat → Addr} {x : Str} (h : x ∉ fnames) (hs : x.cps.size < 1000) : ∀ i, (tab ca).nm i ≠ x := nmOf_ne h hs
/-- what stands at the names of the top -/
structure Gb (K : PySem.W.Frag) (mg : Str → Option Value) : Prop where
  g_ValueError : mg "ValueError" = none
  g_bool : mg "bool" = none
  g_divmod : mg "divmod" = none
  g_int : mg "int" = none
  g_isinstance : mg "isinstance" = none
  g_len : mg "len" = none
  g_list : mg "list" = none
  g_min : mg "min" = none
  g_range : mg "range" = none
  g_tuple : mg "tuple" = none
  at_MOST_WIRES : ∃ (v : V) (u : Value), mg "MOST_WIRES" = some u ∧ RelV v u ∧ ∀ m M, DR K m M v k_MOST_WIRES
  at_MOST_KEYS : ∃ (v : V) (u : Value), mg "MOST_KEYS" = some u ∧ RelV v u ∧ ∀ m M, DR K m M v k_MOST_KEYS
/-- what is told of the exceptions -/
structure Xb (P : Program) (w : World) (K : PySem.W.Frag) (mg : Str → Option Value) (base : Heap) : Prop where
  x_NoFrame : ExcT P w K mg base "NoFrame" ["place"]
  t_BedError : CatX K mg "BedError" ct_BedError
  i_NoChord : IsX K mg "NoChord" tab_NoChord
  i_NoBed : IsX K mg "NoBed" tab_NoBed
  i_NoReading : IsX K mg "NoReading" tab_NoReading
  i_NoFrame : IsX K mg "NoFrame" tab_NoFrame
  i_NoBook : IsX K mg "NoBook" tab_NoBook
  i_NoKeys : IsX K mg "NoKeys" tab_NoKeys
  i_TooMany : IsX K mg "TooMany" tab_TooMany
  i_NoText : IsX K mg "NoText" tab_NoText
  i_NoRow : IsX K mg "NoRow" tab_NoRow
  i_NoWord : IsX K mg "NoWord" tab_NoWord
  i_ValueError : IsxOk K tab_ValueError (.type "ValueError")
  f_place : XfOk K cs_place "place"
section
variable {P : Program} {w : World} {K : PySem.W.Frag} {mg : Str → Option Value} {base : Heap} {ca : Nat → Addr}
theorem sc_l_cell : FnScope ["_law_script", "_law_k"] ["_law_script", "_law_k"] (defScope s_l_cell) := ⟨rfl, rfl, rfl, by decide +kernel, rfl, by decide +kernel, by decide +kernel⟩
theorem sc_l_take : FnScope ["_law_cell_here", "_law_salt", "_law_many", "_law_number", "_law_turn"] ["_law_cell_here", "_law_salt", "_law_many"] (defScope s_l_take) := ⟨rfl, rfl, rfl, by decide +kernel, rfl, by decide +kernel, by decide +kernel⟩
theorem sc_l_frame : FnScope ["_law_script", "_law_most", "_law_first", "_law_rows", "_law_columns", "_law_left", "_law_spots", "_law_k", "_law_number"] ["_law_script", "_law_most"] (defScope s_l_frame) := ⟨rfl, rfl, rfl, by decide +kernel, rfl, by decide +kernel, by decide +kernel⟩
theorem sc_l_first_bad : FnScope ["_law_rows", "_law_columns", "_law_spots", "_law_place", "_law_row_here", "_law_column"] ["_law_rows", "_law_columns", "_law_spots"] (defScope s_l_first_bad) := ⟨rfl, rfl, rfl, by decide +kernel, rfl, by decide +kernel, by decide +kernel⟩
theorem sc_frame_of : FnScope ["rows", "columns", "spots", "place", "row", "column"] ["rows", "columns", "spots"] (defScope s_frame_of) := ⟨rfl, rfl, rfl, by decide +kernel, rfl, by decide +kernel, by decide +kernel⟩
theorem sc_l_spoilt : FnScope ["_law_spots", "_law_cell_here", "_law_rows", "_law_columns", "_law_at", "_law_way", "_law_odd", "_law_row_here", "_law_column"] ["_law_spots", "_law_cell_here", "_law_rows", "_law_columns"] (defScope s_l_spoilt) := ⟨rfl, rfl, rfl, by decide +kernel, rfl, by decide +kernel, by decide +kernel⟩
theorem sc_l_classes : FnScope ["_law_e", "_law_found"] ["_law_e"] (defScope s_l_classes) := ⟨rfl, rfl, rfl, by decide +kernel, rfl, by decide +kernel, by decide +kernel⟩
theorem sc_l_whole : FnScope ["_law_number"] ["_law_number"] (defScope s_l_whole) := ⟨rfl, rfl, rfl, by decide +kernel, rfl, by decide +kernel, by decide +kernel⟩
theorem sc_l_refused : FnScope ["_law_rows", "_law_columns", "_law_spots", "_law_caught", "_law_e"] ["_law_rows", "_law_columns", "_law_spots"] (defScope s_l_refused) := ⟨rfl, rfl, rfl, by decide +kernel, rfl, by decide +kernel, by decide +kernel⟩
theorem sc_law : FnScope ["_law_script", "_law_spots", "_law_faults", "_law_handed", "_law_found", "_law_rows", "_law_columns", "_law_some", "_law_odd", "_law_bad", "_law_place"] ["_law_script"] (defScope s_law) := ⟨rfl, rfl, rfl, by decide +kernel, rfl, by decide +kernel, by decide +kernel⟩
theorem sc_NoFrame___init__ : FnScope ["self", "place"] ["self", "place"] (defScope s_NoFrame___init__) := ⟨rfl, rfl, rfl, by decide +kernel, rfl, by decide +kernel, by decide +kernel⟩
theorem okx_NoFrame {f C CB : Addr} {fd : FuncData} (BB : BasC K mg "BedError" CB) (O : OexC K C) (n0 : PySem.W.findIn K (.ref C) "place" = some none) (F : Fun K "__init__" "NoFrame.__init__" s_NoFrame___init__ f fd) : FnOk P w K mg base (L2.CX P w) 1 f fd ["self", "place"] (spInit C ["place"]) :=
  init1_ok O n0 F sc_NoFrame___init__ fun cdv A outer s H E hr => pss_cons (ps_expr (pe_beinit BB rfl (pa_cons (pv 0) (pa_cons pe_str pa_nil)))) (pss_one (ps_ost (pv 0) (pv 1)))
theorem ok_l_cell {f : Addr} {fd : FuncData} (al : Bool) (F : Fun K "_law_cell" "_law_cell" s_l_cell f fd) (B : Gb K mg) : FnOk P w K mg base (L2.CX P w) 1 f fd ["_law_script", "_law_k"] (spF K (tab ca) al 2 sem_l_cell) :=
  fn_ok F sc_l_cell fun cdv A outer s H E1 hr =>
    (ss_cons (s_if (et_cmp ok_lt (ev_var (pv 1)) (ev_callB ok_len rfl B.g_len (by decide +kernel) (ar_cons (ev_var (pv 0)) ar_nil)) (by first | exact nomark _ | rfl)) (ss_one (s_ret (ev_ix (ev_var (pv 0)) (ev_var (pv 1)) (fun _ _ => rfl)))) ss_nil) (ss_one (s_ret ev_int)))
theorem ok_l_take {f : Addr} {fd : FuncData} (al : Bool) (F : Fun K "_law_take" "_law_take" s_l_take f fd) (B : Gb K mg) : FnOk P w K mg base (L2.CX P w) 1 f fd ["_law_cell_here", "_law_salt", "_law_many"] (spF K (tab ca) al 3 sem_l_take) :=
  fn_ok F sc_l_take fun cdv A outer s H E1 hr =>
    (ss_cons (s_if (et_w (ew_or (et_cmp ok_lt (ev_var (pv 0)) ev_int (by first | exact nomark _ | rfl)) (ew_or1 (et_cmp ok_ge (ev_var (pv 0)) (ev_bin ok_pow ev_int ev_int) (by first | exact nomark _ | rfl))))) (ss_cons (s_for (t := .nm 4) (passes_of rfl) rfl (iv_range1 rfl B.g_range (ar_cons (ev_var (pv 1)) ar_nil)) (pg_name (i := 4) sc_l_take.nd rfl (by first | exact Or.inl rfl | exact Or.inr rfl)) (ss_one (s_setV (i := 0) sc_l_take.nd rfl (by first | exact Or.inl rfl | exact Or.inr rfl) (pd_of (ev_bin ok_div (ev_var (pv 0)) ev_int))))) (ss_one (s_ret (ev_bin ok_mod (ev_var (pv 0)) (ev_var (pv 2)))))) ss_nil) (ss_cons (s_setV (i := 3) sc_l_take.nd rfl (by first | exact Or.inl rfl | exact Or.inr rfl) (pd_of (ev_bin ok_times (ev_bin ok_plus (ev_bin ok_plus (ev_bin ok_mod (ev_var (pv 0)) ev_int) (ev_bin ok_times ev_int (ev_var (pv 1)))) ev_int) (ev_bin ok_plus (ev_bin ok_times (ev_var (pv 1)) (ev_var (pv 1))) ev_int)))) (ss_one (s_ret (ev_bin ok_mod (ev_bin ok_div (ev_bin ok_mod (ev_bin ok_plus (ev_bin ok_times (ev_bin ok_mod (ev_var (pv 3)) ev_int) ev_int) (ev_var (pv 1))) ev_int) ev_int) (ev_var (pv 2)))))))
theorem ok_l_frame {f : Addr} {fd : FuncData} (al : Bool) (F : Fun K "_law_frame" "_law_frame" s_l_frame f fd) (B : Gb K mg) (c_l_cell : ∀ al, Callee P w K mg base (tab ca) "_law_cell" al 1 2 sem_l_cell) (c_l_take : ∀ al, Callee P w K mg base (tab ca) "_law_take" al 1 3 sem_l_take) : FnOk P w K mg base (L2.CX P w) 2 f fd ["_law_script", "_law_most"] (spF K (tab ca) al 2 sem_l_frame) :=
  fn_ok F sc_l_frame fun cdv A outer s H E1 hr =>
    (ss_cons (s_setV (i := 2) sc_l_frame.nd rfl (by first | exact Or.inl rfl | exact Or.inr rfl) (pd_of (ev_user (c_l_cell false) (hr.mono (by decide)) rfl (takes_of rfl rfl rfl rfl) (as_cons (pd_of (ev_var (pv 0))) (as_cons (pd_of ev_int) as_nil))))) (ss_cons (s_setV (i := 3) sc_l_frame.nd rfl (by first | exact Or.inl rfl | exact Or.inr rfl) (pd_of (ev_bin ok_plus ev_int (ev_user (c_l_take false) (hr.mono (by decide)) rfl (takes_of rfl rfl rfl rfl) (as_cons (pd_of (ev_var (pv 2))) (as_cons (pd_of ev_int) (as_cons (pd_of ev_int) as_nil))))))) (ss_cons (s_setV (i := 4) sc_l_frame.nd rfl (by first | exact Or.inl rfl | exact Or.inr rfl) (pd_of (ev_bin ok_plus ev_int (ev_user (c_l_take false) (hr.mono (by decide)) rfl (takes_of rfl rfl rfl rfl) (as_cons (pd_of (ev_var (pv 2))) (as_cons (pd_of ev_int) (as_cons (pd_of ev_int) as_nil))))))) (ss_cons (s_setLc (i := 5) (own := [("_law_number", 8)]) rfl sc_l_frame.nd rfl rfl (sw_true rfl rfl rfl (by decide +kernel)) (ic_of (iv_range1 rfl B.g_range (ar_cons (ev_bin ok_times (ev_var (pv 3)) (ev_var (pv 4))) ar_nil))) (blkOk_by (own := [("_law_number", 8)]) (N := ["_law_script", "_law_most", "_law_first", "_law_rows", "_law_columns", "_law_left", "_law_spots", "_law_k", "_law_number"]) (sc := defScope s_l_frame) (by decide +kernel)) (t := .nm 8) (by decide) (fun _ _ _ _ _ => (pg_name (i := 8) sc_l_frame.nd rfl (by first | exact Or.inl rfl | exact Or.inr rfl))) (fun _ _ _ _ _ => ets_nil) (fun _ _ _ _ _ => (pd_of (ev_callB ok_divmod rfl B.g_divmod (by decide +kernel) (ar_cons (ev_var (pv 8)) (ar_cons (ev_var (pv 4)) ar_nil)))))) (ss_cons (s_setO (i := 6) sc_l_frame.nd rfl (by first | exact Or.inl rfl | exact Or.inr rfl) (ev_lst as_nil)) (ss_cons (s_for (t := .nm 7) (passes_of rfl) rfl (iv_range1 rfl B.g_range (ar_cons (ev_callB (ok_min rfl) rfl B.g_min (by decide +kernel) (ar_cons (ev_callB ok_len rfl B.g_len (by decide +kernel) (ar_cons (ev_var (pv 5)) ar_nil)) (ar_cons (ev_bin ok_plus ev_int (ev_user (c_l_take false) (hr.mono (by decide)) rfl (takes_of rfl rfl rfl rfl) (as_cons (pd_of (ev_var (pv 2))) (as_cons (pd_of ev_int) (as_cons (pd_of (ev_var (pv 1))) as_nil))))) ar_nil))) ar_nil)) (pg_name (i := 7) sc_l_frame.nd rfl (by first | exact Or.inl rfl | exact Or.inr rfl)) (ss_one (s_appF (i := 6) (pv 6) (fe_pop (i := 5) (pv 5) (ev_user (c_l_take false) (hr.mono (by decide)) rfl (takes_of rfl rfl rfl rfl) (as_cons (pd_of (ev_user (c_l_cell false) (hr.mono (by decide)) rfl (takes_of rfl rfl rfl rfl) (as_cons (pd_of (ev_var (pv 0))) (as_cons (pd_of (ev_bin ok_plus ev_int (ev_var (pv 7)))) as_nil)))) (as_cons (pd_of ev_int) (as_cons (pd_of (ev_callB ok_len rfl B.g_len (by decide +kernel) (ar_cons (ev_var (pv 5)) ar_nil))) as_nil)))))))) (ss_one (s_ret (ev_tup (as_cons (pd_of (ev_var (pv 3))) (as_cons (pd_of (ev_var (pv 4))) (as_cons (pd_of (ev_callTy ok_tuple rfl B.g_tuple (by decide +kernel) (ar_cons (ev_var (pv 6)) ar_nil))) as_nil))))))))))))
theorem ok_l_first_bad {f : Addr} {fd : FuncData} (al : Bool) (F : Fun K "_law_first_bad" "_law_first_bad" s_l_first_bad f fd) (B : Gb K mg) : FnOk P w K mg base (L2.CX P w) 1 f fd ["_law_rows", "_law_columns", "_law_spots"] (spF K (tab ca) al 3 sem_l_first_bad) :=
  fn_ok F sc_l_first_bad fun cdv A outer s H E1 hr =>
    (ss_cons (s_if (et_w (ew_or (et_cmp ok_lt (ev_var (pv 0)) ev_int (by first | exact nomark _ | rfl)) (ew_or (et_cmp ok_gt (ev_var (pv 0)) ev_int (by first | exact nomark _ | rfl)) (ew_or (et_cmp ok_lt (ev_var (pv 1)) ev_int (by first | exact nomark _ | rfl)) (ew_or (et_cmp ok_gt (ev_var (pv 1)) ev_int (by first | exact nomark _ | rfl)) (ew_or (et_cmp ok_lt (ev_callB ok_len rfl B.g_len (by decide +kernel) (ar_cons (ev_var (pv 2)) ar_nil)) ev_int (by first | exact nomark _ | rfl)) (ew_or1 (et_cmp ok_gt (ev_callB ok_len rfl B.g_len (by decide +kernel) (ar_cons (ev_var (pv 2)) ar_nil)) ev_int (by first | exact nomark _ | rfl))))))))) (ss_one (s_ret (ev_tup (as_cons (pd_of ev_bl) (as_cons (pd_of ev_non) as_nil))))) ss_nil) (ss_cons (s_for (t := .nm 3) (passes_of rfl) rfl (iv_range1 rfl B.g_range (ar_cons (ev_callB ok_len rfl B.g_len (by decide +kernel) (ar_cons (ev_var (pv 2)) ar_nil)) ar_nil)) (pg_name (i := 3) sc_l_first_bad.nd rfl (by first | exact Or.inl rfl | exact Or.inr rfl)) (ss_cons (s_tup (t := .tp [4, 5]) (pd_of (ev_ix (ev_var (pv 2)) (ev_var (pv 3)) (fun _ _ => rfl))) (pg_tup rfl (pgs_cons (pg_name (i := 4) sc_l_first_bad.nd rfl (by first | exact Or.inl rfl | exact Or.inr rfl)) (pgs_cons (pg_name (i := 5) sc_l_first_bad.nd rfl (by first | exact Or.inl rfl | exact Or.inr rfl)) pgs_nil)))) (ss_one (s_if (et_w (ew_or (et_cmp ok_lt (ev_var (pv 4)) ev_int (by first | exact nomark _ | rfl)) (ew_or (et_cmp ok_ge (ev_var (pv 4)) (ev_var (pv 0)) (by first | exact nomark _ | rfl)) (ew_or (et_cmp ok_lt (ev_var (pv 5)) ev_int (by first | exact nomark _ | rfl)) (ew_or (et_cmp ok_ge (ev_var (pv 5)) (ev_var (pv 1)) (by first | exact nomark _ | rfl)) (ew_or1 (et_cmp (ok_in (hu65 hr)) (ev_ix (ev_var (pv 2)) (ev_var (pv 3)) (fun _ _ => rfl)) (ev_sl (ev_var (pv 2)) eo_none (eo_some (ev_var (pv 3)))) (by first | exact nomark _ | rfl)))))))) (ss_one (s_ret (ev_tup (as_cons (pd_of ev_bl) (as_cons (pd_of (ev_var (pv 3))) as_nil))))) ss_nil)))) (ss_one (s_ret (ev_tup (as_cons (pd_of ev_bl) (as_cons (pd_of ev_non) as_nil)))))))
theorem ok_frame_of {f : Addr} {fd : FuncData} (al : Bool) (F : Fun K "frame_of" "frame_of" s_frame_of f fd) (E : Xb P w K mg base) (B : Gb K mg) : FnOk P w K mg base (L2.CX P w) 3 f fd ["rows", "columns", "spots"] (spF K (tab ca) al 3 sem_frame_of) :=
  by
  obtain ⟨v_MOST_WIRES, u_MOST_WIRES, m_MOST_WIRES, r_MOST_WIRES, d_MOST_WIRES⟩ := B.at_MOST_WIRES
  obtain ⟨v_MOST_KEYS, u_MOST_KEYS, m_MOST_KEYS, r_MOST_KEYS, d_MOST_KEYS⟩ := B.at_MOST_KEYS
  exact fn_ok F sc_frame_of fun cdv A outer s H E1 hr =>
    (ss_cons (s_if (et_w (ew_or (et_not (et_chain ok_le ok_le ev_int (ev_var (pv 0)) (ev_glob rfl m_MOST_WIRES r_MOST_WIRES d_MOST_WIRES))) (ew_or (et_not (et_chain ok_le ok_le ev_int (ev_var (pv 1)) (ev_glob rfl m_MOST_WIRES r_MOST_WIRES d_MOST_WIRES))) (ew_or1 (et_not (et_chain ok_le ok_le ev_int (ev_callB ok_len rfl B.g_len (by decide +kernel) (ar_cons (ev_var (pv 2)) ar_nil)) (ev_glob rfl m_MOST_KEYS r_MOST_KEYS d_MOST_KEYS))))))) (ss_one (s_raise E.x_NoFrame (hr.mono (by decide)) rfl (takes_of rfl rfl rfl rfl) rfl (as_cons (pd_of ev_non) as_nil))) ss_nil) (ss_cons (s_for (t := .nm 3) (passes_of rfl) rfl (iv_range1 rfl B.g_range (ar_cons (ev_callB ok_len rfl B.g_len (by decide +kernel) (ar_cons (ev_var (pv 2)) ar_nil)) ar_nil)) (pg_name (i := 3) sc_frame_of.nd rfl (by first | exact Or.inl rfl | exact Or.inr rfl)) (ss_cons (s_tup (t := .tp [4, 5]) (pd_of (ev_ix (ev_var (pv 2)) (ev_var (pv 3)) (fun _ _ => rfl))) (pg_tup rfl (pgs_cons (pg_name (i := 4) sc_frame_of.nd rfl (by first | exact Or.inl rfl | exact Or.inr rfl)) (pgs_cons (pg_name (i := 5) sc_frame_of.nd rfl (by first | exact Or.inl rfl | exact Or.inr rfl)) pgs_nil)))) (ss_one (s_if (et_w (ew_or (et_not (et_chain ok_le ok_lt ev_int (ev_var (pv 4)) (ev_var (pv 0)))) (ew_or (et_not (et_chain ok_le ok_lt ev_int (ev_var (pv 5)) (ev_var (pv 1)))) (ew_or1 (et_cmp (ok_in (hu65 hr)) (ev_ix (ev_var (pv 2)) (ev_var (pv 3)) (fun _ _ => rfl)) (ev_sl (ev_var (pv 2)) eo_none (eo_some (ev_var (pv 3)))) (by first | exact nomark _ | rfl)))))) (ss_one (s_raise E.x_NoFrame (hr.mono (by decide)) rfl (takes_of rfl rfl rfl rfl) rfl (as_cons (pd_of (ev_var (pv 3))) as_nil))) ss_nil)))) (ss_one (s_ret (ev_tup (as_cons (pd_of (ev_var (pv 0))) (as_cons (pd_of (ev_var (pv 1))) (as_cons (pd_of (ev_callTy ok_tuple rfl B.g_tuple (by decide +kernel) (ar_cons (ev_var (pv 2)) ar_nil))) as_nil))))))))
theorem ok_l_spoilt {f : Addr} {fd : FuncData} (al : Bool) (F : Fun K "_law_spoilt" "_law_spoilt" s_l_spoilt f fd) (B : Gb K mg) (c_l_take : ∀ al, Callee P w K mg base (tab ca) "_law_take" al 1 3 sem_l_take) : FnOk P w K mg base (L2.CX P w) 2 f fd ["_law_spots", "_law_cell_here", "_law_rows", "_law_columns"] (spF K (tab ca) al 4 sem_l_spoilt) :=
  fn_ok F sc_l_spoilt fun cdv A outer s H E1 hr =>
    (ss_cons (s_setV (i := 4) sc_l_spoilt.nd rfl (by first | exact Or.inl rfl | exact Or.inr rfl) (pd_of (ev_user (c_l_take false) (hr.mono (by decide)) rfl (takes_of rfl rfl rfl rfl) (as_cons (pd_of (ev_var (pv 1))) (as_cons (pd_of ev_int) (as_cons (pd_of (ev_callB ok_len rfl B.g_len (by decide +kernel) (ar_cons (ev_var (pv 0)) ar_nil))) as_nil)))))) (ss_cons (s_tup (t := .tp [7, 8]) (pd_of (ev_ix (ev_var (pv 0)) (ev_var (pv 4)) (fun _ _ => rfl))) (pg_tup rfl (pgs_cons (pg_name (i := 7) sc_l_spoilt.nd rfl (by first | exact Or.inl rfl | exact Or.inr rfl)) (pgs_cons (pg_name (i := 8) sc_l_spoilt.nd rfl (by first | exact Or.inl rfl | exact Or.inr rfl)) pgs_nil)))) (ss_cons (s_setV (i := 5) sc_l_spoilt.nd rfl (by first | exact Or.inl rfl | exact Or.inr rfl) (pd_of (ev_user (c_l_take false) (hr.mono (by decide)) rfl (takes_of rfl rfl rfl rfl) (as_cons (pd_of (ev_var (pv 1))) (as_cons (pd_of ev_int) (as_cons (pd_of ev_int) as_nil)))))) (ss_cons (s_if (et_cmp (ok_eq (hu64 hr)) (ev_var (pv 5)) ev_int (by first | exact nomark _ | rfl)) (ss_one (s_ret (ev_bin ok_plus (ev_var (pv 0)) (ev_lst (as_cons (pd_of (ev_ix (ev_var (pv 0)) (ev_var (pv 4)) (fun _ _ => rfl))) as_nil))))) ss_nil) (ss_cons (s_setV (i := 6) sc_l_spoilt.nd rfl (by first | exact Or.inl rfl | exact Or.inr rfl) (pd_of (ev_ix (ev_lst (as_cons (pd_of (ev_ix (ev_var (pv 0)) (ev_bin ok_sub (ev_var (pv 4)) ev_int) (fun _ _ => rfl))) (as_cons (pd_of (ev_tup (as_cons (pd_of (ev_var (pv 7))) (as_cons (pd_of (ev_var (pv 3))) as_nil)))) (as_cons (pd_of (ev_tup (as_cons (pd_of (ev_var (pv 2))) (as_cons (pd_of (ev_var (pv 8))) as_nil)))) (as_cons (pd_of (ev_tup (as_cons (pd_of (ev_un ok_neg ev_int)) (as_cons (pd_of (ev_var (pv 8))) as_nil)))) (as_cons (pd_of (ev_tup (as_cons (pd_of (ev_var (pv 7))) (as_cons (pd_of (ev_bin ok_sub (ev_un ok_neg ev_int) (ev_var (pv 8)))) as_nil)))) (as_cons (pd_of (ev_tup (as_cons (pd_of (ev_bin ok_plus (ev_var (pv 2)) (ev_bin ok_pow ev_int ev_int))) (as_cons (pd_of ev_int) as_nil)))) as_nil))))))) (ev_var (pv 5)) (fun _ _ => rfl)))) (ss_one (s_ret (ev_bin ok_plus (ev_bin ok_plus (ev_sl (ev_var (pv 0)) eo_none (eo_some (ev_var (pv 4)))) (ev_lst (as_cons (pd_of (ev_var (pv 6))) as_nil))) (ev_sl (ev_var (pv 0)) (eo_some (ev_bin ok_plus (ev_var (pv 4)) ev_int)) eo_none)))))))))
theorem ok_l_classes {f : Addr} {fd : FuncData} (al : Bool) (F : Fun K "_law_classes" "_law_classes" s_l_classes f fd) (E : Xb P w K mg base) (B : Gb K mg) : FnOk P w K mg base (L2.CX P w) 1 f fd ["_law_e"] (spF K (tab ca) al 1 sem_l_classes) :=
  fn_ok F sc_l_classes fun cdv A outer s H E1 hr =>
    (ss_cons (s_setV (i := 1) sc_l_classes.nd rfl (by first | exact Or.inl rfl | exact Or.inr rfl) (pd_of (ev_lst (as_cons (pd_of (ev_isxO E.i_NoFrame rfl (ev_var (pv 0)) rfl B.g_isinstance)) (as_cons (pd_of (ev_isxO E.i_NoReading rfl (ev_var (pv 0)) rfl B.g_isinstance)) (as_cons (pd_of (ev_isxO E.i_NoBed rfl (ev_var (pv 0)) rfl B.g_isinstance)) (as_cons (pd_of (ev_isxO E.i_NoChord rfl (ev_var (pv 0)) rfl B.g_isinstance)) as_nil))))))) (ss_cons (s_setV (i := 1) sc_l_classes.nd rfl (by first | exact Or.inl rfl | exact Or.inr rfl) (pd_of (ev_bin ok_plus (ev_var (pv 1)) (ev_lst (as_cons (pd_of (ev_isxO E.i_NoText rfl (ev_var (pv 0)) rfl B.g_isinstance)) (as_cons (pd_of (ev_isxO E.i_TooMany rfl (ev_var (pv 0)) rfl B.g_isinstance)) (as_cons (pd_of (ev_isxO E.i_NoKeys rfl (ev_var (pv 0)) rfl B.g_isinstance)) (as_cons (pd_of (ev_isxO E.i_NoBook rfl (ev_var (pv 0)) rfl B.g_isinstance)) as_nil)))))))) (ss_cons (s_setV (i := 1) sc_l_classes.nd rfl (by first | exact Or.inl rfl | exact Or.inr rfl) (pd_of (ev_bin ok_plus (ev_var (pv 1)) (ev_lst (as_cons (pd_of (ev_isxO E.i_NoWord rfl (ev_var (pv 0)) rfl B.g_isinstance)) (as_cons (pd_of (ev_isxO E.i_NoRow rfl (ev_var (pv 0)) rfl B.g_isinstance)) as_nil)))))) (ss_cons (s_if (et_w (ew_or (et_not (et_val (ev_isxB rfl B.g_ValueError (by decide +kernel) E.i_ValueError (ev_var (pv 0)) rfl B.g_isinstance))) (ew_or1 (et_cmp (ok_ne (hu64 hr)) (ev_count (ev_var (pv 1)) ev_bl) ev_int (by first | exact nomark _ | rfl))))) (ss_one (s_ret (ev_un ok_neg ev_int))) ss_nil) (ss_one (s_ret (ev_index (ev_var (pv 1)) ev_bl)))))))
theorem ok_l_whole {f : Addr} {fd : FuncData} (al : Bool) (F : Fun K "_law_whole" "_law_whole" s_l_whole f fd) (B : Gb K mg) : FnOk P w K mg base (L2.CX P w) 1 f fd ["_law_number"] (spF K (tab ca) al 1 sem_l_whole) :=
  fn_ok F sc_l_whole fun cdv A outer s H E1 hr =>
    (ss_one (s_ret (ev_and (ev_isi (n := "int") (by decide) (ev_var (pv 0)) rfl B.g_isinstance rfl B.g_int (by decide +kernel)) (ev_one (ev_not (ev_isi (n := "bool") (by decide) (ev_var (pv 0)) rfl B.g_isinstance rfl B.g_bool (by decide +kernel)))))))
theorem ok_l_refused {f : Addr} {fd : FuncData} (al : Bool) (F : Fun K "_law_refused" "_law_refused" s_l_refused f fd) (E : Xb P w K mg base) (B : Gb K mg) (c_frame_of : ∀ al, Callee P w K mg base (tab ca) "frame_of" al 3 3 sem_frame_of) (c_l_classes : ∀ al, Callee P w K mg base (tab ca) "_law_classes" al 1 1 sem_l_classes) (c_l_whole : ∀ al, Callee P w K mg base (tab ca) "_law_whole" al 1 1 sem_l_whole) : FnOk P w K mg base (L2.CX P w) 4 f fd ["_law_rows", "_law_columns", "_law_spots"] (spF K (tab ca) al 3 sem_l_refused) :=
  fn_ok F sc_l_refused fun cdv A outer s H E1 hr =>
    (ss_cons (s_setV (i := 3) sc_l_refused.nd rfl (by first | exact Or.inl rfl | exact Or.inr rfl) (pd_of ev_non)) (ss_cons (s_tryC (i := 4) (j := 3) E.t_BedError rfl rfl rfl rfl sc_l_refused.nd rfl rfl rfl (by first | exact Or.inl rfl | exact Or.inr rfl) (by decide) (takes_of rfl rfl rfl rfl) (fun W1 pn xe tk1 po1 => (ss_one (s_expr (ev_user (c_frame_of false) (hr.mono (by decide)) rfl tk1 (as_cons (pd_of (ev_var (pv 0))) (as_cons (pd_of (ev_var (pv 1))) (as_cons (pd_of (ev_var (pv 2))) as_nil)))))))) (ss_cons (s_if (et_w (ew_or (et_cmp ok_is (ev_var (pv 3)) ev_non (by first | exact nomark _ | rfl)) (ew_or1 (et_cmp (ok_ne (hu64 hr)) (ev_user (c_l_classes false) (hr.mono (by decide)) rfl (takes_of rfl rfl rfl rfl) (as_cons (pd_of (ev_var (pv 3))) as_nil)) ev_int (by first | exact nomark _ | rfl))))) (ss_one (s_ret (ev_tup (as_cons (pd_of ev_bl) (as_cons (pd_of ev_non) as_nil))))) ss_nil) (ss_cons (s_if (et_w (ew_and (et_cmp ok_isnot (ev_xf E.f_place (ev_var (pv 3))) ev_non (by first | exact nomark _ | rfl)) (ew_and1 (et_not (et_val (ev_user (c_l_whole false) (hr.mono (by decide)) rfl (takes_of rfl rfl rfl rfl) (as_cons (pd_of (ev_xf E.f_place (ev_var (pv 3)))) as_nil))))))) (ss_one (s_ret (ev_tup (as_cons (pd_of ev_bl) (as_cons (pd_of ev_non) as_nil))))) ss_nil) (ss_one (s_ret (ev_tup (as_cons (pd_of ev_bl) (as_cons (pd_of (ev_xf E.f_place (ev_var (pv 3)))) as_nil)))))))))
theorem ok_law {f : Addr} {fd : FuncData} (al : Bool) (F : Fun K "law" "law" s_law f fd) (B : Gb K mg) (c_l_frame : ∀ al, Callee P w K mg base (tab ca) "_law_frame" al 2 2 sem_l_frame) (c_l_cell : ∀ al, Callee P w K mg base (tab ca) "_law_cell" al 1 2 sem_l_cell) (c_l_spoilt : ∀ al, Callee P w K mg base (tab ca) "_law_spoilt" al 2 4 sem_l_spoilt) (c_l_take : ∀ al, Callee P w K mg base (tab ca) "_law_take" al 1 3 sem_l_take) (c_l_first_bad : ∀ al, Callee P w K mg base (tab ca) "_law_first_bad" al 1 3 sem_l_first_bad) (c_l_refused : ∀ al, Callee P w K mg base (tab ca) "_law_refused" al 4 3 sem_l_refused) (c_frame_of : ∀ al, Callee P w K mg base (tab ca) "frame_of" al 3 3 sem_frame_of) : FnOk P w K mg base (L2.CX P w) 5 f fd ["_law_script"] (spF K (tab ca) al 1 sem_law) :=
  fn_ok F sc_law fun cdv A outer s H E1 hr =>
    (ss_cons (s_tup (t := .tp [5, 6, 7]) (pd_of (ev_user (c_l_frame false) (hr.mono (by decide)) rfl (takes_of rfl rfl rfl rfl) (as_cons (pd_of (ev_var (pv 0))) (as_cons (pd_of ev_int) as_nil)))) (pg_tup rfl (pgs_cons (pg_name (i := 5) sc_law.nd rfl (by first | exact Or.inl rfl | exact Or.inr rfl)) (pgs_cons (pg_name (i := 6) sc_law.nd rfl (by first | exact Or.inl rfl | exact Or.inr rfl)) (pgs_cons (pg_name (i := 7) sc_law.nd rfl (by first | exact Or.inl rfl | exact Or.inr rfl)) pgs_nil))))) (ss_cons (s_setV (i := 1) sc_law.nd rfl (by first | exact Or.inl rfl | exact Or.inr rfl) (pd_of (ev_callTy ok_list rfl B.g_list (by decide +kernel) (ar_cons (ev_var (pv 7)) ar_nil)))) (ss_cons (s_setV (i := 2) sc_law.nd rfl (by first | exact Or.inl rfl | exact Or.inr rfl) (pd_of (ev_user (c_l_cell false) (hr.mono (by decide)) rfl (takes_of rfl rfl rfl rfl) (as_cons (pd_of (ev_var (pv 0))) (as_cons (pd_of ev_int) as_nil))))) (ss_cons (s_if (et_cmp (ok_eq (hu64 hr)) (ev_bin ok_mod (ev_var (pv 2)) ev_int) ev_int (by first | exact nomark _ | rfl)) (ss_one (s_setV (i := 1) sc_law.nd rfl (by first | exact Or.inl rfl | exact Or.inr rfl) (pd_of (ev_user (c_l_spoilt false) (hr.mono (by decide)) rfl (takes_of rfl rfl rfl rfl) (as_cons (pd_of (ev_var (pv 1))) (as_cons (pd_of (ev_user (c_l_cell false) (hr.mono (by decide)) rfl (takes_of rfl rfl rfl rfl) (as_cons (pd_of (ev_var (pv 0))) (as_cons (pd_of ev_int) as_nil)))) (as_cons (pd_of (ev_var (pv 5))) (as_cons (pd_of (ev_var (pv 6))) as_nil)))))))) ss_nil) (ss_cons (s_if (et_w (ew_and (et_cmp (ok_eq (hu64 hr)) (ev_bin ok_mod (ev_var (pv 2)) ev_int) ev_int (by first | exact nomark _ | rfl)) (ew_and1 (et_cmp ok_lt (ev_callB ok_len rfl B.g_len (by decide +kernel) (ar_cons (ev_var (pv 1)) ar_nil)) ev_int (by first | exact nomark _ | rfl))))) (ss_one (s_setV (i := 1) sc_law.nd rfl (by first | exact Or.inl rfl | exact Or.inr rfl) (pd_of (ev_user (c_l_spoilt false) (hr.mono (by decide)) rfl (takes_of rfl rfl rfl rfl) (as_cons (pd_of (ev_var (pv 1))) (as_cons (pd_of (ev_user (c_l_cell false) (hr.mono (by decide)) rfl (takes_of rfl rfl rfl rfl) (as_cons (pd_of (ev_var (pv 0))) (as_cons (pd_of ev_int) as_nil)))) (as_cons (pd_of (ev_var (pv 5))) (as_cons (pd_of (ev_var (pv 6))) as_nil)))))))) ss_nil) (ss_cons (s_if (et_cmp (ok_eq (hu64 hr)) (ev_bin ok_mod (ev_var (pv 2)) ev_int) ev_int (by first | exact nomark _ | rfl)) (ss_cons (s_setV (i := 8) sc_law.nd rfl (by first | exact Or.inl rfl | exact Or.inr rfl) (pd_of (ev_ix (ev_lst (as_cons (pd_of ev_int) (as_cons (pd_of ev_int) (as_cons (pd_of (ev_un ok_neg ev_int)) (as_cons (pd_of (ev_bin ok_pow ev_int ev_int)) as_nil))))) (ev_user (c_l_take false) (hr.mono (by decide)) rfl (takes_of rfl rfl rfl rfl) (as_cons (pd_of (ev_var (pv 2))) (as_cons (pd_of ev_int) (as_cons (pd_of ev_int) as_nil)))) (fun _ _ => rfl)))) (ss_one (s_tup (t := .tp [5, 6]) (pd_of (ev_ix (ev_lst (as_cons (pd_of (ev_tup (as_cons (pd_of (ev_var (pv 8))) (as_cons (pd_of (ev_var (pv 6))) as_nil)))) (as_cons (pd_of (ev_tup (as_cons (pd_of (ev_var (pv 5))) (as_cons (pd_of (ev_var (pv 8))) as_nil)))) as_nil))) (ev_user (c_l_take false) (hr.mono (by decide)) rfl (takes_of rfl rfl rfl rfl) (as_cons (pd_of (ev_var (pv 2))) (as_cons (pd_of ev_int) (as_cons (pd_of ev_int) as_nil)))) (fun _ _ => rfl))) (pg_tup rfl (pgs_cons (pg_name (i := 5) sc_law.nd rfl (by first | exact Or.inl rfl | exact Or.inr rfl)) (pgs_cons (pg_name (i := 6) sc_law.nd rfl (by first | exact Or.inl rfl | exact Or.inr rfl)) pgs_nil)))))) ss_nil) (ss_cons (s_if (et_cmp (ok_eq (hu64 hr)) (ev_bin ok_mod (ev_var (pv 2)) ev_int) ev_int (by first | exact nomark _ | rfl)) (ss_one (s_setV (i := 1) sc_law.nd rfl (by first | exact Or.inl rfl | exact Or.inr rfl) (pd_of (ev_ix (ev_lst (as_cons (pd_of (ev_lst as_nil)) (as_cons (pd_of (ev_sl (ev_bin ok_times (ev_var (pv 1)) ev_int) eo_none (eo_some ev_int))) as_nil))) (ev_user (c_l_take false) (hr.mono (by decide)) rfl (takes_of rfl rfl rfl rfl) (as_cons (pd_of (ev_var (pv 2))) (as_cons (pd_of ev_int) (as_cons (pd_of ev_int) as_nil)))) (fun _ _ => rfl))))) ss_nil) (ss_cons (s_setO (i := 3) sc_law.nd rfl (by first | exact Or.inl rfl | exact Or.inr rfl) (ev_callTy ok_list rfl B.g_list (by decide +kernel) (ar_cons (ev_var (pv 1)) ar_nil))) (ss_cons (s_tup (t := .tp [9, 10]) (pd_of (ev_user (c_l_first_bad false) (hr.mono (by decide)) rfl (takes_of rfl rfl rfl rfl) (as_cons (pd_of (ev_var (pv 5))) (as_cons (pd_of (ev_var (pv 6))) (as_cons (pd_of (ev_var (pv 1))) as_nil))))) (pg_tup rfl (pgs_cons (pg_name (i := 9) sc_law.nd rfl (by first | exact Or.inl rfl | exact Or.inr rfl)) (pgs_cons (pg_name (i := 10) sc_law.nd rfl (by first | exact Or.inl rfl | exact Or.inr rfl)) pgs_nil)))) (ss_cons (s_if (et_val (ev_var (pv 9))) (ss_one (s_ret (ev_and (ev_cmp (ok_eq (hu64 hr)) (ev_look (c_l_refused false) (hr.mono (by decide)) rfl (takes_of rfl rfl rfl rfl) (ar_cons (ev_var (pv 5)) (ar_cons (ev_var (pv 6)) (ar_cons (ev_var (pv 3)) ar_nil)))) (ev_tup (as_cons (pd_of ev_bl) (as_cons (pd_of (ev_var (pv 10))) as_nil))) (by first | exact nomark _ | rfl)) (ev_one (ev_cmp (ok_eq (hu64 hr)) (ev_var (pv 3)) (ev_var (pv 1)) (by first | exact nomark _ | rfl)))))) ss_nil) (ss_cons (s_setV (i := 4) sc_law.nd rfl (by first | exact Or.inl rfl | exact Or.inr rfl) (pd_of (ev_look (c_frame_of false) (hr.mono (by decide)) rfl (takes_of rfl rfl rfl rfl) (ar_cons (ev_var (pv 5)) (ar_cons (ev_var (pv 6)) (ar_cons (ev_var (pv 3)) ar_nil)))))) (ss_cons (s_if (et_w (ew_or (et_not (et_val (ev_isi (n := "tuple") (by decide) (ev_var (pv 4)) rfl B.g_isinstance rfl B.g_tuple (by decide +kernel)))) (ew_or (et_cmp (ok_ne (hu64 hr)) (ev_var (pv 4)) (ev_tup (as_cons (pd_of (ev_var (pv 5))) (as_cons (pd_of (ev_var (pv 6))) (as_cons (pd_of (ev_callTy ok_tuple rfl B.g_tuple (by decide +kernel) (ar_cons (ev_var (pv 1)) ar_nil))) as_nil)))) (by first | exact nomark _ | rfl)) (ew_or1 (et_cmp (ok_ne (hu64 hr)) (ev_var (pv 3)) (ev_var (pv 1)) (by first | exact nomark _ | rfl)))))) (ss_one (s_ret ev_bl)) ss_nil) (ss_cons (s_app (i := 3) (pv 3) (pd_of (ev_tup (as_cons (pd_of ev_int) (as_cons (pd_of ev_int) as_nil))))) (ss_one (s_ret (ev_and (ev_isi (n := "tuple") (by decide) (ev_ix (ev_var (pv 4)) ev_int (fun _ _ => rfl)) rfl B.g_isinstance rfl B.g_tuple (by decide +kernel)) (ev_one (ev_cmp (ok_eq (hu64 hr)) (ev_var (pv 4)) (ev_tup (as_cons (pd_of (ev_var (pv 5))) (as_cons (pd_of (ev_var (pv 6))) (as_cons (pd_of (ev_callTy ok_tuple rfl B.g_tuple (by decide +kernel) (ar_cons (ev_var (pv 1)) ar_nil))) as_nil)))) (by first | exact nomark _ | rfl)))))))))))))))))))
end
end L_k01

namespace L_k01
open PySem L2 MP
/-! ## numbers, lists of numbers -/
def zs (ns : List Int) : List D := ns.map D.int
theorem zs_at (xs : List Int) (i : Nat) (h : i < xs.length) : (zs xs)[i]? = some (.int (xs.getD i 0)) := by
  unfold zs
  rw [List.getElem?_map, List.getElem?_eq_getElem h, List.getD_eq_getElem?_getD, List.getElem?_eq_getElem h]
  rfl
theorem zs_len (xs : List Int) : (zs xs).length = xs.length := by unfold zs; simp
def nD (ms : List Nat) : List D := ms.map fun m : Nat => D.int (m : Int)
def nI (ms : List Nat) : List Int := ms.map fun m : Nat => (m : Int)
theorem nD_nI (ms : List Nat) : nD ms = (nI ms).map D.int := by unfold nD nI; rw [List.map_map]; rfl
theorem nD_len (ms : List Nat) : (nD ms).length = ms.length := by unfold nD; simp
theorem nD_snoc (ms : List Nat) (m : Nat) : nD ms ++ [.int m] = nD (ms ++ [m]) := by unfold nD; simp
theorem nD_at (ms : List Nat) (i : Nat) (h : i < ms.length) : (nD ms)[i]? = some (.int (ms.getD i 0 : Nat)) := by
  unfold nD
  rw [List.getElem?_map, List.getElem?_eq_getElem h, List.getD_eq_getElem?_getD, List.getElem?_eq_getElem h]
  rfl
theorem nD_get (ms : List Nat) (i : Nat) (d : D) (h : (nD ms)[i]? = some d) : ∃ m, ms[i]? = some m ∧ d = .int (m : Nat) := by
  unfold nD at h
  rw [List.getElem?_map] at h
  cases hm : ms[i]? with
  | none => rw [hm] at h; cases h
  | some m => rw [hm] at h; exact ⟨m, rfl, (Option.some.inj h).symm⟩
theorem mem_nI (m : Nat) (ms : List Nat) : ((m : Int) ∈ nI ms) = (m ∈ ms) := by
  unfold nI
  apply propext
  rw [List.mem_map]
  constructor
  · rintro ⟨a, h, e⟩
    have : a = m := by omega
    exact this ▸ h
  · exact fun h => ⟨m, h, rfl⟩
theorem in_nD (m : Nat) (ms : List Nat) : gIn (.int m) (.list (nD ms)) = some ⟨.sh, .bool (decide (m ∈ ms))⟩ := by
  rw [nD_nI, g_inI]
  simp only [mem_nI]
theorem nin_nD (m : Nat) (ms : List Nat) : gNin (.int m) (.list (nD ms)) = some ⟨.sh, .bool (!decide (m ∈ ms))⟩ := by
  rw [nD_nI, g_ninI]
  simp only [mem_nI]
def sortN (ms : List Nat) : List Nat := (sortI (nI ms)).map Int.toNat
theorem sort_nD (ms : List Nat) : (sortN ms).Perm ms ∧ gSorted [.list (nD ms)] = some ⟨.fr, .list (nD (sortN ms))⟩ := by
  unfold sortN
  have p := sortI_perm (nI ms)
  have h : ∀ is : List Int, (∀ i ∈ is, 0 ≤ i) → is = nI (is.map Int.toNat) := by
    intro is hi
    unfold nI
    rw [List.map_map]
    conv => lhs; rw [← List.map_id is]
    refine List.map_congr_left fun a ha => ?_
    have := hi a ha
    show a = ((a.toNat : Nat) : Int)
    omega
  have hs : sortI (nI ms) = nI ((sortI (nI ms)).map Int.toNat) := h _ fun i hi => by
    have := p.subset hi
    unfold nI at this
    obtain ⟨m, _, rfl⟩ := List.mem_map.mp this
    omega
  refine ⟨?_, ?_⟩
  · have q := p.map Int.toNat
    have e : (nI ms).map Int.toNat = ms := by
      unfold nI
      rw [List.map_map]
      conv => rhs; rw [← List.map_id ms]
      exact List.map_congr_left fun a _ => by show ((a : Int)).toNat = a; omega
    rw [e] at q
    exact q
  · rw [nD_nI, g_sorted, nD_nI, ← hs]
/-! ## cells -/
theorem m_cell (ns : List Int) (k : Int) (h : 0 ≤ k) : sem_l_cell [.lk (zs ns), .int k] [] = .ok (.v (.int (ns.getD k.toNat 0))) [] := by
  unfold sem_l_cell b_l_cell
  have hl := zs_len ns
  by_cases hk : k < ns.length
  · have e := zs_at ns k.toNat (by omega)
    have e2 : atI (zs ns) k = some (.int (ns.getD k.toNat 0)) := by rw [atPos _ h, e]
    simp (disch := (first | assumption | with_reducible rfl | decide +kernel | exact Or.inl (by decide +kernel) | exact Or.inr (by decide +kernel) | omega | (simp only [List.length_cons, List.length_nil, List.length_append, List.length_map, List.length_replicate, List.length_range] <;> omega) | rfl)) only [MP.of_some, MP.map_some, MP.e_lv, MP.e_lo, MP.e_pD, MP.e_xDs, MP.e_xDf, MP.e_pC, MP.e_pYes, MP.e_pVar, MP.e_p2, MP.e_x2, MP.e_p1, MP.e_x1, MP.e_pB, MP.e_xB, MP.e_pNot, MP.e_xNot, MP.e_pAnd, MP.e_xAndT, MP.e_xAndF, MP.e_pOr, MP.e_xOrT, MP.e_xOrF, MP.e_pAndV, MP.e_xAndVT, MP.e_xAndVF, MP.e_pOrV, MP.e_xOrVT, MP.e_xOrVF, MP.e_pNotV, MP.e_xNotV, MP.e_pIf, MP.e_xIfT, MP.e_xIfF, MP.e_p3, MP.e_x3, MP.e_x3bT, MP.e_x3bF, MP.e_pNil, MP.e_pCons, MP.e_xCons, MP.e_pTup, MP.e_xTp, MP.e_pLst, MP.e_xLs, MP.e_pNo, MP.e_pSome, MP.e_xSo, MP.e_pSl, MP.e_xSl, MP.e_pCall, MP.e_xG, MP.e_pSeq, MP.e_xSq, MP.e_pSeqR, MP.e_xSqR, MP.e_pRng, MP.e_pEnum, MP.e_xEn, MP.e_pComp, MP.e_xC, MP.e_xC2, MP.e_pUser, MP.e_xU, MP.e_xFv, MP.e_xFo, MP.e_xFe, MP.e_pSeal, MP.e_xSe, MP.e_xSeFv, MP.e_xSeFo, MP.e_pLook, MP.e_xLo, MP.e_xLoF, MP.e_xLoO, MP.e_xLoE, MP.e_pFld, MP.e_xFd, MP.e_xOb, MP.e_xLk0, MP.e_xLk1, MP.e_c0, MP.e_c1, MP.g_add, MP.g_catS, MP.g_catL, MP.g_catT, MP.g_sub, MP.g_mul, MP.g_rep, MP.g_div, MP.g_mod, MP.g_pow, MP.g_shl, MP.g_shr, MP.g_and, MP.g_orI, MP.g_neg, MP.g_lt, MP.g_le, MP.g_gt, MP.g_ge, MP.g_eqI, MP.g_eqS, MP.g_eqBo, MP.g_neI, MP.g_neS, MP.g_neBo, MP.g_is, MP.g_isNot, MP.n_none, MP.n_int, MP.n_str, MP.n_tup, MP.n_list, MP.n_bool, MP.g_max, MP.g_min, MP.g_lenL, MP.g_lenK, MP.g_lenT, MP.g_listL, MP.g_listK, MP.g_listT, MP.g_tupL, MP.g_tupT, MP.q_list, MP.q_lk, MP.q_tup, MP.g_rng1, MP.g_rng2, MP.g_enumL, MP.g_enumK, MP.g_ixL, MP.g_ixK, MP.g_ixT, MP.g_slL, MP.g_slK, MP.g_slT, MP.s_Nil, MP.s_Brk, MP.s_Cont, MP.s_Seq, MP.s_xSn, MP.s_xSr, MP.s_xSb, MP.s_xSc, MP.s_xSe, MP.s_Expr, MP.s_xEx, MP.s_SetV, MP.s_xSV, MP.s_SetO, MP.s_xSOs, MP.s_xSOf, MP.s_Ret, MP.s_xRts, MP.s_xRtf, MP.s_RetN, MP.s_RetS, MP.s_xRSo, MP.s_xRSv, MP.s_If, MP.s_xIfT, MP.s_xIfF, MP.s_Tup, MP.s_xTu, MP.s_xTb, MP.s_For, MP.s_xFor, MP.s_App, MP.s_xAp, MP.s_Thaw, MP.s_xTh, MP.s_Frz, MP.s_xFzo, MP.s_xFzv, MP.s_ExprF, MP.s_xEF, MP.s_SetF, MP.s_xSF, MP.s_RetF, MP.s_xRF, MP.s_IfF, MP.s_xIFT, MP.s_xIFF, MP.s_FldN, MP.s_xN, MP.s_xN2, MP.s_xN3, MP.s_put0, MP.s_put1, MP.s_putN, MP.f_P, MP.f_xPs, MP.f_xPf, MP.f_User, MP.f_xFU, MP.f_Meth, MP.f_xM, MP.f_xM2, MP.f_Make, MP.f_xMk, MP.f_xMkF, MP.fe_ok, MP.r_run, MP.r_un, MP.r_un0, MP.r_nx, MP.r_ret, MP.r_exc, MP.t_nx, MP.t_cont, MP.t_brk, MP.t_ret, MP.b_nm, MP.b_tp2, MP.b_tp3, MP.t_bk, MP.fe_pop, MP.s_appF, MP.s_dead, MP.g_divmod, MP.g_sorted, MP.g_allB, MP.g_anyB, MP.g_sumI, MP.g_zipT, MP.g_zipL, MP.e_pZip, MP.e_xZp, MP.g_abs, MP.g_intI, MP.g_intB, MP.g_repT, MP.e_pLRng, MP.e_xLR, MP.f_Pop, MP.f_xPop, MP.s_AppF, MP.s_xAF0, MP.s_xAF, MP.s_xAF2, MP.g_inI, MP.g_ninI, MP.g_inT, MP.g_ninT, MP.g_ninST, MP.e_c2, MP.e_c3, MP.e_c4, MP.e_c5, MP.e_pIsi, MP.s_tryV, MP.s_raise, MP.s_raiseN, MP.e_pMt, MP.e_xMtL, MP.e_xMtK, MP.g_xor, MP.s_Raise, MP.s_xRa1, MP.s_xRa2, MP.s_RaiseN, MP.s_TryV, MP.s_xTVn, MP.s_xTVr, MP.s_xTVe, MP.s_tryC, MP.e_xDe, MP.e_x1e, MP.e_x2e, MP.e_xBe, MP.s_xExe, MP.s_xSVe, MP.s_xSOe, MP.s_xRte, MP.s_xIfe, MP.s_xTue, MP.s_xThe, MP.s_xEFe, MP.s_xSFe, MP.s_xRFe, MP.fe_exc, MP.t_exc, MP.n_xv, List.getElem?_cons_zero, List.getElem?_cons_succ, List.getElem?_nil, List.set_cons_zero, List.set_cons_succ, List.map_cons, List.map_nil, List.length_cons, List.length_nil, List.length_append, List.cons_append, List.nil_append, List.length_map, List.length_singleton, Nat.reduceBEq, Nat.reduceAdd, Nat.reduceSub, Nat.reduceMul, Nat.reduceEqDiff, Nat.reduceLeDiff, Nat.reduceLT, if_false, if_true, ite_true, ite_false, ↓reduceIte, Bool.not_true, Bool.not_false, Bool.false_eq_true, decide_true, decide_false, eq_self, and_true, true_and, and_self, Nat.zero_le, Nat.zero_add, Option.bind_some, Option.bind_none, Nat.lt_irrefl, Int.reduceToNat, Int.reducePow, Int.reduceNeg, Int.reduceMul, Int.reduceAdd, Int.reduceSub, Int.reduceLT, Int.reduceLE, Int.reduceEq, beq_self_eq_true, wipeE, MP.at0, MP.at1, MP.at2, MP.atLit, hl, hk, e2]
  · have e : ns.getD k.toNat 0 = 0 := by rw [List.getD_eq_getElem?_getD, List.getElem?_eq_none (by omega)]; rfl
    simp (disch := (first | assumption | with_reducible rfl | decide +kernel | exact Or.inl (by decide +kernel) | exact Or.inr (by decide +kernel) | omega | (simp only [List.length_cons, List.length_nil, List.length_append, List.length_map, List.length_replicate, List.length_range] <;> omega) | rfl)) only [MP.of_some, MP.map_some, MP.e_lv, MP.e_lo, MP.e_pD, MP.e_xDs, MP.e_xDf, MP.e_pC, MP.e_pYes, MP.e_pVar, MP.e_p2, MP.e_x2, MP.e_p1, MP.e_x1, MP.e_pB, MP.e_xB, MP.e_pNot, MP.e_xNot, MP.e_pAnd, MP.e_xAndT, MP.e_xAndF, MP.e_pOr, MP.e_xOrT, MP.e_xOrF, MP.e_pAndV, MP.e_xAndVT, MP.e_xAndVF, MP.e_pOrV, MP.e_xOrVT, MP.e_xOrVF, MP.e_pNotV, MP.e_xNotV, MP.e_pIf, MP.e_xIfT, MP.e_xIfF, MP.e_p3, MP.e_x3, MP.e_x3bT, MP.e_x3bF, MP.e_pNil, MP.e_pCons, MP.e_xCons, MP.e_pTup, MP.e_xTp, MP.e_pLst, MP.e_xLs, MP.e_pNo, MP.e_pSome, MP.e_xSo, MP.e_pSl, MP.e_xSl, MP.e_pCall, MP.e_xG, MP.e_pSeq, MP.e_xSq, MP.e_pSeqR, MP.e_xSqR, MP.e_pRng, MP.e_pEnum, MP.e_xEn, MP.e_pComp, MP.e_xC, MP.e_xC2, MP.e_pUser, MP.e_xU, MP.e_xFv, MP.e_xFo, MP.e_xFe, MP.e_pSeal, MP.e_xSe, MP.e_xSeFv, MP.e_xSeFo, MP.e_pLook, MP.e_xLo, MP.e_xLoF, MP.e_xLoO, MP.e_xLoE, MP.e_pFld, MP.e_xFd, MP.e_xOb, MP.e_xLk0, MP.e_xLk1, MP.e_c0, MP.e_c1, MP.g_add, MP.g_catS, MP.g_catL, MP.g_catT, MP.g_sub, MP.g_mul, MP.g_rep, MP.g_div, MP.g_mod, MP.g_pow, MP.g_shl, MP.g_shr, MP.g_and, MP.g_orI, MP.g_neg, MP.g_lt, MP.g_le, MP.g_gt, MP.g_ge, MP.g_eqI, MP.g_eqS, MP.g_eqBo, MP.g_neI, MP.g_neS, MP.g_neBo, MP.g_is, MP.g_isNot, MP.n_none, MP.n_int, MP.n_str, MP.n_tup, MP.n_list, MP.n_bool, MP.g_max, MP.g_min, MP.g_lenL, MP.g_lenK, MP.g_lenT, MP.g_listL, MP.g_listK, MP.g_listT, MP.g_tupL, MP.g_tupT, MP.q_list, MP.q_lk, MP.q_tup, MP.g_rng1, MP.g_rng2, MP.g_enumL, MP.g_enumK, MP.g_ixL, MP.g_ixK, MP.g_ixT, MP.g_slL, MP.g_slK, MP.g_slT, MP.s_Nil, MP.s_Brk, MP.s_Cont, MP.s_Seq, MP.s_xSn, MP.s_xSr, MP.s_xSb, MP.s_xSc, MP.s_xSe, MP.s_Expr, MP.s_xEx, MP.s_SetV, MP.s_xSV, MP.s_SetO, MP.s_xSOs, MP.s_xSOf, MP.s_Ret, MP.s_xRts, MP.s_xRtf, MP.s_RetN, MP.s_RetS, MP.s_xRSo, MP.s_xRSv, MP.s_If, MP.s_xIfT, MP.s_xIfF, MP.s_Tup, MP.s_xTu, MP.s_xTb, MP.s_For, MP.s_xFor, MP.s_App, MP.s_xAp, MP.s_Thaw, MP.s_xTh, MP.s_Frz, MP.s_xFzo, MP.s_xFzv, MP.s_ExprF, MP.s_xEF, MP.s_SetF, MP.s_xSF, MP.s_RetF, MP.s_xRF, MP.s_IfF, MP.s_xIFT, MP.s_xIFF, MP.s_FldN, MP.s_xN, MP.s_xN2, MP.s_xN3, MP.s_put0, MP.s_put1, MP.s_putN, MP.f_P, MP.f_xPs, MP.f_xPf, MP.f_User, MP.f_xFU, MP.f_Meth, MP.f_xM, MP.f_xM2, MP.f_Make, MP.f_xMk, MP.f_xMkF, MP.fe_ok, MP.r_run, MP.r_un, MP.r_un0, MP.r_nx, MP.r_ret, MP.r_exc, MP.t_nx, MP.t_cont, MP.t_brk, MP.t_ret, MP.b_nm, MP.b_tp2, MP.b_tp3, MP.t_bk, MP.fe_pop, MP.s_appF, MP.s_dead, MP.g_divmod, MP.g_sorted, MP.g_allB, MP.g_anyB, MP.g_sumI, MP.g_zipT, MP.g_zipL, MP.e_pZip, MP.e_xZp, MP.g_abs, MP.g_intI, MP.g_intB, MP.g_repT, MP.e_pLRng, MP.e_xLR, MP.f_Pop, MP.f_xPop, MP.s_AppF, MP.s_xAF0, MP.s_xAF, MP.s_xAF2, MP.g_inI, MP.g_ninI, MP.g_inT, MP.g_ninT, MP.g_ninST, MP.e_c2, MP.e_c3, MP.e_c4, MP.e_c5, MP.e_pIsi, MP.s_tryV, MP.s_raise, MP.s_raiseN, MP.e_pMt, MP.e_xMtL, MP.e_xMtK, MP.g_xor, MP.s_Raise, MP.s_xRa1, MP.s_xRa2, MP.s_RaiseN, MP.s_TryV, MP.s_xTVn, MP.s_xTVr, MP.s_xTVe, MP.s_tryC, MP.e_xDe, MP.e_x1e, MP.e_x2e, MP.e_xBe, MP.s_xExe, MP.s_xSVe, MP.s_xSOe, MP.s_xRte, MP.s_xIfe, MP.s_xTue, MP.s_xThe, MP.s_xEFe, MP.s_xSFe, MP.s_xRFe, MP.fe_exc, MP.t_exc, MP.n_xv, List.getElem?_cons_zero, List.getElem?_cons_succ, List.getElem?_nil, List.set_cons_zero, List.set_cons_succ, List.map_cons, List.map_nil, List.length_cons, List.length_nil, List.length_append, List.cons_append, List.nil_append, List.length_map, List.length_singleton, Nat.reduceBEq, Nat.reduceAdd, Nat.reduceSub, Nat.reduceMul, Nat.reduceEqDiff, Nat.reduceLeDiff, Nat.reduceLT, if_false, if_true, ite_true, ite_false, ↓reduceIte, Bool.not_true, Bool.not_false, Bool.false_eq_true, decide_true, decide_false, eq_self, and_true, true_and, and_self, Nat.zero_le, Nat.zero_add, Option.bind_some, Option.bind_none, Nat.lt_irrefl, Int.reduceToNat, Int.reducePow, Int.reduceNeg, Int.reduceMul, Int.reduceAdd, Int.reduceSub, Int.reduceLT, Int.reduceLE, Int.reduceEq, beq_self_eq_true, wipeE, MP.at0, MP.at1, MP.at2, MP.atLit, hl, hk, e]
theorem m_take_in (salt : Nat) (c : Int) (x1 x2 x3 x4 : Slot) : ∃ (c' : Int) (x4' : Slot), loopL (.nm 4) lp_l_take_1 (rng 0 (salt : Int)) ⟨[.v (.int c), x1, x2, x3, x4], []⟩ = .nx ⟨[.v (.int c'), x1, x2, x3, x4'], []⟩ := by
  obtain ⟨s', h1, c', x4', rfl⟩ := loopE (t := .nm 4) (g := lp_l_take_1) (s := ⟨[.v (.int c), x1, x2, x3, x4], []⟩) (rng 0 (salt : Int)) (fun i s => ∃ (c' : Int) (x4' : Slot), s = ⟨[.v (.int c'), x1, x2, x3, x4'], []⟩) ⟨_, _, rfl⟩ (by
    rintro i d s hd ⟨c', x4', rfl⟩
    refine ⟨_, b_nm .., ?_⟩
    unfold lp_l_take_1
    simp (disch := (first | assumption | with_reducible rfl | decide +kernel | exact Or.inl (by decide +kernel) | exact Or.inr (by decide +kernel) | omega | (simp only [List.length_cons, List.length_nil, List.length_append, List.length_map, List.length_replicate, List.length_range] <;> omega) | rfl)) only [MP.of_some, MP.map_some, MP.e_lv, MP.e_lo, MP.e_pD, MP.e_xDs, MP.e_xDf, MP.e_pC, MP.e_pYes, MP.e_pVar, MP.e_p2, MP.e_x2, MP.e_p1, MP.e_x1, MP.e_pB, MP.e_xB, MP.e_pNot, MP.e_xNot, MP.e_pAnd, MP.e_xAndT, MP.e_xAndF, MP.e_pOr, MP.e_xOrT, MP.e_xOrF, MP.e_pAndV, MP.e_xAndVT, MP.e_xAndVF, MP.e_pOrV, MP.e_xOrVT, MP.e_xOrVF, MP.e_pNotV, MP.e_xNotV, MP.e_pIf, MP.e_xIfT, MP.e_xIfF, MP.e_p3, MP.e_x3, MP.e_x3bT, MP.e_x3bF, MP.e_pNil, MP.e_pCons, MP.e_xCons, MP.e_pTup, MP.e_xTp, MP.e_pLst, MP.e_xLs, MP.e_pNo, MP.e_pSome, MP.e_xSo, MP.e_pSl, MP.e_xSl, MP.e_pCall, MP.e_xG, MP.e_pSeq, MP.e_xSq, MP.e_pSeqR, MP.e_xSqR, MP.e_pRng, MP.e_pEnum, MP.e_xEn, MP.e_pComp, MP.e_xC, MP.e_xC2, MP.e_pUser, MP.e_xU, MP.e_xFv, MP.e_xFo, MP.e_xFe, MP.e_pSeal, MP.e_xSe, MP.e_xSeFv, MP.e_xSeFo, MP.e_pLook, MP.e_xLo, MP.e_xLoF, MP.e_xLoO, MP.e_xLoE, MP.e_pFld, MP.e_xFd, MP.e_xOb, MP.e_xLk0, MP.e_xLk1, MP.e_c0, MP.e_c1, MP.g_add, MP.g_catS, MP.g_catL, MP.g_catT, MP.g_sub, MP.g_mul, MP.g_rep, MP.g_div, MP.g_mod, MP.g_pow, MP.g_shl, MP.g_shr, MP.g_and, MP.g_orI, MP.g_neg, MP.g_lt, MP.g_le, MP.g_gt, MP.g_ge, MP.g_eqI, MP.g_eqS, MP.g_eqBo, MP.g_neI, MP.g_neS, MP.g_neBo, MP.g_is, MP.g_isNot, MP.n_none, MP.n_int, MP.n_str, MP.n_tup, MP.n_list, MP.n_bool, MP.g_max, MP.g_min, MP.g_lenL, MP.g_lenK, MP.g_lenT, MP.g_listL, MP.g_listK, MP.g_listT, MP.g_tupL, MP.g_tupT, MP.q_list, MP.q_lk, MP.q_tup, MP.g_rng1, MP.g_rng2, MP.g_enumL, MP.g_enumK, MP.g_ixL, MP.g_ixK, MP.g_ixT, MP.g_slL, MP.g_slK, MP.g_slT, MP.s_Nil, MP.s_Brk, MP.s_Cont, MP.s_Seq, MP.s_xSn, MP.s_xSr, MP.s_xSb, MP.s_xSc, MP.s_xSe, MP.s_Expr, MP.s_xEx, MP.s_SetV, MP.s_xSV, MP.s_SetO, MP.s_xSOs, MP.s_xSOf, MP.s_Ret, MP.s_xRts, MP.s_xRtf, MP.s_RetN, MP.s_RetS, MP.s_xRSo, MP.s_xRSv, MP.s_If, MP.s_xIfT, MP.s_xIfF, MP.s_Tup, MP.s_xTu, MP.s_xTb, MP.s_For, MP.s_xFor, MP.s_App, MP.s_xAp, MP.s_Thaw, MP.s_xTh, MP.s_Frz, MP.s_xFzo, MP.s_xFzv, MP.s_ExprF, MP.s_xEF, MP.s_SetF, MP.s_xSF, MP.s_RetF, MP.s_xRF, MP.s_IfF, MP.s_xIFT, MP.s_xIFF, MP.s_FldN, MP.s_xN, MP.s_xN2, MP.s_xN3, MP.s_put0, MP.s_put1, MP.s_putN, MP.f_P, MP.f_xPs, MP.f_xPf, MP.f_User, MP.f_xFU, MP.f_Meth, MP.f_xM, MP.f_xM2, MP.f_Make, MP.f_xMk, MP.f_xMkF, MP.fe_ok, MP.r_run, MP.r_un, MP.r_un0, MP.r_nx, MP.r_ret, MP.r_exc, MP.t_nx, MP.t_cont, MP.t_brk, MP.t_ret, MP.b_nm, MP.b_tp2, MP.b_tp3, MP.t_bk, MP.fe_pop, MP.s_appF, MP.s_dead, MP.g_divmod, MP.g_sorted, MP.g_allB, MP.g_anyB, MP.g_sumI, MP.g_zipT, MP.g_zipL, MP.e_pZip, MP.e_xZp, MP.g_abs, MP.g_intI, MP.g_intB, MP.g_repT, MP.e_pLRng, MP.e_xLR, MP.f_Pop, MP.f_xPop, MP.s_AppF, MP.s_xAF0, MP.s_xAF, MP.s_xAF2, MP.g_inI, MP.g_ninI, MP.g_inT, MP.g_ninT, MP.g_ninST, MP.e_c2, MP.e_c3, MP.e_c4, MP.e_c5, MP.e_pIsi, MP.s_tryV, MP.s_raise, MP.s_raiseN, MP.e_pMt, MP.e_xMtL, MP.e_xMtK, MP.g_xor, MP.s_Raise, MP.s_xRa1, MP.s_xRa2, MP.s_RaiseN, MP.s_TryV, MP.s_xTVn, MP.s_xTVr, MP.s_xTVe, MP.s_tryC, MP.e_xDe, MP.e_x1e, MP.e_x2e, MP.e_xBe, MP.s_xExe, MP.s_xSVe, MP.s_xSOe, MP.s_xRte, MP.s_xIfe, MP.s_xTue, MP.s_xThe, MP.s_xEFe, MP.s_xSFe, MP.s_xRFe, MP.fe_exc, MP.t_exc, MP.n_xv, List.getElem?_cons_zero, List.getElem?_cons_succ, List.getElem?_nil, List.set_cons_zero, List.set_cons_succ, List.map_cons, List.map_nil, List.length_cons, List.length_nil, List.length_append, List.cons_append, List.nil_append, List.length_map, List.length_singleton, Nat.reduceBEq, Nat.reduceAdd, Nat.reduceSub, Nat.reduceMul, Nat.reduceEqDiff, Nat.reduceLeDiff, Nat.reduceLT, if_false, if_true, ite_true, ite_false, ↓reduceIte, Bool.not_true, Bool.not_false, Bool.false_eq_true, decide_true, decide_false, eq_self, and_true, true_and, and_self, Nat.zero_le, Nat.zero_add, Option.bind_some, Option.bind_none, Nat.lt_irrefl, Int.reduceToNat, Int.reducePow, Int.reduceNeg, Int.reduceMul, Int.reduceAdd, Int.reduceSub, Int.reduceLT, Int.reduceLE, Int.reduceEq, beq_self_eq_true, wipeE, MP.at0, MP.at1, MP.at2, MP.atLit]
    exact ⟨_, _, rfl⟩)
  exact ⟨c', x4', h1⟩
theorem m_take (c : Int) (salt : Nat) (hs : salt ≤ 1000) (many : Nat) (hm : 0 < many) : ∃ v : Nat, v < many ∧ sem_l_take [.int c, .int salt, .int many] [] = .ok (.v (.int v)) [] := by
  have nn : ∀ i : Int, ∃ v : Nat, v < many ∧ i % (many : Int) = (v : Int) := fun i => ⟨(i % (many : Int)).toNat, by
    have a := Int.emod_nonneg i (show (many : Int) ≠ 0 by omega)
    have b := Int.emod_lt_of_pos i (show (0 : Int) < many by omega)
    omega, by
    have a := Int.emod_nonneg i (show (many : Int) ≠ 0 by omega)
    omega⟩
  unfold sem_l_take
  refine run_ex (Q := fun r => ∃ v : Nat, v < many ∧ r = .ok (.v (.int v)) []) [.v (.int c), .v (.int salt), .v (.int many), .un, .un] rfl ?_
  unfold b_l_take
  obtain ⟨c', x4', h1⟩ := m_take_in salt c (.v (.int salt)) (.v (.int many)) .un .un
  by_cases h2 : c < 0
  · obtain ⟨v, hv, e⟩ := nn c'
    refine ⟨v, hv, ?_⟩
    simp (disch := (first | assumption | with_reducible rfl | decide +kernel | exact Or.inl (by decide +kernel) | exact Or.inr (by decide +kernel) | omega | (simp only [List.length_cons, List.length_nil, List.length_append, List.length_map, List.length_replicate, List.length_range] <;> omega) | rfl)) only [MP.of_some, MP.map_some, MP.e_lv, MP.e_lo, MP.e_pD, MP.e_xDs, MP.e_xDf, MP.e_pC, MP.e_pYes, MP.e_pVar, MP.e_p2, MP.e_x2, MP.e_p1, MP.e_x1, MP.e_pB, MP.e_xB, MP.e_pNot, MP.e_xNot, MP.e_pAnd, MP.e_xAndT, MP.e_xAndF, MP.e_pOr, MP.e_xOrT, MP.e_xOrF, MP.e_pAndV, MP.e_xAndVT, MP.e_xAndVF, MP.e_pOrV, MP.e_xOrVT, MP.e_xOrVF, MP.e_pNotV, MP.e_xNotV, MP.e_pIf, MP.e_xIfT, MP.e_xIfF, MP.e_p3, MP.e_x3, MP.e_x3bT, MP.e_x3bF, MP.e_pNil, MP.e_pCons, MP.e_xCons, MP.e_pTup, MP.e_xTp, MP.e_pLst, MP.e_xLs, MP.e_pNo, MP.e_pSome, MP.e_xSo, MP.e_pSl, MP.e_xSl, MP.e_pCall, MP.e_xG, MP.e_pSeq, MP.e_xSq, MP.e_pSeqR, MP.e_xSqR, MP.e_pRng, MP.e_pEnum, MP.e_xEn, MP.e_pComp, MP.e_xC, MP.e_xC2, MP.e_pUser, MP.e_xU, MP.e_xFv, MP.e_xFo, MP.e_xFe, MP.e_pSeal, MP.e_xSe, MP.e_xSeFv, MP.e_xSeFo, MP.e_pLook, MP.e_xLo, MP.e_xLoF, MP.e_xLoO, MP.e_xLoE, MP.e_pFld, MP.e_xFd, MP.e_xOb, MP.e_xLk0, MP.e_xLk1, MP.e_c0, MP.e_c1, MP.g_add, MP.g_catS, MP.g_catL, MP.g_catT, MP.g_sub, MP.g_mul, MP.g_rep, MP.g_div, MP.g_mod, MP.g_pow, MP.g_shl, MP.g_shr, MP.g_and, MP.g_orI, MP.g_neg, MP.g_lt, MP.g_le, MP.g_gt, MP.g_ge, MP.g_eqI, MP.g_eqS, MP.g_eqBo, MP.g_neI, MP.g_neS, MP.g_neBo, MP.g_is, MP.g_isNot, MP.n_none, MP.n_int, MP.n_str, MP.n_tup, MP.n_list, MP.n_bool, MP.g_max, MP.g_min, MP.g_lenL, MP.g_lenK, MP.g_lenT, MP.g_listL, MP.g_listK, MP.g_listT, MP.g_tupL, MP.g_tupT, MP.q_list, MP.q_lk, MP.q_tup, MP.g_rng1, MP.g_rng2, MP.g_enumL, MP.g_enumK, MP.g_ixL, MP.g_ixK, MP.g_ixT, MP.g_slL, MP.g_slK, MP.g_slT, MP.s_Nil, MP.s_Brk, MP.s_Cont, MP.s_Seq, MP.s_xSn, MP.s_xSr, MP.s_xSb, MP.s_xSc, MP.s_xSe, MP.s_Expr, MP.s_xEx, MP.s_SetV, MP.s_xSV, MP.s_SetO, MP.s_xSOs, MP.s_xSOf, MP.s_Ret, MP.s_xRts, MP.s_xRtf, MP.s_RetN, MP.s_RetS, MP.s_xRSo, MP.s_xRSv, MP.s_If, MP.s_xIfT, MP.s_xIfF, MP.s_Tup, MP.s_xTu, MP.s_xTb, MP.s_For, MP.s_xFor, MP.s_App, MP.s_xAp, MP.s_Thaw, MP.s_xTh, MP.s_Frz, MP.s_xFzo, MP.s_xFzv, MP.s_ExprF, MP.s_xEF, MP.s_SetF, MP.s_xSF, MP.s_RetF, MP.s_xRF, MP.s_IfF, MP.s_xIFT, MP.s_xIFF, MP.s_FldN, MP.s_xN, MP.s_xN2, MP.s_xN3, MP.s_put0, MP.s_put1, MP.s_putN, MP.f_P, MP.f_xPs, MP.f_xPf, MP.f_User, MP.f_xFU, MP.f_Meth, MP.f_xM, MP.f_xM2, MP.f_Make, MP.f_xMk, MP.f_xMkF, MP.fe_ok, MP.r_run, MP.r_un, MP.r_un0, MP.r_nx, MP.r_ret, MP.r_exc, MP.t_nx, MP.t_cont, MP.t_brk, MP.t_ret, MP.b_nm, MP.b_tp2, MP.b_tp3, MP.t_bk, MP.fe_pop, MP.s_appF, MP.s_dead, MP.g_divmod, MP.g_sorted, MP.g_allB, MP.g_anyB, MP.g_sumI, MP.g_zipT, MP.g_zipL, MP.e_pZip, MP.e_xZp, MP.g_abs, MP.g_intI, MP.g_intB, MP.g_repT, MP.e_pLRng, MP.e_xLR, MP.f_Pop, MP.f_xPop, MP.s_AppF, MP.s_xAF0, MP.s_xAF, MP.s_xAF2, MP.g_inI, MP.g_ninI, MP.g_inT, MP.g_ninT, MP.g_ninST, MP.e_c2, MP.e_c3, MP.e_c4, MP.e_c5, MP.e_pIsi, MP.s_tryV, MP.s_raise, MP.s_raiseN, MP.e_pMt, MP.e_xMtL, MP.e_xMtK, MP.g_xor, MP.s_Raise, MP.s_xRa1, MP.s_xRa2, MP.s_RaiseN, MP.s_TryV, MP.s_xTVn, MP.s_xTVr, MP.s_xTVe, MP.s_tryC, MP.e_xDe, MP.e_x1e, MP.e_x2e, MP.e_xBe, MP.s_xExe, MP.s_xSVe, MP.s_xSOe, MP.s_xRte, MP.s_xIfe, MP.s_xTue, MP.s_xThe, MP.s_xEFe, MP.s_xSFe, MP.s_xRFe, MP.fe_exc, MP.t_exc, MP.n_xv, List.getElem?_cons_zero, List.getElem?_cons_succ, List.getElem?_nil, List.set_cons_zero, List.set_cons_succ, List.map_cons, List.map_nil, List.length_cons, List.length_nil, List.length_append, List.cons_append, List.nil_append, List.length_map, List.length_singleton, Nat.reduceBEq, Nat.reduceAdd, Nat.reduceSub, Nat.reduceMul, Nat.reduceEqDiff, Nat.reduceLeDiff, Nat.reduceLT, if_false, if_true, ite_true, ite_false, ↓reduceIte, Bool.not_true, Bool.not_false, Bool.false_eq_true, decide_true, decide_false, eq_self, and_true, true_and, and_self, Nat.zero_le, Nat.zero_add, Option.bind_some, Option.bind_none, Nat.lt_irrefl, Int.reduceToNat, Int.reducePow, Int.reduceNeg, Int.reduceMul, Int.reduceAdd, Int.reduceSub, Int.reduceLT, Int.reduceLE, Int.reduceEq, beq_self_eq_true, wipeE, MP.at0, MP.at1, MP.at2, MP.atLit, h2, h1, e]
  · by_cases h3 : 1000000000000000000 ≤ c
    · obtain ⟨v, hv, e⟩ := nn c'
      refine ⟨v, hv, ?_⟩
      simp (disch := (first | assumption | with_reducible rfl | decide +kernel | exact Or.inl (by decide +kernel) | exact Or.inr (by decide +kernel) | omega | (simp only [List.length_cons, List.length_nil, List.length_append, List.length_map, List.length_replicate, List.length_range] <;> omega) | rfl)) only [MP.of_some, MP.map_some, MP.e_lv, MP.e_lo, MP.e_pD, MP.e_xDs, MP.e_xDf, MP.e_pC, MP.e_pYes, MP.e_pVar, MP.e_p2, MP.e_x2, MP.e_p1, MP.e_x1, MP.e_pB, MP.e_xB, MP.e_pNot, MP.e_xNot, MP.e_pAnd, MP.e_xAndT, MP.e_xAndF, MP.e_pOr, MP.e_xOrT, MP.e_xOrF, MP.e_pAndV, MP.e_xAndVT, MP.e_xAndVF, MP.e_pOrV, MP.e_xOrVT, MP.e_xOrVF, MP.e_pNotV, MP.e_xNotV, MP.e_pIf, MP.e_xIfT, MP.e_xIfF, MP.e_p3, MP.e_x3, MP.e_x3bT, MP.e_x3bF, MP.e_pNil, MP.e_pCons, MP.e_xCons, MP.e_pTup, MP.e_xTp, MP.e_pLst, MP.e_xLs, MP.e_pNo, MP.e_pSome, MP.e_xSo, MP.e_pSl, MP.e_xSl, MP.e_pCall, MP.e_xG, MP.e_pSeq, MP.e_xSq, MP.e_pSeqR, MP.e_xSqR, MP.e_pRng, MP.e_pEnum, MP.e_xEn, MP.e_pComp, MP.e_xC, MP.e_xC2, MP.e_pUser, MP.e_xU, MP.e_xFv, MP.e_xFo, MP.e_xFe, MP.e_pSeal, MP.e_xSe, MP.e_xSeFv, MP.e_xSeFo, MP.e_pLook, MP.e_xLo, MP.e_xLoF, MP.e_xLoO, MP.e_xLoE, MP.e_pFld, MP.e_xFd, MP.e_xOb, MP.e_xLk0, MP.e_xLk1, MP.e_c0, MP.e_c1, MP.g_add, MP.g_catS, MP.g_catL, MP.g_catT, MP.g_sub, MP.g_mul, MP.g_rep, MP.g_div, MP.g_mod, MP.g_pow, MP.g_shl, MP.g_shr, MP.g_and, MP.g_orI, MP.g_neg, MP.g_lt, MP.g_le, MP.g_gt, MP.g_ge, MP.g_eqI, MP.g_eqS, MP.g_eqBo, MP.g_neI, MP.g_neS, MP.g_neBo, MP.g_is, MP.g_isNot, MP.n_none, MP.n_int, MP.n_str, MP.n_tup, MP.n_list, MP.n_bool, MP.g_max, MP.g_min, MP.g_lenL, MP.g_lenK, MP.g_lenT, MP.g_listL, MP.g_listK, MP.g_listT, MP.g_tupL, MP.g_tupT, MP.q_list, MP.q_lk, MP.q_tup, MP.g_rng1, MP.g_rng2, MP.g_enumL, MP.g_enumK, MP.g_ixL, MP.g_ixK, MP.g_ixT, MP.g_slL, MP.g_slK, MP.g_slT, MP.s_Nil, MP.s_Brk, MP.s_Cont, MP.s_Seq, MP.s_xSn, MP.s_xSr, MP.s_xSb, MP.s_xSc, MP.s_xSe, MP.s_Expr, MP.s_xEx, MP.s_SetV, MP.s_xSV, MP.s_SetO, MP.s_xSOs, MP.s_xSOf, MP.s_Ret, MP.s_xRts, MP.s_xRtf, MP.s_RetN, MP.s_RetS, MP.s_xRSo, MP.s_xRSv, MP.s_If, MP.s_xIfT, MP.s_xIfF, MP.s_Tup, MP.s_xTu, MP.s_xTb, MP.s_For, MP.s_xFor, MP.s_App, MP.s_xAp, MP.s_Thaw, MP.s_xTh, MP.s_Frz, MP.s_xFzo, MP.s_xFzv, MP.s_ExprF, MP.s_xEF, MP.s_SetF, MP.s_xSF, MP.s_RetF, MP.s_xRF, MP.s_IfF, MP.s_xIFT, MP.s_xIFF, MP.s_FldN, MP.s_xN, MP.s_xN2, MP.s_xN3, MP.s_put0, MP.s_put1, MP.s_putN, MP.f_P, MP.f_xPs, MP.f_xPf, MP.f_User, MP.f_xFU, MP.f_Meth, MP.f_xM, MP.f_xM2, MP.f_Make, MP.f_xMk, MP.f_xMkF, MP.fe_ok, MP.r_run, MP.r_un, MP.r_un0, MP.r_nx, MP.r_ret, MP.r_exc, MP.t_nx, MP.t_cont, MP.t_brk, MP.t_ret, MP.b_nm, MP.b_tp2, MP.b_tp3, MP.t_bk, MP.fe_pop, MP.s_appF, MP.s_dead, MP.g_divmod, MP.g_sorted, MP.g_allB, MP.g_anyB, MP.g_sumI, MP.g_zipT, MP.g_zipL, MP.e_pZip, MP.e_xZp, MP.g_abs, MP.g_intI, MP.g_intB, MP.g_repT, MP.e_pLRng, MP.e_xLR, MP.f_Pop, MP.f_xPop, MP.s_AppF, MP.s_xAF0, MP.s_xAF, MP.s_xAF2, MP.g_inI, MP.g_ninI, MP.g_inT, MP.g_ninT, MP.g_ninST, MP.e_c2, MP.e_c3, MP.e_c4, MP.e_c5, MP.e_pIsi, MP.s_tryV, MP.s_raise, MP.s_raiseN, MP.e_pMt, MP.e_xMtL, MP.e_xMtK, MP.g_xor, MP.s_Raise, MP.s_xRa1, MP.s_xRa2, MP.s_RaiseN, MP.s_TryV, MP.s_xTVn, MP.s_xTVr, MP.s_xTVe, MP.s_tryC, MP.e_xDe, MP.e_x1e, MP.e_x2e, MP.e_xBe, MP.s_xExe, MP.s_xSVe, MP.s_xSOe, MP.s_xRte, MP.s_xIfe, MP.s_xTue, MP.s_xThe, MP.s_xEFe, MP.s_xSFe, MP.s_xRFe, MP.fe_exc, MP.t_exc, MP.n_xv, List.getElem?_cons_zero, List.getElem?_cons_succ, List.getElem?_nil, List.set_cons_zero, List.set_cons_succ, List.map_cons, List.map_nil, List.length_cons, List.length_nil, List.length_append, List.cons_append, List.nil_append, List.length_map, List.length_singleton, Nat.reduceBEq, Nat.reduceAdd, Nat.reduceSub, Nat.reduceMul, Nat.reduceEqDiff, Nat.reduceLeDiff, Nat.reduceLT, if_false, if_true, ite_true, ite_false, ↓reduceIte, Bool.not_true, Bool.not_false, Bool.false_eq_true, decide_true, decide_false, eq_self, and_true, true_and, and_self, Nat.zero_le, Nat.zero_add, Option.bind_some, Option.bind_none, Nat.lt_irrefl, Int.reduceToNat, Int.reducePow, Int.reduceNeg, Int.reduceMul, Int.reduceAdd, Int.reduceSub, Int.reduceLT, Int.reduceLE, Int.reduceEq, beq_self_eq_true, wipeE, MP.at0, MP.at1, MP.at2, MP.atLit, h2, h3, h1, e]
    · obtain ⟨y, hy⟩ : ∃ y : Int, y = (((c % 1000033 + 77 * salt + 5) * (salt * salt + 40009)) % 998857 * 30011 + salt) % 999983 / 3 := ⟨_, rfl⟩
      obtain ⟨v, hv, e⟩ := nn y
      refine ⟨v, hv, ?_⟩
      rw [hy] at e
      simp (disch := (first | assumption | with_reducible rfl | decide +kernel | exact Or.inl (by decide +kernel) | exact Or.inr (by decide +kernel) | omega | (simp only [List.length_cons, List.length_nil, List.length_append, List.length_map, List.length_replicate, List.length_range] <;> omega) | rfl)) only [MP.of_some, MP.map_some, MP.e_lv, MP.e_lo, MP.e_pD, MP.e_xDs, MP.e_xDf, MP.e_pC, MP.e_pYes, MP.e_pVar, MP.e_p2, MP.e_x2, MP.e_p1, MP.e_x1, MP.e_pB, MP.e_xB, MP.e_pNot, MP.e_xNot, MP.e_pAnd, MP.e_xAndT, MP.e_xAndF, MP.e_pOr, MP.e_xOrT, MP.e_xOrF, MP.e_pAndV, MP.e_xAndVT, MP.e_xAndVF, MP.e_pOrV, MP.e_xOrVT, MP.e_xOrVF, MP.e_pNotV, MP.e_xNotV, MP.e_pIf, MP.e_xIfT, MP.e_xIfF, MP.e_p3, MP.e_x3, MP.e_x3bT, MP.e_x3bF, MP.e_pNil, MP.e_pCons, MP.e_xCons, MP.e_pTup, MP.e_xTp, MP.e_pLst, MP.e_xLs, MP.e_pNo, MP.e_pSome, MP.e_xSo, MP.e_pSl, MP.e_xSl, MP.e_pCall, MP.e_xG, MP.e_pSeq, MP.e_xSq, MP.e_pSeqR, MP.e_xSqR, MP.e_pRng, MP.e_pEnum, MP.e_xEn, MP.e_pComp, MP.e_xC, MP.e_xC2, MP.e_pUser, MP.e_xU, MP.e_xFv, MP.e_xFo, MP.e_xFe, MP.e_pSeal, MP.e_xSe, MP.e_xSeFv, MP.e_xSeFo, MP.e_pLook, MP.e_xLo, MP.e_xLoF, MP.e_xLoO, MP.e_xLoE, MP.e_pFld, MP.e_xFd, MP.e_xOb, MP.e_xLk0, MP.e_xLk1, MP.e_c0, MP.e_c1, MP.g_add, MP.g_catS, MP.g_catL, MP.g_catT, MP.g_sub, MP.g_mul, MP.g_rep, MP.g_div, MP.g_mod, MP.g_pow, MP.g_shl, MP.g_shr, MP.g_and, MP.g_orI, MP.g_neg, MP.g_lt, MP.g_le, MP.g_gt, MP.g_ge, MP.g_eqI, MP.g_eqS, MP.g_eqBo, MP.g_neI, MP.g_neS, MP.g_neBo, MP.g_is, MP.g_isNot, MP.n_none, MP.n_int, MP.n_str, MP.n_tup, MP.n_list, MP.n_bool, MP.g_max, MP.g_min, MP.g_lenL, MP.g_lenK, MP.g_lenT, MP.g_listL, MP.g_listK, MP.g_listT, MP.g_tupL, MP.g_tupT, MP.q_list, MP.q_lk, MP.q_tup, MP.g_rng1, MP.g_rng2, MP.g_enumL, MP.g_enumK, MP.g_ixL, MP.g_ixK, MP.g_ixT, MP.g_slL, MP.g_slK, MP.g_slT, MP.s_Nil, MP.s_Brk, MP.s_Cont, MP.s_Seq, MP.s_xSn, MP.s_xSr, MP.s_xSb, MP.s_xSc, MP.s_xSe, MP.s_Expr, MP.s_xEx, MP.s_SetV, MP.s_xSV, MP.s_SetO, MP.s_xSOs, MP.s_xSOf, MP.s_Ret, MP.s_xRts, MP.s_xRtf, MP.s_RetN, MP.s_RetS, MP.s_xRSo, MP.s_xRSv, MP.s_If, MP.s_xIfT, MP.s_xIfF, MP.s_Tup, MP.s_xTu, MP.s_xTb, MP.s_For, MP.s_xFor, MP.s_App, MP.s_xAp, MP.s_Thaw, MP.s_xTh, MP.s_Frz, MP.s_xFzo, MP.s_xFzv, MP.s_ExprF, MP.s_xEF, MP.s_SetF, MP.s_xSF, MP.s_RetF, MP.s_xRF, MP.s_IfF, MP.s_xIFT, MP.s_xIFF, MP.s_FldN, MP.s_xN, MP.s_xN2, MP.s_xN3, MP.s_put0, MP.s_put1, MP.s_putN, MP.f_P, MP.f_xPs, MP.f_xPf, MP.f_User, MP.f_xFU, MP.f_Meth, MP.f_xM, MP.f_xM2, MP.f_Make, MP.f_xMk, MP.f_xMkF, MP.fe_ok, MP.r_run, MP.r_un, MP.r_un0, MP.r_nx, MP.r_ret, MP.r_exc, MP.t_nx, MP.t_cont, MP.t_brk, MP.t_ret, MP.b_nm, MP.b_tp2, MP.b_tp3, MP.t_bk, MP.fe_pop, MP.s_appF, MP.s_dead, MP.g_divmod, MP.g_sorted, MP.g_allB, MP.g_anyB, MP.g_sumI, MP.g_zipT, MP.g_zipL, MP.e_pZip, MP.e_xZp, MP.g_abs, MP.g_intI, MP.g_intB, MP.g_repT, MP.e_pLRng, MP.e_xLR, MP.f_Pop, MP.f_xPop, MP.s_AppF, MP.s_xAF0, MP.s_xAF, MP.s_xAF2, MP.g_inI, MP.g_ninI, MP.g_inT, MP.g_ninT, MP.g_ninST, MP.e_c2, MP.e_c3, MP.e_c4, MP.e_c5, MP.e_pIsi, MP.s_tryV, MP.s_raise, MP.s_raiseN, MP.e_pMt, MP.e_xMtL, MP.e_xMtK, MP.g_xor, MP.s_Raise, MP.s_xRa1, MP.s_xRa2, MP.s_RaiseN, MP.s_TryV, MP.s_xTVn, MP.s_xTVr, MP.s_xTVe, MP.s_tryC, MP.e_xDe, MP.e_x1e, MP.e_x2e, MP.e_xBe, MP.s_xExe, MP.s_xSVe, MP.s_xSOe, MP.s_xRte, MP.s_xIfe, MP.s_xTue, MP.s_xThe, MP.s_xEFe, MP.s_xSFe, MP.s_xRFe, MP.fe_exc, MP.t_exc, MP.n_xv, List.getElem?_cons_zero, List.getElem?_cons_succ, List.getElem?_nil, List.set_cons_zero, List.set_cons_succ, List.map_cons, List.map_nil, List.length_cons, List.length_nil, List.length_append, List.cons_append, List.nil_append, List.length_map, List.length_singleton, Nat.reduceBEq, Nat.reduceAdd, Nat.reduceSub, Nat.reduceMul, Nat.reduceEqDiff, Nat.reduceLeDiff, Nat.reduceLT, if_false, if_true, ite_true, ite_false, ↓reduceIte, Bool.not_true, Bool.not_false, Bool.false_eq_true, decide_true, decide_false, eq_self, and_true, true_and, and_self, Nat.zero_le, Nat.zero_add, Option.bind_some, Option.bind_none, Nat.lt_irrefl, Int.reduceToNat, Int.reducePow, Int.reduceNeg, Int.reduceMul, Int.reduceAdd, Int.reduceSub, Int.reduceLT, Int.reduceLE, Int.reduceEq, beq_self_eq_true, wipeE, MP.at0, MP.at1, MP.at2, MP.atLit, h2, h3, e]
/-! ## a frame: rows, columns, spots -/
def spD (e : Nat × Nat) : D := .tup [.int (e.1 : Nat), .int (e.2 : Nat)]
def spsD (es : List (Nat × Nat)) : List D := es.map spD
def frD (R C : Nat) (es : List (Nat × Nat)) : D := .tup [.int R, .int C, .tup (spsD es)]
theorem spsD_len (es : List (Nat × Nat)) : (spsD es).length = es.length := by unfold spsD; simp
theorem spsD_at (es : List (Nat × Nat)) (i : Nat) (h : i < es.length) : (spsD es)[i]? = some (spD (es.getD i (0, 0))) := by
  unfold spsD
  rw [List.getElem?_map, List.getElem?_eq_getElem h, List.getD_eq_getElem?_getD, List.getElem?_eq_getElem h]
  rfl
def Fits (R C : Nat) (es : List (Nat × Nat)) : Prop := ∀ e ∈ es, e.1 < R ∧ e.2 < C
theorem Fits.at {R C : Nat} {es : List (Nat × Nat)} (h : Fits R C es) (i : Nat) (hi : i < es.length) : (es.getD i (0, 0)).1 < R ∧ (es.getD i (0, 0)).2 < C := by
  have e : es.getD i (0, 0) = es[i] := by rw [List.getD_eq_getElem?_getD, List.getElem?_eq_getElem hi]; rfl
  rw [e]
  exact h _ (List.getElem_mem hi)
theorem spsD_erase (es : List (Nat × Nat)) (v : Nat) : (spsD es).eraseIdx v = spsD (es.eraseIdx v) := by
  unfold spsD
  induction es generalizing v with
  | nil => rfl
  | cons e es ih =>
    cases v with
    | zero => rfl
    | succ v => show spD e :: (es.map spD).eraseIdx v = spD e :: (es.eraseIdx v).map spD; rw [ih v]
theorem spsD_getD (es : List (Nat × Nat)) (v : Nat) (h : v < es.length) : (spsD es).getD v .none = spD (es.getD v (0, 0)) := by
  rw [List.getD_eq_getElem?_getD, spsD_at es v h]; rfl
theorem spsD_snoc (es : List (Nat × Nat)) (e : Nat × Nat) : spsD es ++ [spD e] = spsD (es ++ [e]) := by unfold spsD; simp
theorem erase_nd (l : List (Nat × Nat)) (h : l.Nodup) (v : Nat) (hv : v < l.length) : (l.eraseIdx v).Nodup ∧ l.getD v (0, 0) ∉ l.eraseIdx v ∧ l.getD v (0, 0) ∈ l := by
  have e : l.getD v (0, 0) = l[v] := by rw [List.getD_eq_getElem?_getD, List.getElem?_eq_getElem hv]; rfl
  refine ⟨h.sublist (List.eraseIdx_sublist ..), ?_, by rw [e]; exact List.getElem_mem hv⟩
  rw [e, List.eraseIdx_eq_take_drop_succ]
  have hs : l = l.take v ++ l[v] :: l.drop (v + 1) := by rw [List.getElem_cons_drop, List.take_append_drop]
  rw [hs] at h
  have h2 := List.nodup_append.mp h
  have h3 := List.nodup_cons.mp h2.2.1
  intro hm
  rcases List.mem_append.mp hm with hm | hm
  · exact h2.2.2 _ hm _ (List.mem_cons_self ..) rfl
  · exact h3.1 hm
theorem m_div (n C : Nat) (hC : 0 < C ∧ C ≤ 6) (env : List Slot) (h8 : 8 < env.length) (h4 : env[4]? = some (.v (.int C))) : compL (.nm 8) pYes (pD (pCall gDivmod (pCons (pVar 8) (pCons (pVar 4) (pNil))))) ⟨env, []⟩ (rng 0 (n : Int)) = .ok (spsD ((List.range n).map fun k => (k / C, k % C))) := by
  have e : spsD ((List.range n).map fun k => (k / C, k % C)) = (rng 0 (n : Int)).map fun d => match d with
    | .int i => .tup [.int (i / C), .int (i % C)]
    | d => d := by
    rw [rng_0]
    unfold spsD
    rw [List.map_map, List.map_map]
    refine List.map_congr_left fun k _ => ?_
    show D.tup [.int ((k / C : Nat) : Int), .int ((k % C : Nat) : Int)] = D.tup [.int ((k : Int) / C), .int ((k : Int) % C)]
    rw [Int.natCast_ediv, Int.natCast_emod]
  rw [e]
  refine comp_eq _ _ fun d hd => ?_
  rw [rng_0] at hd
  obtain ⟨k, _, rfl⟩ := List.mem_map.mp hd
  refine ⟨_, b_nm .., ?_⟩
  have e8 : (env.set 8 (.v (.int (k : Int))))[8]? = some (.v (.int k)) := by rw [List.getElem?_set_self h8]
  have e4 : (env.set 8 (.v (.int (k : Int))))[4]? = some (.v (.int C)) := by rw [List.getElem?_set_ne (by decide), h4]
  simp (disch := (first | assumption | with_reducible rfl | decide +kernel | exact Or.inl (by decide +kernel) | exact Or.inr (by decide +kernel) | omega | (simp only [List.length_cons, List.length_nil, List.length_append, List.length_map, List.length_replicate, List.length_range] <;> omega) | rfl)) only [MP.of_some, MP.map_some, MP.e_lv, MP.e_lo, MP.e_pD, MP.e_xDs, MP.e_xDf, MP.e_pC, MP.e_pYes, MP.e_pVar, MP.e_p2, MP.e_x2, MP.e_p1, MP.e_x1, MP.e_pB, MP.e_xB, MP.e_pNot, MP.e_xNot, MP.e_pAnd, MP.e_xAndT, MP.e_xAndF, MP.e_pOr, MP.e_xOrT, MP.e_xOrF, MP.e_pAndV, MP.e_xAndVT, MP.e_xAndVF, MP.e_pOrV, MP.e_xOrVT, MP.e_xOrVF, MP.e_pNotV, MP.e_xNotV, MP.e_pIf, MP.e_xIfT, MP.e_xIfF, MP.e_p3, MP.e_x3, MP.e_x3bT, MP.e_x3bF, MP.e_pNil, MP.e_pCons, MP.e_xCons, MP.e_pTup, MP.e_xTp, MP.e_pLst, MP.e_xLs, MP.e_pNo, MP.e_pSome, MP.e_xSo, MP.e_pSl, MP.e_xSl, MP.e_pCall, MP.e_xG, MP.e_pSeq, MP.e_xSq, MP.e_pSeqR, MP.e_xSqR, MP.e_pRng, MP.e_pEnum, MP.e_xEn, MP.e_pComp, MP.e_xC, MP.e_xC2, MP.e_pUser, MP.e_xU, MP.e_xFv, MP.e_xFo, MP.e_xFe, MP.e_pSeal, MP.e_xSe, MP.e_xSeFv, MP.e_xSeFo, MP.e_pLook, MP.e_xLo, MP.e_xLoF, MP.e_xLoO, MP.e_xLoE, MP.e_pFld, MP.e_xFd, MP.e_xOb, MP.e_xLk0, MP.e_xLk1, MP.e_c0, MP.e_c1, MP.g_add, MP.g_catS, MP.g_catL, MP.g_catT, MP.g_sub, MP.g_mul, MP.g_rep, MP.g_div, MP.g_mod, MP.g_pow, MP.g_shl, MP.g_shr, MP.g_and, MP.g_orI, MP.g_neg, MP.g_lt, MP.g_le, MP.g_gt, MP.g_ge, MP.g_eqI, MP.g_eqS, MP.g_eqBo, MP.g_neI, MP.g_neS, MP.g_neBo, MP.g_is, MP.g_isNot, MP.n_none, MP.n_int, MP.n_str, MP.n_tup, MP.n_list, MP.n_bool, MP.g_max, MP.g_min, MP.g_lenL, MP.g_lenK, MP.g_lenT, MP.g_listL, MP.g_listK, MP.g_listT, MP.g_tupL, MP.g_tupT, MP.q_list, MP.q_lk, MP.q_tup, MP.g_rng1, MP.g_rng2, MP.g_enumL, MP.g_enumK, MP.g_ixL, MP.g_ixK, MP.g_ixT, MP.g_slL, MP.g_slK, MP.g_slT, MP.s_Nil, MP.s_Brk, MP.s_Cont, MP.s_Seq, MP.s_xSn, MP.s_xSr, MP.s_xSb, MP.s_xSc, MP.s_xSe, MP.s_Expr, MP.s_xEx, MP.s_SetV, MP.s_xSV, MP.s_SetO, MP.s_xSOs, MP.s_xSOf, MP.s_Ret, MP.s_xRts, MP.s_xRtf, MP.s_RetN, MP.s_RetS, MP.s_xRSo, MP.s_xRSv, MP.s_If, MP.s_xIfT, MP.s_xIfF, MP.s_Tup, MP.s_xTu, MP.s_xTb, MP.s_For, MP.s_xFor, MP.s_App, MP.s_xAp, MP.s_Thaw, MP.s_xTh, MP.s_Frz, MP.s_xFzo, MP.s_xFzv, MP.s_ExprF, MP.s_xEF, MP.s_SetF, MP.s_xSF, MP.s_RetF, MP.s_xRF, MP.s_IfF, MP.s_xIFT, MP.s_xIFF, MP.s_FldN, MP.s_xN, MP.s_xN2, MP.s_xN3, MP.s_put0, MP.s_put1, MP.s_putN, MP.f_P, MP.f_xPs, MP.f_xPf, MP.f_User, MP.f_xFU, MP.f_Meth, MP.f_xM, MP.f_xM2, MP.f_Make, MP.f_xMk, MP.f_xMkF, MP.fe_ok, MP.r_run, MP.r_un, MP.r_un0, MP.r_nx, MP.r_ret, MP.r_exc, MP.t_nx, MP.t_cont, MP.t_brk, MP.t_ret, MP.b_nm, MP.b_tp2, MP.b_tp3, MP.t_bk, MP.fe_pop, MP.s_appF, MP.s_dead, MP.g_divmod, MP.g_sorted, MP.g_allB, MP.g_anyB, MP.g_sumI, MP.g_zipT, MP.g_zipL, MP.e_pZip, MP.e_xZp, MP.g_abs, MP.g_intI, MP.g_intB, MP.g_repT, MP.e_pLRng, MP.e_xLR, MP.f_Pop, MP.f_xPop, MP.s_AppF, MP.s_xAF0, MP.s_xAF, MP.s_xAF2, MP.g_inI, MP.g_ninI, MP.g_inT, MP.g_ninT, MP.g_ninST, MP.e_c2, MP.e_c3, MP.e_c4, MP.e_c5, MP.e_pIsi, MP.s_tryV, MP.s_raise, MP.s_raiseN, MP.e_pMt, MP.e_xMtL, MP.e_xMtK, MP.g_xor, MP.s_Raise, MP.s_xRa1, MP.s_xRa2, MP.s_RaiseN, MP.s_TryV, MP.s_xTVn, MP.s_xTVr, MP.s_xTVe, MP.s_tryC, MP.e_xDe, MP.e_x1e, MP.e_x2e, MP.e_xBe, MP.s_xExe, MP.s_xSVe, MP.s_xSOe, MP.s_xRte, MP.s_xIfe, MP.s_xTue, MP.s_xThe, MP.s_xEFe, MP.s_xSFe, MP.s_xRFe, MP.fe_exc, MP.t_exc, MP.n_xv, List.getElem?_cons_zero, List.getElem?_cons_succ, List.getElem?_nil, List.set_cons_zero, List.set_cons_succ, List.map_cons, List.map_nil, List.length_cons, List.length_nil, List.length_append, List.cons_append, List.nil_append, List.length_map, List.length_singleton, Nat.reduceBEq, Nat.reduceAdd, Nat.reduceSub, Nat.reduceMul, Nat.reduceEqDiff, Nat.reduceLeDiff, Nat.reduceLT, if_false, if_true, ite_true, ite_false, ↓reduceIte, Bool.not_true, Bool.not_false, Bool.false_eq_true, decide_true, decide_false, eq_self, and_true, true_and, and_self, Nat.zero_le, Nat.zero_add, Option.bind_some, Option.bind_none, Nat.lt_irrefl, Int.reduceToNat, Int.reducePow, Int.reduceNeg, Int.reduceMul, Int.reduceAdd, Int.reduceSub, Int.reduceLT, Int.reduceLE, Int.reduceEq, beq_self_eq_true, wipeE, MP.at0, MP.at1, MP.at2, MP.atLit, e8, e4]
theorem m_frame (ns : List Int) (most : Nat) (hm : 0 < most ∧ most ≤ 12) : ∃ (R C : Nat) (es : List (Nat × Nat)), 0 < R ∧ R ≤ 6 ∧ 0 < C ∧ C ≤ 6 ∧ (Fits R C es ∧ es.Nodup) ∧ 0 < es.length ∧ es.length ≤ most ∧
    sem_l_frame [.lk (zs ns), .int most] [] = .ok (.v (frD R C es)) [] := by
  unfold sem_l_frame
  refine run_ex (Q := fun r => ∃ (R C : Nat) (es : List (Nat × Nat)), 0 < R ∧ R ≤ 6 ∧ 0 < C ∧ C ≤ 6 ∧ (Fits R C es ∧ es.Nodup) ∧ 0 < es.length ∧ es.length ≤ most ∧ r = .ok (.v (frD R C es)) []) [.v (.lk (zs ns)), .v (.int most), .un, .un, .un, .un, .un, .un, .un] rfl ?_
  unfold b_l_frame
  have c0 := m_cell ns 0 (by decide)
  generalize ns.getD (0 : Int).toNat 0 = c at c0
  obtain ⟨r, hr, e1⟩ := m_take c 1 (by decide) 6 (by decide)
  obtain ⟨k, hk, e2⟩ := m_take c 2 (by decide) 6 (by decide)
  obtain ⟨f, hf, e3⟩ := m_take c 3 (by decide) most hm.1
  have e1 : sem_l_take [.int c, .int 1, .int 6] [] = .ok (.v (.int r)) [] := e1
  have e2 : sem_l_take [.int c, .int 2, .int 6] [] = .ok (.v (.int k)) [] := e2
  have e3 : sem_l_take [.int c, .int 3, .int most] [] = .ok (.v (.int f)) [] := e3
  have hR : (1 : Int) + r = ((r + 1 : Nat) : Int) := by omega
  have hC : (1 : Int) + k = ((k + 1 : Nat) : Int) := by omega
  have hRC : (((r + 1 : Nat) : Int)) * ((k + 1 : Nat) : Int) = (((r + 1) * (k + 1) : Nat) : Int) := by rw [Int.natCast_mul]
  have hR1 : 0 < r + 1 := by omega
  have hR2 : r + 1 ≤ 6 := by omega
  have hC1 : 0 < k + 1 := by omega
  have hC2 : k + 1 ≤ 6 := by omega
  generalize r + 1 = R at hR hRC hR1 hR2
  generalize k + 1 = C at hC hRC hC1 hC2
  have hRCb : R * C ≤ 36 := Nat.mul_le_mul hR2 hC2
  have hRCp : 0 < R * C := Nat.mul_pos hR1 hC1
  refine sq (P := fun fl => ∃ (R C : Nat) (es : List (Nat × Nat)), 0 < R ∧ R ≤ 6 ∧ 0 < C ∧ C ≤ 6 ∧ (Fits R C es ∧ es.Nodup) ∧ 0 < es.length ∧ es.length ≤ most ∧ fl.fr = .ok (.v (frD R C es)) []) (s' := ⟨[.v (.lk (zs ns)), .v (.int most), .v (.int c), .un, .un, .un, .un, .un, .un], []⟩) (by simp (disch := (first | assumption | with_reducible rfl | decide +kernel | exact Or.inl (by decide +kernel) | exact Or.inr (by decide +kernel) | omega | (simp only [List.length_cons, List.length_nil, List.length_append, List.length_map, List.length_replicate, List.length_range] <;> omega) | rfl)) only [MP.of_some, MP.map_some, MP.e_lv, MP.e_lo, MP.e_pD, MP.e_xDs, MP.e_xDf, MP.e_pC, MP.e_pYes, MP.e_pVar, MP.e_p2, MP.e_x2, MP.e_p1, MP.e_x1, MP.e_pB, MP.e_xB, MP.e_pNot, MP.e_xNot, MP.e_pAnd, MP.e_xAndT, MP.e_xAndF, MP.e_pOr, MP.e_xOrT, MP.e_xOrF, MP.e_pAndV, MP.e_xAndVT, MP.e_xAndVF, MP.e_pOrV, MP.e_xOrVT, MP.e_xOrVF, MP.e_pNotV, MP.e_xNotV, MP.e_pIf, MP.e_xIfT, MP.e_xIfF, MP.e_p3, MP.e_x3, MP.e_x3bT, MP.e_x3bF, MP.e_pNil, MP.e_pCons, MP.e_xCons, MP.e_pTup, MP.e_xTp, MP.e_pLst, MP.e_xLs, MP.e_pNo, MP.e_pSome, MP.e_xSo, MP.e_pSl, MP.e_xSl, MP.e_pCall, MP.e_xG, MP.e_pSeq, MP.e_xSq, MP.e_pSeqR, MP.e_xSqR, MP.e_pRng, MP.e_pEnum, MP.e_xEn, MP.e_pComp, MP.e_xC, MP.e_xC2, MP.e_pUser, MP.e_xU, MP.e_xFv, MP.e_xFo, MP.e_xFe, MP.e_pSeal, MP.e_xSe, MP.e_xSeFv, MP.e_xSeFo, MP.e_pLook, MP.e_xLo, MP.e_xLoF, MP.e_xLoO, MP.e_xLoE, MP.e_pFld, MP.e_xFd, MP.e_xOb, MP.e_xLk0, MP.e_xLk1, MP.e_c0, MP.e_c1, MP.g_add, MP.g_catS, MP.g_catL, MP.g_catT, MP.g_sub, MP.g_mul, MP.g_rep, MP.g_div, MP.g_mod, MP.g_pow, MP.g_shl, MP.g_shr, MP.g_and, MP.g_orI, MP.g_neg, MP.g_lt, MP.g_le, MP.g_gt, MP.g_ge, MP.g_eqI, MP.g_eqS, MP.g_eqBo, MP.g_neI, MP.g_neS, MP.g_neBo, MP.g_is, MP.g_isNot, MP.n_none, MP.n_int, MP.n_str, MP.n_tup, MP.n_list, MP.n_bool, MP.g_max, MP.g_min, MP.g_lenL, MP.g_lenK, MP.g_lenT, MP.g_listL, MP.g_listK, MP.g_listT, MP.g_tupL, MP.g_tupT, MP.q_list, MP.q_lk, MP.q_tup, MP.g_rng1, MP.g_rng2, MP.g_enumL, MP.g_enumK, MP.g_ixL, MP.g_ixK, MP.g_ixT, MP.g_slL, MP.g_slK, MP.g_slT, MP.s_Nil, MP.s_Brk, MP.s_Cont, MP.s_Seq, MP.s_xSn, MP.s_xSr, MP.s_xSb, MP.s_xSc, MP.s_xSe, MP.s_Expr, MP.s_xEx, MP.s_SetV, MP.s_xSV, MP.s_SetO, MP.s_xSOs, MP.s_xSOf, MP.s_Ret, MP.s_xRts, MP.s_xRtf, MP.s_RetN, MP.s_RetS, MP.s_xRSo, MP.s_xRSv, MP.s_If, MP.s_xIfT, MP.s_xIfF, MP.s_Tup, MP.s_xTu, MP.s_xTb, MP.s_For, MP.s_xFor, MP.s_App, MP.s_xAp, MP.s_Thaw, MP.s_xTh, MP.s_Frz, MP.s_xFzo, MP.s_xFzv, MP.s_ExprF, MP.s_xEF, MP.s_SetF, MP.s_xSF, MP.s_RetF, MP.s_xRF, MP.s_IfF, MP.s_xIFT, MP.s_xIFF, MP.s_FldN, MP.s_xN, MP.s_xN2, MP.s_xN3, MP.s_put0, MP.s_put1, MP.s_putN, MP.f_P, MP.f_xPs, MP.f_xPf, MP.f_User, MP.f_xFU, MP.f_Meth, MP.f_xM, MP.f_xM2, MP.f_Make, MP.f_xMk, MP.f_xMkF, MP.fe_ok, MP.r_run, MP.r_un, MP.r_un0, MP.r_nx, MP.r_ret, MP.r_exc, MP.t_nx, MP.t_cont, MP.t_brk, MP.t_ret, MP.b_nm, MP.b_tp2, MP.b_tp3, MP.t_bk, MP.fe_pop, MP.s_appF, MP.s_dead, MP.g_divmod, MP.g_sorted, MP.g_allB, MP.g_anyB, MP.g_sumI, MP.g_zipT, MP.g_zipL, MP.e_pZip, MP.e_xZp, MP.g_abs, MP.g_intI, MP.g_intB, MP.g_repT, MP.e_pLRng, MP.e_xLR, MP.f_Pop, MP.f_xPop, MP.s_AppF, MP.s_xAF0, MP.s_xAF, MP.s_xAF2, MP.g_inI, MP.g_ninI, MP.g_inT, MP.g_ninT, MP.g_ninST, MP.e_c2, MP.e_c3, MP.e_c4, MP.e_c5, MP.e_pIsi, MP.s_tryV, MP.s_raise, MP.s_raiseN, MP.e_pMt, MP.e_xMtL, MP.e_xMtK, MP.g_xor, MP.s_Raise, MP.s_xRa1, MP.s_xRa2, MP.s_RaiseN, MP.s_TryV, MP.s_xTVn, MP.s_xTVr, MP.s_xTVe, MP.s_tryC, MP.e_xDe, MP.e_x1e, MP.e_x2e, MP.e_xBe, MP.s_xExe, MP.s_xSVe, MP.s_xSOe, MP.s_xRte, MP.s_xIfe, MP.s_xTue, MP.s_xThe, MP.s_xEFe, MP.s_xSFe, MP.s_xRFe, MP.fe_exc, MP.t_exc, MP.n_xv, List.getElem?_cons_zero, List.getElem?_cons_succ, List.getElem?_nil, List.set_cons_zero, List.set_cons_succ, List.map_cons, List.map_nil, List.length_cons, List.length_nil, List.length_append, List.cons_append, List.nil_append, List.length_map, List.length_singleton, Nat.reduceBEq, Nat.reduceAdd, Nat.reduceSub, Nat.reduceMul, Nat.reduceEqDiff, Nat.reduceLeDiff, Nat.reduceLT, if_false, if_true, ite_true, ite_false, ↓reduceIte, Bool.not_true, Bool.not_false, Bool.false_eq_true, decide_true, decide_false, eq_self, and_true, true_and, and_self, Nat.zero_le, Nat.zero_add, Option.bind_some, Option.bind_none, Nat.lt_irrefl, Int.reduceToNat, Int.reducePow, Int.reduceNeg, Int.reduceMul, Int.reduceAdd, Int.reduceSub, Int.reduceLT, Int.reduceLE, Int.reduceEq, beq_self_eq_true, wipeE, MP.at0, MP.at1, MP.at2, MP.atLit, c0]) ?_
  refine sq (P := fun fl => ∃ (R C : Nat) (es : List (Nat × Nat)), 0 < R ∧ R ≤ 6 ∧ 0 < C ∧ C ≤ 6 ∧ (Fits R C es ∧ es.Nodup) ∧ 0 < es.length ∧ es.length ≤ most ∧ fl.fr = .ok (.v (frD R C es)) []) (s' := ⟨[.v (.lk (zs ns)), .v (.int most), .v (.int c), .v (.int R), .un, .un, .un, .un, .un], []⟩) (by simp (disch := (first | assumption | with_reducible rfl | decide +kernel | exact Or.inl (by decide +kernel) | exact Or.inr (by decide +kernel) | omega | (simp only [List.length_cons, List.length_nil, List.length_append, List.length_map, List.length_replicate, List.length_range] <;> omega) | rfl)) only [MP.of_some, MP.map_some, MP.e_lv, MP.e_lo, MP.e_pD, MP.e_xDs, MP.e_xDf, MP.e_pC, MP.e_pYes, MP.e_pVar, MP.e_p2, MP.e_x2, MP.e_p1, MP.e_x1, MP.e_pB, MP.e_xB, MP.e_pNot, MP.e_xNot, MP.e_pAnd, MP.e_xAndT, MP.e_xAndF, MP.e_pOr, MP.e_xOrT, MP.e_xOrF, MP.e_pAndV, MP.e_xAndVT, MP.e_xAndVF, MP.e_pOrV, MP.e_xOrVT, MP.e_xOrVF, MP.e_pNotV, MP.e_xNotV, MP.e_pIf, MP.e_xIfT, MP.e_xIfF, MP.e_p3, MP.e_x3, MP.e_x3bT, MP.e_x3bF, MP.e_pNil, MP.e_pCons, MP.e_xCons, MP.e_pTup, MP.e_xTp, MP.e_pLst, MP.e_xLs, MP.e_pNo, MP.e_pSome, MP.e_xSo, MP.e_pSl, MP.e_xSl, MP.e_pCall, MP.e_xG, MP.e_pSeq, MP.e_xSq, MP.e_pSeqR, MP.e_xSqR, MP.e_pRng, MP.e_pEnum, MP.e_xEn, MP.e_pComp, MP.e_xC, MP.e_xC2, MP.e_pUser, MP.e_xU, MP.e_xFv, MP.e_xFo, MP.e_xFe, MP.e_pSeal, MP.e_xSe, MP.e_xSeFv, MP.e_xSeFo, MP.e_pLook, MP.e_xLo, MP.e_xLoF, MP.e_xLoO, MP.e_xLoE, MP.e_pFld, MP.e_xFd, MP.e_xOb, MP.e_xLk0, MP.e_xLk1, MP.e_c0, MP.e_c1, MP.g_add, MP.g_catS, MP.g_catL, MP.g_catT, MP.g_sub, MP.g_mul, MP.g_rep, MP.g_div, MP.g_mod, MP.g_pow, MP.g_shl, MP.g_shr, MP.g_and, MP.g_orI, MP.g_neg, MP.g_lt, MP.g_le, MP.g_gt, MP.g_ge, MP.g_eqI, MP.g_eqS, MP.g_eqBo, MP.g_neI, MP.g_neS, MP.g_neBo, MP.g_is, MP.g_isNot, MP.n_none, MP.n_int, MP.n_str, MP.n_tup, MP.n_list, MP.n_bool, MP.g_max, MP.g_min, MP.g_lenL, MP.g_lenK, MP.g_lenT, MP.g_listL, MP.g_listK, MP.g_listT, MP.g_tupL, MP.g_tupT, MP.q_list, MP.q_lk, MP.q_tup, MP.g_rng1, MP.g_rng2, MP.g_enumL, MP.g_enumK, MP.g_ixL, MP.g_ixK, MP.g_ixT, MP.g_slL, MP.g_slK, MP.g_slT, MP.s_Nil, MP.s_Brk, MP.s_Cont, MP.s_Seq, MP.s_xSn, MP.s_xSr, MP.s_xSb, MP.s_xSc, MP.s_xSe, MP.s_Expr, MP.s_xEx, MP.s_SetV, MP.s_xSV, MP.s_SetO, MP.s_xSOs, MP.s_xSOf, MP.s_Ret, MP.s_xRts, MP.s_xRtf, MP.s_RetN, MP.s_RetS, MP.s_xRSo, MP.s_xRSv, MP.s_If, MP.s_xIfT, MP.s_xIfF, MP.s_Tup, MP.s_xTu, MP.s_xTb, MP.s_For, MP.s_xFor, MP.s_App, MP.s_xAp, MP.s_Thaw, MP.s_xTh, MP.s_Frz, MP.s_xFzo, MP.s_xFzv, MP.s_ExprF, MP.s_xEF, MP.s_SetF, MP.s_xSF, MP.s_RetF, MP.s_xRF, MP.s_IfF, MP.s_xIFT, MP.s_xIFF, MP.s_FldN, MP.s_xN, MP.s_xN2, MP.s_xN3, MP.s_put0, MP.s_put1, MP.s_putN, MP.f_P, MP.f_xPs, MP.f_xPf, MP.f_User, MP.f_xFU, MP.f_Meth, MP.f_xM, MP.f_xM2, MP.f_Make, MP.f_xMk, MP.f_xMkF, MP.fe_ok, MP.r_run, MP.r_un, MP.r_un0, MP.r_nx, MP.r_ret, MP.r_exc, MP.t_nx, MP.t_cont, MP.t_brk, MP.t_ret, MP.b_nm, MP.b_tp2, MP.b_tp3, MP.t_bk, MP.fe_pop, MP.s_appF, MP.s_dead, MP.g_divmod, MP.g_sorted, MP.g_allB, MP.g_anyB, MP.g_sumI, MP.g_zipT, MP.g_zipL, MP.e_pZip, MP.e_xZp, MP.g_abs, MP.g_intI, MP.g_intB, MP.g_repT, MP.e_pLRng, MP.e_xLR, MP.f_Pop, MP.f_xPop, MP.s_AppF, MP.s_xAF0, MP.s_xAF, MP.s_xAF2, MP.g_inI, MP.g_ninI, MP.g_inT, MP.g_ninT, MP.g_ninST, MP.e_c2, MP.e_c3, MP.e_c4, MP.e_c5, MP.e_pIsi, MP.s_tryV, MP.s_raise, MP.s_raiseN, MP.e_pMt, MP.e_xMtL, MP.e_xMtK, MP.g_xor, MP.s_Raise, MP.s_xRa1, MP.s_xRa2, MP.s_RaiseN, MP.s_TryV, MP.s_xTVn, MP.s_xTVr, MP.s_xTVe, MP.s_tryC, MP.e_xDe, MP.e_x1e, MP.e_x2e, MP.e_xBe, MP.s_xExe, MP.s_xSVe, MP.s_xSOe, MP.s_xRte, MP.s_xIfe, MP.s_xTue, MP.s_xThe, MP.s_xEFe, MP.s_xSFe, MP.s_xRFe, MP.fe_exc, MP.t_exc, MP.n_xv, List.getElem?_cons_zero, List.getElem?_cons_succ, List.getElem?_nil, List.set_cons_zero, List.set_cons_succ, List.map_cons, List.map_nil, List.length_cons, List.length_nil, List.length_append, List.cons_append, List.nil_append, List.length_map, List.length_singleton, Nat.reduceBEq, Nat.reduceAdd, Nat.reduceSub, Nat.reduceMul, Nat.reduceEqDiff, Nat.reduceLeDiff, Nat.reduceLT, if_false, if_true, ite_true, ite_false, ↓reduceIte, Bool.not_true, Bool.not_false, Bool.false_eq_true, decide_true, decide_false, eq_self, and_true, true_and, and_self, Nat.zero_le, Nat.zero_add, Option.bind_some, Option.bind_none, Nat.lt_irrefl, Int.reduceToNat, Int.reducePow, Int.reduceNeg, Int.reduceMul, Int.reduceAdd, Int.reduceSub, Int.reduceLT, Int.reduceLE, Int.reduceEq, beq_self_eq_true, wipeE, MP.at0, MP.at1, MP.at2, MP.atLit, e1, hR]) ?_
  refine sq (P := fun fl => ∃ (R C : Nat) (es : List (Nat × Nat)), 0 < R ∧ R ≤ 6 ∧ 0 < C ∧ C ≤ 6 ∧ (Fits R C es ∧ es.Nodup) ∧ 0 < es.length ∧ es.length ≤ most ∧ fl.fr = .ok (.v (frD R C es)) []) (s' := ⟨[.v (.lk (zs ns)), .v (.int most), .v (.int c), .v (.int R), .v (.int C), .un, .un, .un, .un], []⟩) (by simp (disch := (first | assumption | with_reducible rfl | decide +kernel | exact Or.inl (by decide +kernel) | exact Or.inr (by decide +kernel) | omega | (simp only [List.length_cons, List.length_nil, List.length_append, List.length_map, List.length_replicate, List.length_range] <;> omega) | rfl)) only [MP.of_some, MP.map_some, MP.e_lv, MP.e_lo, MP.e_pD, MP.e_xDs, MP.e_xDf, MP.e_pC, MP.e_pYes, MP.e_pVar, MP.e_p2, MP.e_x2, MP.e_p1, MP.e_x1, MP.e_pB, MP.e_xB, MP.e_pNot, MP.e_xNot, MP.e_pAnd, MP.e_xAndT, MP.e_xAndF, MP.e_pOr, MP.e_xOrT, MP.e_xOrF, MP.e_pAndV, MP.e_xAndVT, MP.e_xAndVF, MP.e_pOrV, MP.e_xOrVT, MP.e_xOrVF, MP.e_pNotV, MP.e_xNotV, MP.e_pIf, MP.e_xIfT, MP.e_xIfF, MP.e_p3, MP.e_x3, MP.e_x3bT, MP.e_x3bF, MP.e_pNil, MP.e_pCons, MP.e_xCons, MP.e_pTup, MP.e_xTp, MP.e_pLst, MP.e_xLs, MP.e_pNo, MP.e_pSome, MP.e_xSo, MP.e_pSl, MP.e_xSl, MP.e_pCall, MP.e_xG, MP.e_pSeq, MP.e_xSq, MP.e_pSeqR, MP.e_xSqR, MP.e_pRng, MP.e_pEnum, MP.e_xEn, MP.e_pComp, MP.e_xC, MP.e_xC2, MP.e_pUser, MP.e_xU, MP.e_xFv, MP.e_xFo, MP.e_xFe, MP.e_pSeal, MP.e_xSe, MP.e_xSeFv, MP.e_xSeFo, MP.e_pLook, MP.e_xLo, MP.e_xLoF, MP.e_xLoO, MP.e_xLoE, MP.e_pFld, MP.e_xFd, MP.e_xOb, MP.e_xLk0, MP.e_xLk1, MP.e_c0, MP.e_c1, MP.g_add, MP.g_catS, MP.g_catL, MP.g_catT, MP.g_sub, MP.g_mul, MP.g_rep, MP.g_div, MP.g_mod, MP.g_pow, MP.g_shl, MP.g_shr, MP.g_and, MP.g_orI, MP.g_neg, MP.g_lt, MP.g_le, MP.g_gt, MP.g_ge, MP.g_eqI, MP.g_eqS, MP.g_eqBo, MP.g_neI, MP.g_neS, MP.g_neBo, MP.g_is, MP.g_isNot, MP.n_none, MP.n_int, MP.n_str, MP.n_tup, MP.n_list, MP.n_bool, MP.g_max, MP.g_min, MP.g_lenL, MP.g_lenK, MP.g_lenT, MP.g_listL, MP.g_listK, MP.g_listT, MP.g_tupL, MP.g_tupT, MP.q_list, MP.q_lk, MP.q_tup, MP.g_rng1, MP.g_rng2, MP.g_enumL, MP.g_enumK, MP.g_ixL, MP.g_ixK, MP.g_ixT, MP.g_slL, MP.g_slK, MP.g_slT, MP.s_Nil, MP.s_Brk, MP.s_Cont, MP.s_Seq, MP.s_xSn, MP.s_xSr, MP.s_xSb, MP.s_xSc, MP.s_xSe, MP.s_Expr, MP.s_xEx, MP.s_SetV, MP.s_xSV, MP.s_SetO, MP.s_xSOs, MP.s_xSOf, MP.s_Ret, MP.s_xRts, MP.s_xRtf, MP.s_RetN, MP.s_RetS, MP.s_xRSo, MP.s_xRSv, MP.s_If, MP.s_xIfT, MP.s_xIfF, MP.s_Tup, MP.s_xTu, MP.s_xTb, MP.s_For, MP.s_xFor, MP.s_App, MP.s_xAp, MP.s_Thaw, MP.s_xTh, MP.s_Frz, MP.s_xFzo, MP.s_xFzv, MP.s_ExprF, MP.s_xEF, MP.s_SetF, MP.s_xSF, MP.s_RetF, MP.s_xRF, MP.s_IfF, MP.s_xIFT, MP.s_xIFF, MP.s_FldN, MP.s_xN, MP.s_xN2, MP.s_xN3, MP.s_put0, MP.s_put1, MP.s_putN, MP.f_P, MP.f_xPs, MP.f_xPf, MP.f_User, MP.f_xFU, MP.f_Meth, MP.f_xM, MP.f_xM2, MP.f_Make, MP.f_xMk, MP.f_xMkF, MP.fe_ok, MP.r_run, MP.r_un, MP.r_un0, MP.r_nx, MP.r_ret, MP.r_exc, MP.t_nx, MP.t_cont, MP.t_brk, MP.t_ret, MP.b_nm, MP.b_tp2, MP.b_tp3, MP.t_bk, MP.fe_pop, MP.s_appF, MP.s_dead, MP.g_divmod, MP.g_sorted, MP.g_allB, MP.g_anyB, MP.g_sumI, MP.g_zipT, MP.g_zipL, MP.e_pZip, MP.e_xZp, MP.g_abs, MP.g_intI, MP.g_intB, MP.g_repT, MP.e_pLRng, MP.e_xLR, MP.f_Pop, MP.f_xPop, MP.s_AppF, MP.s_xAF0, MP.s_xAF, MP.s_xAF2, MP.g_inI, MP.g_ninI, MP.g_inT, MP.g_ninT, MP.g_ninST, MP.e_c2, MP.e_c3, MP.e_c4, MP.e_c5, MP.e_pIsi, MP.s_tryV, MP.s_raise, MP.s_raiseN, MP.e_pMt, MP.e_xMtL, MP.e_xMtK, MP.g_xor, MP.s_Raise, MP.s_xRa1, MP.s_xRa2, MP.s_RaiseN, MP.s_TryV, MP.s_xTVn, MP.s_xTVr, MP.s_xTVe, MP.s_tryC, MP.e_xDe, MP.e_x1e, MP.e_x2e, MP.e_xBe, MP.s_xExe, MP.s_xSVe, MP.s_xSOe, MP.s_xRte, MP.s_xIfe, MP.s_xTue, MP.s_xThe, MP.s_xEFe, MP.s_xSFe, MP.s_xRFe, MP.fe_exc, MP.t_exc, MP.n_xv, List.getElem?_cons_zero, List.getElem?_cons_succ, List.getElem?_nil, List.set_cons_zero, List.set_cons_succ, List.map_cons, List.map_nil, List.length_cons, List.length_nil, List.length_append, List.cons_append, List.nil_append, List.length_map, List.length_singleton, Nat.reduceBEq, Nat.reduceAdd, Nat.reduceSub, Nat.reduceMul, Nat.reduceEqDiff, Nat.reduceLeDiff, Nat.reduceLT, if_false, if_true, ite_true, ite_false, ↓reduceIte, Bool.not_true, Bool.not_false, Bool.false_eq_true, decide_true, decide_false, eq_self, and_true, true_and, and_self, Nat.zero_le, Nat.zero_add, Option.bind_some, Option.bind_none, Nat.lt_irrefl, Int.reduceToNat, Int.reducePow, Int.reduceNeg, Int.reduceMul, Int.reduceAdd, Int.reduceSub, Int.reduceLT, Int.reduceLE, Int.reduceEq, beq_self_eq_true, wipeE, MP.at0, MP.at1, MP.at2, MP.atLit, e2, hC]) ?_
  have hd := m_div (R * C) C ⟨hC1, hC2⟩ [.v (.lk (zs ns)), .v (.int most), .v (.int c), .v (.int R), .v (.int C), .un, .un, .un, .un] (by simp) rfl
  have hrl := rngLenN (R * C)
  have hfit : Fits R C ((List.range (R * C)).map fun k => (k / C, k % C)) := by
    intro e he
    obtain ⟨j, hj, rfl⟩ := List.mem_map.mp he
    have hj := List.mem_range.mp hj
    exact ⟨Nat.div_lt_of_lt_mul (by rw [Nat.mul_comm]; exact hj), Nat.mod_lt _ hC1⟩
  have hll : ((List.range (R * C)).map fun k => (k / C, k % C)).length = R * C := by simp
  have hnd : ((List.range (R * C)).map fun k => (k / C, k % C)).Nodup := by
    refine List.pairwise_map.mpr (List.nodup_range.imp fun {a b} h e => h ?_)
    injection e with e1 e2
    rw [← Nat.div_add_mod a C, ← Nat.div_add_mod b C, e1, e2]
  generalize ((List.range (R * C)).map fun k => (k / C, k % C)) = left at hd hfit hll hnd
  refine sq (P := fun fl => ∃ (R C : Nat) (es : List (Nat × Nat)), 0 < R ∧ R ≤ 6 ∧ 0 < C ∧ C ≤ 6 ∧ (Fits R C es ∧ es.Nodup) ∧ 0 < es.length ∧ es.length ≤ most ∧ fl.fr = .ok (.v (frD R C es)) []) (s' := ⟨[.v (.lk (zs ns)), .v (.int most), .v (.int c), .v (.int R), .v (.int C), .own (.list (spsD left)), .un, .un, .un], []⟩) (by simp (disch := (first | assumption | with_reducible rfl | decide +kernel | exact Or.inl (by decide +kernel) | exact Or.inr (by decide +kernel) | omega | (simp only [List.length_cons, List.length_nil, List.length_append, List.length_map, List.length_replicate, List.length_range] <;> omega) | rfl)) only [MP.of_some, MP.map_some, MP.e_lv, MP.e_lo, MP.e_pD, MP.e_xDs, MP.e_xDf, MP.e_pC, MP.e_pYes, MP.e_pVar, MP.e_p2, MP.e_x2, MP.e_p1, MP.e_x1, MP.e_pB, MP.e_xB, MP.e_pNot, MP.e_xNot, MP.e_pAnd, MP.e_xAndT, MP.e_xAndF, MP.e_pOr, MP.e_xOrT, MP.e_xOrF, MP.e_pAndV, MP.e_xAndVT, MP.e_xAndVF, MP.e_pOrV, MP.e_xOrVT, MP.e_xOrVF, MP.e_pNotV, MP.e_xNotV, MP.e_pIf, MP.e_xIfT, MP.e_xIfF, MP.e_p3, MP.e_x3, MP.e_x3bT, MP.e_x3bF, MP.e_pNil, MP.e_pCons, MP.e_xCons, MP.e_pTup, MP.e_xTp, MP.e_pLst, MP.e_xLs, MP.e_pNo, MP.e_pSome, MP.e_xSo, MP.e_pSl, MP.e_xSl, MP.e_pCall, MP.e_xG, MP.e_pSeq, MP.e_xSq, MP.e_pSeqR, MP.e_xSqR, MP.e_pRng, MP.e_pEnum, MP.e_xEn, MP.e_pComp, MP.e_xC, MP.e_xC2, MP.e_pUser, MP.e_xU, MP.e_xFv, MP.e_xFo, MP.e_xFe, MP.e_pSeal, MP.e_xSe, MP.e_xSeFv, MP.e_xSeFo, MP.e_pLook, MP.e_xLo, MP.e_xLoF, MP.e_xLoO, MP.e_xLoE, MP.e_pFld, MP.e_xFd, MP.e_xOb, MP.e_xLk0, MP.e_xLk1, MP.e_c0, MP.e_c1, MP.g_add, MP.g_catS, MP.g_catL, MP.g_catT, MP.g_sub, MP.g_mul, MP.g_rep, MP.g_div, MP.g_mod, MP.g_pow, MP.g_shl, MP.g_shr, MP.g_and, MP.g_orI, MP.g_neg, MP.g_lt, MP.g_le, MP.g_gt, MP.g_ge, MP.g_eqI, MP.g_eqS, MP.g_eqBo, MP.g_neI, MP.g_neS, MP.g_neBo, MP.g_is, MP.g_isNot, MP.n_none, MP.n_int, MP.n_str, MP.n_tup, MP.n_list, MP.n_bool, MP.g_max, MP.g_min, MP.g_lenL, MP.g_lenK, MP.g_lenT, MP.g_listL, MP.g_listK, MP.g_listT, MP.g_tupL, MP.g_tupT, MP.q_list, MP.q_lk, MP.q_tup, MP.g_rng1, MP.g_rng2, MP.g_enumL, MP.g_enumK, MP.g_ixL, MP.g_ixK, MP.g_ixT, MP.g_slL, MP.g_slK, MP.g_slT, MP.s_Nil, MP.s_Brk, MP.s_Cont, MP.s_Seq, MP.s_xSn, MP.s_xSr, MP.s_xSb, MP.s_xSc, MP.s_xSe, MP.s_Expr, MP.s_xEx, MP.s_SetV, MP.s_xSV, MP.s_SetO, MP.s_xSOs, MP.s_xSOf, MP.s_Ret, MP.s_xRts, MP.s_xRtf, MP.s_RetN, MP.s_RetS, MP.s_xRSo, MP.s_xRSv, MP.s_If, MP.s_xIfT, MP.s_xIfF, MP.s_Tup, MP.s_xTu, MP.s_xTb, MP.s_For, MP.s_xFor, MP.s_App, MP.s_xAp, MP.s_Thaw, MP.s_xTh, MP.s_Frz, MP.s_xFzo, MP.s_xFzv, MP.s_ExprF, MP.s_xEF, MP.s_SetF, MP.s_xSF, MP.s_RetF, MP.s_xRF, MP.s_IfF, MP.s_xIFT, MP.s_xIFF, MP.s_FldN, MP.s_xN, MP.s_xN2, MP.s_xN3, MP.s_put0, MP.s_put1, MP.s_putN, MP.f_P, MP.f_xPs, MP.f_xPf, MP.f_User, MP.f_xFU, MP.f_Meth, MP.f_xM, MP.f_xM2, MP.f_Make, MP.f_xMk, MP.f_xMkF, MP.fe_ok, MP.r_run, MP.r_un, MP.r_un0, MP.r_nx, MP.r_ret, MP.r_exc, MP.t_nx, MP.t_cont, MP.t_brk, MP.t_ret, MP.b_nm, MP.b_tp2, MP.b_tp3, MP.t_bk, MP.fe_pop, MP.s_appF, MP.s_dead, MP.g_divmod, MP.g_sorted, MP.g_allB, MP.g_anyB, MP.g_sumI, MP.g_zipT, MP.g_zipL, MP.e_pZip, MP.e_xZp, MP.g_abs, MP.g_intI, MP.g_intB, MP.g_repT, MP.e_pLRng, MP.e_xLR, MP.f_Pop, MP.f_xPop, MP.s_AppF, MP.s_xAF0, MP.s_xAF, MP.s_xAF2, MP.g_inI, MP.g_ninI, MP.g_inT, MP.g_ninT, MP.g_ninST, MP.e_c2, MP.e_c3, MP.e_c4, MP.e_c5, MP.e_pIsi, MP.s_tryV, MP.s_raise, MP.s_raiseN, MP.e_pMt, MP.e_xMtL, MP.e_xMtK, MP.g_xor, MP.s_Raise, MP.s_xRa1, MP.s_xRa2, MP.s_RaiseN, MP.s_TryV, MP.s_xTVn, MP.s_xTVr, MP.s_xTVe, MP.s_tryC, MP.e_xDe, MP.e_x1e, MP.e_x2e, MP.e_xBe, MP.s_xExe, MP.s_xSVe, MP.s_xSOe, MP.s_xRte, MP.s_xIfe, MP.s_xTue, MP.s_xThe, MP.s_xEFe, MP.s_xSFe, MP.s_xRFe, MP.fe_exc, MP.t_exc, MP.n_xv, List.getElem?_cons_zero, List.getElem?_cons_succ, List.getElem?_nil, List.set_cons_zero, List.set_cons_succ, List.map_cons, List.map_nil, List.length_cons, List.length_nil, List.length_append, List.cons_append, List.nil_append, List.length_map, List.length_singleton, Nat.reduceBEq, Nat.reduceAdd, Nat.reduceSub, Nat.reduceMul, Nat.reduceEqDiff, Nat.reduceLeDiff, Nat.reduceLT, if_false, if_true, ite_true, ite_false, ↓reduceIte, Bool.not_true, Bool.not_false, Bool.false_eq_true, decide_true, decide_false, eq_self, and_true, true_and, and_self, Nat.zero_le, Nat.zero_add, Option.bind_some, Option.bind_none, Nat.lt_irrefl, Int.reduceToNat, Int.reducePow, Int.reduceNeg, Int.reduceMul, Int.reduceAdd, Int.reduceSub, Int.reduceLT, Int.reduceLE, Int.reduceEq, beq_self_eq_true, wipeE, MP.at0, MP.at1, MP.at2, MP.atLit, hRC, hd]) ?_
  refine sq (P := fun fl => ∃ (R C : Nat) (es : List (Nat × Nat)), 0 < R ∧ R ≤ 6 ∧ 0 < C ∧ C ≤ 6 ∧ (Fits R C es ∧ es.Nodup) ∧ 0 < es.length ∧ es.length ≤ most ∧ fl.fr = .ok (.v (frD R C es)) []) (s' := ⟨[.v (.lk (zs ns)), .v (.int most), .v (.int c), .v (.int R), .v (.int C), .own (.list (spsD left)), .own (.list []), .un, .un], []⟩) (by simp (disch := (first | assumption | with_reducible rfl | decide +kernel | exact Or.inl (by decide +kernel) | exact Or.inr (by decide +kernel) | omega | (simp only [List.length_cons, List.length_nil, List.length_append, List.length_map, List.length_replicate, List.length_range] <;> omega) | rfl)) only [MP.of_some, MP.map_some, MP.e_lv, MP.e_lo, MP.e_pD, MP.e_xDs, MP.e_xDf, MP.e_pC, MP.e_pYes, MP.e_pVar, MP.e_p2, MP.e_x2, MP.e_p1, MP.e_x1, MP.e_pB, MP.e_xB, MP.e_pNot, MP.e_xNot, MP.e_pAnd, MP.e_xAndT, MP.e_xAndF, MP.e_pOr, MP.e_xOrT, MP.e_xOrF, MP.e_pAndV, MP.e_xAndVT, MP.e_xAndVF, MP.e_pOrV, MP.e_xOrVT, MP.e_xOrVF, MP.e_pNotV, MP.e_xNotV, MP.e_pIf, MP.e_xIfT, MP.e_xIfF, MP.e_p3, MP.e_x3, MP.e_x3bT, MP.e_x3bF, MP.e_pNil, MP.e_pCons, MP.e_xCons, MP.e_pTup, MP.e_xTp, MP.e_pLst, MP.e_xLs, MP.e_pNo, MP.e_pSome, MP.e_xSo, MP.e_pSl, MP.e_xSl, MP.e_pCall, MP.e_xG, MP.e_pSeq, MP.e_xSq, MP.e_pSeqR, MP.e_xSqR, MP.e_pRng, MP.e_pEnum, MP.e_xEn, MP.e_pComp, MP.e_xC, MP.e_xC2, MP.e_pUser, MP.e_xU, MP.e_xFv, MP.e_xFo, MP.e_xFe, MP.e_pSeal, MP.e_xSe, MP.e_xSeFv, MP.e_xSeFo, MP.e_pLook, MP.e_xLo, MP.e_xLoF, MP.e_xLoO, MP.e_xLoE, MP.e_pFld, MP.e_xFd, MP.e_xOb, MP.e_xLk0, MP.e_xLk1, MP.e_c0, MP.e_c1, MP.g_add, MP.g_catS, MP.g_catL, MP.g_catT, MP.g_sub, MP.g_mul, MP.g_rep, MP.g_div, MP.g_mod, MP.g_pow, MP.g_shl, MP.g_shr, MP.g_and, MP.g_orI, MP.g_neg, MP.g_lt, MP.g_le, MP.g_gt, MP.g_ge, MP.g_eqI, MP.g_eqS, MP.g_eqBo, MP.g_neI, MP.g_neS, MP.g_neBo, MP.g_is, MP.g_isNot, MP.n_none, MP.n_int, MP.n_str, MP.n_tup, MP.n_list, MP.n_bool, MP.g_max, MP.g_min, MP.g_lenL, MP.g_lenK, MP.g_lenT, MP.g_listL, MP.g_listK, MP.g_listT, MP.g_tupL, MP.g_tupT, MP.q_list, MP.q_lk, MP.q_tup, MP.g_rng1, MP.g_rng2, MP.g_enumL, MP.g_enumK, MP.g_ixL, MP.g_ixK, MP.g_ixT, MP.g_slL, MP.g_slK, MP.g_slT, MP.s_Nil, MP.s_Brk, MP.s_Cont, MP.s_Seq, MP.s_xSn, MP.s_xSr, MP.s_xSb, MP.s_xSc, MP.s_xSe, MP.s_Expr, MP.s_xEx, MP.s_SetV, MP.s_xSV, MP.s_SetO, MP.s_xSOs, MP.s_xSOf, MP.s_Ret, MP.s_xRts, MP.s_xRtf, MP.s_RetN, MP.s_RetS, MP.s_xRSo, MP.s_xRSv, MP.s_If, MP.s_xIfT, MP.s_xIfF, MP.s_Tup, MP.s_xTu, MP.s_xTb, MP.s_For, MP.s_xFor, MP.s_App, MP.s_xAp, MP.s_Thaw, MP.s_xTh, MP.s_Frz, MP.s_xFzo, MP.s_xFzv, MP.s_ExprF, MP.s_xEF, MP.s_SetF, MP.s_xSF, MP.s_RetF, MP.s_xRF, MP.s_IfF, MP.s_xIFT, MP.s_xIFF, MP.s_FldN, MP.s_xN, MP.s_xN2, MP.s_xN3, MP.s_put0, MP.s_put1, MP.s_putN, MP.f_P, MP.f_xPs, MP.f_xPf, MP.f_User, MP.f_xFU, MP.f_Meth, MP.f_xM, MP.f_xM2, MP.f_Make, MP.f_xMk, MP.f_xMkF, MP.fe_ok, MP.r_run, MP.r_un, MP.r_un0, MP.r_nx, MP.r_ret, MP.r_exc, MP.t_nx, MP.t_cont, MP.t_brk, MP.t_ret, MP.b_nm, MP.b_tp2, MP.b_tp3, MP.t_bk, MP.fe_pop, MP.s_appF, MP.s_dead, MP.g_divmod, MP.g_sorted, MP.g_allB, MP.g_anyB, MP.g_sumI, MP.g_zipT, MP.g_zipL, MP.e_pZip, MP.e_xZp, MP.g_abs, MP.g_intI, MP.g_intB, MP.g_repT, MP.e_pLRng, MP.e_xLR, MP.f_Pop, MP.f_xPop, MP.s_AppF, MP.s_xAF0, MP.s_xAF, MP.s_xAF2, MP.g_inI, MP.g_ninI, MP.g_inT, MP.g_ninT, MP.g_ninST, MP.e_c2, MP.e_c3, MP.e_c4, MP.e_c5, MP.e_pIsi, MP.s_tryV, MP.s_raise, MP.s_raiseN, MP.e_pMt, MP.e_xMtL, MP.e_xMtK, MP.g_xor, MP.s_Raise, MP.s_xRa1, MP.s_xRa2, MP.s_RaiseN, MP.s_TryV, MP.s_xTVn, MP.s_xTVr, MP.s_xTVe, MP.s_tryC, MP.e_xDe, MP.e_x1e, MP.e_x2e, MP.e_xBe, MP.s_xExe, MP.s_xSVe, MP.s_xSOe, MP.s_xRte, MP.s_xIfe, MP.s_xTue, MP.s_xThe, MP.s_xEFe, MP.s_xSFe, MP.s_xRFe, MP.fe_exc, MP.t_exc, MP.n_xv, List.getElem?_cons_zero, List.getElem?_cons_succ, List.getElem?_nil, List.set_cons_zero, List.set_cons_succ, List.map_cons, List.map_nil, List.length_cons, List.length_nil, List.length_append, List.cons_append, List.nil_append, List.length_map, List.length_singleton, Nat.reduceBEq, Nat.reduceAdd, Nat.reduceSub, Nat.reduceMul, Nat.reduceEqDiff, Nat.reduceLeDiff, Nat.reduceLT, if_false, if_true, ite_true, ite_false, ↓reduceIte, Bool.not_true, Bool.not_false, Bool.false_eq_true, decide_true, decide_false, eq_self, and_true, true_and, and_self, Nat.zero_le, Nat.zero_add, Option.bind_some, Option.bind_none, Nat.lt_irrefl, Int.reduceToNat, Int.reducePow, Int.reduceNeg, Int.reduceMul, Int.reduceAdd, Int.reduceSub, Int.reduceLT, Int.reduceLE, Int.reduceEq, beq_self_eq_true, wipeE, MP.at0, MP.at1, MP.at2, MP.atLit]) ?_
  have hsl := spsD_len left
  obtain ⟨n, hn1, hn2⟩ : ∃ n : Nat, (if 1 + (f : Int) < ((spsD left).length : Int) then 1 + (f : Int) else ((spsD left).length : Int)) = (n : Int) ∧ n ≤ R * C ∧ 0 < n ∧ n ≤ f + 1 := by
    by_cases h : 1 + (f : Int) < ((spsD left).length : Int)
    · exact ⟨f + 1, by rw [if_pos h]; omega, by omega, by omega, by omega⟩
    · exact ⟨R * C, by rw [if_neg h]; omega, by omega, by omega, by omega⟩
  refine forP (P := fun fl => ∃ (R C : Nat) (es : List (Nat × Nat)), 0 < R ∧ R ≤ 6 ∧ 0 < C ∧ C ≤ 6 ∧ (Fits R C es ∧ es.Nodup) ∧ 0 < es.length ∧ es.length ≤ most ∧ fl.fr = .ok (.v (frD R C es)) []) (rng 0 (n : Int))
    (fun i s => ∃ (left es : List (Nat × Nat)) (x7 : Slot), Fits R C left ∧ Fits R C es ∧ left.Nodup ∧ es.Nodup ∧ (∀ e ∈ es, e ∉ left) ∧ left.length + i = R * C ∧ es.length = i ∧ s = ⟨[.v (.lk (zs ns)), .v (.int most), .v (.int c), .v (.int R), .v (.int C), .own (.list (spsD left)), .own (.list (spsD es)), x7, .un], []⟩)
    (by simp (disch := (first | assumption | with_reducible rfl | decide +kernel | exact Or.inl (by decide +kernel) | exact Or.inr (by decide +kernel) | omega | (simp only [List.length_cons, List.length_nil, List.length_append, List.length_map, List.length_replicate, List.length_range] <;> omega) | rfl)) only [MP.of_some, MP.map_some, MP.e_lv, MP.e_lo, MP.e_pD, MP.e_xDs, MP.e_xDf, MP.e_pC, MP.e_pYes, MP.e_pVar, MP.e_p2, MP.e_x2, MP.e_p1, MP.e_x1, MP.e_pB, MP.e_xB, MP.e_pNot, MP.e_xNot, MP.e_pAnd, MP.e_xAndT, MP.e_xAndF, MP.e_pOr, MP.e_xOrT, MP.e_xOrF, MP.e_pAndV, MP.e_xAndVT, MP.e_xAndVF, MP.e_pOrV, MP.e_xOrVT, MP.e_xOrVF, MP.e_pNotV, MP.e_xNotV, MP.e_pIf, MP.e_xIfT, MP.e_xIfF, MP.e_p3, MP.e_x3, MP.e_x3bT, MP.e_x3bF, MP.e_pNil, MP.e_pCons, MP.e_xCons, MP.e_pTup, MP.e_xTp, MP.e_pLst, MP.e_xLs, MP.e_pNo, MP.e_pSome, MP.e_xSo, MP.e_pSl, MP.e_xSl, MP.e_pCall, MP.e_xG, MP.e_pSeq, MP.e_xSq, MP.e_pSeqR, MP.e_xSqR, MP.e_pRng, MP.e_pEnum, MP.e_xEn, MP.e_pComp, MP.e_xC, MP.e_xC2, MP.e_pUser, MP.e_xU, MP.e_xFv, MP.e_xFo, MP.e_xFe, MP.e_pSeal, MP.e_xSe, MP.e_xSeFv, MP.e_xSeFo, MP.e_pLook, MP.e_xLo, MP.e_xLoF, MP.e_xLoO, MP.e_xLoE, MP.e_pFld, MP.e_xFd, MP.e_xOb, MP.e_xLk0, MP.e_xLk1, MP.e_c0, MP.e_c1, MP.g_add, MP.g_catS, MP.g_catL, MP.g_catT, MP.g_sub, MP.g_mul, MP.g_rep, MP.g_div, MP.g_mod, MP.g_pow, MP.g_shl, MP.g_shr, MP.g_and, MP.g_orI, MP.g_neg, MP.g_lt, MP.g_le, MP.g_gt, MP.g_ge, MP.g_eqI, MP.g_eqS, MP.g_eqBo, MP.g_neI, MP.g_neS, MP.g_neBo, MP.g_is, MP.g_isNot, MP.n_none, MP.n_int, MP.n_str, MP.n_tup, MP.n_list, MP.n_bool, MP.g_max, MP.g_min, MP.g_lenL, MP.g_lenK, MP.g_lenT, MP.g_listL, MP.g_listK, MP.g_listT, MP.g_tupL, MP.g_tupT, MP.q_list, MP.q_lk, MP.q_tup, MP.g_rng1, MP.g_rng2, MP.g_enumL, MP.g_enumK, MP.g_ixL, MP.g_ixK, MP.g_ixT, MP.g_slL, MP.g_slK, MP.g_slT, MP.s_Nil, MP.s_Brk, MP.s_Cont, MP.s_Seq, MP.s_xSn, MP.s_xSr, MP.s_xSb, MP.s_xSc, MP.s_xSe, MP.s_Expr, MP.s_xEx, MP.s_SetV, MP.s_xSV, MP.s_SetO, MP.s_xSOs, MP.s_xSOf, MP.s_Ret, MP.s_xRts, MP.s_xRtf, MP.s_RetN, MP.s_RetS, MP.s_xRSo, MP.s_xRSv, MP.s_If, MP.s_xIfT, MP.s_xIfF, MP.s_Tup, MP.s_xTu, MP.s_xTb, MP.s_For, MP.s_xFor, MP.s_App, MP.s_xAp, MP.s_Thaw, MP.s_xTh, MP.s_Frz, MP.s_xFzo, MP.s_xFzv, MP.s_ExprF, MP.s_xEF, MP.s_SetF, MP.s_xSF, MP.s_RetF, MP.s_xRF, MP.s_IfF, MP.s_xIFT, MP.s_xIFF, MP.s_FldN, MP.s_xN, MP.s_xN2, MP.s_xN3, MP.s_put0, MP.s_put1, MP.s_putN, MP.f_P, MP.f_xPs, MP.f_xPf, MP.f_User, MP.f_xFU, MP.f_Meth, MP.f_xM, MP.f_xM2, MP.f_Make, MP.f_xMk, MP.f_xMkF, MP.fe_ok, MP.r_run, MP.r_un, MP.r_un0, MP.r_nx, MP.r_ret, MP.r_exc, MP.t_nx, MP.t_cont, MP.t_brk, MP.t_ret, MP.b_nm, MP.b_tp2, MP.b_tp3, MP.t_bk, MP.fe_pop, MP.s_appF, MP.s_dead, MP.g_divmod, MP.g_sorted, MP.g_allB, MP.g_anyB, MP.g_sumI, MP.g_zipT, MP.g_zipL, MP.e_pZip, MP.e_xZp, MP.g_abs, MP.g_intI, MP.g_intB, MP.g_repT, MP.e_pLRng, MP.e_xLR, MP.f_Pop, MP.f_xPop, MP.s_AppF, MP.s_xAF0, MP.s_xAF, MP.s_xAF2, MP.g_inI, MP.g_ninI, MP.g_inT, MP.g_ninT, MP.g_ninST, MP.e_c2, MP.e_c3, MP.e_c4, MP.e_c5, MP.e_pIsi, MP.s_tryV, MP.s_raise, MP.s_raiseN, MP.e_pMt, MP.e_xMtL, MP.e_xMtK, MP.g_xor, MP.s_Raise, MP.s_xRa1, MP.s_xRa2, MP.s_RaiseN, MP.s_TryV, MP.s_xTVn, MP.s_xTVr, MP.s_xTVe, MP.s_tryC, MP.e_xDe, MP.e_x1e, MP.e_x2e, MP.e_xBe, MP.s_xExe, MP.s_xSVe, MP.s_xSOe, MP.s_xRte, MP.s_xIfe, MP.s_xTue, MP.s_xThe, MP.s_xEFe, MP.s_xSFe, MP.s_xRFe, MP.fe_exc, MP.t_exc, MP.n_xv, List.getElem?_cons_zero, List.getElem?_cons_succ, List.getElem?_nil, List.set_cons_zero, List.set_cons_succ, List.map_cons, List.map_nil, List.length_cons, List.length_nil, List.length_append, List.cons_append, List.nil_append, List.length_map, List.length_singleton, Nat.reduceBEq, Nat.reduceAdd, Nat.reduceSub, Nat.reduceMul, Nat.reduceEqDiff, Nat.reduceLeDiff, Nat.reduceLT, if_false, if_true, ite_true, ite_false, ↓reduceIte, Bool.not_true, Bool.not_false, Bool.false_eq_true, decide_true, decide_false, eq_self, and_true, true_and, and_self, Nat.zero_le, Nat.zero_add, Option.bind_some, Option.bind_none, Nat.lt_irrefl, Int.reduceToNat, Int.reducePow, Int.reduceNeg, Int.reduceMul, Int.reduceAdd, Int.reduceSub, Int.reduceLT, Int.reduceLE, Int.reduceEq, beq_self_eq_true, wipeE, MP.at0, MP.at1, MP.at2, MP.atLit, e3, hn1]) ⟨left, [], .un, hfit, (fun e he => by cases he), hnd, List.nodup_nil, (fun e he => by cases he), by omega, rfl, rfl⟩ ?_ ?_
  · rintro i d s hdd ⟨left, es, x7, hf1, hf2, hd1, hd2, hd3, hl1, hl2, rfl⟩
    obtain ⟨rfl, hi⟩ := rngAt hdd
    have hsl := spsD_len left
    have hel := spsD_len es
    have c1 := m_cell ns (1 + i) (by omega)
    generalize ns.getD (1 + (i : Int)).toNat 0 = c' at c1
    obtain ⟨v, hv, e4⟩ := m_take c' 4 (by decide) left.length (by omega)
    have e4 : sem_l_take [.int c', .int 4, .int left.length] [] = .ok (.v (.int v)) [] := e4
    have e5 := spsD_getD left v hv
    refine ⟨_, b_nm .., ?_⟩
    unfold lp_l_frame_1
    simp (disch := (first | assumption | with_reducible rfl | decide +kernel | exact Or.inl (by decide +kernel) | exact Or.inr (by decide +kernel) | omega | (simp only [List.length_cons, List.length_nil, List.length_append, List.length_map, List.length_replicate, List.length_range] <;> omega) | rfl)) only [MP.of_some, MP.map_some, MP.e_lv, MP.e_lo, MP.e_pD, MP.e_xDs, MP.e_xDf, MP.e_pC, MP.e_pYes, MP.e_pVar, MP.e_p2, MP.e_x2, MP.e_p1, MP.e_x1, MP.e_pB, MP.e_xB, MP.e_pNot, MP.e_xNot, MP.e_pAnd, MP.e_xAndT, MP.e_xAndF, MP.e_pOr, MP.e_xOrT, MP.e_xOrF, MP.e_pAndV, MP.e_xAndVT, MP.e_xAndVF, MP.e_pOrV, MP.e_xOrVT, MP.e_xOrVF, MP.e_pNotV, MP.e_xNotV, MP.e_pIf, MP.e_xIfT, MP.e_xIfF, MP.e_p3, MP.e_x3, MP.e_x3bT, MP.e_x3bF, MP.e_pNil, MP.e_pCons, MP.e_xCons, MP.e_pTup, MP.e_xTp, MP.e_pLst, MP.e_xLs, MP.e_pNo, MP.e_pSome, MP.e_xSo, MP.e_pSl, MP.e_xSl, MP.e_pCall, MP.e_xG, MP.e_pSeq, MP.e_xSq, MP.e_pSeqR, MP.e_xSqR, MP.e_pRng, MP.e_pEnum, MP.e_xEn, MP.e_pComp, MP.e_xC, MP.e_xC2, MP.e_pUser, MP.e_xU, MP.e_xFv, MP.e_xFo, MP.e_xFe, MP.e_pSeal, MP.e_xSe, MP.e_xSeFv, MP.e_xSeFo, MP.e_pLook, MP.e_xLo, MP.e_xLoF, MP.e_xLoO, MP.e_xLoE, MP.e_pFld, MP.e_xFd, MP.e_xOb, MP.e_xLk0, MP.e_xLk1, MP.e_c0, MP.e_c1, MP.g_add, MP.g_catS, MP.g_catL, MP.g_catT, MP.g_sub, MP.g_mul, MP.g_rep, MP.g_div, MP.g_mod, MP.g_pow, MP.g_shl, MP.g_shr, MP.g_and, MP.g_orI, MP.g_neg, MP.g_lt, MP.g_le, MP.g_gt, MP.g_ge, MP.g_eqI, MP.g_eqS, MP.g_eqBo, MP.g_neI, MP.g_neS, MP.g_neBo, MP.g_is, MP.g_isNot, MP.n_none, MP.n_int, MP.n_str, MP.n_tup, MP.n_list, MP.n_bool, MP.g_max, MP.g_min, MP.g_lenL, MP.g_lenK, MP.g_lenT, MP.g_listL, MP.g_listK, MP.g_listT, MP.g_tupL, MP.g_tupT, MP.q_list, MP.q_lk, MP.q_tup, MP.g_rng1, MP.g_rng2, MP.g_enumL, MP.g_enumK, MP.g_ixL, MP.g_ixK, MP.g_ixT, MP.g_slL, MP.g_slK, MP.g_slT, MP.s_Nil, MP.s_Brk, MP.s_Cont, MP.s_Seq, MP.s_xSn, MP.s_xSr, MP.s_xSb, MP.s_xSc, MP.s_xSe, MP.s_Expr, MP.s_xEx, MP.s_SetV, MP.s_xSV, MP.s_SetO, MP.s_xSOs, MP.s_xSOf, MP.s_Ret, MP.s_xRts, MP.s_xRtf, MP.s_RetN, MP.s_RetS, MP.s_xRSo, MP.s_xRSv, MP.s_If, MP.s_xIfT, MP.s_xIfF, MP.s_Tup, MP.s_xTu, MP.s_xTb, MP.s_For, MP.s_xFor, MP.s_App, MP.s_xAp, MP.s_Thaw, MP.s_xTh, MP.s_Frz, MP.s_xFzo, MP.s_xFzv, MP.s_ExprF, MP.s_xEF, MP.s_SetF, MP.s_xSF, MP.s_RetF, MP.s_xRF, MP.s_IfF, MP.s_xIFT, MP.s_xIFF, MP.s_FldN, MP.s_xN, MP.s_xN2, MP.s_xN3, MP.s_put0, MP.s_put1, MP.s_putN, MP.f_P, MP.f_xPs, MP.f_xPf, MP.f_User, MP.f_xFU, MP.f_Meth, MP.f_xM, MP.f_xM2, MP.f_Make, MP.f_xMk, MP.f_xMkF, MP.fe_ok, MP.r_run, MP.r_un, MP.r_un0, MP.r_nx, MP.r_ret, MP.r_exc, MP.t_nx, MP.t_cont, MP.t_brk, MP.t_ret, MP.b_nm, MP.b_tp2, MP.b_tp3, MP.t_bk, MP.fe_pop, MP.s_appF, MP.s_dead, MP.g_divmod, MP.g_sorted, MP.g_allB, MP.g_anyB, MP.g_sumI, MP.g_zipT, MP.g_zipL, MP.e_pZip, MP.e_xZp, MP.g_abs, MP.g_intI, MP.g_intB, MP.g_repT, MP.e_pLRng, MP.e_xLR, MP.f_Pop, MP.f_xPop, MP.s_AppF, MP.s_xAF0, MP.s_xAF, MP.s_xAF2, MP.g_inI, MP.g_ninI, MP.g_inT, MP.g_ninT, MP.g_ninST, MP.e_c2, MP.e_c3, MP.e_c4, MP.e_c5, MP.e_pIsi, MP.s_tryV, MP.s_raise, MP.s_raiseN, MP.e_pMt, MP.e_xMtL, MP.e_xMtK, MP.g_xor, MP.s_Raise, MP.s_xRa1, MP.s_xRa2, MP.s_RaiseN, MP.s_TryV, MP.s_xTVn, MP.s_xTVr, MP.s_xTVe, MP.s_tryC, MP.e_xDe, MP.e_x1e, MP.e_x2e, MP.e_xBe, MP.s_xExe, MP.s_xSVe, MP.s_xSOe, MP.s_xRte, MP.s_xIfe, MP.s_xTue, MP.s_xThe, MP.s_xEFe, MP.s_xSFe, MP.s_xRFe, MP.fe_exc, MP.t_exc, MP.n_xv, List.getElem?_cons_zero, List.getElem?_cons_succ, List.getElem?_nil, List.set_cons_zero, List.set_cons_succ, List.map_cons, List.map_nil, List.length_cons, List.length_nil, List.length_append, List.cons_append, List.nil_append, List.length_map, List.length_singleton, Nat.reduceBEq, Nat.reduceAdd, Nat.reduceSub, Nat.reduceMul, Nat.reduceEqDiff, Nat.reduceLeDiff, Nat.reduceLT, if_false, if_true, ite_true, ite_false, ↓reduceIte, Bool.not_true, Bool.not_false, Bool.false_eq_true, decide_true, decide_false, eq_self, and_true, true_and, and_self, Nat.zero_le, Nat.zero_add, Option.bind_some, Option.bind_none, Nat.lt_irrefl, Int.reduceToNat, Int.reducePow, Int.reduceNeg, Int.reduceMul, Int.reduceAdd, Int.reduceSub, Int.reduceLT, Int.reduceLE, Int.reduceEq, beq_self_eq_true, wipeE, MP.at0, MP.at1, MP.at2, MP.atLit, c1, hsl, e4, Int.toNat_natCast, e5, spsD_erase, spsD_snoc]
    obtain ⟨hx1, hx2, hx3⟩ := erase_nd left hd1 v hv
    refine ⟨left.eraseIdx v, es ++ [left.getD v (0, 0)], _, fun e he => hf1 e (List.mem_of_mem_eraseIdx he), fun e he => ?_, hx1, ?_, fun e he => ?_, ?_, by simp [hl2], rfl⟩
    · rcases List.mem_append.mp he with he | he
      · exact hf2 e he
      · rw [List.mem_singleton] at he
        subst he
        exact hf1.at v hv
    · refine List.nodup_append.mpr ⟨hd2, by simp, fun a ha b hb => ?_⟩
      rw [List.mem_singleton] at hb
      subst hb
      exact fun k => hd3 a ha (k ▸ hx3)
    · rcases List.mem_append.mp he with he | he
      · exact fun k => hd3 e he (List.mem_of_mem_eraseIdx k)
      · rw [List.mem_singleton] at he
        subst he
        exact hx2
    · rw [List.length_eraseIdx_of_lt hv]
      omega
  · rintro s ⟨left, es, x7, hf1, hf2, hd1, hd2, hd3, hl1, hl2, rfl⟩
    rw [rngLenN] at hl2
    simp (disch := (first | assumption | with_reducible rfl | decide +kernel | exact Or.inl (by decide +kernel) | exact Or.inr (by decide +kernel) | omega | (simp only [List.length_cons, List.length_nil, List.length_append, List.length_map, List.length_replicate, List.length_range] <;> omega) | rfl)) only [MP.of_some, MP.map_some, MP.e_lv, MP.e_lo, MP.e_pD, MP.e_xDs, MP.e_xDf, MP.e_pC, MP.e_pYes, MP.e_pVar, MP.e_p2, MP.e_x2, MP.e_p1, MP.e_x1, MP.e_pB, MP.e_xB, MP.e_pNot, MP.e_xNot, MP.e_pAnd, MP.e_xAndT, MP.e_xAndF, MP.e_pOr, MP.e_xOrT, MP.e_xOrF, MP.e_pAndV, MP.e_xAndVT, MP.e_xAndVF, MP.e_pOrV, MP.e_xOrVT, MP.e_xOrVF, MP.e_pNotV, MP.e_xNotV, MP.e_pIf, MP.e_xIfT, MP.e_xIfF, MP.e_p3, MP.e_x3, MP.e_x3bT, MP.e_x3bF, MP.e_pNil, MP.e_pCons, MP.e_xCons, MP.e_pTup, MP.e_xTp, MP.e_pLst, MP.e_xLs, MP.e_pNo, MP.e_pSome, MP.e_xSo, MP.e_pSl, MP.e_xSl, MP.e_pCall, MP.e_xG, MP.e_pSeq, MP.e_xSq, MP.e_pSeqR, MP.e_xSqR, MP.e_pRng, MP.e_pEnum, MP.e_xEn, MP.e_pComp, MP.e_xC, MP.e_xC2, MP.e_pUser, MP.e_xU, MP.e_xFv, MP.e_xFo, MP.e_xFe, MP.e_pSeal, MP.e_xSe, MP.e_xSeFv, MP.e_xSeFo, MP.e_pLook, MP.e_xLo, MP.e_xLoF, MP.e_xLoO, MP.e_xLoE, MP.e_pFld, MP.e_xFd, MP.e_xOb, MP.e_xLk0, MP.e_xLk1, MP.e_c0, MP.e_c1, MP.g_add, MP.g_catS, MP.g_catL, MP.g_catT, MP.g_sub, MP.g_mul, MP.g_rep, MP.g_div, MP.g_mod, MP.g_pow, MP.g_shl, MP.g_shr, MP.g_and, MP.g_orI, MP.g_neg, MP.g_lt, MP.g_le, MP.g_gt, MP.g_ge, MP.g_eqI, MP.g_eqS, MP.g_eqBo, MP.g_neI, MP.g_neS, MP.g_neBo, MP.g_is, MP.g_isNot, MP.n_none, MP.n_int, MP.n_str, MP.n_tup, MP.n_list, MP.n_bool, MP.g_max, MP.g_min, MP.g_lenL, MP.g_lenK, MP.g_lenT, MP.g_listL, MP.g_listK, MP.g_listT, MP.g_tupL, MP.g_tupT, MP.q_list, MP.q_lk, MP.q_tup, MP.g_rng1, MP.g_rng2, MP.g_enumL, MP.g_enumK, MP.g_ixL, MP.g_ixK, MP.g_ixT, MP.g_slL, MP.g_slK, MP.g_slT, MP.s_Nil, MP.s_Brk, MP.s_Cont, MP.s_Seq, MP.s_xSn, MP.s_xSr, MP.s_xSb, MP.s_xSc, MP.s_xSe, MP.s_Expr, MP.s_xEx, MP.s_SetV, MP.s_xSV, MP.s_SetO, MP.s_xSOs, MP.s_xSOf, MP.s_Ret, MP.s_xRts, MP.s_xRtf, MP.s_RetN, MP.s_RetS, MP.s_xRSo, MP.s_xRSv, MP.s_If, MP.s_xIfT, MP.s_xIfF, MP.s_Tup, MP.s_xTu, MP.s_xTb, MP.s_For, MP.s_xFor, MP.s_App, MP.s_xAp, MP.s_Thaw, MP.s_xTh, MP.s_Frz, MP.s_xFzo, MP.s_xFzv, MP.s_ExprF, MP.s_xEF, MP.s_SetF, MP.s_xSF, MP.s_RetF, MP.s_xRF, MP.s_IfF, MP.s_xIFT, MP.s_xIFF, MP.s_FldN, MP.s_xN, MP.s_xN2, MP.s_xN3, MP.s_put0, MP.s_put1, MP.s_putN, MP.f_P, MP.f_xPs, MP.f_xPf, MP.f_User, MP.f_xFU, MP.f_Meth, MP.f_xM, MP.f_xM2, MP.f_Make, MP.f_xMk, MP.f_xMkF, MP.fe_ok, MP.r_run, MP.r_un, MP.r_un0, MP.r_nx, MP.r_ret, MP.r_exc, MP.t_nx, MP.t_cont, MP.t_brk, MP.t_ret, MP.b_nm, MP.b_tp2, MP.b_tp3, MP.t_bk, MP.fe_pop, MP.s_appF, MP.s_dead, MP.g_divmod, MP.g_sorted, MP.g_allB, MP.g_anyB, MP.g_sumI, MP.g_zipT, MP.g_zipL, MP.e_pZip, MP.e_xZp, MP.g_abs, MP.g_intI, MP.g_intB, MP.g_repT, MP.e_pLRng, MP.e_xLR, MP.f_Pop, MP.f_xPop, MP.s_AppF, MP.s_xAF0, MP.s_xAF, MP.s_xAF2, MP.g_inI, MP.g_ninI, MP.g_inT, MP.g_ninT, MP.g_ninST, MP.e_c2, MP.e_c3, MP.e_c4, MP.e_c5, MP.e_pIsi, MP.s_tryV, MP.s_raise, MP.s_raiseN, MP.e_pMt, MP.e_xMtL, MP.e_xMtK, MP.g_xor, MP.s_Raise, MP.s_xRa1, MP.s_xRa2, MP.s_RaiseN, MP.s_TryV, MP.s_xTVn, MP.s_xTVr, MP.s_xTVe, MP.s_tryC, MP.e_xDe, MP.e_x1e, MP.e_x2e, MP.e_xBe, MP.s_xExe, MP.s_xSVe, MP.s_xSOe, MP.s_xRte, MP.s_xIfe, MP.s_xTue, MP.s_xThe, MP.s_xEFe, MP.s_xSFe, MP.s_xRFe, MP.fe_exc, MP.t_exc, MP.n_xv, List.getElem?_cons_zero, List.getElem?_cons_succ, List.getElem?_nil, List.set_cons_zero, List.set_cons_succ, List.map_cons, List.map_nil, List.length_cons, List.length_nil, List.length_append, List.cons_append, List.nil_append, List.length_map, List.length_singleton, Nat.reduceBEq, Nat.reduceAdd, Nat.reduceSub, Nat.reduceMul, Nat.reduceEqDiff, Nat.reduceLeDiff, Nat.reduceLT, if_false, if_true, ite_true, ite_false, ↓reduceIte, Bool.not_true, Bool.not_false, Bool.false_eq_true, decide_true, decide_false, eq_self, and_true, true_and, and_self, Nat.zero_le, Nat.zero_add, Option.bind_some, Option.bind_none, Nat.lt_irrefl, Int.reduceToNat, Int.reducePow, Int.reduceNeg, Int.reduceMul, Int.reduceAdd, Int.reduceSub, Int.reduceLT, Int.reduceLE, Int.reduceEq, beq_self_eq_true, wipeE, MP.at0, MP.at1, MP.at2, MP.atLit]
    exact ⟨R, C, es, hR1, hR2, hC1, hC2, ⟨hf2, hd2⟩, by omega, by omega, rfl⟩

/-! ## spots with any numbers -/
def prD (e : Int × Int) : D := .tup [.int e.1, .int e.2]
def psD (es : List (Int × Int)) : List D := es.map prD
theorem psD_len (es : List (Int × Int)) : (psD es).length = es.length := by unfold psD; simp
theorem psD_at (es : List (Int × Int)) (i : Nat) (h : i < es.length) : atI (psD es) (i : Int) = some (.tup [.int (es.getD i (0, 0)).1, .int (es.getD i (0, 0)).2]) := by
  unfold psD
  rw [atN, List.getElem?_map, List.getElem?_eq_getElem h, List.getD_eq_getElem?_getD, List.getElem?_eq_getElem h]
  rfl
theorem psD_take (es : List (Int × Int)) (n : Nat) : (psD es).take n = psD (es.take n) := by unfold psD; rw [List.map_take]
theorem psD_drop (es : List (Int × Int)) (n : Nat) : (psD es).drop n = psD (es.drop n) := by unfold psD; rw [List.map_drop]
theorem psD_app (es fs : List (Int × Int)) : psD es ++ psD fs = psD (es ++ fs) := by unfold psD; rw [List.map_append]
theorem psD_one (a b : Int) : [D.tup [.int a, .int b]] = psD [(a, b)] := rfl
def intE (es : List (Nat × Nat)) : List (Int × Int) := es.map fun e => ((e.1 : Int), (e.2 : Int))
theorem spsD_int (es : List (Nat × Nat)) : spsD es = psD (intE es) := by unfold spsD psD intE; rw [List.map_map]; rfl
theorem plain_psD (es : List (Int × Int)) (n : Nat) : (psD es).all (D.plain (n + 2)) = true := by
  unfold psD
  rw [List.all_map]
  exact List.all_eq_true.mpr fun _ _ => rfl
theorem plain_lst (es : List (Int × Int)) : (D.list (psD es)).plain 9 = true := plain_psD es 6
theorem plain_fr (R C : Int) (es : List (Int × Int)) : (D.tup [.int R, .int C, .tup (psD es)]).plain 9 = true := by
  show (true && (true && ((psD es).all (D.plain 7) && true))) = true
  rw [plain_psD es 5]
  rfl
theorem cold_psD (es : List (Int × Int)) : coldDs (psD es) = true := cold_map (fun e => by
  unfold prD
  simp only [coldD, coldDs, Bool.and_self]) es
theorem cold_fr (R C : Int) (es : List (Int × Int)) : coldD (.tup [.int R, .int C, .tup (psD es)]) = true := by
  simp only [coldD, coldDs, cold_psD, Bool.and_self]
theorem any_pr (k : Int × Int) : ∀ es : List (Int × Int), ((pys (psD es)).any fun z => PyData.eqv z (prD k).py) = decide (k ∈ es)
  | [] => by simp [pys, psD]
  | e :: es => by
    have ih := any_pr k es
    show (PyData.eqv (prD e).py (prD k).py || (pys (psD es)).any fun z => PyData.eqv z (prD k).py) = _
    rw [ih]
    show ((e.1 == k.1 && (e.2 == k.2 && true)) || _) = _
    obtain ⟨a, b⟩ := e
    obtain ⟨c, d⟩ := k
    by_cases h1 : a = c
    · by_cases h2 : b = d
      · subst h1 h2; simp
      · have h3 : ¬ d = b := fun e => h2 e.symm
        simp [h1, h2, h3]
    · have h3 : ¬ c = a := fun e => h1 e.symm
      simp [h1, h3]
theorem in_ps (a b : Int) (es : List (Int × Int)) : gIn (.tup [.int a, .int b]) (.list (psD es)) = some ⟨.sh, .bool (decide ((a, b) ∈ es))⟩ := by
  unfold gIn
  have : inB (prD (a, b)) (.list (psD es)) = some (decide ((a, b) ∈ es)) := by
    have sh1 : SeqAt.shaped (prD (a, b)).py = true := plain_shaped (rfl : (prD (a, b)).plain 9 = true)
    have sh2 : SeqAt.shaped (.list (pys (psD es))) = true := plain_shaped (plain_lst es)
    unfold inB
    simp only [seqOf]
    rw [if_neg (fun h => Bool.false_ne_true h.1), if_pos ⟨rfl, sh1, sh2⟩, any_pr]
  show (inB (prD (a, b)) _).map _ = _
  rw [this]
  rfl
/-! ## the first spot that is none -/
def bad (R C : Int) (es : List (Int × Int)) (i : Nat) : Prop :=
  (es.getD i (0, 0)).1 < 0 ∨ R ≤ (es.getD i (0, 0)).1 ∨ (es.getD i (0, 0)).2 < 0 ∨ C ≤ (es.getD i (0, 0)).2 ∨ ((es.getD i (0, 0)).1, (es.getD i (0, 0)).2) ∈ es.take i
theorem m_fb_ok (R C : Int) (es : List (Int × Int)) (i : Nat) (hi : i < es.length) (h : ¬ bad R C es i) (x4 x5 : Slot) : ∃ x4' x5', lp_l_first_bad_1 ⟨[.v (.int R), .v (.int C), .v (.list (psD es)), .v (.int (i : Int)), x4, x5], []⟩ = .nx ⟨[.v (.int R), .v (.int C), .v (.list (psD es)), .v (.int (i : Int)), x4', x5'], []⟩ := by
  unfold lp_l_first_bad_1
  have e1 := psD_at es i hi
  have e2 := cut_hi (psD es) (h := (i : Int)) (by omega)
  rw [Int.toNat_natCast, psD_take] at e2
  unfold bad at h
  generalize (es.getD i (0, 0)).1 = a at e1 h
  generalize (es.getD i (0, 0)).2 = b at e1 h
  have h1 : ¬ a < 0 := fun k => h (.inl k)
  have h2 : ¬ R ≤ a := fun k => h (.inr (.inl k))
  have h3 : ¬ b < 0 := fun k => h (.inr (.inr (.inl k)))
  have h4 : ¬ C ≤ b := fun k => h (.inr (.inr (.inr (.inl k))))
  have h5 : ¬ (a, b) ∈ es.take i := fun k => h (.inr (.inr (.inr (.inr k))))
  refine ⟨.v (.int a), .v (.int b), ?_⟩
  simp (disch := (first | assumption | with_reducible rfl | decide +kernel | exact Or.inl (by decide +kernel) | exact Or.inr (by decide +kernel) | omega | (simp only [List.length_cons, List.length_nil, List.length_append, List.length_map, List.length_replicate, List.length_range] <;> omega) | rfl)) only [MP.of_some, MP.map_some, MP.e_lv, MP.e_lo, MP.e_pD, MP.e_xDs, MP.e_xDf, MP.e_pC, MP.e_pYes, MP.e_pVar, MP.e_p2, MP.e_x2, MP.e_p1, MP.e_x1, MP.e_pB, MP.e_xB, MP.e_pNot, MP.e_xNot, MP.e_pAnd, MP.e_xAndT, MP.e_xAndF, MP.e_pOr, MP.e_xOrT, MP.e_xOrF, MP.e_pAndV, MP.e_xAndVT, MP.e_xAndVF, MP.e_pOrV, MP.e_xOrVT, MP.e_xOrVF, MP.e_pNotV, MP.e_xNotV, MP.e_pIf, MP.e_xIfT, MP.e_xIfF, MP.e_p3, MP.e_x3, MP.e_x3bT, MP.e_x3bF, MP.e_pNil, MP.e_pCons, MP.e_xCons, MP.e_pTup, MP.e_xTp, MP.e_pLst, MP.e_xLs, MP.e_pNo, MP.e_pSome, MP.e_xSo, MP.e_pSl, MP.e_xSl, MP.e_pCall, MP.e_xG, MP.e_pSeq, MP.e_xSq, MP.e_pSeqR, MP.e_xSqR, MP.e_pRng, MP.e_pEnum, MP.e_xEn, MP.e_pComp, MP.e_xC, MP.e_xC2, MP.e_pUser, MP.e_xU, MP.e_xFv, MP.e_xFo, MP.e_xFe, MP.e_pSeal, MP.e_xSe, MP.e_xSeFv, MP.e_xSeFo, MP.e_pLook, MP.e_xLo, MP.e_xLoF, MP.e_xLoO, MP.e_xLoE, MP.e_pFld, MP.e_xFd, MP.e_xOb, MP.e_xLk0, MP.e_xLk1, MP.e_c0, MP.e_c1, MP.g_add, MP.g_catS, MP.g_catL, MP.g_catT, MP.g_sub, MP.g_mul, MP.g_rep, MP.g_div, MP.g_mod, MP.g_pow, MP.g_shl, MP.g_shr, MP.g_and, MP.g_orI, MP.g_neg, MP.g_lt, MP.g_le, MP.g_gt, MP.g_ge, MP.g_eqI, MP.g_eqS, MP.g_eqBo, MP.g_neI, MP.g_neS, MP.g_neBo, MP.g_is, MP.g_isNot, MP.n_none, MP.n_int, MP.n_str, MP.n_tup, MP.n_list, MP.n_bool, MP.g_max, MP.g_min, MP.g_lenL, MP.g_lenK, MP.g_lenT, MP.g_listL, MP.g_listK, MP.g_listT, MP.g_tupL, MP.g_tupT, MP.q_list, MP.q_lk, MP.q_tup, MP.g_rng1, MP.g_rng2, MP.g_enumL, MP.g_enumK, MP.g_ixL, MP.g_ixK, MP.g_ixT, MP.g_slL, MP.g_slK, MP.g_slT, MP.s_Nil, MP.s_Brk, MP.s_Cont, MP.s_Seq, MP.s_xSn, MP.s_xSr, MP.s_xSb, MP.s_xSc, MP.s_xSe, MP.s_Expr, MP.s_xEx, MP.s_SetV, MP.s_xSV, MP.s_SetO, MP.s_xSOs, MP.s_xSOf, MP.s_Ret, MP.s_xRts, MP.s_xRtf, MP.s_RetN, MP.s_RetS, MP.s_xRSo, MP.s_xRSv, MP.s_If, MP.s_xIfT, MP.s_xIfF, MP.s_Tup, MP.s_xTu, MP.s_xTb, MP.s_For, MP.s_xFor, MP.s_App, MP.s_xAp, MP.s_Thaw, MP.s_xTh, MP.s_Frz, MP.s_xFzo, MP.s_xFzv, MP.s_ExprF, MP.s_xEF, MP.s_SetF, MP.s_xSF, MP.s_RetF, MP.s_xRF, MP.s_IfF, MP.s_xIFT, MP.s_xIFF, MP.s_FldN, MP.s_xN, MP.s_xN2, MP.s_xN3, MP.s_put0, MP.s_put1, MP.s_putN, MP.f_P, MP.f_xPs, MP.f_xPf, MP.f_User, MP.f_xFU, MP.f_Meth, MP.f_xM, MP.f_xM2, MP.f_Make, MP.f_xMk, MP.f_xMkF, MP.fe_ok, MP.r_run, MP.r_un, MP.r_un0, MP.r_nx, MP.r_ret, MP.r_exc, MP.t_nx, MP.t_cont, MP.t_brk, MP.t_ret, MP.b_nm, MP.b_tp2, MP.b_tp3, MP.t_bk, MP.fe_pop, MP.s_appF, MP.s_dead, MP.g_divmod, MP.g_sorted, MP.g_allB, MP.g_anyB, MP.g_sumI, MP.g_zipT, MP.g_zipL, MP.e_pZip, MP.e_xZp, MP.g_abs, MP.g_intI, MP.g_intB, MP.g_repT, MP.e_pLRng, MP.e_xLR, MP.f_Pop, MP.f_xPop, MP.s_AppF, MP.s_xAF0, MP.s_xAF, MP.s_xAF2, MP.g_inI, MP.g_ninI, MP.g_inT, MP.g_ninT, MP.g_ninST, MP.e_c2, MP.e_c3, MP.e_c4, MP.e_c5, MP.e_pIsi, MP.s_tryV, MP.s_raise, MP.s_raiseN, MP.e_pMt, MP.e_xMtL, MP.e_xMtK, MP.g_xor, MP.s_Raise, MP.s_xRa1, MP.s_xRa2, MP.s_RaiseN, MP.s_TryV, MP.s_xTVn, MP.s_xTVr, MP.s_xTVe, MP.s_tryC, MP.e_xDe, MP.e_x1e, MP.e_x2e, MP.e_xBe, MP.s_xExe, MP.s_xSVe, MP.s_xSOe, MP.s_xRte, MP.s_xIfe, MP.s_xTue, MP.s_xThe, MP.s_xEFe, MP.s_xSFe, MP.s_xRFe, MP.fe_exc, MP.t_exc, MP.n_xv, List.getElem?_cons_zero, List.getElem?_cons_succ, List.getElem?_nil, List.set_cons_zero, List.set_cons_succ, List.map_cons, List.map_nil, List.length_cons, List.length_nil, List.length_append, List.cons_append, List.nil_append, List.length_map, List.length_singleton, Nat.reduceBEq, Nat.reduceAdd, Nat.reduceSub, Nat.reduceMul, Nat.reduceEqDiff, Nat.reduceLeDiff, Nat.reduceLT, if_false, if_true, ite_true, ite_false, ↓reduceIte, Bool.not_true, Bool.not_false, Bool.false_eq_true, decide_true, decide_false, eq_self, and_true, true_and, and_self, Nat.zero_le, Nat.zero_add, Option.bind_some, Option.bind_none, Nat.lt_irrefl, Int.reduceToNat, Int.reducePow, Int.reduceNeg, Int.reduceMul, Int.reduceAdd, Int.reduceSub, Int.reduceLT, Int.reduceLE, Int.reduceEq, beq_self_eq_true, wipeE, MP.at0, MP.at1, MP.at2, MP.atLit, e1, e2, in_ps, h1, h2, h3, h4, h5, decide_false]
theorem m_fb_bad (R C : Int) (es : List (Int × Int)) (i : Nat) (hi : i < es.length) (h : bad R C es i) (x4 x5 : Slot) : ∃ s, lp_l_first_bad_1 ⟨[.v (.int R), .v (.int C), .v (.list (psD es)), .v (.int (i : Int)), x4, x5], []⟩ = .ret (.v (.tup [.bool true, .int (i : Int)])) ⟨s, []⟩ := by
  unfold lp_l_first_bad_1
  have e1 := psD_at es i hi
  have e2 := cut_hi (psD es) (h := (i : Int)) (by omega)
  rw [Int.toNat_natCast, psD_take] at e2
  unfold bad at h
  generalize (es.getD i (0, 0)).1 = a at e1 h
  generalize (es.getD i (0, 0)).2 = b at e1 h
  refine ⟨[.v (.int R), .v (.int C), .v (.list (psD es)), .v (.int (i : Int)), .v (.int a), .v (.int b)], ?_⟩
  by_cases h1 : a < 0
  · simp (disch := (first | assumption | with_reducible rfl | decide +kernel | exact Or.inl (by decide +kernel) | exact Or.inr (by decide +kernel) | omega | (simp only [List.length_cons, List.length_nil, List.length_append, List.length_map, List.length_replicate, List.length_range] <;> omega) | rfl)) only [MP.of_some, MP.map_some, MP.e_lv, MP.e_lo, MP.e_pD, MP.e_xDs, MP.e_xDf, MP.e_pC, MP.e_pYes, MP.e_pVar, MP.e_p2, MP.e_x2, MP.e_p1, MP.e_x1, MP.e_pB, MP.e_xB, MP.e_pNot, MP.e_xNot, MP.e_pAnd, MP.e_xAndT, MP.e_xAndF, MP.e_pOr, MP.e_xOrT, MP.e_xOrF, MP.e_pAndV, MP.e_xAndVT, MP.e_xAndVF, MP.e_pOrV, MP.e_xOrVT, MP.e_xOrVF, MP.e_pNotV, MP.e_xNotV, MP.e_pIf, MP.e_xIfT, MP.e_xIfF, MP.e_p3, MP.e_x3, MP.e_x3bT, MP.e_x3bF, MP.e_pNil, MP.e_pCons, MP.e_xCons, MP.e_pTup, MP.e_xTp, MP.e_pLst, MP.e_xLs, MP.e_pNo, MP.e_pSome, MP.e_xSo, MP.e_pSl, MP.e_xSl, MP.e_pCall, MP.e_xG, MP.e_pSeq, MP.e_xSq, MP.e_pSeqR, MP.e_xSqR, MP.e_pRng, MP.e_pEnum, MP.e_xEn, MP.e_pComp, MP.e_xC, MP.e_xC2, MP.e_pUser, MP.e_xU, MP.e_xFv, MP.e_xFo, MP.e_xFe, MP.e_pSeal, MP.e_xSe, MP.e_xSeFv, MP.e_xSeFo, MP.e_pLook, MP.e_xLo, MP.e_xLoF, MP.e_xLoO, MP.e_xLoE, MP.e_pFld, MP.e_xFd, MP.e_xOb, MP.e_xLk0, MP.e_xLk1, MP.e_c0, MP.e_c1, MP.g_add, MP.g_catS, MP.g_catL, MP.g_catT, MP.g_sub, MP.g_mul, MP.g_rep, MP.g_div, MP.g_mod, MP.g_pow, MP.g_shl, MP.g_shr, MP.g_and, MP.g_orI, MP.g_neg, MP.g_lt, MP.g_le, MP.g_gt, MP.g_ge, MP.g_eqI, MP.g_eqS, MP.g_eqBo, MP.g_neI, MP.g_neS, MP.g_neBo, MP.g_is, MP.g_isNot, MP.n_none, MP.n_int, MP.n_str, MP.n_tup, MP.n_list, MP.n_bool, MP.g_max, MP.g_min, MP.g_lenL, MP.g_lenK, MP.g_lenT, MP.g_listL, MP.g_listK, MP.g_listT, MP.g_tupL, MP.g_tupT, MP.q_list, MP.q_lk, MP.q_tup, MP.g_rng1, MP.g_rng2, MP.g_enumL, MP.g_enumK, MP.g_ixL, MP.g_ixK, MP.g_ixT, MP.g_slL, MP.g_slK, MP.g_slT, MP.s_Nil, MP.s_Brk, MP.s_Cont, MP.s_Seq, MP.s_xSn, MP.s_xSr, MP.s_xSb, MP.s_xSc, MP.s_xSe, MP.s_Expr, MP.s_xEx, MP.s_SetV, MP.s_xSV, MP.s_SetO, MP.s_xSOs, MP.s_xSOf, MP.s_Ret, MP.s_xRts, MP.s_xRtf, MP.s_RetN, MP.s_RetS, MP.s_xRSo, MP.s_xRSv, MP.s_If, MP.s_xIfT, MP.s_xIfF, MP.s_Tup, MP.s_xTu, MP.s_xTb, MP.s_For, MP.s_xFor, MP.s_App, MP.s_xAp, MP.s_Thaw, MP.s_xTh, MP.s_Frz, MP.s_xFzo, MP.s_xFzv, MP.s_ExprF, MP.s_xEF, MP.s_SetF, MP.s_xSF, MP.s_RetF, MP.s_xRF, MP.s_IfF, MP.s_xIFT, MP.s_xIFF, MP.s_FldN, MP.s_xN, MP.s_xN2, MP.s_xN3, MP.s_put0, MP.s_put1, MP.s_putN, MP.f_P, MP.f_xPs, MP.f_xPf, MP.f_User, MP.f_xFU, MP.f_Meth, MP.f_xM, MP.f_xM2, MP.f_Make, MP.f_xMk, MP.f_xMkF, MP.fe_ok, MP.r_run, MP.r_un, MP.r_un0, MP.r_nx, MP.r_ret, MP.r_exc, MP.t_nx, MP.t_cont, MP.t_brk, MP.t_ret, MP.b_nm, MP.b_tp2, MP.b_tp3, MP.t_bk, MP.fe_pop, MP.s_appF, MP.s_dead, MP.g_divmod, MP.g_sorted, MP.g_allB, MP.g_anyB, MP.g_sumI, MP.g_zipT, MP.g_zipL, MP.e_pZip, MP.e_xZp, MP.g_abs, MP.g_intI, MP.g_intB, MP.g_repT, MP.e_pLRng, MP.e_xLR, MP.f_Pop, MP.f_xPop, MP.s_AppF, MP.s_xAF0, MP.s_xAF, MP.s_xAF2, MP.g_inI, MP.g_ninI, MP.g_inT, MP.g_ninT, MP.g_ninST, MP.e_c2, MP.e_c3, MP.e_c4, MP.e_c5, MP.e_pIsi, MP.s_tryV, MP.s_raise, MP.s_raiseN, MP.e_pMt, MP.e_xMtL, MP.e_xMtK, MP.g_xor, MP.s_Raise, MP.s_xRa1, MP.s_xRa2, MP.s_RaiseN, MP.s_TryV, MP.s_xTVn, MP.s_xTVr, MP.s_xTVe, MP.s_tryC, MP.e_xDe, MP.e_x1e, MP.e_x2e, MP.e_xBe, MP.s_xExe, MP.s_xSVe, MP.s_xSOe, MP.s_xRte, MP.s_xIfe, MP.s_xTue, MP.s_xThe, MP.s_xEFe, MP.s_xSFe, MP.s_xRFe, MP.fe_exc, MP.t_exc, MP.n_xv, List.getElem?_cons_zero, List.getElem?_cons_succ, List.getElem?_nil, List.set_cons_zero, List.set_cons_succ, List.map_cons, List.map_nil, List.length_cons, List.length_nil, List.length_append, List.cons_append, List.nil_append, List.length_map, List.length_singleton, Nat.reduceBEq, Nat.reduceAdd, Nat.reduceSub, Nat.reduceMul, Nat.reduceEqDiff, Nat.reduceLeDiff, Nat.reduceLT, if_false, if_true, ite_true, ite_false, ↓reduceIte, Bool.not_true, Bool.not_false, Bool.false_eq_true, decide_true, decide_false, eq_self, and_true, true_and, and_self, Nat.zero_le, Nat.zero_add, Option.bind_some, Option.bind_none, Nat.lt_irrefl, Int.reduceToNat, Int.reducePow, Int.reduceNeg, Int.reduceMul, Int.reduceAdd, Int.reduceSub, Int.reduceLT, Int.reduceLE, Int.reduceEq, beq_self_eq_true, wipeE, MP.at0, MP.at1, MP.at2, MP.atLit, e1, e2, in_ps, h1]
  by_cases h2 : R ≤ a
  · simp (disch := (first | assumption | with_reducible rfl | decide +kernel | exact Or.inl (by decide +kernel) | exact Or.inr (by decide +kernel) | omega | (simp only [List.length_cons, List.length_nil, List.length_append, List.length_map, List.length_replicate, List.length_range] <;> omega) | rfl)) only [MP.of_some, MP.map_some, MP.e_lv, MP.e_lo, MP.e_pD, MP.e_xDs, MP.e_xDf, MP.e_pC, MP.e_pYes, MP.e_pVar, MP.e_p2, MP.e_x2, MP.e_p1, MP.e_x1, MP.e_pB, MP.e_xB, MP.e_pNot, MP.e_xNot, MP.e_pAnd, MP.e_xAndT, MP.e_xAndF, MP.e_pOr, MP.e_xOrT, MP.e_xOrF, MP.e_pAndV, MP.e_xAndVT, MP.e_xAndVF, MP.e_pOrV, MP.e_xOrVT, MP.e_xOrVF, MP.e_pNotV, MP.e_xNotV, MP.e_pIf, MP.e_xIfT, MP.e_xIfF, MP.e_p3, MP.e_x3, MP.e_x3bT, MP.e_x3bF, MP.e_pNil, MP.e_pCons, MP.e_xCons, MP.e_pTup, MP.e_xTp, MP.e_pLst, MP.e_xLs, MP.e_pNo, MP.e_pSome, MP.e_xSo, MP.e_pSl, MP.e_xSl, MP.e_pCall, MP.e_xG, MP.e_pSeq, MP.e_xSq, MP.e_pSeqR, MP.e_xSqR, MP.e_pRng, MP.e_pEnum, MP.e_xEn, MP.e_pComp, MP.e_xC, MP.e_xC2, MP.e_pUser, MP.e_xU, MP.e_xFv, MP.e_xFo, MP.e_xFe, MP.e_pSeal, MP.e_xSe, MP.e_xSeFv, MP.e_xSeFo, MP.e_pLook, MP.e_xLo, MP.e_xLoF, MP.e_xLoO, MP.e_xLoE, MP.e_pFld, MP.e_xFd, MP.e_xOb, MP.e_xLk0, MP.e_xLk1, MP.e_c0, MP.e_c1, MP.g_add, MP.g_catS, MP.g_catL, MP.g_catT, MP.g_sub, MP.g_mul, MP.g_rep, MP.g_div, MP.g_mod, MP.g_pow, MP.g_shl, MP.g_shr, MP.g_and, MP.g_orI, MP.g_neg, MP.g_lt, MP.g_le, MP.g_gt, MP.g_ge, MP.g_eqI, MP.g_eqS, MP.g_eqBo, MP.g_neI, MP.g_neS, MP.g_neBo, MP.g_is, MP.g_isNot, MP.n_none, MP.n_int, MP.n_str, MP.n_tup, MP.n_list, MP.n_bool, MP.g_max, MP.g_min, MP.g_lenL, MP.g_lenK, MP.g_lenT, MP.g_listL, MP.g_listK, MP.g_listT, MP.g_tupL, MP.g_tupT, MP.q_list, MP.q_lk, MP.q_tup, MP.g_rng1, MP.g_rng2, MP.g_enumL, MP.g_enumK, MP.g_ixL, MP.g_ixK, MP.g_ixT, MP.g_slL, MP.g_slK, MP.g_slT, MP.s_Nil, MP.s_Brk, MP.s_Cont, MP.s_Seq, MP.s_xSn, MP.s_xSr, MP.s_xSb, MP.s_xSc, MP.s_xSe, MP.s_Expr, MP.s_xEx, MP.s_SetV, MP.s_xSV, MP.s_SetO, MP.s_xSOs, MP.s_xSOf, MP.s_Ret, MP.s_xRts, MP.s_xRtf, MP.s_RetN, MP.s_RetS, MP.s_xRSo, MP.s_xRSv, MP.s_If, MP.s_xIfT, MP.s_xIfF, MP.s_Tup, MP.s_xTu, MP.s_xTb, MP.s_For, MP.s_xFor, MP.s_App, MP.s_xAp, MP.s_Thaw, MP.s_xTh, MP.s_Frz, MP.s_xFzo, MP.s_xFzv, MP.s_ExprF, MP.s_xEF, MP.s_SetF, MP.s_xSF, MP.s_RetF, MP.s_xRF, MP.s_IfF, MP.s_xIFT, MP.s_xIFF, MP.s_FldN, MP.s_xN, MP.s_xN2, MP.s_xN3, MP.s_put0, MP.s_put1, MP.s_putN, MP.f_P, MP.f_xPs, MP.f_xPf, MP.f_User, MP.f_xFU, MP.f_Meth, MP.f_xM, MP.f_xM2, MP.f_Make, MP.f_xMk, MP.f_xMkF, MP.fe_ok, MP.r_run, MP.r_un, MP.r_un0, MP.r_nx, MP.r_ret, MP.r_exc, MP.t_nx, MP.t_cont, MP.t_brk, MP.t_ret, MP.b_nm, MP.b_tp2, MP.b_tp3, MP.t_bk, MP.fe_pop, MP.s_appF, MP.s_dead, MP.g_divmod, MP.g_sorted, MP.g_allB, MP.g_anyB, MP.g_sumI, MP.g_zipT, MP.g_zipL, MP.e_pZip, MP.e_xZp, MP.g_abs, MP.g_intI, MP.g_intB, MP.g_repT, MP.e_pLRng, MP.e_xLR, MP.f_Pop, MP.f_xPop, MP.s_AppF, MP.s_xAF0, MP.s_xAF, MP.s_xAF2, MP.g_inI, MP.g_ninI, MP.g_inT, MP.g_ninT, MP.g_ninST, MP.e_c2, MP.e_c3, MP.e_c4, MP.e_c5, MP.e_pIsi, MP.s_tryV, MP.s_raise, MP.s_raiseN, MP.e_pMt, MP.e_xMtL, MP.e_xMtK, MP.g_xor, MP.s_Raise, MP.s_xRa1, MP.s_xRa2, MP.s_RaiseN, MP.s_TryV, MP.s_xTVn, MP.s_xTVr, MP.s_xTVe, MP.s_tryC, MP.e_xDe, MP.e_x1e, MP.e_x2e, MP.e_xBe, MP.s_xExe, MP.s_xSVe, MP.s_xSOe, MP.s_xRte, MP.s_xIfe, MP.s_xTue, MP.s_xThe, MP.s_xEFe, MP.s_xSFe, MP.s_xRFe, MP.fe_exc, MP.t_exc, MP.n_xv, List.getElem?_cons_zero, List.getElem?_cons_succ, List.getElem?_nil, List.set_cons_zero, List.set_cons_succ, List.map_cons, List.map_nil, List.length_cons, List.length_nil, List.length_append, List.cons_append, List.nil_append, List.length_map, List.length_singleton, Nat.reduceBEq, Nat.reduceAdd, Nat.reduceSub, Nat.reduceMul, Nat.reduceEqDiff, Nat.reduceLeDiff, Nat.reduceLT, if_false, if_true, ite_true, ite_false, ↓reduceIte, Bool.not_true, Bool.not_false, Bool.false_eq_true, decide_true, decide_false, eq_self, and_true, true_and, and_self, Nat.zero_le, Nat.zero_add, Option.bind_some, Option.bind_none, Nat.lt_irrefl, Int.reduceToNat, Int.reducePow, Int.reduceNeg, Int.reduceMul, Int.reduceAdd, Int.reduceSub, Int.reduceLT, Int.reduceLE, Int.reduceEq, beq_self_eq_true, wipeE, MP.at0, MP.at1, MP.at2, MP.atLit, e1, e2, in_ps, h1, h2]
  by_cases h3 : b < 0
  · simp (disch := (first | assumption | with_reducible rfl | decide +kernel | exact Or.inl (by decide +kernel) | exact Or.inr (by decide +kernel) | omega | (simp only [List.length_cons, List.length_nil, List.length_append, List.length_map, List.length_replicate, List.length_range] <;> omega) | rfl)) only [MP.of_some, MP.map_some, MP.e_lv, MP.e_lo, MP.e_pD, MP.e_xDs, MP.e_xDf, MP.e_pC, MP.e_pYes, MP.e_pVar, MP.e_p2, MP.e_x2, MP.e_p1, MP.e_x1, MP.e_pB, MP.e_xB, MP.e_pNot, MP.e_xNot, MP.e_pAnd, MP.e_xAndT, MP.e_xAndF, MP.e_pOr, MP.e_xOrT, MP.e_xOrF, MP.e_pAndV, MP.e_xAndVT, MP.e_xAndVF, MP.e_pOrV, MP.e_xOrVT, MP.e_xOrVF, MP.e_pNotV, MP.e_xNotV, MP.e_pIf, MP.e_xIfT, MP.e_xIfF, MP.e_p3, MP.e_x3, MP.e_x3bT, MP.e_x3bF, MP.e_pNil, MP.e_pCons, MP.e_xCons, MP.e_pTup, MP.e_xTp, MP.e_pLst, MP.e_xLs, MP.e_pNo, MP.e_pSome, MP.e_xSo, MP.e_pSl, MP.e_xSl, MP.e_pCall, MP.e_xG, MP.e_pSeq, MP.e_xSq, MP.e_pSeqR, MP.e_xSqR, MP.e_pRng, MP.e_pEnum, MP.e_xEn, MP.e_pComp, MP.e_xC, MP.e_xC2, MP.e_pUser, MP.e_xU, MP.e_xFv, MP.e_xFo, MP.e_xFe, MP.e_pSeal, MP.e_xSe, MP.e_xSeFv, MP.e_xSeFo, MP.e_pLook, MP.e_xLo, MP.e_xLoF, MP.e_xLoO, MP.e_xLoE, MP.e_pFld, MP.e_xFd, MP.e_xOb, MP.e_xLk0, MP.e_xLk1, MP.e_c0, MP.e_c1, MP.g_add, MP.g_catS, MP.g_catL, MP.g_catT, MP.g_sub, MP.g_mul, MP.g_rep, MP.g_div, MP.g_mod, MP.g_pow, MP.g_shl, MP.g_shr, MP.g_and, MP.g_orI, MP.g_neg, MP.g_lt, MP.g_le, MP.g_gt, MP.g_ge, MP.g_eqI, MP.g_eqS, MP.g_eqBo, MP.g_neI, MP.g_neS, MP.g_neBo, MP.g_is, MP.g_isNot, MP.n_none, MP.n_int, MP.n_str, MP.n_tup, MP.n_list, MP.n_bool, MP.g_max, MP.g_min, MP.g_lenL, MP.g_lenK, MP.g_lenT, MP.g_listL, MP.g_listK, MP.g_listT, MP.g_tupL, MP.g_tupT, MP.q_list, MP.q_lk, MP.q_tup, MP.g_rng1, MP.g_rng2, MP.g_enumL, MP.g_enumK, MP.g_ixL, MP.g_ixK, MP.g_ixT, MP.g_slL, MP.g_slK, MP.g_slT, MP.s_Nil, MP.s_Brk, MP.s_Cont, MP.s_Seq, MP.s_xSn, MP.s_xSr, MP.s_xSb, MP.s_xSc, MP.s_xSe, MP.s_Expr, MP.s_xEx, MP.s_SetV, MP.s_xSV, MP.s_SetO, MP.s_xSOs, MP.s_xSOf, MP.s_Ret, MP.s_xRts, MP.s_xRtf, MP.s_RetN, MP.s_RetS, MP.s_xRSo, MP.s_xRSv, MP.s_If, MP.s_xIfT, MP.s_xIfF, MP.s_Tup, MP.s_xTu, MP.s_xTb, MP.s_For, MP.s_xFor, MP.s_App, MP.s_xAp, MP.s_Thaw, MP.s_xTh, MP.s_Frz, MP.s_xFzo, MP.s_xFzv, MP.s_ExprF, MP.s_xEF, MP.s_SetF, MP.s_xSF, MP.s_RetF, MP.s_xRF, MP.s_IfF, MP.s_xIFT, MP.s_xIFF, MP.s_FldN, MP.s_xN, MP.s_xN2, MP.s_xN3, MP.s_put0, MP.s_put1, MP.s_putN, MP.f_P, MP.f_xPs, MP.f_xPf, MP.f_User, MP.f_xFU, MP.f_Meth, MP.f_xM, MP.f_xM2, MP.f_Make, MP.f_xMk, MP.f_xMkF, MP.fe_ok, MP.r_run, MP.r_un, MP.r_un0, MP.r_nx, MP.r_ret, MP.r_exc, MP.t_nx, MP.t_cont, MP.t_brk, MP.t_ret, MP.b_nm, MP.b_tp2, MP.b_tp3, MP.t_bk, MP.fe_pop, MP.s_appF, MP.s_dead, MP.g_divmod, MP.g_sorted, MP.g_allB, MP.g_anyB, MP.g_sumI, MP.g_zipT, MP.g_zipL, MP.e_pZip, MP.e_xZp, MP.g_abs, MP.g_intI, MP.g_intB, MP.g_repT, MP.e_pLRng, MP.e_xLR, MP.f_Pop, MP.f_xPop, MP.s_AppF, MP.s_xAF0, MP.s_xAF, MP.s_xAF2, MP.g_inI, MP.g_ninI, MP.g_inT, MP.g_ninT, MP.g_ninST, MP.e_c2, MP.e_c3, MP.e_c4, MP.e_c5, MP.e_pIsi, MP.s_tryV, MP.s_raise, MP.s_raiseN, MP.e_pMt, MP.e_xMtL, MP.e_xMtK, MP.g_xor, MP.s_Raise, MP.s_xRa1, MP.s_xRa2, MP.s_RaiseN, MP.s_TryV, MP.s_xTVn, MP.s_xTVr, MP.s_xTVe, MP.s_tryC, MP.e_xDe, MP.e_x1e, MP.e_x2e, MP.e_xBe, MP.s_xExe, MP.s_xSVe, MP.s_xSOe, MP.s_xRte, MP.s_xIfe, MP.s_xTue, MP.s_xThe, MP.s_xEFe, MP.s_xSFe, MP.s_xRFe, MP.fe_exc, MP.t_exc, MP.n_xv, List.getElem?_cons_zero, List.getElem?_cons_succ, List.getElem?_nil, List.set_cons_zero, List.set_cons_succ, List.map_cons, List.map_nil, List.length_cons, List.length_nil, List.length_append, List.cons_append, List.nil_append, List.length_map, List.length_singleton, Nat.reduceBEq, Nat.reduceAdd, Nat.reduceSub, Nat.reduceMul, Nat.reduceEqDiff, Nat.reduceLeDiff, Nat.reduceLT, if_false, if_true, ite_true, ite_false, ↓reduceIte, Bool.not_true, Bool.not_false, Bool.false_eq_true, decide_true, decide_false, eq_self, and_true, true_and, and_self, Nat.zero_le, Nat.zero_add, Option.bind_some, Option.bind_none, Nat.lt_irrefl, Int.reduceToNat, Int.reducePow, Int.reduceNeg, Int.reduceMul, Int.reduceAdd, Int.reduceSub, Int.reduceLT, Int.reduceLE, Int.reduceEq, beq_self_eq_true, wipeE, MP.at0, MP.at1, MP.at2, MP.atLit, e1, e2, in_ps, h1, h2, h3]
  by_cases h4 : C ≤ b
  · simp (disch := (first | assumption | with_reducible rfl | decide +kernel | exact Or.inl (by decide +kernel) | exact Or.inr (by decide +kernel) | omega | (simp only [List.length_cons, List.length_nil, List.length_append, List.length_map, List.length_replicate, List.length_range] <;> omega) | rfl)) only [MP.of_some, MP.map_some, MP.e_lv, MP.e_lo, MP.e_pD, MP.e_xDs, MP.e_xDf, MP.e_pC, MP.e_pYes, MP.e_pVar, MP.e_p2, MP.e_x2, MP.e_p1, MP.e_x1, MP.e_pB, MP.e_xB, MP.e_pNot, MP.e_xNot, MP.e_pAnd, MP.e_xAndT, MP.e_xAndF, MP.e_pOr, MP.e_xOrT, MP.e_xOrF, MP.e_pAndV, MP.e_xAndVT, MP.e_xAndVF, MP.e_pOrV, MP.e_xOrVT, MP.e_xOrVF, MP.e_pNotV, MP.e_xNotV, MP.e_pIf, MP.e_xIfT, MP.e_xIfF, MP.e_p3, MP.e_x3, MP.e_x3bT, MP.e_x3bF, MP.e_pNil, MP.e_pCons, MP.e_xCons, MP.e_pTup, MP.e_xTp, MP.e_pLst, MP.e_xLs, MP.e_pNo, MP.e_pSome, MP.e_xSo, MP.e_pSl, MP.e_xSl, MP.e_pCall, MP.e_xG, MP.e_pSeq, MP.e_xSq, MP.e_pSeqR, MP.e_xSqR, MP.e_pRng, MP.e_pEnum, MP.e_xEn, MP.e_pComp, MP.e_xC, MP.e_xC2, MP.e_pUser, MP.e_xU, MP.e_xFv, MP.e_xFo, MP.e_xFe, MP.e_pSeal, MP.e_xSe, MP.e_xSeFv, MP.e_xSeFo, MP.e_pLook, MP.e_xLo, MP.e_xLoF, MP.e_xLoO, MP.e_xLoE, MP.e_pFld, MP.e_xFd, MP.e_xOb, MP.e_xLk0, MP.e_xLk1, MP.e_c0, MP.e_c1, MP.g_add, MP.g_catS, MP.g_catL, MP.g_catT, MP.g_sub, MP.g_mul, MP.g_rep, MP.g_div, MP.g_mod, MP.g_pow, MP.g_shl, MP.g_shr, MP.g_and, MP.g_orI, MP.g_neg, MP.g_lt, MP.g_le, MP.g_gt, MP.g_ge, MP.g_eqI, MP.g_eqS, MP.g_eqBo, MP.g_neI, MP.g_neS, MP.g_neBo, MP.g_is, MP.g_isNot, MP.n_none, MP.n_int, MP.n_str, MP.n_tup, MP.n_list, MP.n_bool, MP.g_max, MP.g_min, MP.g_lenL, MP.g_lenK, MP.g_lenT, MP.g_listL, MP.g_listK, MP.g_listT, MP.g_tupL, MP.g_tupT, MP.q_list, MP.q_lk, MP.q_tup, MP.g_rng1, MP.g_rng2, MP.g_enumL, MP.g_enumK, MP.g_ixL, MP.g_ixK, MP.g_ixT, MP.g_slL, MP.g_slK, MP.g_slT, MP.s_Nil, MP.s_Brk, MP.s_Cont, MP.s_Seq, MP.s_xSn, MP.s_xSr, MP.s_xSb, MP.s_xSc, MP.s_xSe, MP.s_Expr, MP.s_xEx, MP.s_SetV, MP.s_xSV, MP.s_SetO, MP.s_xSOs, MP.s_xSOf, MP.s_Ret, MP.s_xRts, MP.s_xRtf, MP.s_RetN, MP.s_RetS, MP.s_xRSo, MP.s_xRSv, MP.s_If, MP.s_xIfT, MP.s_xIfF, MP.s_Tup, MP.s_xTu, MP.s_xTb, MP.s_For, MP.s_xFor, MP.s_App, MP.s_xAp, MP.s_Thaw, MP.s_xTh, MP.s_Frz, MP.s_xFzo, MP.s_xFzv, MP.s_ExprF, MP.s_xEF, MP.s_SetF, MP.s_xSF, MP.s_RetF, MP.s_xRF, MP.s_IfF, MP.s_xIFT, MP.s_xIFF, MP.s_FldN, MP.s_xN, MP.s_xN2, MP.s_xN3, MP.s_put0, MP.s_put1, MP.s_putN, MP.f_P, MP.f_xPs, MP.f_xPf, MP.f_User, MP.f_xFU, MP.f_Meth, MP.f_xM, MP.f_xM2, MP.f_Make, MP.f_xMk, MP.f_xMkF, MP.fe_ok, MP.r_run, MP.r_un, MP.r_un0, MP.r_nx, MP.r_ret, MP.r_exc, MP.t_nx, MP.t_cont, MP.t_brk, MP.t_ret, MP.b_nm, MP.b_tp2, MP.b_tp3, MP.t_bk, MP.fe_pop, MP.s_appF, MP.s_dead, MP.g_divmod, MP.g_sorted, MP.g_allB, MP.g_anyB, MP.g_sumI, MP.g_zipT, MP.g_zipL, MP.e_pZip, MP.e_xZp, MP.g_abs, MP.g_intI, MP.g_intB, MP.g_repT, MP.e_pLRng, MP.e_xLR, MP.f_Pop, MP.f_xPop, MP.s_AppF, MP.s_xAF0, MP.s_xAF, MP.s_xAF2, MP.g_inI, MP.g_ninI, MP.g_inT, MP.g_ninT, MP.g_ninST, MP.e_c2, MP.e_c3, MP.e_c4, MP.e_c5, MP.e_pIsi, MP.s_tryV, MP.s_raise, MP.s_raiseN, MP.e_pMt, MP.e_xMtL, MP.e_xMtK, MP.g_xor, MP.s_Raise, MP.s_xRa1, MP.s_xRa2, MP.s_RaiseN, MP.s_TryV, MP.s_xTVn, MP.s_xTVr, MP.s_xTVe, MP.s_tryC, MP.e_xDe, MP.e_x1e, MP.e_x2e, MP.e_xBe, MP.s_xExe, MP.s_xSVe, MP.s_xSOe, MP.s_xRte, MP.s_xIfe, MP.s_xTue, MP.s_xThe, MP.s_xEFe, MP.s_xSFe, MP.s_xRFe, MP.fe_exc, MP.t_exc, MP.n_xv, List.getElem?_cons_zero, List.getElem?_cons_succ, List.getElem?_nil, List.set_cons_zero, List.set_cons_succ, List.map_cons, List.map_nil, List.length_cons, List.length_nil, List.length_append, List.cons_append, List.nil_append, List.length_map, List.length_singleton, Nat.reduceBEq, Nat.reduceAdd, Nat.reduceSub, Nat.reduceMul, Nat.reduceEqDiff, Nat.reduceLeDiff, Nat.reduceLT, if_false, if_true, ite_true, ite_false, ↓reduceIte, Bool.not_true, Bool.not_false, Bool.false_eq_true, decide_true, decide_false, eq_self, and_true, true_and, and_self, Nat.zero_le, Nat.zero_add, Option.bind_some, Option.bind_none, Nat.lt_irrefl, Int.reduceToNat, Int.reducePow, Int.reduceNeg, Int.reduceMul, Int.reduceAdd, Int.reduceSub, Int.reduceLT, Int.reduceLE, Int.reduceEq, beq_self_eq_true, wipeE, MP.at0, MP.at1, MP.at2, MP.atLit, e1, e2, in_ps, h1, h2, h3, h4]
  have h5 : (a, b) ∈ es.take i := by
    rcases h with h | h | h | h | h
    · exact absurd h h1
    · exact absurd h h2
    · exact absurd h h3
    · exact absurd h h4
    · exact h
  simp (disch := (first | assumption | with_reducible rfl | decide +kernel | exact Or.inl (by decide +kernel) | exact Or.inr (by decide +kernel) | omega | (simp only [List.length_cons, List.length_nil, List.length_append, List.length_map, List.length_replicate, List.length_range] <;> omega) | rfl)) only [MP.of_some, MP.map_some, MP.e_lv, MP.e_lo, MP.e_pD, MP.e_xDs, MP.e_xDf, MP.e_pC, MP.e_pYes, MP.e_pVar, MP.e_p2, MP.e_x2, MP.e_p1, MP.e_x1, MP.e_pB, MP.e_xB, MP.e_pNot, MP.e_xNot, MP.e_pAnd, MP.e_xAndT, MP.e_xAndF, MP.e_pOr, MP.e_xOrT, MP.e_xOrF, MP.e_pAndV, MP.e_xAndVT, MP.e_xAndVF, MP.e_pOrV, MP.e_xOrVT, MP.e_xOrVF, MP.e_pNotV, MP.e_xNotV, MP.e_pIf, MP.e_xIfT, MP.e_xIfF, MP.e_p3, MP.e_x3, MP.e_x3bT, MP.e_x3bF, MP.e_pNil, MP.e_pCons, MP.e_xCons, MP.e_pTup, MP.e_xTp, MP.e_pLst, MP.e_xLs, MP.e_pNo, MP.e_pSome, MP.e_xSo, MP.e_pSl, MP.e_xSl, MP.e_pCall, MP.e_xG, MP.e_pSeq, MP.e_xSq, MP.e_pSeqR, MP.e_xSqR, MP.e_pRng, MP.e_pEnum, MP.e_xEn, MP.e_pComp, MP.e_xC, MP.e_xC2, MP.e_pUser, MP.e_xU, MP.e_xFv, MP.e_xFo, MP.e_xFe, MP.e_pSeal, MP.e_xSe, MP.e_xSeFv, MP.e_xSeFo, MP.e_pLook, MP.e_xLo, MP.e_xLoF, MP.e_xLoO, MP.e_xLoE, MP.e_pFld, MP.e_xFd, MP.e_xOb, MP.e_xLk0, MP.e_xLk1, MP.e_c0, MP.e_c1, MP.g_add, MP.g_catS, MP.g_catL, MP.g_catT, MP.g_sub, MP.g_mul, MP.g_rep, MP.g_div, MP.g_mod, MP.g_pow, MP.g_shl, MP.g_shr, MP.g_and, MP.g_orI, MP.g_neg, MP.g_lt, MP.g_le, MP.g_gt, MP.g_ge, MP.g_eqI, MP.g_eqS, MP.g_eqBo, MP.g_neI, MP.g_neS, MP.g_neBo, MP.g_is, MP.g_isNot, MP.n_none, MP.n_int, MP.n_str, MP.n_tup, MP.n_list, MP.n_bool, MP.g_max, MP.g_min, MP.g_lenL, MP.g_lenK, MP.g_lenT, MP.g_listL, MP.g_listK, MP.g_listT, MP.g_tupL, MP.g_tupT, MP.q_list, MP.q_lk, MP.q_tup, MP.g_rng1, MP.g_rng2, MP.g_enumL, MP.g_enumK, MP.g_ixL, MP.g_ixK, MP.g_ixT, MP.g_slL, MP.g_slK, MP.g_slT, MP.s_Nil, MP.s_Brk, MP.s_Cont, MP.s_Seq, MP.s_xSn, MP.s_xSr, MP.s_xSb, MP.s_xSc, MP.s_xSe, MP.s_Expr, MP.s_xEx, MP.s_SetV, MP.s_xSV, MP.s_SetO, MP.s_xSOs, MP.s_xSOf, MP.s_Ret, MP.s_xRts, MP.s_xRtf, MP.s_RetN, MP.s_RetS, MP.s_xRSo, MP.s_xRSv, MP.s_If, MP.s_xIfT, MP.s_xIfF, MP.s_Tup, MP.s_xTu, MP.s_xTb, MP.s_For, MP.s_xFor, MP.s_App, MP.s_xAp, MP.s_Thaw, MP.s_xTh, MP.s_Frz, MP.s_xFzo, MP.s_xFzv, MP.s_ExprF, MP.s_xEF, MP.s_SetF, MP.s_xSF, MP.s_RetF, MP.s_xRF, MP.s_IfF, MP.s_xIFT, MP.s_xIFF, MP.s_FldN, MP.s_xN, MP.s_xN2, MP.s_xN3, MP.s_put0, MP.s_put1, MP.s_putN, MP.f_P, MP.f_xPs, MP.f_xPf, MP.f_User, MP.f_xFU, MP.f_Meth, MP.f_xM, MP.f_xM2, MP.f_Make, MP.f_xMk, MP.f_xMkF, MP.fe_ok, MP.r_run, MP.r_un, MP.r_un0, MP.r_nx, MP.r_ret, MP.r_exc, MP.t_nx, MP.t_cont, MP.t_brk, MP.t_ret, MP.b_nm, MP.b_tp2, MP.b_tp3, MP.t_bk, MP.fe_pop, MP.s_appF, MP.s_dead, MP.g_divmod, MP.g_sorted, MP.g_allB, MP.g_anyB, MP.g_sumI, MP.g_zipT, MP.g_zipL, MP.e_pZip, MP.e_xZp, MP.g_abs, MP.g_intI, MP.g_intB, MP.g_repT, MP.e_pLRng, MP.e_xLR, MP.f_Pop, MP.f_xPop, MP.s_AppF, MP.s_xAF0, MP.s_xAF, MP.s_xAF2, MP.g_inI, MP.g_ninI, MP.g_inT, MP.g_ninT, MP.g_ninST, MP.e_c2, MP.e_c3, MP.e_c4, MP.e_c5, MP.e_pIsi, MP.s_tryV, MP.s_raise, MP.s_raiseN, MP.e_pMt, MP.e_xMtL, MP.e_xMtK, MP.g_xor, MP.s_Raise, MP.s_xRa1, MP.s_xRa2, MP.s_RaiseN, MP.s_TryV, MP.s_xTVn, MP.s_xTVr, MP.s_xTVe, MP.s_tryC, MP.e_xDe, MP.e_x1e, MP.e_x2e, MP.e_xBe, MP.s_xExe, MP.s_xSVe, MP.s_xSOe, MP.s_xRte, MP.s_xIfe, MP.s_xTue, MP.s_xThe, MP.s_xEFe, MP.s_xSFe, MP.s_xRFe, MP.fe_exc, MP.t_exc, MP.n_xv, List.getElem?_cons_zero, List.getElem?_cons_succ, List.getElem?_nil, List.set_cons_zero, List.set_cons_succ, List.map_cons, List.map_nil, List.length_cons, List.length_nil, List.length_append, List.cons_append, List.nil_append, List.length_map, List.length_singleton, Nat.reduceBEq, Nat.reduceAdd, Nat.reduceSub, Nat.reduceMul, Nat.reduceEqDiff, Nat.reduceLeDiff, Nat.reduceLT, if_false, if_true, ite_true, ite_false, ↓reduceIte, Bool.not_true, Bool.not_false, Bool.false_eq_true, decide_true, decide_false, eq_self, and_true, true_and, and_self, Nat.zero_le, Nat.zero_add, Option.bind_some, Option.bind_none, Nat.lt_irrefl, Int.reduceToNat, Int.reducePow, Int.reduceNeg, Int.reduceMul, Int.reduceAdd, Int.reduceSub, Int.reduceLT, Int.reduceLE, Int.reduceEq, beq_self_eq_true, wipeE, MP.at0, MP.at1, MP.at2, MP.atLit, e1, e2, in_ps, h1, h2, h3, h4, h5, decide_true]
theorem m_fo_ok (R C : Int) (es : List (Int × Int)) (i : Nat) (hi : i < es.length) (h : ¬ bad R C es i) (x4 x5 : Slot) : ∃ x4' x5', lp_frame_of_1 ⟨[.v (.int R), .v (.int C), .v (.list (psD es)), .v (.int (i : Int)), x4, x5], []⟩ = .nx ⟨[.v (.int R), .v (.int C), .v (.list (psD es)), .v (.int (i : Int)), x4', x5'], []⟩ := by
  unfold lp_frame_of_1
  have e1 := psD_at es i hi
  have e2 := cut_hi (psD es) (h := (i : Int)) (by omega)
  rw [Int.toNat_natCast, psD_take] at e2
  unfold bad at h
  generalize (es.getD i (0, 0)).1 = a at e1 h
  generalize (es.getD i (0, 0)).2 = b at e1 h
  have h1 : 0 ≤ a := Int.not_lt.mp fun k => h (.inl k)
  have h2 : a < R := Int.not_le.mp fun k => h (.inr (.inl k))
  have h3 : 0 ≤ b := Int.not_lt.mp fun k => h (.inr (.inr (.inl k)))
  have h4 : b < C := Int.not_le.mp fun k => h (.inr (.inr (.inr (.inl k))))
  have h5 : ¬ (a, b) ∈ es.take i := fun k => h (.inr (.inr (.inr (.inr k))))
  refine ⟨.v (.int a), .v (.int b), ?_⟩
  simp (disch := (first | assumption | with_reducible rfl | decide +kernel | exact Or.inl (by decide +kernel) | exact Or.inr (by decide +kernel) | omega | (simp only [List.length_cons, List.length_nil, List.length_append, List.length_map, List.length_replicate, List.length_range] <;> omega) | rfl)) only [MP.of_some, MP.map_some, MP.e_lv, MP.e_lo, MP.e_pD, MP.e_xDs, MP.e_xDf, MP.e_pC, MP.e_pYes, MP.e_pVar, MP.e_p2, MP.e_x2, MP.e_p1, MP.e_x1, MP.e_pB, MP.e_xB, MP.e_pNot, MP.e_xNot, MP.e_pAnd, MP.e_xAndT, MP.e_xAndF, MP.e_pOr, MP.e_xOrT, MP.e_xOrF, MP.e_pAndV, MP.e_xAndVT, MP.e_xAndVF, MP.e_pOrV, MP.e_xOrVT, MP.e_xOrVF, MP.e_pNotV, MP.e_xNotV, MP.e_pIf, MP.e_xIfT, MP.e_xIfF, MP.e_p3, MP.e_x3, MP.e_x3bT, MP.e_x3bF, MP.e_pNil, MP.e_pCons, MP.e_xCons, MP.e_pTup, MP.e_xTp, MP.e_pLst, MP.e_xLs, MP.e_pNo, MP.e_pSome, MP.e_xSo, MP.e_pSl, MP.e_xSl, MP.e_pCall, MP.e_xG, MP.e_pSeq, MP.e_xSq, MP.e_pSeqR, MP.e_xSqR, MP.e_pRng, MP.e_pEnum, MP.e_xEn, MP.e_pComp, MP.e_xC, MP.e_xC2, MP.e_pUser, MP.e_xU, MP.e_xFv, MP.e_xFo, MP.e_xFe, MP.e_pSeal, MP.e_xSe, MP.e_xSeFv, MP.e_xSeFo, MP.e_pLook, MP.e_xLo, MP.e_xLoF, MP.e_xLoO, MP.e_xLoE, MP.e_pFld, MP.e_xFd, MP.e_xOb, MP.e_xLk0, MP.e_xLk1, MP.e_c0, MP.e_c1, MP.g_add, MP.g_catS, MP.g_catL, MP.g_catT, MP.g_sub, MP.g_mul, MP.g_rep, MP.g_div, MP.g_mod, MP.g_pow, MP.g_shl, MP.g_shr, MP.g_and, MP.g_orI, MP.g_neg, MP.g_lt, MP.g_le, MP.g_gt, MP.g_ge, MP.g_eqI, MP.g_eqS, MP.g_eqBo, MP.g_neI, MP.g_neS, MP.g_neBo, MP.g_is, MP.g_isNot, MP.n_none, MP.n_int, MP.n_str, MP.n_tup, MP.n_list, MP.n_bool, MP.g_max, MP.g_min, MP.g_lenL, MP.g_lenK, MP.g_lenT, MP.g_listL, MP.g_listK, MP.g_listT, MP.g_tupL, MP.g_tupT, MP.q_list, MP.q_lk, MP.q_tup, MP.g_rng1, MP.g_rng2, MP.g_enumL, MP.g_enumK, MP.g_ixL, MP.g_ixK, MP.g_ixT, MP.g_slL, MP.g_slK, MP.g_slT, MP.s_Nil, MP.s_Brk, MP.s_Cont, MP.s_Seq, MP.s_xSn, MP.s_xSr, MP.s_xSb, MP.s_xSc, MP.s_xSe, MP.s_Expr, MP.s_xEx, MP.s_SetV, MP.s_xSV, MP.s_SetO, MP.s_xSOs, MP.s_xSOf, MP.s_Ret, MP.s_xRts, MP.s_xRtf, MP.s_RetN, MP.s_RetS, MP.s_xRSo, MP.s_xRSv, MP.s_If, MP.s_xIfT, MP.s_xIfF, MP.s_Tup, MP.s_xTu, MP.s_xTb, MP.s_For, MP.s_xFor, MP.s_App, MP.s_xAp, MP.s_Thaw, MP.s_xTh, MP.s_Frz, MP.s_xFzo, MP.s_xFzv, MP.s_ExprF, MP.s_xEF, MP.s_SetF, MP.s_xSF, MP.s_RetF, MP.s_xRF, MP.s_IfF, MP.s_xIFT, MP.s_xIFF, MP.s_FldN, MP.s_xN, MP.s_xN2, MP.s_xN3, MP.s_put0, MP.s_put1, MP.s_putN, MP.f_P, MP.f_xPs, MP.f_xPf, MP.f_User, MP.f_xFU, MP.f_Meth, MP.f_xM, MP.f_xM2, MP.f_Make, MP.f_xMk, MP.f_xMkF, MP.fe_ok, MP.r_run, MP.r_un, MP.r_un0, MP.r_nx, MP.r_ret, MP.r_exc, MP.t_nx, MP.t_cont, MP.t_brk, MP.t_ret, MP.b_nm, MP.b_tp2, MP.b_tp3, MP.t_bk, MP.fe_pop, MP.s_appF, MP.s_dead, MP.g_divmod, MP.g_sorted, MP.g_allB, MP.g_anyB, MP.g_sumI, MP.g_zipT, MP.g_zipL, MP.e_pZip, MP.e_xZp, MP.g_abs, MP.g_intI, MP.g_intB, MP.g_repT, MP.e_pLRng, MP.e_xLR, MP.f_Pop, MP.f_xPop, MP.s_AppF, MP.s_xAF0, MP.s_xAF, MP.s_xAF2, MP.g_inI, MP.g_ninI, MP.g_inT, MP.g_ninT, MP.g_ninST, MP.e_c2, MP.e_c3, MP.e_c4, MP.e_c5, MP.e_pIsi, MP.s_tryV, MP.s_raise, MP.s_raiseN, MP.e_pMt, MP.e_xMtL, MP.e_xMtK, MP.g_xor, MP.s_Raise, MP.s_xRa1, MP.s_xRa2, MP.s_RaiseN, MP.s_TryV, MP.s_xTVn, MP.s_xTVr, MP.s_xTVe, MP.s_tryC, MP.e_xDe, MP.e_x1e, MP.e_x2e, MP.e_xBe, MP.s_xExe, MP.s_xSVe, MP.s_xSOe, MP.s_xRte, MP.s_xIfe, MP.s_xTue, MP.s_xThe, MP.s_xEFe, MP.s_xSFe, MP.s_xRFe, MP.fe_exc, MP.t_exc, MP.n_xv, List.getElem?_cons_zero, List.getElem?_cons_succ, List.getElem?_nil, List.set_cons_zero, List.set_cons_succ, List.map_cons, List.map_nil, List.length_cons, List.length_nil, List.length_append, List.cons_append, List.nil_append, List.length_map, List.length_singleton, Nat.reduceBEq, Nat.reduceAdd, Nat.reduceSub, Nat.reduceMul, Nat.reduceEqDiff, Nat.reduceLeDiff, Nat.reduceLT, if_false, if_true, ite_true, ite_false, ↓reduceIte, Bool.not_true, Bool.not_false, Bool.false_eq_true, decide_true, decide_false, eq_self, and_true, true_and, and_self, Nat.zero_le, Nat.zero_add, Option.bind_some, Option.bind_none, Nat.lt_irrefl, Int.reduceToNat, Int.reducePow, Int.reduceNeg, Int.reduceMul, Int.reduceAdd, Int.reduceSub, Int.reduceLT, Int.reduceLE, Int.reduceEq, beq_self_eq_true, wipeE, MP.at0, MP.at1, MP.at2, MP.atLit, e1, e2, in_ps, h1, h2, h3, h4, h5, decide_false]
theorem m_fo_bad (R C : Int) (es : List (Int × Int)) (i : Nat) (hi : i < es.length) (h : bad R C es i) (x4 x5 : Slot) : ∃ s, lp_frame_of_1 ⟨[.v (.int R), .v (.int C), .v (.list (psD es)), .v (.int (i : Int)), x4, x5], []⟩ = .exc ⟨"NoFrame", [("place", .int (i : Int))]⟩ ⟨s, []⟩ := by
  unfold lp_frame_of_1
  have e1 := psD_at es i hi
  have e2 := cut_hi (psD es) (h := (i : Int)) (by omega)
  rw [Int.toNat_natCast, psD_take] at e2
  unfold bad at h
  generalize (es.getD i (0, 0)).1 = a at e1 h
  generalize (es.getD i (0, 0)).2 = b at e1 h
  refine ⟨[.v (.int R), .v (.int C), .v (.list (psD es)), .v (.int (i : Int)), .v (.int a), .v (.int b)], ?_⟩
  by_cases h1 : 0 ≤ a
  rotate_left
  · simp (disch := (first | assumption | with_reducible rfl | decide +kernel | exact Or.inl (by decide +kernel) | exact Or.inr (by decide +kernel) | omega | (simp only [List.length_cons, List.length_nil, List.length_append, List.length_map, List.length_replicate, List.length_range] <;> omega) | rfl)) only [MP.of_some, MP.map_some, MP.e_lv, MP.e_lo, MP.e_pD, MP.e_xDs, MP.e_xDf, MP.e_pC, MP.e_pYes, MP.e_pVar, MP.e_p2, MP.e_x2, MP.e_p1, MP.e_x1, MP.e_pB, MP.e_xB, MP.e_pNot, MP.e_xNot, MP.e_pAnd, MP.e_xAndT, MP.e_xAndF, MP.e_pOr, MP.e_xOrT, MP.e_xOrF, MP.e_pAndV, MP.e_xAndVT, MP.e_xAndVF, MP.e_pOrV, MP.e_xOrVT, MP.e_xOrVF, MP.e_pNotV, MP.e_xNotV, MP.e_pIf, MP.e_xIfT, MP.e_xIfF, MP.e_p3, MP.e_x3, MP.e_x3bT, MP.e_x3bF, MP.e_pNil, MP.e_pCons, MP.e_xCons, MP.e_pTup, MP.e_xTp, MP.e_pLst, MP.e_xLs, MP.e_pNo, MP.e_pSome, MP.e_xSo, MP.e_pSl, MP.e_xSl, MP.e_pCall, MP.e_xG, MP.e_pSeq, MP.e_xSq, MP.e_pSeqR, MP.e_xSqR, MP.e_pRng, MP.e_pEnum, MP.e_xEn, MP.e_pComp, MP.e_xC, MP.e_xC2, MP.e_pUser, MP.e_xU, MP.e_xFv, MP.e_xFo, MP.e_xFe, MP.e_pSeal, MP.e_xSe, MP.e_xSeFv, MP.e_xSeFo, MP.e_pLook, MP.e_xLo, MP.e_xLoF, MP.e_xLoO, MP.e_xLoE, MP.e_pFld, MP.e_xFd, MP.e_xOb, MP.e_xLk0, MP.e_xLk1, MP.e_c0, MP.e_c1, MP.g_add, MP.g_catS, MP.g_catL, MP.g_catT, MP.g_sub, MP.g_mul, MP.g_rep, MP.g_div, MP.g_mod, MP.g_pow, MP.g_shl, MP.g_shr, MP.g_and, MP.g_orI, MP.g_neg, MP.g_lt, MP.g_le, MP.g_gt, MP.g_ge, MP.g_eqI, MP.g_eqS, MP.g_eqBo, MP.g_neI, MP.g_neS, MP.g_neBo, MP.g_is, MP.g_isNot, MP.n_none, MP.n_int, MP.n_str, MP.n_tup, MP.n_list, MP.n_bool, MP.g_max, MP.g_min, MP.g_lenL, MP.g_lenK, MP.g_lenT, MP.g_listL, MP.g_listK, MP.g_listT, MP.g_tupL, MP.g_tupT, MP.q_list, MP.q_lk, MP.q_tup, MP.g_rng1, MP.g_rng2, MP.g_enumL, MP.g_enumK, MP.g_ixL, MP.g_ixK, MP.g_ixT, MP.g_slL, MP.g_slK, MP.g_slT, MP.s_Nil, MP.s_Brk, MP.s_Cont, MP.s_Seq, MP.s_xSn, MP.s_xSr, MP.s_xSb, MP.s_xSc, MP.s_xSe, MP.s_Expr, MP.s_xEx, MP.s_SetV, MP.s_xSV, MP.s_SetO, MP.s_xSOs, MP.s_xSOf, MP.s_Ret, MP.s_xRts, MP.s_xRtf, MP.s_RetN, MP.s_RetS, MP.s_xRSo, MP.s_xRSv, MP.s_If, MP.s_xIfT, MP.s_xIfF, MP.s_Tup, MP.s_xTu, MP.s_xTb, MP.s_For, MP.s_xFor, MP.s_App, MP.s_xAp, MP.s_Thaw, MP.s_xTh, MP.s_Frz, MP.s_xFzo, MP.s_xFzv, MP.s_ExprF, MP.s_xEF, MP.s_SetF, MP.s_xSF, MP.s_RetF, MP.s_xRF, MP.s_IfF, MP.s_xIFT, MP.s_xIFF, MP.s_FldN, MP.s_xN, MP.s_xN2, MP.s_xN3, MP.s_put0, MP.s_put1, MP.s_putN, MP.f_P, MP.f_xPs, MP.f_xPf, MP.f_User, MP.f_xFU, MP.f_Meth, MP.f_xM, MP.f_xM2, MP.f_Make, MP.f_xMk, MP.f_xMkF, MP.fe_ok, MP.r_run, MP.r_un, MP.r_un0, MP.r_nx, MP.r_ret, MP.r_exc, MP.t_nx, MP.t_cont, MP.t_brk, MP.t_ret, MP.b_nm, MP.b_tp2, MP.b_tp3, MP.t_bk, MP.fe_pop, MP.s_appF, MP.s_dead, MP.g_divmod, MP.g_sorted, MP.g_allB, MP.g_anyB, MP.g_sumI, MP.g_zipT, MP.g_zipL, MP.e_pZip, MP.e_xZp, MP.g_abs, MP.g_intI, MP.g_intB, MP.g_repT, MP.e_pLRng, MP.e_xLR, MP.f_Pop, MP.f_xPop, MP.s_AppF, MP.s_xAF0, MP.s_xAF, MP.s_xAF2, MP.g_inI, MP.g_ninI, MP.g_inT, MP.g_ninT, MP.g_ninST, MP.e_c2, MP.e_c3, MP.e_c4, MP.e_c5, MP.e_pIsi, MP.s_tryV, MP.s_raise, MP.s_raiseN, MP.e_pMt, MP.e_xMtL, MP.e_xMtK, MP.g_xor, MP.s_Raise, MP.s_xRa1, MP.s_xRa2, MP.s_RaiseN, MP.s_TryV, MP.s_xTVn, MP.s_xTVr, MP.s_xTVe, MP.s_tryC, MP.e_xDe, MP.e_x1e, MP.e_x2e, MP.e_xBe, MP.s_xExe, MP.s_xSVe, MP.s_xSOe, MP.s_xRte, MP.s_xIfe, MP.s_xTue, MP.s_xThe, MP.s_xEFe, MP.s_xSFe, MP.s_xRFe, MP.fe_exc, MP.t_exc, MP.n_xv, List.getElem?_cons_zero, List.getElem?_cons_succ, List.getElem?_nil, List.set_cons_zero, List.set_cons_succ, List.map_cons, List.map_nil, List.length_cons, List.length_nil, List.length_append, List.cons_append, List.nil_append, List.length_map, List.length_singleton, Nat.reduceBEq, Nat.reduceAdd, Nat.reduceSub, Nat.reduceMul, Nat.reduceEqDiff, Nat.reduceLeDiff, Nat.reduceLT, if_false, if_true, ite_true, ite_false, ↓reduceIte, Bool.not_true, Bool.not_false, Bool.false_eq_true, decide_true, decide_false, eq_self, and_true, true_and, and_self, Nat.zero_le, Nat.zero_add, Option.bind_some, Option.bind_none, Nat.lt_irrefl, Int.reduceToNat, Int.reducePow, Int.reduceNeg, Int.reduceMul, Int.reduceAdd, Int.reduceSub, Int.reduceLT, Int.reduceLE, Int.reduceEq, beq_self_eq_true, wipeE, MP.at0, MP.at1, MP.at2, MP.atLit, e1, e2, in_ps, h1]
  by_cases h2 : a < R
  rotate_left
  · simp (disch := (first | assumption | with_reducible rfl | decide +kernel | exact Or.inl (by decide +kernel) | exact Or.inr (by decide +kernel) | omega | (simp only [List.length_cons, List.length_nil, List.length_append, List.length_map, List.length_replicate, List.length_range] <;> omega) | rfl)) only [MP.of_some, MP.map_some, MP.e_lv, MP.e_lo, MP.e_pD, MP.e_xDs, MP.e_xDf, MP.e_pC, MP.e_pYes, MP.e_pVar, MP.e_p2, MP.e_x2, MP.e_p1, MP.e_x1, MP.e_pB, MP.e_xB, MP.e_pNot, MP.e_xNot, MP.e_pAnd, MP.e_xAndT, MP.e_xAndF, MP.e_pOr, MP.e_xOrT, MP.e_xOrF, MP.e_pAndV, MP.e_xAndVT, MP.e_xAndVF, MP.e_pOrV, MP.e_xOrVT, MP.e_xOrVF, MP.e_pNotV, MP.e_xNotV, MP.e_pIf, MP.e_xIfT, MP.e_xIfF, MP.e_p3, MP.e_x3, MP.e_x3bT, MP.e_x3bF, MP.e_pNil, MP.e_pCons, MP.e_xCons, MP.e_pTup, MP.e_xTp, MP.e_pLst, MP.e_xLs, MP.e_pNo, MP.e_pSome, MP.e_xSo, MP.e_pSl, MP.e_xSl, MP.e_pCall, MP.e_xG, MP.e_pSeq, MP.e_xSq, MP.e_pSeqR, MP.e_xSqR, MP.e_pRng, MP.e_pEnum, MP.e_xEn, MP.e_pComp, MP.e_xC, MP.e_xC2, MP.e_pUser, MP.e_xU, MP.e_xFv, MP.e_xFo, MP.e_xFe, MP.e_pSeal, MP.e_xSe, MP.e_xSeFv, MP.e_xSeFo, MP.e_pLook, MP.e_xLo, MP.e_xLoF, MP.e_xLoO, MP.e_xLoE, MP.e_pFld, MP.e_xFd, MP.e_xOb, MP.e_xLk0, MP.e_xLk1, MP.e_c0, MP.e_c1, MP.g_add, MP.g_catS, MP.g_catL, MP.g_catT, MP.g_sub, MP.g_mul, MP.g_rep, MP.g_div, MP.g_mod, MP.g_pow, MP.g_shl, MP.g_shr, MP.g_and, MP.g_orI, MP.g_neg, MP.g_lt, MP.g_le, MP.g_gt, MP.g_ge, MP.g_eqI, MP.g_eqS, MP.g_eqBo, MP.g_neI, MP.g_neS, MP.g_neBo, MP.g_is, MP.g_isNot, MP.n_none, MP.n_int, MP.n_str, MP.n_tup, MP.n_list, MP.n_bool, MP.g_max, MP.g_min, MP.g_lenL, MP.g_lenK, MP.g_lenT, MP.g_listL, MP.g_listK, MP.g_listT, MP.g_tupL, MP.g_tupT, MP.q_list, MP.q_lk, MP.q_tup, MP.g_rng1, MP.g_rng2, MP.g_enumL, MP.g_enumK, MP.g_ixL, MP.g_ixK, MP.g_ixT, MP.g_slL, MP.g_slK, MP.g_slT, MP.s_Nil, MP.s_Brk, MP.s_Cont, MP.s_Seq, MP.s_xSn, MP.s_xSr, MP.s_xSb, MP.s_xSc, MP.s_xSe, MP.s_Expr, MP.s_xEx, MP.s_SetV, MP.s_xSV, MP.s_SetO, MP.s_xSOs, MP.s_xSOf, MP.s_Ret, MP.s_xRts, MP.s_xRtf, MP.s_RetN, MP.s_RetS, MP.s_xRSo, MP.s_xRSv, MP.s_If, MP.s_xIfT, MP.s_xIfF, MP.s_Tup, MP.s_xTu, MP.s_xTb, MP.s_For, MP.s_xFor, MP.s_App, MP.s_xAp, MP.s_Thaw, MP.s_xTh, MP.s_Frz, MP.s_xFzo, MP.s_xFzv, MP.s_ExprF, MP.s_xEF, MP.s_SetF, MP.s_xSF, MP.s_RetF, MP.s_xRF, MP.s_IfF, MP.s_xIFT, MP.s_xIFF, MP.s_FldN, MP.s_xN, MP.s_xN2, MP.s_xN3, MP.s_put0, MP.s_put1, MP.s_putN, MP.f_P, MP.f_xPs, MP.f_xPf, MP.f_User, MP.f_xFU, MP.f_Meth, MP.f_xM, MP.f_xM2, MP.f_Make, MP.f_xMk, MP.f_xMkF, MP.fe_ok, MP.r_run, MP.r_un, MP.r_un0, MP.r_nx, MP.r_ret, MP.r_exc, MP.t_nx, MP.t_cont, MP.t_brk, MP.t_ret, MP.b_nm, MP.b_tp2, MP.b_tp3, MP.t_bk, MP.fe_pop, MP.s_appF, MP.s_dead, MP.g_divmod, MP.g_sorted, MP.g_allB, MP.g_anyB, MP.g_sumI, MP.g_zipT, MP.g_zipL, MP.e_pZip, MP.e_xZp, MP.g_abs, MP.g_intI, MP.g_intB, MP.g_repT, MP.e_pLRng, MP.e_xLR, MP.f_Pop, MP.f_xPop, MP.s_AppF, MP.s_xAF0, MP.s_xAF, MP.s_xAF2, MP.g_inI, MP.g_ninI, MP.g_inT, MP.g_ninT, MP.g_ninST, MP.e_c2, MP.e_c3, MP.e_c4, MP.e_c5, MP.e_pIsi, MP.s_tryV, MP.s_raise, MP.s_raiseN, MP.e_pMt, MP.e_xMtL, MP.e_xMtK, MP.g_xor, MP.s_Raise, MP.s_xRa1, MP.s_xRa2, MP.s_RaiseN, MP.s_TryV, MP.s_xTVn, MP.s_xTVr, MP.s_xTVe, MP.s_tryC, MP.e_xDe, MP.e_x1e, MP.e_x2e, MP.e_xBe, MP.s_xExe, MP.s_xSVe, MP.s_xSOe, MP.s_xRte, MP.s_xIfe, MP.s_xTue, MP.s_xThe, MP.s_xEFe, MP.s_xSFe, MP.s_xRFe, MP.fe_exc, MP.t_exc, MP.n_xv, List.getElem?_cons_zero, List.getElem?_cons_succ, List.getElem?_nil, List.set_cons_zero, List.set_cons_succ, List.map_cons, List.map_nil, List.length_cons, List.length_nil, List.length_append, List.cons_append, List.nil_append, List.length_map, List.length_singleton, Nat.reduceBEq, Nat.reduceAdd, Nat.reduceSub, Nat.reduceMul, Nat.reduceEqDiff, Nat.reduceLeDiff, Nat.reduceLT, if_false, if_true, ite_true, ite_false, ↓reduceIte, Bool.not_true, Bool.not_false, Bool.false_eq_true, decide_true, decide_false, eq_self, and_true, true_and, and_self, Nat.zero_le, Nat.zero_add, Option.bind_some, Option.bind_none, Nat.lt_irrefl, Int.reduceToNat, Int.reducePow, Int.reduceNeg, Int.reduceMul, Int.reduceAdd, Int.reduceSub, Int.reduceLT, Int.reduceLE, Int.reduceEq, beq_self_eq_true, wipeE, MP.at0, MP.at1, MP.at2, MP.atLit, e1, e2, in_ps, h1, h2]
  by_cases h3 : 0 ≤ b
  rotate_left
  · simp (disch := (first | assumption | with_reducible rfl | decide +kernel | exact Or.inl (by decide +kernel) | exact Or.inr (by decide +kernel) | omega | (simp only [List.length_cons, List.length_nil, List.length_append, List.length_map, List.length_replicate, List.length_range] <;> omega) | rfl)) only [MP.of_some, MP.map_some, MP.e_lv, MP.e_lo, MP.e_pD, MP.e_xDs, MP.e_xDf, MP.e_pC, MP.e_pYes, MP.e_pVar, MP.e_p2, MP.e_x2, MP.e_p1, MP.e_x1, MP.e_pB, MP.e_xB, MP.e_pNot, MP.e_xNot, MP.e_pAnd, MP.e_xAndT, MP.e_xAndF, MP.e_pOr, MP.e_xOrT, MP.e_xOrF, MP.e_pAndV, MP.e_xAndVT, MP.e_xAndVF, MP.e_pOrV, MP.e_xOrVT, MP.e_xOrVF, MP.e_pNotV, MP.e_xNotV, MP.e_pIf, MP.e_xIfT, MP.e_xIfF, MP.e_p3, MP.e_x3, MP.e_x3bT, MP.e_x3bF, MP.e_pNil, MP.e_pCons, MP.e_xCons, MP.e_pTup, MP.e_xTp, MP.e_pLst, MP.e_xLs, MP.e_pNo, MP.e_pSome, MP.e_xSo, MP.e_pSl, MP.e_xSl, MP.e_pCall, MP.e_xG, MP.e_pSeq, MP.e_xSq, MP.e_pSeqR, MP.e_xSqR, MP.e_pRng, MP.e_pEnum, MP.e_xEn, MP.e_pComp, MP.e_xC, MP.e_xC2, MP.e_pUser, MP.e_xU, MP.e_xFv, MP.e_xFo, MP.e_xFe, MP.e_pSeal, MP.e_xSe, MP.e_xSeFv, MP.e_xSeFo, MP.e_pLook, MP.e_xLo, MP.e_xLoF, MP.e_xLoO, MP.e_xLoE, MP.e_pFld, MP.e_xFd, MP.e_xOb, MP.e_xLk0, MP.e_xLk1, MP.e_c0, MP.e_c1, MP.g_add, MP.g_catS, MP.g_catL, MP.g_catT, MP.g_sub, MP.g_mul, MP.g_rep, MP.g_div, MP.g_mod, MP.g_pow, MP.g_shl, MP.g_shr, MP.g_and, MP.g_orI, MP.g_neg, MP.g_lt, MP.g_le, MP.g_gt, MP.g_ge, MP.g_eqI, MP.g_eqS, MP.g_eqBo, MP.g_neI, MP.g_neS, MP.g_neBo, MP.g_is, MP.g_isNot, MP.n_none, MP.n_int, MP.n_str, MP.n_tup, MP.n_list, MP.n_bool, MP.g_max, MP.g_min, MP.g_lenL, MP.g_lenK, MP.g_lenT, MP.g_listL, MP.g_listK, MP.g_listT, MP.g_tupL, MP.g_tupT, MP.q_list, MP.q_lk, MP.q_tup, MP.g_rng1, MP.g_rng2, MP.g_enumL, MP.g_enumK, MP.g_ixL, MP.g_ixK, MP.g_ixT, MP.g_slL, MP.g_slK, MP.g_slT, MP.s_Nil, MP.s_Brk, MP.s_Cont, MP.s_Seq, MP.s_xSn, MP.s_xSr, MP.s_xSb, MP.s_xSc, MP.s_xSe, MP.s_Expr, MP.s_xEx, MP.s_SetV, MP.s_xSV, MP.s_SetO, MP.s_xSOs, MP.s_xSOf, MP.s_Ret, MP.s_xRts, MP.s_xRtf, MP.s_RetN, MP.s_RetS, MP.s_xRSo, MP.s_xRSv, MP.s_If, MP.s_xIfT, MP.s_xIfF, MP.s_Tup, MP.s_xTu, MP.s_xTb, MP.s_For, MP.s_xFor, MP.s_App, MP.s_xAp, MP.s_Thaw, MP.s_xTh, MP.s_Frz, MP.s_xFzo, MP.s_xFzv, MP.s_ExprF, MP.s_xEF, MP.s_SetF, MP.s_xSF, MP.s_RetF, MP.s_xRF, MP.s_IfF, MP.s_xIFT, MP.s_xIFF, MP.s_FldN, MP.s_xN, MP.s_xN2, MP.s_xN3, MP.s_put0, MP.s_put1, MP.s_putN, MP.f_P, MP.f_xPs, MP.f_xPf, MP.f_User, MP.f_xFU, MP.f_Meth, MP.f_xM, MP.f_xM2, MP.f_Make, MP.f_xMk, MP.f_xMkF, MP.fe_ok, MP.r_run, MP.r_un, MP.r_un0, MP.r_nx, MP.r_ret, MP.r_exc, MP.t_nx, MP.t_cont, MP.t_brk, MP.t_ret, MP.b_nm, MP.b_tp2, MP.b_tp3, MP.t_bk, MP.fe_pop, MP.s_appF, MP.s_dead, MP.g_divmod, MP.g_sorted, MP.g_allB, MP.g_anyB, MP.g_sumI, MP.g_zipT, MP.g_zipL, MP.e_pZip, MP.e_xZp, MP.g_abs, MP.g_intI, MP.g_intB, MP.g_repT, MP.e_pLRng, MP.e_xLR, MP.f_Pop, MP.f_xPop, MP.s_AppF, MP.s_xAF0, MP.s_xAF, MP.s_xAF2, MP.g_inI, MP.g_ninI, MP.g_inT, MP.g_ninT, MP.g_ninST, MP.e_c2, MP.e_c3, MP.e_c4, MP.e_c5, MP.e_pIsi, MP.s_tryV, MP.s_raise, MP.s_raiseN, MP.e_pMt, MP.e_xMtL, MP.e_xMtK, MP.g_xor, MP.s_Raise, MP.s_xRa1, MP.s_xRa2, MP.s_RaiseN, MP.s_TryV, MP.s_xTVn, MP.s_xTVr, MP.s_xTVe, MP.s_tryC, MP.e_xDe, MP.e_x1e, MP.e_x2e, MP.e_xBe, MP.s_xExe, MP.s_xSVe, MP.s_xSOe, MP.s_xRte, MP.s_xIfe, MP.s_xTue, MP.s_xThe, MP.s_xEFe, MP.s_xSFe, MP.s_xRFe, MP.fe_exc, MP.t_exc, MP.n_xv, List.getElem?_cons_zero, List.getElem?_cons_succ, List.getElem?_nil, List.set_cons_zero, List.set_cons_succ, List.map_cons, List.map_nil, List.length_cons, List.length_nil, List.length_append, List.cons_append, List.nil_append, List.length_map, List.length_singleton, Nat.reduceBEq, Nat.reduceAdd, Nat.reduceSub, Nat.reduceMul, Nat.reduceEqDiff, Nat.reduceLeDiff, Nat.reduceLT, if_false, if_true, ite_true, ite_false, ↓reduceIte, Bool.not_true, Bool.not_false, Bool.false_eq_true, decide_true, decide_false, eq_self, and_true, true_and, and_self, Nat.zero_le, Nat.zero_add, Option.bind_some, Option.bind_none, Nat.lt_irrefl, Int.reduceToNat, Int.reducePow, Int.reduceNeg, Int.reduceMul, Int.reduceAdd, Int.reduceSub, Int.reduceLT, Int.reduceLE, Int.reduceEq, beq_self_eq_true, wipeE, MP.at0, MP.at1, MP.at2, MP.atLit, e1, e2, in_ps, h1, h2, h3]
  by_cases h4 : b < C
  rotate_left
  · simp (disch := (first | assumption | with_reducible rfl | decide +kernel | exact Or.inl (by decide +kernel) | exact Or.inr (by decide +kernel) | omega | (simp only [List.length_cons, List.length_nil, List.length_append, List.length_map, List.length_replicate, List.length_range] <;> omega) | rfl)) only [MP.of_some, MP.map_some, MP.e_lv, MP.e_lo, MP.e_pD, MP.e_xDs, MP.e_xDf, MP.e_pC, MP.e_pYes, MP.e_pVar, MP.e_p2, MP.e_x2, MP.e_p1, MP.e_x1, MP.e_pB, MP.e_xB, MP.e_pNot, MP.e_xNot, MP.e_pAnd, MP.e_xAndT, MP.e_xAndF, MP.e_pOr, MP.e_xOrT, MP.e_xOrF, MP.e_pAndV, MP.e_xAndVT, MP.e_xAndVF, MP.e_pOrV, MP.e_xOrVT, MP.e_xOrVF, MP.e_pNotV, MP.e_xNotV, MP.e_pIf, MP.e_xIfT, MP.e_xIfF, MP.e_p3, MP.e_x3, MP.e_x3bT, MP.e_x3bF, MP.e_pNil, MP.e_pCons, MP.e_xCons, MP.e_pTup, MP.e_xTp, MP.e_pLst, MP.e_xLs, MP.e_pNo, MP.e_pSome, MP.e_xSo, MP.e_pSl, MP.e_xSl, MP.e_pCall, MP.e_xG, MP.e_pSeq, MP.e_xSq, MP.e_pSeqR, MP.e_xSqR, MP.e_pRng, MP.e_pEnum, MP.e_xEn, MP.e_pComp, MP.e_xC, MP.e_xC2, MP.e_pUser, MP.e_xU, MP.e_xFv, MP.e_xFo, MP.e_xFe, MP.e_pSeal, MP.e_xSe, MP.e_xSeFv, MP.e_xSeFo, MP.e_pLook, MP.e_xLo, MP.e_xLoF, MP.e_xLoO, MP.e_xLoE, MP.e_pFld, MP.e_xFd, MP.e_xOb, MP.e_xLk0, MP.e_xLk1, MP.e_c0, MP.e_c1, MP.g_add, MP.g_catS, MP.g_catL, MP.g_catT, MP.g_sub, MP.g_mul, MP.g_rep, MP.g_div, MP.g_mod, MP.g_pow, MP.g_shl, MP.g_shr, MP.g_and, MP.g_orI, MP.g_neg, MP.g_lt, MP.g_le, MP.g_gt, MP.g_ge, MP.g_eqI, MP.g_eqS, MP.g_eqBo, MP.g_neI, MP.g_neS, MP.g_neBo, MP.g_is, MP.g_isNot, MP.n_none, MP.n_int, MP.n_str, MP.n_tup, MP.n_list, MP.n_bool, MP.g_max, MP.g_min, MP.g_lenL, MP.g_lenK, MP.g_lenT, MP.g_listL, MP.g_listK, MP.g_listT, MP.g_tupL, MP.g_tupT, MP.q_list, MP.q_lk, MP.q_tup, MP.g_rng1, MP.g_rng2, MP.g_enumL, MP.g_enumK, MP.g_ixL, MP.g_ixK, MP.g_ixT, MP.g_slL, MP.g_slK, MP.g_slT, MP.s_Nil, MP.s_Brk, MP.s_Cont, MP.s_Seq, MP.s_xSn, MP.s_xSr, MP.s_xSb, MP.s_xSc, MP.s_xSe, MP.s_Expr, MP.s_xEx, MP.s_SetV, MP.s_xSV, MP.s_SetO, MP.s_xSOs, MP.s_xSOf, MP.s_Ret, MP.s_xRts, MP.s_xRtf, MP.s_RetN, MP.s_RetS, MP.s_xRSo, MP.s_xRSv, MP.s_If, MP.s_xIfT, MP.s_xIfF, MP.s_Tup, MP.s_xTu, MP.s_xTb, MP.s_For, MP.s_xFor, MP.s_App, MP.s_xAp, MP.s_Thaw, MP.s_xTh, MP.s_Frz, MP.s_xFzo, MP.s_xFzv, MP.s_ExprF, MP.s_xEF, MP.s_SetF, MP.s_xSF, MP.s_RetF, MP.s_xRF, MP.s_IfF, MP.s_xIFT, MP.s_xIFF, MP.s_FldN, MP.s_xN, MP.s_xN2, MP.s_xN3, MP.s_put0, MP.s_put1, MP.s_putN, MP.f_P, MP.f_xPs, MP.f_xPf, MP.f_User, MP.f_xFU, MP.f_Meth, MP.f_xM, MP.f_xM2, MP.f_Make, MP.f_xMk, MP.f_xMkF, MP.fe_ok, MP.r_run, MP.r_un, MP.r_un0, MP.r_nx, MP.r_ret, MP.r_exc, MP.t_nx, MP.t_cont, MP.t_brk, MP.t_ret, MP.b_nm, MP.b_tp2, MP.b_tp3, MP.t_bk, MP.fe_pop, MP.s_appF, MP.s_dead, MP.g_divmod, MP.g_sorted, MP.g_allB, MP.g_anyB, MP.g_sumI, MP.g_zipT, MP.g_zipL, MP.e_pZip, MP.e_xZp, MP.g_abs, MP.g_intI, MP.g_intB, MP.g_repT, MP.e_pLRng, MP.e_xLR, MP.f_Pop, MP.f_xPop, MP.s_AppF, MP.s_xAF0, MP.s_xAF, MP.s_xAF2, MP.g_inI, MP.g_ninI, MP.g_inT, MP.g_ninT, MP.g_ninST, MP.e_c2, MP.e_c3, MP.e_c4, MP.e_c5, MP.e_pIsi, MP.s_tryV, MP.s_raise, MP.s_raiseN, MP.e_pMt, MP.e_xMtL, MP.e_xMtK, MP.g_xor, MP.s_Raise, MP.s_xRa1, MP.s_xRa2, MP.s_RaiseN, MP.s_TryV, MP.s_xTVn, MP.s_xTVr, MP.s_xTVe, MP.s_tryC, MP.e_xDe, MP.e_x1e, MP.e_x2e, MP.e_xBe, MP.s_xExe, MP.s_xSVe, MP.s_xSOe, MP.s_xRte, MP.s_xIfe, MP.s_xTue, MP.s_xThe, MP.s_xEFe, MP.s_xSFe, MP.s_xRFe, MP.fe_exc, MP.t_exc, MP.n_xv, List.getElem?_cons_zero, List.getElem?_cons_succ, List.getElem?_nil, List.set_cons_zero, List.set_cons_succ, List.map_cons, List.map_nil, List.length_cons, List.length_nil, List.length_append, List.cons_append, List.nil_append, List.length_map, List.length_singleton, Nat.reduceBEq, Nat.reduceAdd, Nat.reduceSub, Nat.reduceMul, Nat.reduceEqDiff, Nat.reduceLeDiff, Nat.reduceLT, if_false, if_true, ite_true, ite_false, ↓reduceIte, Bool.not_true, Bool.not_false, Bool.false_eq_true, decide_true, decide_false, eq_self, and_true, true_and, and_self, Nat.zero_le, Nat.zero_add, Option.bind_some, Option.bind_none, Nat.lt_irrefl, Int.reduceToNat, Int.reducePow, Int.reduceNeg, Int.reduceMul, Int.reduceAdd, Int.reduceSub, Int.reduceLT, Int.reduceLE, Int.reduceEq, beq_self_eq_true, wipeE, MP.at0, MP.at1, MP.at2, MP.atLit, e1, e2, in_ps, h1, h2, h3, h4]
  have h5 : (a, b) ∈ es.take i := by
    rcases h with h | h | h | h | h
    · omega
    · omega
    · omega
    · omega
    · exact h
  simp (disch := (first | assumption | with_reducible rfl | decide +kernel | exact Or.inl (by decide +kernel) | exact Or.inr (by decide +kernel) | omega | (simp only [List.length_cons, List.length_nil, List.length_append, List.length_map, List.length_replicate, List.length_range] <;> omega) | rfl)) only [MP.of_some, MP.map_some, MP.e_lv, MP.e_lo, MP.e_pD, MP.e_xDs, MP.e_xDf, MP.e_pC, MP.e_pYes, MP.e_pVar, MP.e_p2, MP.e_x2, MP.e_p1, MP.e_x1, MP.e_pB, MP.e_xB, MP.e_pNot, MP.e_xNot, MP.e_pAnd, MP.e_xAndT, MP.e_xAndF, MP.e_pOr, MP.e_xOrT, MP.e_xOrF, MP.e_pAndV, MP.e_xAndVT, MP.e_xAndVF, MP.e_pOrV, MP.e_xOrVT, MP.e_xOrVF, MP.e_pNotV, MP.e_xNotV, MP.e_pIf, MP.e_xIfT, MP.e_xIfF, MP.e_p3, MP.e_x3, MP.e_x3bT, MP.e_x3bF, MP.e_pNil, MP.e_pCons, MP.e_xCons, MP.e_pTup, MP.e_xTp, MP.e_pLst, MP.e_xLs, MP.e_pNo, MP.e_pSome, MP.e_xSo, MP.e_pSl, MP.e_xSl, MP.e_pCall, MP.e_xG, MP.e_pSeq, MP.e_xSq, MP.e_pSeqR, MP.e_xSqR, MP.e_pRng, MP.e_pEnum, MP.e_xEn, MP.e_pComp, MP.e_xC, MP.e_xC2, MP.e_pUser, MP.e_xU, MP.e_xFv, MP.e_xFo, MP.e_xFe, MP.e_pSeal, MP.e_xSe, MP.e_xSeFv, MP.e_xSeFo, MP.e_pLook, MP.e_xLo, MP.e_xLoF, MP.e_xLoO, MP.e_xLoE, MP.e_pFld, MP.e_xFd, MP.e_xOb, MP.e_xLk0, MP.e_xLk1, MP.e_c0, MP.e_c1, MP.g_add, MP.g_catS, MP.g_catL, MP.g_catT, MP.g_sub, MP.g_mul, MP.g_rep, MP.g_div, MP.g_mod, MP.g_pow, MP.g_shl, MP.g_shr, MP.g_and, MP.g_orI, MP.g_neg, MP.g_lt, MP.g_le, MP.g_gt, MP.g_ge, MP.g_eqI, MP.g_eqS, MP.g_eqBo, MP.g_neI, MP.g_neS, MP.g_neBo, MP.g_is, MP.g_isNot, MP.n_none, MP.n_int, MP.n_str, MP.n_tup, MP.n_list, MP.n_bool, MP.g_max, MP.g_min, MP.g_lenL, MP.g_lenK, MP.g_lenT, MP.g_listL, MP.g_listK, MP.g_listT, MP.g_tupL, MP.g_tupT, MP.q_list, MP.q_lk, MP.q_tup, MP.g_rng1, MP.g_rng2, MP.g_enumL, MP.g_enumK, MP.g_ixL, MP.g_ixK, MP.g_ixT, MP.g_slL, MP.g_slK, MP.g_slT, MP.s_Nil, MP.s_Brk, MP.s_Cont, MP.s_Seq, MP.s_xSn, MP.s_xSr, MP.s_xSb, MP.s_xSc, MP.s_xSe, MP.s_Expr, MP.s_xEx, MP.s_SetV, MP.s_xSV, MP.s_SetO, MP.s_xSOs, MP.s_xSOf, MP.s_Ret, MP.s_xRts, MP.s_xRtf, MP.s_RetN, MP.s_RetS, MP.s_xRSo, MP.s_xRSv, MP.s_If, MP.s_xIfT, MP.s_xIfF, MP.s_Tup, MP.s_xTu, MP.s_xTb, MP.s_For, MP.s_xFor, MP.s_App, MP.s_xAp, MP.s_Thaw, MP.s_xTh, MP.s_Frz, MP.s_xFzo, MP.s_xFzv, MP.s_ExprF, MP.s_xEF, MP.s_SetF, MP.s_xSF, MP.s_RetF, MP.s_xRF, MP.s_IfF, MP.s_xIFT, MP.s_xIFF, MP.s_FldN, MP.s_xN, MP.s_xN2, MP.s_xN3, MP.s_put0, MP.s_put1, MP.s_putN, MP.f_P, MP.f_xPs, MP.f_xPf, MP.f_User, MP.f_xFU, MP.f_Meth, MP.f_xM, MP.f_xM2, MP.f_Make, MP.f_xMk, MP.f_xMkF, MP.fe_ok, MP.r_run, MP.r_un, MP.r_un0, MP.r_nx, MP.r_ret, MP.r_exc, MP.t_nx, MP.t_cont, MP.t_brk, MP.t_ret, MP.b_nm, MP.b_tp2, MP.b_tp3, MP.t_bk, MP.fe_pop, MP.s_appF, MP.s_dead, MP.g_divmod, MP.g_sorted, MP.g_allB, MP.g_anyB, MP.g_sumI, MP.g_zipT, MP.g_zipL, MP.e_pZip, MP.e_xZp, MP.g_abs, MP.g_intI, MP.g_intB, MP.g_repT, MP.e_pLRng, MP.e_xLR, MP.f_Pop, MP.f_xPop, MP.s_AppF, MP.s_xAF0, MP.s_xAF, MP.s_xAF2, MP.g_inI, MP.g_ninI, MP.g_inT, MP.g_ninT, MP.g_ninST, MP.e_c2, MP.e_c3, MP.e_c4, MP.e_c5, MP.e_pIsi, MP.s_tryV, MP.s_raise, MP.s_raiseN, MP.e_pMt, MP.e_xMtL, MP.e_xMtK, MP.g_xor, MP.s_Raise, MP.s_xRa1, MP.s_xRa2, MP.s_RaiseN, MP.s_TryV, MP.s_xTVn, MP.s_xTVr, MP.s_xTVe, MP.s_tryC, MP.e_xDe, MP.e_x1e, MP.e_x2e, MP.e_xBe, MP.s_xExe, MP.s_xSVe, MP.s_xSOe, MP.s_xRte, MP.s_xIfe, MP.s_xTue, MP.s_xThe, MP.s_xEFe, MP.s_xSFe, MP.s_xRFe, MP.fe_exc, MP.t_exc, MP.n_xv, List.getElem?_cons_zero, List.getElem?_cons_succ, List.getElem?_nil, List.set_cons_zero, List.set_cons_succ, List.map_cons, List.map_nil, List.length_cons, List.length_nil, List.length_append, List.cons_append, List.nil_append, List.length_map, List.length_singleton, Nat.reduceBEq, Nat.reduceAdd, Nat.reduceSub, Nat.reduceMul, Nat.reduceEqDiff, Nat.reduceLeDiff, Nat.reduceLT, if_false, if_true, ite_true, ite_false, ↓reduceIte, Bool.not_true, Bool.not_false, Bool.false_eq_true, decide_true, decide_false, eq_self, and_true, true_and, and_self, Nat.zero_le, Nat.zero_add, Option.bind_some, Option.bind_none, Nat.lt_irrefl, Int.reduceToNat, Int.reducePow, Int.reduceNeg, Int.reduceMul, Int.reduceAdd, Int.reduceSub, Int.reduceLT, Int.reduceLE, Int.reduceEq, beq_self_eq_true, wipeE, MP.at0, MP.at1, MP.at2, MP.atLit, e1, e2, in_ps, h1, h2, h3, h4, h5, decide_true]
/-- what both tell -/
def vdF (R C : Int) (es : List (Int × Int)) : Option D → Fr
  | none => .ok (.v (.tup [.int R, .int C, .tup (psD es)])) []
  | some d => .exc ⟨"NoFrame", [("place", d)]⟩ []
def vdB : Option D → D
  | none => .tup [.bool false, .none]
  | some d => .tup [.bool true, d]
def amiss (R C : Int) (n : Nat) : Prop := R < 1 ∨ 6 < R ∨ C < 1 ∨ 6 < C ∨ n < 1 ∨ 12 < n
theorem m_amiss_b (R C : Int) (es : List (Int × Int)) (h : amiss R C es.length) : sem_l_first_bad [.int R, .int C, .list (psD es)] [] = .ok (.v (.tup [.bool true, .none])) [] := by
  unfold sem_l_first_bad
  refine run_ex (Q := fun r => r = .ok (.v (.tup [.bool true, .none])) []) [.v (.int R), .v (.int C), .v (.list (psD es)), .un, .un, .un] rfl ?_
  unfold b_l_first_bad
  have hl := psD_len es
  have en : ((psD es).length : Int) = (es.length : Int) := by omega
  by_cases h1 : R < 1
  · simp (disch := (first | assumption | with_reducible rfl | decide +kernel | exact Or.inl (by decide +kernel) | exact Or.inr (by decide +kernel) | omega | (simp only [List.length_cons, List.length_nil, List.length_append, List.length_map, List.length_replicate, List.length_range] <;> omega) | rfl)) only [MP.of_some, MP.map_some, MP.e_lv, MP.e_lo, MP.e_pD, MP.e_xDs, MP.e_xDf, MP.e_pC, MP.e_pYes, MP.e_pVar, MP.e_p2, MP.e_x2, MP.e_p1, MP.e_x1, MP.e_pB, MP.e_xB, MP.e_pNot, MP.e_xNot, MP.e_pAnd, MP.e_xAndT, MP.e_xAndF, MP.e_pOr, MP.e_xOrT, MP.e_xOrF, MP.e_pAndV, MP.e_xAndVT, MP.e_xAndVF, MP.e_pOrV, MP.e_xOrVT, MP.e_xOrVF, MP.e_pNotV, MP.e_xNotV, MP.e_pIf, MP.e_xIfT, MP.e_xIfF, MP.e_p3, MP.e_x3, MP.e_x3bT, MP.e_x3bF, MP.e_pNil, MP.e_pCons, MP.e_xCons, MP.e_pTup, MP.e_xTp, MP.e_pLst, MP.e_xLs, MP.e_pNo, MP.e_pSome, MP.e_xSo, MP.e_pSl, MP.e_xSl, MP.e_pCall, MP.e_xG, MP.e_pSeq, MP.e_xSq, MP.e_pSeqR, MP.e_xSqR, MP.e_pRng, MP.e_pEnum, MP.e_xEn, MP.e_pComp, MP.e_xC, MP.e_xC2, MP.e_pUser, MP.e_xU, MP.e_xFv, MP.e_xFo, MP.e_xFe, MP.e_pSeal, MP.e_xSe, MP.e_xSeFv, MP.e_xSeFo, MP.e_pLook, MP.e_xLo, MP.e_xLoF, MP.e_xLoO, MP.e_xLoE, MP.e_pFld, MP.e_xFd, MP.e_xOb, MP.e_xLk0, MP.e_xLk1, MP.e_c0, MP.e_c1, MP.g_add, MP.g_catS, MP.g_catL, MP.g_catT, MP.g_sub, MP.g_mul, MP.g_rep, MP.g_div, MP.g_mod, MP.g_pow, MP.g_shl, MP.g_shr, MP.g_and, MP.g_orI, MP.g_neg, MP.g_lt, MP.g_le, MP.g_gt, MP.g_ge, MP.g_eqI, MP.g_eqS, MP.g_eqBo, MP.g_neI, MP.g_neS, MP.g_neBo, MP.g_is, MP.g_isNot, MP.n_none, MP.n_int, MP.n_str, MP.n_tup, MP.n_list, MP.n_bool, MP.g_max, MP.g_min, MP.g_lenL, MP.g_lenK, MP.g_lenT, MP.g_listL, MP.g_listK, MP.g_listT, MP.g_tupL, MP.g_tupT, MP.q_list, MP.q_lk, MP.q_tup, MP.g_rng1, MP.g_rng2, MP.g_enumL, MP.g_enumK, MP.g_ixL, MP.g_ixK, MP.g_ixT, MP.g_slL, MP.g_slK, MP.g_slT, MP.s_Nil, MP.s_Brk, MP.s_Cont, MP.s_Seq, MP.s_xSn, MP.s_xSr, MP.s_xSb, MP.s_xSc, MP.s_xSe, MP.s_Expr, MP.s_xEx, MP.s_SetV, MP.s_xSV, MP.s_SetO, MP.s_xSOs, MP.s_xSOf, MP.s_Ret, MP.s_xRts, MP.s_xRtf, MP.s_RetN, MP.s_RetS, MP.s_xRSo, MP.s_xRSv, MP.s_If, MP.s_xIfT, MP.s_xIfF, MP.s_Tup, MP.s_xTu, MP.s_xTb, MP.s_For, MP.s_xFor, MP.s_App, MP.s_xAp, MP.s_Thaw, MP.s_xTh, MP.s_Frz, MP.s_xFzo, MP.s_xFzv, MP.s_ExprF, MP.s_xEF, MP.s_SetF, MP.s_xSF, MP.s_RetF, MP.s_xRF, MP.s_IfF, MP.s_xIFT, MP.s_xIFF, MP.s_FldN, MP.s_xN, MP.s_xN2, MP.s_xN3, MP.s_put0, MP.s_put1, MP.s_putN, MP.f_P, MP.f_xPs, MP.f_xPf, MP.f_User, MP.f_xFU, MP.f_Meth, MP.f_xM, MP.f_xM2, MP.f_Make, MP.f_xMk, MP.f_xMkF, MP.fe_ok, MP.r_run, MP.r_un, MP.r_un0, MP.r_nx, MP.r_ret, MP.r_exc, MP.t_nx, MP.t_cont, MP.t_brk, MP.t_ret, MP.b_nm, MP.b_tp2, MP.b_tp3, MP.t_bk, MP.fe_pop, MP.s_appF, MP.s_dead, MP.g_divmod, MP.g_sorted, MP.g_allB, MP.g_anyB, MP.g_sumI, MP.g_zipT, MP.g_zipL, MP.e_pZip, MP.e_xZp, MP.g_abs, MP.g_intI, MP.g_intB, MP.g_repT, MP.e_pLRng, MP.e_xLR, MP.f_Pop, MP.f_xPop, MP.s_AppF, MP.s_xAF0, MP.s_xAF, MP.s_xAF2, MP.g_inI, MP.g_ninI, MP.g_inT, MP.g_ninT, MP.g_ninST, MP.e_c2, MP.e_c3, MP.e_c4, MP.e_c5, MP.e_pIsi, MP.s_tryV, MP.s_raise, MP.s_raiseN, MP.e_pMt, MP.e_xMtL, MP.e_xMtK, MP.g_xor, MP.s_Raise, MP.s_xRa1, MP.s_xRa2, MP.s_RaiseN, MP.s_TryV, MP.s_xTVn, MP.s_xTVr, MP.s_xTVe, MP.s_tryC, MP.e_xDe, MP.e_x1e, MP.e_x2e, MP.e_xBe, MP.s_xExe, MP.s_xSVe, MP.s_xSOe, MP.s_xRte, MP.s_xIfe, MP.s_xTue, MP.s_xThe, MP.s_xEFe, MP.s_xSFe, MP.s_xRFe, MP.fe_exc, MP.t_exc, MP.n_xv, List.getElem?_cons_zero, List.getElem?_cons_succ, List.getElem?_nil, List.set_cons_zero, List.set_cons_succ, List.map_cons, List.map_nil, List.length_cons, List.length_nil, List.length_append, List.cons_append, List.nil_append, List.length_map, List.length_singleton, Nat.reduceBEq, Nat.reduceAdd, Nat.reduceSub, Nat.reduceMul, Nat.reduceEqDiff, Nat.reduceLeDiff, Nat.reduceLT, if_false, if_true, ite_true, ite_false, ↓reduceIte, Bool.not_true, Bool.not_false, Bool.false_eq_true, decide_true, decide_false, eq_self, and_true, true_and, and_self, Nat.zero_le, Nat.zero_add, Option.bind_some, Option.bind_none, Nat.lt_irrefl, Int.reduceToNat, Int.reducePow, Int.reduceNeg, Int.reduceMul, Int.reduceAdd, Int.reduceSub, Int.reduceLT, Int.reduceLE, Int.reduceEq, beq_self_eq_true, wipeE, MP.at0, MP.at1, MP.at2, MP.atLit, h1]
  by_cases h2 : 6 < R
  · simp (disch := (first | assumption | with_reducible rfl | decide +kernel | exact Or.inl (by decide +kernel) | exact Or.inr (by decide +kernel) | omega | (simp only [List.length_cons, List.length_nil, List.length_append, List.length_map, List.length_replicate, List.length_range] <;> omega) | rfl)) only [MP.of_some, MP.map_some, MP.e_lv, MP.e_lo, MP.e_pD, MP.e_xDs, MP.e_xDf, MP.e_pC, MP.e_pYes, MP.e_pVar, MP.e_p2, MP.e_x2, MP.e_p1, MP.e_x1, MP.e_pB, MP.e_xB, MP.e_pNot, MP.e_xNot, MP.e_pAnd, MP.e_xAndT, MP.e_xAndF, MP.e_pOr, MP.e_xOrT, MP.e_xOrF, MP.e_pAndV, MP.e_xAndVT, MP.e_xAndVF, MP.e_pOrV, MP.e_xOrVT, MP.e_xOrVF, MP.e_pNotV, MP.e_xNotV, MP.e_pIf, MP.e_xIfT, MP.e_xIfF, MP.e_p3, MP.e_x3, MP.e_x3bT, MP.e_x3bF, MP.e_pNil, MP.e_pCons, MP.e_xCons, MP.e_pTup, MP.e_xTp, MP.e_pLst, MP.e_xLs, MP.e_pNo, MP.e_pSome, MP.e_xSo, MP.e_pSl, MP.e_xSl, MP.e_pCall, MP.e_xG, MP.e_pSeq, MP.e_xSq, MP.e_pSeqR, MP.e_xSqR, MP.e_pRng, MP.e_pEnum, MP.e_xEn, MP.e_pComp, MP.e_xC, MP.e_xC2, MP.e_pUser, MP.e_xU, MP.e_xFv, MP.e_xFo, MP.e_xFe, MP.e_pSeal, MP.e_xSe, MP.e_xSeFv, MP.e_xSeFo, MP.e_pLook, MP.e_xLo, MP.e_xLoF, MP.e_xLoO, MP.e_xLoE, MP.e_pFld, MP.e_xFd, MP.e_xOb, MP.e_xLk0, MP.e_xLk1, MP.e_c0, MP.e_c1, MP.g_add, MP.g_catS, MP.g_catL, MP.g_catT, MP.g_sub, MP.g_mul, MP.g_rep, MP.g_div, MP.g_mod, MP.g_pow, MP.g_shl, MP.g_shr, MP.g_and, MP.g_orI, MP.g_neg, MP.g_lt, MP.g_le, MP.g_gt, MP.g_ge, MP.g_eqI, MP.g_eqS, MP.g_eqBo, MP.g_neI, MP.g_neS, MP.g_neBo, MP.g_is, MP.g_isNot, MP.n_none, MP.n_int, MP.n_str, MP.n_tup, MP.n_list, MP.n_bool, MP.g_max, MP.g_min, MP.g_lenL, MP.g_lenK, MP.g_lenT, MP.g_listL, MP.g_listK, MP.g_listT, MP.g_tupL, MP.g_tupT, MP.q_list, MP.q_lk, MP.q_tup, MP.g_rng1, MP.g_rng2, MP.g_enumL, MP.g_enumK, MP.g_ixL, MP.g_ixK, MP.g_ixT, MP.g_slL, MP.g_slK, MP.g_slT, MP.s_Nil, MP.s_Brk, MP.s_Cont, MP.s_Seq, MP.s_xSn, MP.s_xSr, MP.s_xSb, MP.s_xSc, MP.s_xSe, MP.s_Expr, MP.s_xEx, MP.s_SetV, MP.s_xSV, MP.s_SetO, MP.s_xSOs, MP.s_xSOf, MP.s_Ret, MP.s_xRts, MP.s_xRtf, MP.s_RetN, MP.s_RetS, MP.s_xRSo, MP.s_xRSv, MP.s_If, MP.s_xIfT, MP.s_xIfF, MP.s_Tup, MP.s_xTu, MP.s_xTb, MP.s_For, MP.s_xFor, MP.s_App, MP.s_xAp, MP.s_Thaw, MP.s_xTh, MP.s_Frz, MP.s_xFzo, MP.s_xFzv, MP.s_ExprF, MP.s_xEF, MP.s_SetF, MP.s_xSF, MP.s_RetF, MP.s_xRF, MP.s_IfF, MP.s_xIFT, MP.s_xIFF, MP.s_FldN, MP.s_xN, MP.s_xN2, MP.s_xN3, MP.s_put0, MP.s_put1, MP.s_putN, MP.f_P, MP.f_xPs, MP.f_xPf, MP.f_User, MP.f_xFU, MP.f_Meth, MP.f_xM, MP.f_xM2, MP.f_Make, MP.f_xMk, MP.f_xMkF, MP.fe_ok, MP.r_run, MP.r_un, MP.r_un0, MP.r_nx, MP.r_ret, MP.r_exc, MP.t_nx, MP.t_cont, MP.t_brk, MP.t_ret, MP.b_nm, MP.b_tp2, MP.b_tp3, MP.t_bk, MP.fe_pop, MP.s_appF, MP.s_dead, MP.g_divmod, MP.g_sorted, MP.g_allB, MP.g_anyB, MP.g_sumI, MP.g_zipT, MP.g_zipL, MP.e_pZip, MP.e_xZp, MP.g_abs, MP.g_intI, MP.g_intB, MP.g_repT, MP.e_pLRng, MP.e_xLR, MP.f_Pop, MP.f_xPop, MP.s_AppF, MP.s_xAF0, MP.s_xAF, MP.s_xAF2, MP.g_inI, MP.g_ninI, MP.g_inT, MP.g_ninT, MP.g_ninST, MP.e_c2, MP.e_c3, MP.e_c4, MP.e_c5, MP.e_pIsi, MP.s_tryV, MP.s_raise, MP.s_raiseN, MP.e_pMt, MP.e_xMtL, MP.e_xMtK, MP.g_xor, MP.s_Raise, MP.s_xRa1, MP.s_xRa2, MP.s_RaiseN, MP.s_TryV, MP.s_xTVn, MP.s_xTVr, MP.s_xTVe, MP.s_tryC, MP.e_xDe, MP.e_x1e, MP.e_x2e, MP.e_xBe, MP.s_xExe, MP.s_xSVe, MP.s_xSOe, MP.s_xRte, MP.s_xIfe, MP.s_xTue, MP.s_xThe, MP.s_xEFe, MP.s_xSFe, MP.s_xRFe, MP.fe_exc, MP.t_exc, MP.n_xv, List.getElem?_cons_zero, List.getElem?_cons_succ, List.getElem?_nil, List.set_cons_zero, List.set_cons_succ, List.map_cons, List.map_nil, List.length_cons, List.length_nil, List.length_append, List.cons_append, List.nil_append, List.length_map, List.length_singleton, Nat.reduceBEq, Nat.reduceAdd, Nat.reduceSub, Nat.reduceMul, Nat.reduceEqDiff, Nat.reduceLeDiff, Nat.reduceLT, if_false, if_true, ite_true, ite_false, ↓reduceIte, Bool.not_true, Bool.not_false, Bool.false_eq_true, decide_true, decide_false, eq_self, and_true, true_and, and_self, Nat.zero_le, Nat.zero_add, Option.bind_some, Option.bind_none, Nat.lt_irrefl, Int.reduceToNat, Int.reducePow, Int.reduceNeg, Int.reduceMul, Int.reduceAdd, Int.reduceSub, Int.reduceLT, Int.reduceLE, Int.reduceEq, beq_self_eq_true, wipeE, MP.at0, MP.at1, MP.at2, MP.atLit, h1, h2]
  by_cases h3 : C < 1
  · simp (disch := (first | assumption | with_reducible rfl | decide +kernel | exact Or.inl (by decide +kernel) | exact Or.inr (by decide +kernel) | omega | (simp only [List.length_cons, List.length_nil, List.length_append, List.length_map, List.length_replicate, List.length_range] <;> omega) | rfl)) only [MP.of_some, MP.map_some, MP.e_lv, MP.e_lo, MP.e_pD, MP.e_xDs, MP.e_xDf, MP.e_pC, MP.e_pYes, MP.e_pVar, MP.e_p2, MP.e_x2, MP.e_p1, MP.e_x1, MP.e_pB, MP.e_xB, MP.e_pNot, MP.e_xNot, MP.e_pAnd, MP.e_xAndT, MP.e_xAndF, MP.e_pOr, MP.e_xOrT, MP.e_xOrF, MP.e_pAndV, MP.e_xAndVT, MP.e_xAndVF, MP.e_pOrV, MP.e_xOrVT, MP.e_xOrVF, MP.e_pNotV, MP.e_xNotV, MP.e_pIf, MP.e_xIfT, MP.e_xIfF, MP.e_p3, MP.e_x3, MP.e_x3bT, MP.e_x3bF, MP.e_pNil, MP.e_pCons, MP.e_xCons, MP.e_pTup, MP.e_xTp, MP.e_pLst, MP.e_xLs, MP.e_pNo, MP.e_pSome, MP.e_xSo, MP.e_pSl, MP.e_xSl, MP.e_pCall, MP.e_xG, MP.e_pSeq, MP.e_xSq, MP.e_pSeqR, MP.e_xSqR, MP.e_pRng, MP.e_pEnum, MP.e_xEn, MP.e_pComp, MP.e_xC, MP.e_xC2, MP.e_pUser, MP.e_xU, MP.e_xFv, MP.e_xFo, MP.e_xFe, MP.e_pSeal, MP.e_xSe, MP.e_xSeFv, MP.e_xSeFo, MP.e_pLook, MP.e_xLo, MP.e_xLoF, MP.e_xLoO, MP.e_xLoE, MP.e_pFld, MP.e_xFd, MP.e_xOb, MP.e_xLk0, MP.e_xLk1, MP.e_c0, MP.e_c1, MP.g_add, MP.g_catS, MP.g_catL, MP.g_catT, MP.g_sub, MP.g_mul, MP.g_rep, MP.g_div, MP.g_mod, MP.g_pow, MP.g_shl, MP.g_shr, MP.g_and, MP.g_orI, MP.g_neg, MP.g_lt, MP.g_le, MP.g_gt, MP.g_ge, MP.g_eqI, MP.g_eqS, MP.g_eqBo, MP.g_neI, MP.g_neS, MP.g_neBo, MP.g_is, MP.g_isNot, MP.n_none, MP.n_int, MP.n_str, MP.n_tup, MP.n_list, MP.n_bool, MP.g_max, MP.g_min, MP.g_lenL, MP.g_lenK, MP.g_lenT, MP.g_listL, MP.g_listK, MP.g_listT, MP.g_tupL, MP.g_tupT, MP.q_list, MP.q_lk, MP.q_tup, MP.g_rng1, MP.g_rng2, MP.g_enumL, MP.g_enumK, MP.g_ixL, MP.g_ixK, MP.g_ixT, MP.g_slL, MP.g_slK, MP.g_slT, MP.s_Nil, MP.s_Brk, MP.s_Cont, MP.s_Seq, MP.s_xSn, MP.s_xSr, MP.s_xSb, MP.s_xSc, MP.s_xSe, MP.s_Expr, MP.s_xEx, MP.s_SetV, MP.s_xSV, MP.s_SetO, MP.s_xSOs, MP.s_xSOf, MP.s_Ret, MP.s_xRts, MP.s_xRtf, MP.s_RetN, MP.s_RetS, MP.s_xRSo, MP.s_xRSv, MP.s_If, MP.s_xIfT, MP.s_xIfF, MP.s_Tup, MP.s_xTu, MP.s_xTb, MP.s_For, MP.s_xFor, MP.s_App, MP.s_xAp, MP.s_Thaw, MP.s_xTh, MP.s_Frz, MP.s_xFzo, MP.s_xFzv, MP.s_ExprF, MP.s_xEF, MP.s_SetF, MP.s_xSF, MP.s_RetF, MP.s_xRF, MP.s_IfF, MP.s_xIFT, MP.s_xIFF, MP.s_FldN, MP.s_xN, MP.s_xN2, MP.s_xN3, MP.s_put0, MP.s_put1, MP.s_putN, MP.f_P, MP.f_xPs, MP.f_xPf, MP.f_User, MP.f_xFU, MP.f_Meth, MP.f_xM, MP.f_xM2, MP.f_Make, MP.f_xMk, MP.f_xMkF, MP.fe_ok, MP.r_run, MP.r_un, MP.r_un0, MP.r_nx, MP.r_ret, MP.r_exc, MP.t_nx, MP.t_cont, MP.t_brk, MP.t_ret, MP.b_nm, MP.b_tp2, MP.b_tp3, MP.t_bk, MP.fe_pop, MP.s_appF, MP.s_dead, MP.g_divmod, MP.g_sorted, MP.g_allB, MP.g_anyB, MP.g_sumI, MP.g_zipT, MP.g_zipL, MP.e_pZip, MP.e_xZp, MP.g_abs, MP.g_intI, MP.g_intB, MP.g_repT, MP.e_pLRng, MP.e_xLR, MP.f_Pop, MP.f_xPop, MP.s_AppF, MP.s_xAF0, MP.s_xAF, MP.s_xAF2, MP.g_inI, MP.g_ninI, MP.g_inT, MP.g_ninT, MP.g_ninST, MP.e_c2, MP.e_c3, MP.e_c4, MP.e_c5, MP.e_pIsi, MP.s_tryV, MP.s_raise, MP.s_raiseN, MP.e_pMt, MP.e_xMtL, MP.e_xMtK, MP.g_xor, MP.s_Raise, MP.s_xRa1, MP.s_xRa2, MP.s_RaiseN, MP.s_TryV, MP.s_xTVn, MP.s_xTVr, MP.s_xTVe, MP.s_tryC, MP.e_xDe, MP.e_x1e, MP.e_x2e, MP.e_xBe, MP.s_xExe, MP.s_xSVe, MP.s_xSOe, MP.s_xRte, MP.s_xIfe, MP.s_xTue, MP.s_xThe, MP.s_xEFe, MP.s_xSFe, MP.s_xRFe, MP.fe_exc, MP.t_exc, MP.n_xv, List.getElem?_cons_zero, List.getElem?_cons_succ, List.getElem?_nil, List.set_cons_zero, List.set_cons_succ, List.map_cons, List.map_nil, List.length_cons, List.length_nil, List.length_append, List.cons_append, List.nil_append, List.length_map, List.length_singleton, Nat.reduceBEq, Nat.reduceAdd, Nat.reduceSub, Nat.reduceMul, Nat.reduceEqDiff, Nat.reduceLeDiff, Nat.reduceLT, if_false, if_true, ite_true, ite_false, ↓reduceIte, Bool.not_true, Bool.not_false, Bool.false_eq_true, decide_true, decide_false, eq_self, and_true, true_and, and_self, Nat.zero_le, Nat.zero_add, Option.bind_some, Option.bind_none, Nat.lt_irrefl, Int.reduceToNat, Int.reducePow, Int.reduceNeg, Int.reduceMul, Int.reduceAdd, Int.reduceSub, Int.reduceLT, Int.reduceLE, Int.reduceEq, beq_self_eq_true, wipeE, MP.at0, MP.at1, MP.at2, MP.atLit, h1, h2, h3]
  by_cases h4 : 6 < C
  · simp (disch := (first | assumption | with_reducible rfl | decide +kernel | exact Or.inl (by decide +kernel) | exact Or.inr (by decide +kernel) | omega | (simp only [List.length_cons, List.length_nil, List.length_append, List.length_map, List.length_replicate, List.length_range] <;> omega) | rfl)) only [MP.of_some, MP.map_some, MP.e_lv, MP.e_lo, MP.e_pD, MP.e_xDs, MP.e_xDf, MP.e_pC, MP.e_pYes, MP.e_pVar, MP.e_p2, MP.e_x2, MP.e_p1, MP.e_x1, MP.e_pB, MP.e_xB, MP.e_pNot, MP.e_xNot, MP.e_pAnd, MP.e_xAndT, MP.e_xAndF, MP.e_pOr, MP.e_xOrT, MP.e_xOrF, MP.e_pAndV, MP.e_xAndVT, MP.e_xAndVF, MP.e_pOrV, MP.e_xOrVT, MP.e_xOrVF, MP.e_pNotV, MP.e_xNotV, MP.e_pIf, MP.e_xIfT, MP.e_xIfF, MP.e_p3, MP.e_x3, MP.e_x3bT, MP.e_x3bF, MP.e_pNil, MP.e_pCons, MP.e_xCons, MP.e_pTup, MP.e_xTp, MP.e_pLst, MP.e_xLs, MP.e_pNo, MP.e_pSome, MP.e_xSo, MP.e_pSl, MP.e_xSl, MP.e_pCall, MP.e_xG, MP.e_pSeq, MP.e_xSq, MP.e_pSeqR, MP.e_xSqR, MP.e_pRng, MP.e_pEnum, MP.e_xEn, MP.e_pComp, MP.e_xC, MP.e_xC2, MP.e_pUser, MP.e_xU, MP.e_xFv, MP.e_xFo, MP.e_xFe, MP.e_pSeal, MP.e_xSe, MP.e_xSeFv, MP.e_xSeFo, MP.e_pLook, MP.e_xLo, MP.e_xLoF, MP.e_xLoO, MP.e_xLoE, MP.e_pFld, MP.e_xFd, MP.e_xOb, MP.e_xLk0, MP.e_xLk1, MP.e_c0, MP.e_c1, MP.g_add, MP.g_catS, MP.g_catL, MP.g_catT, MP.g_sub, MP.g_mul, MP.g_rep, MP.g_div, MP.g_mod, MP.g_pow, MP.g_shl, MP.g_shr, MP.g_and, MP.g_orI, MP.g_neg, MP.g_lt, MP.g_le, MP.g_gt, MP.g_ge, MP.g_eqI, MP.g_eqS, MP.g_eqBo, MP.g_neI, MP.g_neS, MP.g_neBo, MP.g_is, MP.g_isNot, MP.n_none, MP.n_int, MP.n_str, MP.n_tup, MP.n_list, MP.n_bool, MP.g_max, MP.g_min, MP.g_lenL, MP.g_lenK, MP.g_lenT, MP.g_listL, MP.g_listK, MP.g_listT, MP.g_tupL, MP.g_tupT, MP.q_list, MP.q_lk, MP.q_tup, MP.g_rng1, MP.g_rng2, MP.g_enumL, MP.g_enumK, MP.g_ixL, MP.g_ixK, MP.g_ixT, MP.g_slL, MP.g_slK, MP.g_slT, MP.s_Nil, MP.s_Brk, MP.s_Cont, MP.s_Seq, MP.s_xSn, MP.s_xSr, MP.s_xSb, MP.s_xSc, MP.s_xSe, MP.s_Expr, MP.s_xEx, MP.s_SetV, MP.s_xSV, MP.s_SetO, MP.s_xSOs, MP.s_xSOf, MP.s_Ret, MP.s_xRts, MP.s_xRtf, MP.s_RetN, MP.s_RetS, MP.s_xRSo, MP.s_xRSv, MP.s_If, MP.s_xIfT, MP.s_xIfF, MP.s_Tup, MP.s_xTu, MP.s_xTb, MP.s_For, MP.s_xFor, MP.s_App, MP.s_xAp, MP.s_Thaw, MP.s_xTh, MP.s_Frz, MP.s_xFzo, MP.s_xFzv, MP.s_ExprF, MP.s_xEF, MP.s_SetF, MP.s_xSF, MP.s_RetF, MP.s_xRF, MP.s_IfF, MP.s_xIFT, MP.s_xIFF, MP.s_FldN, MP.s_xN, MP.s_xN2, MP.s_xN3, MP.s_put0, MP.s_put1, MP.s_putN, MP.f_P, MP.f_xPs, MP.f_xPf, MP.f_User, MP.f_xFU, MP.f_Meth, MP.f_xM, MP.f_xM2, MP.f_Make, MP.f_xMk, MP.f_xMkF, MP.fe_ok, MP.r_run, MP.r_un, MP.r_un0, MP.r_nx, MP.r_ret, MP.r_exc, MP.t_nx, MP.t_cont, MP.t_brk, MP.t_ret, MP.b_nm, MP.b_tp2, MP.b_tp3, MP.t_bk, MP.fe_pop, MP.s_appF, MP.s_dead, MP.g_divmod, MP.g_sorted, MP.g_allB, MP.g_anyB, MP.g_sumI, MP.g_zipT, MP.g_zipL, MP.e_pZip, MP.e_xZp, MP.g_abs, MP.g_intI, MP.g_intB, MP.g_repT, MP.e_pLRng, MP.e_xLR, MP.f_Pop, MP.f_xPop, MP.s_AppF, MP.s_xAF0, MP.s_xAF, MP.s_xAF2, MP.g_inI, MP.g_ninI, MP.g_inT, MP.g_ninT, MP.g_ninST, MP.e_c2, MP.e_c3, MP.e_c4, MP.e_c5, MP.e_pIsi, MP.s_tryV, MP.s_raise, MP.s_raiseN, MP.e_pMt, MP.e_xMtL, MP.e_xMtK, MP.g_xor, MP.s_Raise, MP.s_xRa1, MP.s_xRa2, MP.s_RaiseN, MP.s_TryV, MP.s_xTVn, MP.s_xTVr, MP.s_xTVe, MP.s_tryC, MP.e_xDe, MP.e_x1e, MP.e_x2e, MP.e_xBe, MP.s_xExe, MP.s_xSVe, MP.s_xSOe, MP.s_xRte, MP.s_xIfe, MP.s_xTue, MP.s_xThe, MP.s_xEFe, MP.s_xSFe, MP.s_xRFe, MP.fe_exc, MP.t_exc, MP.n_xv, List.getElem?_cons_zero, List.getElem?_cons_succ, List.getElem?_nil, List.set_cons_zero, List.set_cons_succ, List.map_cons, List.map_nil, List.length_cons, List.length_nil, List.length_append, List.cons_append, List.nil_append, List.length_map, List.length_singleton, Nat.reduceBEq, Nat.reduceAdd, Nat.reduceSub, Nat.reduceMul, Nat.reduceEqDiff, Nat.reduceLeDiff, Nat.reduceLT, if_false, if_true, ite_true, ite_false, ↓reduceIte, Bool.not_true, Bool.not_false, Bool.false_eq_true, decide_true, decide_false, eq_self, and_true, true_and, and_self, Nat.zero_le, Nat.zero_add, Option.bind_some, Option.bind_none, Nat.lt_irrefl, Int.reduceToNat, Int.reducePow, Int.reduceNeg, Int.reduceMul, Int.reduceAdd, Int.reduceSub, Int.reduceLT, Int.reduceLE, Int.reduceEq, beq_self_eq_true, wipeE, MP.at0, MP.at1, MP.at2, MP.atLit, h1, h2, h3, h4]
  by_cases h5 : (es.length : Int) < 1
  · simp (disch := (first | assumption | with_reducible rfl | decide +kernel | exact Or.inl (by decide +kernel) | exact Or.inr (by decide +kernel) | omega | (simp only [List.length_cons, List.length_nil, List.length_append, List.length_map, List.length_replicate, List.length_range] <;> omega) | rfl)) only [MP.of_some, MP.map_some, MP.e_lv, MP.e_lo, MP.e_pD, MP.e_xDs, MP.e_xDf, MP.e_pC, MP.e_pYes, MP.e_pVar, MP.e_p2, MP.e_x2, MP.e_p1, MP.e_x1, MP.e_pB, MP.e_xB, MP.e_pNot, MP.e_xNot, MP.e_pAnd, MP.e_xAndT, MP.e_xAndF, MP.e_pOr, MP.e_xOrT, MP.e_xOrF, MP.e_pAndV, MP.e_xAndVT, MP.e_xAndVF, MP.e_pOrV, MP.e_xOrVT, MP.e_xOrVF, MP.e_pNotV, MP.e_xNotV, MP.e_pIf, MP.e_xIfT, MP.e_xIfF, MP.e_p3, MP.e_x3, MP.e_x3bT, MP.e_x3bF, MP.e_pNil, MP.e_pCons, MP.e_xCons, MP.e_pTup, MP.e_xTp, MP.e_pLst, MP.e_xLs, MP.e_pNo, MP.e_pSome, MP.e_xSo, MP.e_pSl, MP.e_xSl, MP.e_pCall, MP.e_xG, MP.e_pSeq, MP.e_xSq, MP.e_pSeqR, MP.e_xSqR, MP.e_pRng, MP.e_pEnum, MP.e_xEn, MP.e_pComp, MP.e_xC, MP.e_xC2, MP.e_pUser, MP.e_xU, MP.e_xFv, MP.e_xFo, MP.e_xFe, MP.e_pSeal, MP.e_xSe, MP.e_xSeFv, MP.e_xSeFo, MP.e_pLook, MP.e_xLo, MP.e_xLoF, MP.e_xLoO, MP.e_xLoE, MP.e_pFld, MP.e_xFd, MP.e_xOb, MP.e_xLk0, MP.e_xLk1, MP.e_c0, MP.e_c1, MP.g_add, MP.g_catS, MP.g_catL, MP.g_catT, MP.g_sub, MP.g_mul, MP.g_rep, MP.g_div, MP.g_mod, MP.g_pow, MP.g_shl, MP.g_shr, MP.g_and, MP.g_orI, MP.g_neg, MP.g_lt, MP.g_le, MP.g_gt, MP.g_ge, MP.g_eqI, MP.g_eqS, MP.g_eqBo, MP.g_neI, MP.g_neS, MP.g_neBo, MP.g_is, MP.g_isNot, MP.n_none, MP.n_int, MP.n_str, MP.n_tup, MP.n_list, MP.n_bool, MP.g_max, MP.g_min, MP.g_lenL, MP.g_lenK, MP.g_lenT, MP.g_listL, MP.g_listK, MP.g_listT, MP.g_tupL, MP.g_tupT, MP.q_list, MP.q_lk, MP.q_tup, MP.g_rng1, MP.g_rng2, MP.g_enumL, MP.g_enumK, MP.g_ixL, MP.g_ixK, MP.g_ixT, MP.g_slL, MP.g_slK, MP.g_slT, MP.s_Nil, MP.s_Brk, MP.s_Cont, MP.s_Seq, MP.s_xSn, MP.s_xSr, MP.s_xSb, MP.s_xSc, MP.s_xSe, MP.s_Expr, MP.s_xEx, MP.s_SetV, MP.s_xSV, MP.s_SetO, MP.s_xSOs, MP.s_xSOf, MP.s_Ret, MP.s_xRts, MP.s_xRtf, MP.s_RetN, MP.s_RetS, MP.s_xRSo, MP.s_xRSv, MP.s_If, MP.s_xIfT, MP.s_xIfF, MP.s_Tup, MP.s_xTu, MP.s_xTb, MP.s_For, MP.s_xFor, MP.s_App, MP.s_xAp, MP.s_Thaw, MP.s_xTh, MP.s_Frz, MP.s_xFzo, MP.s_xFzv, MP.s_ExprF, MP.s_xEF, MP.s_SetF, MP.s_xSF, MP.s_RetF, MP.s_xRF, MP.s_IfF, MP.s_xIFT, MP.s_xIFF, MP.s_FldN, MP.s_xN, MP.s_xN2, MP.s_xN3, MP.s_put0, MP.s_put1, MP.s_putN, MP.f_P, MP.f_xPs, MP.f_xPf, MP.f_User, MP.f_xFU, MP.f_Meth, MP.f_xM, MP.f_xM2, MP.f_Make, MP.f_xMk, MP.f_xMkF, MP.fe_ok, MP.r_run, MP.r_un, MP.r_un0, MP.r_nx, MP.r_ret, MP.r_exc, MP.t_nx, MP.t_cont, MP.t_brk, MP.t_ret, MP.b_nm, MP.b_tp2, MP.b_tp3, MP.t_bk, MP.fe_pop, MP.s_appF, MP.s_dead, MP.g_divmod, MP.g_sorted, MP.g_allB, MP.g_anyB, MP.g_sumI, MP.g_zipT, MP.g_zipL, MP.e_pZip, MP.e_xZp, MP.g_abs, MP.g_intI, MP.g_intB, MP.g_repT, MP.e_pLRng, MP.e_xLR, MP.f_Pop, MP.f_xPop, MP.s_AppF, MP.s_xAF0, MP.s_xAF, MP.s_xAF2, MP.g_inI, MP.g_ninI, MP.g_inT, MP.g_ninT, MP.g_ninST, MP.e_c2, MP.e_c3, MP.e_c4, MP.e_c5, MP.e_pIsi, MP.s_tryV, MP.s_raise, MP.s_raiseN, MP.e_pMt, MP.e_xMtL, MP.e_xMtK, MP.g_xor, MP.s_Raise, MP.s_xRa1, MP.s_xRa2, MP.s_RaiseN, MP.s_TryV, MP.s_xTVn, MP.s_xTVr, MP.s_xTVe, MP.s_tryC, MP.e_xDe, MP.e_x1e, MP.e_x2e, MP.e_xBe, MP.s_xExe, MP.s_xSVe, MP.s_xSOe, MP.s_xRte, MP.s_xIfe, MP.s_xTue, MP.s_xThe, MP.s_xEFe, MP.s_xSFe, MP.s_xRFe, MP.fe_exc, MP.t_exc, MP.n_xv, List.getElem?_cons_zero, List.getElem?_cons_succ, List.getElem?_nil, List.set_cons_zero, List.set_cons_succ, List.map_cons, List.map_nil, List.length_cons, List.length_nil, List.length_append, List.cons_append, List.nil_append, List.length_map, List.length_singleton, Nat.reduceBEq, Nat.reduceAdd, Nat.reduceSub, Nat.reduceMul, Nat.reduceEqDiff, Nat.reduceLeDiff, Nat.reduceLT, if_false, if_true, ite_true, ite_false, ↓reduceIte, Bool.not_true, Bool.not_false, Bool.false_eq_true, decide_true, decide_false, eq_self, and_true, true_and, and_self, Nat.zero_le, Nat.zero_add, Option.bind_some, Option.bind_none, Nat.lt_irrefl, Int.reduceToNat, Int.reducePow, Int.reduceNeg, Int.reduceMul, Int.reduceAdd, Int.reduceSub, Int.reduceLT, Int.reduceLE, Int.reduceEq, beq_self_eq_true, wipeE, MP.at0, MP.at1, MP.at2, MP.atLit, en, h1, h2, h3, h4, h5]
  have h6 : 12 < (es.length : Int) := by unfold amiss at h; omega
  simp (disch := (first | assumption | with_reducible rfl | decide +kernel | exact Or.inl (by decide +kernel) | exact Or.inr (by decide +kernel) | omega | (simp only [List.length_cons, List.length_nil, List.length_append, List.length_map, List.length_replicate, List.length_range] <;> omega) | rfl)) only [MP.of_some, MP.map_some, MP.e_lv, MP.e_lo, MP.e_pD, MP.e_xDs, MP.e_xDf, MP.e_pC, MP.e_pYes, MP.e_pVar, MP.e_p2, MP.e_x2, MP.e_p1, MP.e_x1, MP.e_pB, MP.e_xB, MP.e_pNot, MP.e_xNot, MP.e_pAnd, MP.e_xAndT, MP.e_xAndF, MP.e_pOr, MP.e_xOrT, MP.e_xOrF, MP.e_pAndV, MP.e_xAndVT, MP.e_xAndVF, MP.e_pOrV, MP.e_xOrVT, MP.e_xOrVF, MP.e_pNotV, MP.e_xNotV, MP.e_pIf, MP.e_xIfT, MP.e_xIfF, MP.e_p3, MP.e_x3, MP.e_x3bT, MP.e_x3bF, MP.e_pNil, MP.e_pCons, MP.e_xCons, MP.e_pTup, MP.e_xTp, MP.e_pLst, MP.e_xLs, MP.e_pNo, MP.e_pSome, MP.e_xSo, MP.e_pSl, MP.e_xSl, MP.e_pCall, MP.e_xG, MP.e_pSeq, MP.e_xSq, MP.e_pSeqR, MP.e_xSqR, MP.e_pRng, MP.e_pEnum, MP.e_xEn, MP.e_pComp, MP.e_xC, MP.e_xC2, MP.e_pUser, MP.e_xU, MP.e_xFv, MP.e_xFo, MP.e_xFe, MP.e_pSeal, MP.e_xSe, MP.e_xSeFv, MP.e_xSeFo, MP.e_pLook, MP.e_xLo, MP.e_xLoF, MP.e_xLoO, MP.e_xLoE, MP.e_pFld, MP.e_xFd, MP.e_xOb, MP.e_xLk0, MP.e_xLk1, MP.e_c0, MP.e_c1, MP.g_add, MP.g_catS, MP.g_catL, MP.g_catT, MP.g_sub, MP.g_mul, MP.g_rep, MP.g_div, MP.g_mod, MP.g_pow, MP.g_shl, MP.g_shr, MP.g_and, MP.g_orI, MP.g_neg, MP.g_lt, MP.g_le, MP.g_gt, MP.g_ge, MP.g_eqI, MP.g_eqS, MP.g_eqBo, MP.g_neI, MP.g_neS, MP.g_neBo, MP.g_is, MP.g_isNot, MP.n_none, MP.n_int, MP.n_str, MP.n_tup, MP.n_list, MP.n_bool, MP.g_max, MP.g_min, MP.g_lenL, MP.g_lenK, MP.g_lenT, MP.g_listL, MP.g_listK, MP.g_listT, MP.g_tupL, MP.g_tupT, MP.q_list, MP.q_lk, MP.q_tup, MP.g_rng1, MP.g_rng2, MP.g_enumL, MP.g_enumK, MP.g_ixL, MP.g_ixK, MP.g_ixT, MP.g_slL, MP.g_slK, MP.g_slT, MP.s_Nil, MP.s_Brk, MP.s_Cont, MP.s_Seq, MP.s_xSn, MP.s_xSr, MP.s_xSb, MP.s_xSc, MP.s_xSe, MP.s_Expr, MP.s_xEx, MP.s_SetV, MP.s_xSV, MP.s_SetO, MP.s_xSOs, MP.s_xSOf, MP.s_Ret, MP.s_xRts, MP.s_xRtf, MP.s_RetN, MP.s_RetS, MP.s_xRSo, MP.s_xRSv, MP.s_If, MP.s_xIfT, MP.s_xIfF, MP.s_Tup, MP.s_xTu, MP.s_xTb, MP.s_For, MP.s_xFor, MP.s_App, MP.s_xAp, MP.s_Thaw, MP.s_xTh, MP.s_Frz, MP.s_xFzo, MP.s_xFzv, MP.s_ExprF, MP.s_xEF, MP.s_SetF, MP.s_xSF, MP.s_RetF, MP.s_xRF, MP.s_IfF, MP.s_xIFT, MP.s_xIFF, MP.s_FldN, MP.s_xN, MP.s_xN2, MP.s_xN3, MP.s_put0, MP.s_put1, MP.s_putN, MP.f_P, MP.f_xPs, MP.f_xPf, MP.f_User, MP.f_xFU, MP.f_Meth, MP.f_xM, MP.f_xM2, MP.f_Make, MP.f_xMk, MP.f_xMkF, MP.fe_ok, MP.r_run, MP.r_un, MP.r_un0, MP.r_nx, MP.r_ret, MP.r_exc, MP.t_nx, MP.t_cont, MP.t_brk, MP.t_ret, MP.b_nm, MP.b_tp2, MP.b_tp3, MP.t_bk, MP.fe_pop, MP.s_appF, MP.s_dead, MP.g_divmod, MP.g_sorted, MP.g_allB, MP.g_anyB, MP.g_sumI, MP.g_zipT, MP.g_zipL, MP.e_pZip, MP.e_xZp, MP.g_abs, MP.g_intI, MP.g_intB, MP.g_repT, MP.e_pLRng, MP.e_xLR, MP.f_Pop, MP.f_xPop, MP.s_AppF, MP.s_xAF0, MP.s_xAF, MP.s_xAF2, MP.g_inI, MP.g_ninI, MP.g_inT, MP.g_ninT, MP.g_ninST, MP.e_c2, MP.e_c3, MP.e_c4, MP.e_c5, MP.e_pIsi, MP.s_tryV, MP.s_raise, MP.s_raiseN, MP.e_pMt, MP.e_xMtL, MP.e_xMtK, MP.g_xor, MP.s_Raise, MP.s_xRa1, MP.s_xRa2, MP.s_RaiseN, MP.s_TryV, MP.s_xTVn, MP.s_xTVr, MP.s_xTVe, MP.s_tryC, MP.e_xDe, MP.e_x1e, MP.e_x2e, MP.e_xBe, MP.s_xExe, MP.s_xSVe, MP.s_xSOe, MP.s_xRte, MP.s_xIfe, MP.s_xTue, MP.s_xThe, MP.s_xEFe, MP.s_xSFe, MP.s_xRFe, MP.fe_exc, MP.t_exc, MP.n_xv, List.getElem?_cons_zero, List.getElem?_cons_succ, List.getElem?_nil, List.set_cons_zero, List.set_cons_succ, List.map_cons, List.map_nil, List.length_cons, List.length_nil, List.length_append, List.cons_append, List.nil_append, List.length_map, List.length_singleton, Nat.reduceBEq, Nat.reduceAdd, Nat.reduceSub, Nat.reduceMul, Nat.reduceEqDiff, Nat.reduceLeDiff, Nat.reduceLT, if_false, if_true, ite_true, ite_false, ↓reduceIte, Bool.not_true, Bool.not_false, Bool.false_eq_true, decide_true, decide_false, eq_self, and_true, true_and, and_self, Nat.zero_le, Nat.zero_add, Option.bind_some, Option.bind_none, Nat.lt_irrefl, Int.reduceToNat, Int.reducePow, Int.reduceNeg, Int.reduceMul, Int.reduceAdd, Int.reduceSub, Int.reduceLT, Int.reduceLE, Int.reduceEq, beq_self_eq_true, wipeE, MP.at0, MP.at1, MP.at2, MP.atLit, en, h1, h2, h3, h4, h5, h6]
theorem m_amiss_f (R C : Int) (es : List (Int × Int)) (h : amiss R C es.length) : sem_frame_of [.int R, .int C, .list (psD es)] [] = .exc ⟨"NoFrame", [("place", .none)]⟩ [] := by
  unfold sem_frame_of
  refine run_ex (Q := fun r => r = .exc ⟨"NoFrame", [("place", .none)]⟩ []) [.v (.int R), .v (.int C), .v (.list (psD es)), .un, .un, .un] rfl ?_
  unfold b_frame_of k_MOST_WIRES k_MOST_KEYS
  have hl := psD_len es
  have en : ((psD es).length : Int) = (es.length : Int) := by omega
  by_cases h1 : 1 ≤ R
  rotate_left
  · simp (disch := (first | assumption | with_reducible rfl | decide +kernel | exact Or.inl (by decide +kernel) | exact Or.inr (by decide +kernel) | omega | (simp only [List.length_cons, List.length_nil, List.length_append, List.length_map, List.length_replicate, List.length_range] <;> omega) | rfl)) only [MP.of_some, MP.map_some, MP.e_lv, MP.e_lo, MP.e_pD, MP.e_xDs, MP.e_xDf, MP.e_pC, MP.e_pYes, MP.e_pVar, MP.e_p2, MP.e_x2, MP.e_p1, MP.e_x1, MP.e_pB, MP.e_xB, MP.e_pNot, MP.e_xNot, MP.e_pAnd, MP.e_xAndT, MP.e_xAndF, MP.e_pOr, MP.e_xOrT, MP.e_xOrF, MP.e_pAndV, MP.e_xAndVT, MP.e_xAndVF, MP.e_pOrV, MP.e_xOrVT, MP.e_xOrVF, MP.e_pNotV, MP.e_xNotV, MP.e_pIf, MP.e_xIfT, MP.e_xIfF, MP.e_p3, MP.e_x3, MP.e_x3bT, MP.e_x3bF, MP.e_pNil, MP.e_pCons, MP.e_xCons, MP.e_pTup, MP.e_xTp, MP.e_pLst, MP.e_xLs, MP.e_pNo, MP.e_pSome, MP.e_xSo, MP.e_pSl, MP.e_xSl, MP.e_pCall, MP.e_xG, MP.e_pSeq, MP.e_xSq, MP.e_pSeqR, MP.e_xSqR, MP.e_pRng, MP.e_pEnum, MP.e_xEn, MP.e_pComp, MP.e_xC, MP.e_xC2, MP.e_pUser, MP.e_xU, MP.e_xFv, MP.e_xFo, MP.e_xFe, MP.e_pSeal, MP.e_xSe, MP.e_xSeFv, MP.e_xSeFo, MP.e_pLook, MP.e_xLo, MP.e_xLoF, MP.e_xLoO, MP.e_xLoE, MP.e_pFld, MP.e_xFd, MP.e_xOb, MP.e_xLk0, MP.e_xLk1, MP.e_c0, MP.e_c1, MP.g_add, MP.g_catS, MP.g_catL, MP.g_catT, MP.g_sub, MP.g_mul, MP.g_rep, MP.g_div, MP.g_mod, MP.g_pow, MP.g_shl, MP.g_shr, MP.g_and, MP.g_orI, MP.g_neg, MP.g_lt, MP.g_le, MP.g_gt, MP.g_ge, MP.g_eqI, MP.g_eqS, MP.g_eqBo, MP.g_neI, MP.g_neS, MP.g_neBo, MP.g_is, MP.g_isNot, MP.n_none, MP.n_int, MP.n_str, MP.n_tup, MP.n_list, MP.n_bool, MP.g_max, MP.g_min, MP.g_lenL, MP.g_lenK, MP.g_lenT, MP.g_listL, MP.g_listK, MP.g_listT, MP.g_tupL, MP.g_tupT, MP.q_list, MP.q_lk, MP.q_tup, MP.g_rng1, MP.g_rng2, MP.g_enumL, MP.g_enumK, MP.g_ixL, MP.g_ixK, MP.g_ixT, MP.g_slL, MP.g_slK, MP.g_slT, MP.s_Nil, MP.s_Brk, MP.s_Cont, MP.s_Seq, MP.s_xSn, MP.s_xSr, MP.s_xSb, MP.s_xSc, MP.s_xSe, MP.s_Expr, MP.s_xEx, MP.s_SetV, MP.s_xSV, MP.s_SetO, MP.s_xSOs, MP.s_xSOf, MP.s_Ret, MP.s_xRts, MP.s_xRtf, MP.s_RetN, MP.s_RetS, MP.s_xRSo, MP.s_xRSv, MP.s_If, MP.s_xIfT, MP.s_xIfF, MP.s_Tup, MP.s_xTu, MP.s_xTb, MP.s_For, MP.s_xFor, MP.s_App, MP.s_xAp, MP.s_Thaw, MP.s_xTh, MP.s_Frz, MP.s_xFzo, MP.s_xFzv, MP.s_ExprF, MP.s_xEF, MP.s_SetF, MP.s_xSF, MP.s_RetF, MP.s_xRF, MP.s_IfF, MP.s_xIFT, MP.s_xIFF, MP.s_FldN, MP.s_xN, MP.s_xN2, MP.s_xN3, MP.s_put0, MP.s_put1, MP.s_putN, MP.f_P, MP.f_xPs, MP.f_xPf, MP.f_User, MP.f_xFU, MP.f_Meth, MP.f_xM, MP.f_xM2, MP.f_Make, MP.f_xMk, MP.f_xMkF, MP.fe_ok, MP.r_run, MP.r_un, MP.r_un0, MP.r_nx, MP.r_ret, MP.r_exc, MP.t_nx, MP.t_cont, MP.t_brk, MP.t_ret, MP.b_nm, MP.b_tp2, MP.b_tp3, MP.t_bk, MP.fe_pop, MP.s_appF, MP.s_dead, MP.g_divmod, MP.g_sorted, MP.g_allB, MP.g_anyB, MP.g_sumI, MP.g_zipT, MP.g_zipL, MP.e_pZip, MP.e_xZp, MP.g_abs, MP.g_intI, MP.g_intB, MP.g_repT, MP.e_pLRng, MP.e_xLR, MP.f_Pop, MP.f_xPop, MP.s_AppF, MP.s_xAF0, MP.s_xAF, MP.s_xAF2, MP.g_inI, MP.g_ninI, MP.g_inT, MP.g_ninT, MP.g_ninST, MP.e_c2, MP.e_c3, MP.e_c4, MP.e_c5, MP.e_pIsi, MP.s_tryV, MP.s_raise, MP.s_raiseN, MP.e_pMt, MP.e_xMtL, MP.e_xMtK, MP.g_xor, MP.s_Raise, MP.s_xRa1, MP.s_xRa2, MP.s_RaiseN, MP.s_TryV, MP.s_xTVn, MP.s_xTVr, MP.s_xTVe, MP.s_tryC, MP.e_xDe, MP.e_x1e, MP.e_x2e, MP.e_xBe, MP.s_xExe, MP.s_xSVe, MP.s_xSOe, MP.s_xRte, MP.s_xIfe, MP.s_xTue, MP.s_xThe, MP.s_xEFe, MP.s_xSFe, MP.s_xRFe, MP.fe_exc, MP.t_exc, MP.n_xv, List.getElem?_cons_zero, List.getElem?_cons_succ, List.getElem?_nil, List.set_cons_zero, List.set_cons_succ, List.map_cons, List.map_nil, List.length_cons, List.length_nil, List.length_append, List.cons_append, List.nil_append, List.length_map, List.length_singleton, Nat.reduceBEq, Nat.reduceAdd, Nat.reduceSub, Nat.reduceMul, Nat.reduceEqDiff, Nat.reduceLeDiff, Nat.reduceLT, if_false, if_true, ite_true, ite_false, ↓reduceIte, Bool.not_true, Bool.not_false, Bool.false_eq_true, decide_true, decide_false, eq_self, and_true, true_and, and_self, Nat.zero_le, Nat.zero_add, Option.bind_some, Option.bind_none, Nat.lt_irrefl, Int.reduceToNat, Int.reducePow, Int.reduceNeg, Int.reduceMul, Int.reduceAdd, Int.reduceSub, Int.reduceLT, Int.reduceLE, Int.reduceEq, beq_self_eq_true, wipeE, MP.at0, MP.at1, MP.at2, MP.atLit, h1]
  by_cases h2 : R ≤ 6
  rotate_left
  · simp (disch := (first | assumption | with_reducible rfl | decide +kernel | exact Or.inl (by decide +kernel) | exact Or.inr (by decide +kernel) | omega | (simp only [List.length_cons, List.length_nil, List.length_append, List.length_map, List.length_replicate, List.length_range] <;> omega) | rfl)) only [MP.of_some, MP.map_some, MP.e_lv, MP.e_lo, MP.e_pD, MP.e_xDs, MP.e_xDf, MP.e_pC, MP.e_pYes, MP.e_pVar, MP.e_p2, MP.e_x2, MP.e_p1, MP.e_x1, MP.e_pB, MP.e_xB, MP.e_pNot, MP.e_xNot, MP.e_pAnd, MP.e_xAndT, MP.e_xAndF, MP.e_pOr, MP.e_xOrT, MP.e_xOrF, MP.e_pAndV, MP.e_xAndVT, MP.e_xAndVF, MP.e_pOrV, MP.e_xOrVT, MP.e_xOrVF, MP.e_pNotV, MP.e_xNotV, MP.e_pIf, MP.e_xIfT, MP.e_xIfF, MP.e_p3, MP.e_x3, MP.e_x3bT, MP.e_x3bF, MP.e_pNil, MP.e_pCons, MP.e_xCons, MP.e_pTup, MP.e_xTp, MP.e_pLst, MP.e_xLs, MP.e_pNo, MP.e_pSome, MP.e_xSo, MP.e_pSl, MP.e_xSl, MP.e_pCall, MP.e_xG, MP.e_pSeq, MP.e_xSq, MP.e_pSeqR, MP.e_xSqR, MP.e_pRng, MP.e_pEnum, MP.e_xEn, MP.e_pComp, MP.e_xC, MP.e_xC2, MP.e_pUser, MP.e_xU, MP.e_xFv, MP.e_xFo, MP.e_xFe, MP.e_pSeal, MP.e_xSe, MP.e_xSeFv, MP.e_xSeFo, MP.e_pLook, MP.e_xLo, MP.e_xLoF, MP.e_xLoO, MP.e_xLoE, MP.e_pFld, MP.e_xFd, MP.e_xOb, MP.e_xLk0, MP.e_xLk1, MP.e_c0, MP.e_c1, MP.g_add, MP.g_catS, MP.g_catL, MP.g_catT, MP.g_sub, MP.g_mul, MP.g_rep, MP.g_div, MP.g_mod, MP.g_pow, MP.g_shl, MP.g_shr, MP.g_and, MP.g_orI, MP.g_neg, MP.g_lt, MP.g_le, MP.g_gt, MP.g_ge, MP.g_eqI, MP.g_eqS, MP.g_eqBo, MP.g_neI, MP.g_neS, MP.g_neBo, MP.g_is, MP.g_isNot, MP.n_none, MP.n_int, MP.n_str, MP.n_tup, MP.n_list, MP.n_bool, MP.g_max, MP.g_min, MP.g_lenL, MP.g_lenK, MP.g_lenT, MP.g_listL, MP.g_listK, MP.g_listT, MP.g_tupL, MP.g_tupT, MP.q_list, MP.q_lk, MP.q_tup, MP.g_rng1, MP.g_rng2, MP.g_enumL, MP.g_enumK, MP.g_ixL, MP.g_ixK, MP.g_ixT, MP.g_slL, MP.g_slK, MP.g_slT, MP.s_Nil, MP.s_Brk, MP.s_Cont, MP.s_Seq, MP.s_xSn, MP.s_xSr, MP.s_xSb, MP.s_xSc, MP.s_xSe, MP.s_Expr, MP.s_xEx, MP.s_SetV, MP.s_xSV, MP.s_SetO, MP.s_xSOs, MP.s_xSOf, MP.s_Ret, MP.s_xRts, MP.s_xRtf, MP.s_RetN, MP.s_RetS, MP.s_xRSo, MP.s_xRSv, MP.s_If, MP.s_xIfT, MP.s_xIfF, MP.s_Tup, MP.s_xTu, MP.s_xTb, MP.s_For, MP.s_xFor, MP.s_App, MP.s_xAp, MP.s_Thaw, MP.s_xTh, MP.s_Frz, MP.s_xFzo, MP.s_xFzv, MP.s_ExprF, MP.s_xEF, MP.s_SetF, MP.s_xSF, MP.s_RetF, MP.s_xRF, MP.s_IfF, MP.s_xIFT, MP.s_xIFF, MP.s_FldN, MP.s_xN, MP.s_xN2, MP.s_xN3, MP.s_put0, MP.s_put1, MP.s_putN, MP.f_P, MP.f_xPs, MP.f_xPf, MP.f_User, MP.f_xFU, MP.f_Meth, MP.f_xM, MP.f_xM2, MP.f_Make, MP.f_xMk, MP.f_xMkF, MP.fe_ok, MP.r_run, MP.r_un, MP.r_un0, MP.r_nx, MP.r_ret, MP.r_exc, MP.t_nx, MP.t_cont, MP.t_brk, MP.t_ret, MP.b_nm, MP.b_tp2, MP.b_tp3, MP.t_bk, MP.fe_pop, MP.s_appF, MP.s_dead, MP.g_divmod, MP.g_sorted, MP.g_allB, MP.g_anyB, MP.g_sumI, MP.g_zipT, MP.g_zipL, MP.e_pZip, MP.e_xZp, MP.g_abs, MP.g_intI, MP.g_intB, MP.g_repT, MP.e_pLRng, MP.e_xLR, MP.f_Pop, MP.f_xPop, MP.s_AppF, MP.s_xAF0, MP.s_xAF, MP.s_xAF2, MP.g_inI, MP.g_ninI, MP.g_inT, MP.g_ninT, MP.g_ninST, MP.e_c2, MP.e_c3, MP.e_c4, MP.e_c5, MP.e_pIsi, MP.s_tryV, MP.s_raise, MP.s_raiseN, MP.e_pMt, MP.e_xMtL, MP.e_xMtK, MP.g_xor, MP.s_Raise, MP.s_xRa1, MP.s_xRa2, MP.s_RaiseN, MP.s_TryV, MP.s_xTVn, MP.s_xTVr, MP.s_xTVe, MP.s_tryC, MP.e_xDe, MP.e_x1e, MP.e_x2e, MP.e_xBe, MP.s_xExe, MP.s_xSVe, MP.s_xSOe, MP.s_xRte, MP.s_xIfe, MP.s_xTue, MP.s_xThe, MP.s_xEFe, MP.s_xSFe, MP.s_xRFe, MP.fe_exc, MP.t_exc, MP.n_xv, List.getElem?_cons_zero, List.getElem?_cons_succ, List.getElem?_nil, List.set_cons_zero, List.set_cons_succ, List.map_cons, List.map_nil, List.length_cons, List.length_nil, List.length_append, List.cons_append, List.nil_append, List.length_map, List.length_singleton, Nat.reduceBEq, Nat.reduceAdd, Nat.reduceSub, Nat.reduceMul, Nat.reduceEqDiff, Nat.reduceLeDiff, Nat.reduceLT, if_false, if_true, ite_true, ite_false, ↓reduceIte, Bool.not_true, Bool.not_false, Bool.false_eq_true, decide_true, decide_false, eq_self, and_true, true_and, and_self, Nat.zero_le, Nat.zero_add, Option.bind_some, Option.bind_none, Nat.lt_irrefl, Int.reduceToNat, Int.reducePow, Int.reduceNeg, Int.reduceMul, Int.reduceAdd, Int.reduceSub, Int.reduceLT, Int.reduceLE, Int.reduceEq, beq_self_eq_true, wipeE, MP.at0, MP.at1, MP.at2, MP.atLit, h1, h2]
  by_cases h3 : 1 ≤ C
  rotate_left
  · simp (disch := (first | assumption | with_reducible rfl | decide +kernel | exact Or.inl (by decide +kernel) | exact Or.inr (by decide +kernel) | omega | (simp only [List.length_cons, List.length_nil, List.length_append, List.length_map, List.length_replicate, List.length_range] <;> omega) | rfl)) only [MP.of_some, MP.map_some, MP.e_lv, MP.e_lo, MP.e_pD, MP.e_xDs, MP.e_xDf, MP.e_pC, MP.e_pYes, MP.e_pVar, MP.e_p2, MP.e_x2, MP.e_p1, MP.e_x1, MP.e_pB, MP.e_xB, MP.e_pNot, MP.e_xNot, MP.e_pAnd, MP.e_xAndT, MP.e_xAndF, MP.e_pOr, MP.e_xOrT, MP.e_xOrF, MP.e_pAndV, MP.e_xAndVT, MP.e_xAndVF, MP.e_pOrV, MP.e_xOrVT, MP.e_xOrVF, MP.e_pNotV, MP.e_xNotV, MP.e_pIf, MP.e_xIfT, MP.e_xIfF, MP.e_p3, MP.e_x3, MP.e_x3bT, MP.e_x3bF, MP.e_pNil, MP.e_pCons, MP.e_xCons, MP.e_pTup, MP.e_xTp, MP.e_pLst, MP.e_xLs, MP.e_pNo, MP.e_pSome, MP.e_xSo, MP.e_pSl, MP.e_xSl, MP.e_pCall, MP.e_xG, MP.e_pSeq, MP.e_xSq, MP.e_pSeqR, MP.e_xSqR, MP.e_pRng, MP.e_pEnum, MP.e_xEn, MP.e_pComp, MP.e_xC, MP.e_xC2, MP.e_pUser, MP.e_xU, MP.e_xFv, MP.e_xFo, MP.e_xFe, MP.e_pSeal, MP.e_xSe, MP.e_xSeFv, MP.e_xSeFo, MP.e_pLook, MP.e_xLo, MP.e_xLoF, MP.e_xLoO, MP.e_xLoE, MP.e_pFld, MP.e_xFd, MP.e_xOb, MP.e_xLk0, MP.e_xLk1, MP.e_c0, MP.e_c1, MP.g_add, MP.g_catS, MP.g_catL, MP.g_catT, MP.g_sub, MP.g_mul, MP.g_rep, MP.g_div, MP.g_mod, MP.g_pow, MP.g_shl, MP.g_shr, MP.g_and, MP.g_orI, MP.g_neg, MP.g_lt, MP.g_le, MP.g_gt, MP.g_ge, MP.g_eqI, MP.g_eqS, MP.g_eqBo, MP.g_neI, MP.g_neS, MP.g_neBo, MP.g_is, MP.g_isNot, MP.n_none, MP.n_int, MP.n_str, MP.n_tup, MP.n_list, MP.n_bool, MP.g_max, MP.g_min, MP.g_lenL, MP.g_lenK, MP.g_lenT, MP.g_listL, MP.g_listK, MP.g_listT, MP.g_tupL, MP.g_tupT, MP.q_list, MP.q_lk, MP.q_tup, MP.g_rng1, MP.g_rng2, MP.g_enumL, MP.g_enumK, MP.g_ixL, MP.g_ixK, MP.g_ixT, MP.g_slL, MP.g_slK, MP.g_slT, MP.s_Nil, MP.s_Brk, MP.s_Cont, MP.s_Seq, MP.s_xSn, MP.s_xSr, MP.s_xSb, MP.s_xSc, MP.s_xSe, MP.s_Expr, MP.s_xEx, MP.s_SetV, MP.s_xSV, MP.s_SetO, MP.s_xSOs, MP.s_xSOf, MP.s_Ret, MP.s_xRts, MP.s_xRtf, MP.s_RetN, MP.s_RetS, MP.s_xRSo, MP.s_xRSv, MP.s_If, MP.s_xIfT, MP.s_xIfF, MP.s_Tup, MP.s_xTu, MP.s_xTb, MP.s_For, MP.s_xFor, MP.s_App, MP.s_xAp, MP.s_Thaw, MP.s_xTh, MP.s_Frz, MP.s_xFzo, MP.s_xFzv, MP.s_ExprF, MP.s_xEF, MP.s_SetF, MP.s_xSF, MP.s_RetF, MP.s_xRF, MP.s_IfF, MP.s_xIFT, MP.s_xIFF, MP.s_FldN, MP.s_xN, MP.s_xN2, MP.s_xN3, MP.s_put0, MP.s_put1, MP.s_putN, MP.f_P, MP.f_xPs, MP.f_xPf, MP.f_User, MP.f_xFU, MP.f_Meth, MP.f_xM, MP.f_xM2, MP.f_Make, MP.f_xMk, MP.f_xMkF, MP.fe_ok, MP.r_run, MP.r_un, MP.r_un0, MP.r_nx, MP.r_ret, MP.r_exc, MP.t_nx, MP.t_cont, MP.t_brk, MP.t_ret, MP.b_nm, MP.b_tp2, MP.b_tp3, MP.t_bk, MP.fe_pop, MP.s_appF, MP.s_dead, MP.g_divmod, MP.g_sorted, MP.g_allB, MP.g_anyB, MP.g_sumI, MP.g_zipT, MP.g_zipL, MP.e_pZip, MP.e_xZp, MP.g_abs, MP.g_intI, MP.g_intB, MP.g_repT, MP.e_pLRng, MP.e_xLR, MP.f_Pop, MP.f_xPop, MP.s_AppF, MP.s_xAF0, MP.s_xAF, MP.s_xAF2, MP.g_inI, MP.g_ninI, MP.g_inT, MP.g_ninT, MP.g_ninST, MP.e_c2, MP.e_c3, MP.e_c4, MP.e_c5, MP.e_pIsi, MP.s_tryV, MP.s_raise, MP.s_raiseN, MP.e_pMt, MP.e_xMtL, MP.e_xMtK, MP.g_xor, MP.s_Raise, MP.s_xRa1, MP.s_xRa2, MP.s_RaiseN, MP.s_TryV, MP.s_xTVn, MP.s_xTVr, MP.s_xTVe, MP.s_tryC, MP.e_xDe, MP.e_x1e, MP.e_x2e, MP.e_xBe, MP.s_xExe, MP.s_xSVe, MP.s_xSOe, MP.s_xRte, MP.s_xIfe, MP.s_xTue, MP.s_xThe, MP.s_xEFe, MP.s_xSFe, MP.s_xRFe, MP.fe_exc, MP.t_exc, MP.n_xv, List.getElem?_cons_zero, List.getElem?_cons_succ, List.getElem?_nil, List.set_cons_zero, List.set_cons_succ, List.map_cons, List.map_nil, List.length_cons, List.length_nil, List.length_append, List.cons_append, List.nil_append, List.length_map, List.length_singleton, Nat.reduceBEq, Nat.reduceAdd, Nat.reduceSub, Nat.reduceMul, Nat.reduceEqDiff, Nat.reduceLeDiff, Nat.reduceLT, if_false, if_true, ite_true, ite_false, ↓reduceIte, Bool.not_true, Bool.not_false, Bool.false_eq_true, decide_true, decide_false, eq_self, and_true, true_and, and_self, Nat.zero_le, Nat.zero_add, Option.bind_some, Option.bind_none, Nat.lt_irrefl, Int.reduceToNat, Int.reducePow, Int.reduceNeg, Int.reduceMul, Int.reduceAdd, Int.reduceSub, Int.reduceLT, Int.reduceLE, Int.reduceEq, beq_self_eq_true, wipeE, MP.at0, MP.at1, MP.at2, MP.atLit, h1, h2, h3]
  by_cases h4 : C ≤ 6
  rotate_left
  · simp (disch := (first | assumption | with_reducible rfl | decide +kernel | exact Or.inl (by decide +kernel) | exact Or.inr (by decide +kernel) | omega | (simp only [List.length_cons, List.length_nil, List.length_append, List.length_map, List.length_replicate, List.length_range] <;> omega) | rfl)) only [MP.of_some, MP.map_some, MP.e_lv, MP.e_lo, MP.e_pD, MP.e_xDs, MP.e_xDf, MP.e_pC, MP.e_pYes, MP.e_pVar, MP.e_p2, MP.e_x2, MP.e_p1, MP.e_x1, MP.e_pB, MP.e_xB, MP.e_pNot, MP.e_xNot, MP.e_pAnd, MP.e_xAndT, MP.e_xAndF, MP.e_pOr, MP.e_xOrT, MP.e_xOrF, MP.e_pAndV, MP.e_xAndVT, MP.e_xAndVF, MP.e_pOrV, MP.e_xOrVT, MP.e_xOrVF, MP.e_pNotV, MP.e_xNotV, MP.e_pIf, MP.e_xIfT, MP.e_xIfF, MP.e_p3, MP.e_x3, MP.e_x3bT, MP.e_x3bF, MP.e_pNil, MP.e_pCons, MP.e_xCons, MP.e_pTup, MP.e_xTp, MP.e_pLst, MP.e_xLs, MP.e_pNo, MP.e_pSome, MP.e_xSo, MP.e_pSl, MP.e_xSl, MP.e_pCall, MP.e_xG, MP.e_pSeq, MP.e_xSq, MP.e_pSeqR, MP.e_xSqR, MP.e_pRng, MP.e_pEnum, MP.e_xEn, MP.e_pComp, MP.e_xC, MP.e_xC2, MP.e_pUser, MP.e_xU, MP.e_xFv, MP.e_xFo, MP.e_xFe, MP.e_pSeal, MP.e_xSe, MP.e_xSeFv, MP.e_xSeFo, MP.e_pLook, MP.e_xLo, MP.e_xLoF, MP.e_xLoO, MP.e_xLoE, MP.e_pFld, MP.e_xFd, MP.e_xOb, MP.e_xLk0, MP.e_xLk1, MP.e_c0, MP.e_c1, MP.g_add, MP.g_catS, MP.g_catL, MP.g_catT, MP.g_sub, MP.g_mul, MP.g_rep, MP.g_div, MP.g_mod, MP.g_pow, MP.g_shl, MP.g_shr, MP.g_and, MP.g_orI, MP.g_neg, MP.g_lt, MP.g_le, MP.g_gt, MP.g_ge, MP.g_eqI, MP.g_eqS, MP.g_eqBo, MP.g_neI, MP.g_neS, MP.g_neBo, MP.g_is, MP.g_isNot, MP.n_none, MP.n_int, MP.n_str, MP.n_tup, MP.n_list, MP.n_bool, MP.g_max, MP.g_min, MP.g_lenL, MP.g_lenK, MP.g_lenT, MP.g_listL, MP.g_listK, MP.g_listT, MP.g_tupL, MP.g_tupT, MP.q_list, MP.q_lk, MP.q_tup, MP.g_rng1, MP.g_rng2, MP.g_enumL, MP.g_enumK, MP.g_ixL, MP.g_ixK, MP.g_ixT, MP.g_slL, MP.g_slK, MP.g_slT, MP.s_Nil, MP.s_Brk, MP.s_Cont, MP.s_Seq, MP.s_xSn, MP.s_xSr, MP.s_xSb, MP.s_xSc, MP.s_xSe, MP.s_Expr, MP.s_xEx, MP.s_SetV, MP.s_xSV, MP.s_SetO, MP.s_xSOs, MP.s_xSOf, MP.s_Ret, MP.s_xRts, MP.s_xRtf, MP.s_RetN, MP.s_RetS, MP.s_xRSo, MP.s_xRSv, MP.s_If, MP.s_xIfT, MP.s_xIfF, MP.s_Tup, MP.s_xTu, MP.s_xTb, MP.s_For, MP.s_xFor, MP.s_App, MP.s_xAp, MP.s_Thaw, MP.s_xTh, MP.s_Frz, MP.s_xFzo, MP.s_xFzv, MP.s_ExprF, MP.s_xEF, MP.s_SetF, MP.s_xSF, MP.s_RetF, MP.s_xRF, MP.s_IfF, MP.s_xIFT, MP.s_xIFF, MP.s_FldN, MP.s_xN, MP.s_xN2, MP.s_xN3, MP.s_put0, MP.s_put1, MP.s_putN, MP.f_P, MP.f_xPs, MP.f_xPf, MP.f_User, MP.f_xFU, MP.f_Meth, MP.f_xM, MP.f_xM2, MP.f_Make, MP.f_xMk, MP.f_xMkF, MP.fe_ok, MP.r_run, MP.r_un, MP.r_un0, MP.r_nx, MP.r_ret, MP.r_exc, MP.t_nx, MP.t_cont, MP.t_brk, MP.t_ret, MP.b_nm, MP.b_tp2, MP.b_tp3, MP.t_bk, MP.fe_pop, MP.s_appF, MP.s_dead, MP.g_divmod, MP.g_sorted, MP.g_allB, MP.g_anyB, MP.g_sumI, MP.g_zipT, MP.g_zipL, MP.e_pZip, MP.e_xZp, MP.g_abs, MP.g_intI, MP.g_intB, MP.g_repT, MP.e_pLRng, MP.e_xLR, MP.f_Pop, MP.f_xPop, MP.s_AppF, MP.s_xAF0, MP.s_xAF, MP.s_xAF2, MP.g_inI, MP.g_ninI, MP.g_inT, MP.g_ninT, MP.g_ninST, MP.e_c2, MP.e_c3, MP.e_c4, MP.e_c5, MP.e_pIsi, MP.s_tryV, MP.s_raise, MP.s_raiseN, MP.e_pMt, MP.e_xMtL, MP.e_xMtK, MP.g_xor, MP.s_Raise, MP.s_xRa1, MP.s_xRa2, MP.s_RaiseN, MP.s_TryV, MP.s_xTVn, MP.s_xTVr, MP.s_xTVe, MP.s_tryC, MP.e_xDe, MP.e_x1e, MP.e_x2e, MP.e_xBe, MP.s_xExe, MP.s_xSVe, MP.s_xSOe, MP.s_xRte, MP.s_xIfe, MP.s_xTue, MP.s_xThe, MP.s_xEFe, MP.s_xSFe, MP.s_xRFe, MP.fe_exc, MP.t_exc, MP.n_xv, List.getElem?_cons_zero, List.getElem?_cons_succ, List.getElem?_nil, List.set_cons_zero, List.set_cons_succ, List.map_cons, List.map_nil, List.length_cons, List.length_nil, List.length_append, List.cons_append, List.nil_append, List.length_map, List.length_singleton, Nat.reduceBEq, Nat.reduceAdd, Nat.reduceSub, Nat.reduceMul, Nat.reduceEqDiff, Nat.reduceLeDiff, Nat.reduceLT, if_false, if_true, ite_true, ite_false, ↓reduceIte, Bool.not_true, Bool.not_false, Bool.false_eq_true, decide_true, decide_false, eq_self, and_true, true_and, and_self, Nat.zero_le, Nat.zero_add, Option.bind_some, Option.bind_none, Nat.lt_irrefl, Int.reduceToNat, Int.reducePow, Int.reduceNeg, Int.reduceMul, Int.reduceAdd, Int.reduceSub, Int.reduceLT, Int.reduceLE, Int.reduceEq, beq_self_eq_true, wipeE, MP.at0, MP.at1, MP.at2, MP.atLit, h1, h2, h3, h4]
  by_cases h5 : 1 ≤ (es.length : Int)
  rotate_left
  · simp (disch := (first | assumption | with_reducible rfl | decide +kernel | exact Or.inl (by decide +kernel) | exact Or.inr (by decide +kernel) | omega | (simp only [List.length_cons, List.length_nil, List.length_append, List.length_map, List.length_replicate, List.length_range] <;> omega) | rfl)) only [MP.of_some, MP.map_some, MP.e_lv, MP.e_lo, MP.e_pD, MP.e_xDs, MP.e_xDf, MP.e_pC, MP.e_pYes, MP.e_pVar, MP.e_p2, MP.e_x2, MP.e_p1, MP.e_x1, MP.e_pB, MP.e_xB, MP.e_pNot, MP.e_xNot, MP.e_pAnd, MP.e_xAndT, MP.e_xAndF, MP.e_pOr, MP.e_xOrT, MP.e_xOrF, MP.e_pAndV, MP.e_xAndVT, MP.e_xAndVF, MP.e_pOrV, MP.e_xOrVT, MP.e_xOrVF, MP.e_pNotV, MP.e_xNotV, MP.e_pIf, MP.e_xIfT, MP.e_xIfF, MP.e_p3, MP.e_x3, MP.e_x3bT, MP.e_x3bF, MP.e_pNil, MP.e_pCons, MP.e_xCons, MP.e_pTup, MP.e_xTp, MP.e_pLst, MP.e_xLs, MP.e_pNo, MP.e_pSome, MP.e_xSo, MP.e_pSl, MP.e_xSl, MP.e_pCall, MP.e_xG, MP.e_pSeq, MP.e_xSq, MP.e_pSeqR, MP.e_xSqR, MP.e_pRng, MP.e_pEnum, MP.e_xEn, MP.e_pComp, MP.e_xC, MP.e_xC2, MP.e_pUser, MP.e_xU, MP.e_xFv, MP.e_xFo, MP.e_xFe, MP.e_pSeal, MP.e_xSe, MP.e_xSeFv, MP.e_xSeFo, MP.e_pLook, MP.e_xLo, MP.e_xLoF, MP.e_xLoO, MP.e_xLoE, MP.e_pFld, MP.e_xFd, MP.e_xOb, MP.e_xLk0, MP.e_xLk1, MP.e_c0, MP.e_c1, MP.g_add, MP.g_catS, MP.g_catL, MP.g_catT, MP.g_sub, MP.g_mul, MP.g_rep, MP.g_div, MP.g_mod, MP.g_pow, MP.g_shl, MP.g_shr, MP.g_and, MP.g_orI, MP.g_neg, MP.g_lt, MP.g_le, MP.g_gt, MP.g_ge, MP.g_eqI, MP.g_eqS, MP.g_eqBo, MP.g_neI, MP.g_neS, MP.g_neBo, MP.g_is, MP.g_isNot, MP.n_none, MP.n_int, MP.n_str, MP.n_tup, MP.n_list, MP.n_bool, MP.g_max, MP.g_min, MP.g_lenL, MP.g_lenK, MP.g_lenT, MP.g_listL, MP.g_listK, MP.g_listT, MP.g_tupL, MP.g_tupT, MP.q_list, MP.q_lk, MP.q_tup, MP.g_rng1, MP.g_rng2, MP.g_enumL, MP.g_enumK, MP.g_ixL, MP.g_ixK, MP.g_ixT, MP.g_slL, MP.g_slK, MP.g_slT, MP.s_Nil, MP.s_Brk, MP.s_Cont, MP.s_Seq, MP.s_xSn, MP.s_xSr, MP.s_xSb, MP.s_xSc, MP.s_xSe, MP.s_Expr, MP.s_xEx, MP.s_SetV, MP.s_xSV, MP.s_SetO, MP.s_xSOs, MP.s_xSOf, MP.s_Ret, MP.s_xRts, MP.s_xRtf, MP.s_RetN, MP.s_RetS, MP.s_xRSo, MP.s_xRSv, MP.s_If, MP.s_xIfT, MP.s_xIfF, MP.s_Tup, MP.s_xTu, MP.s_xTb, MP.s_For, MP.s_xFor, MP.s_App, MP.s_xAp, MP.s_Thaw, MP.s_xTh, MP.s_Frz, MP.s_xFzo, MP.s_xFzv, MP.s_ExprF, MP.s_xEF, MP.s_SetF, MP.s_xSF, MP.s_RetF, MP.s_xRF, MP.s_IfF, MP.s_xIFT, MP.s_xIFF, MP.s_FldN, MP.s_xN, MP.s_xN2, MP.s_xN3, MP.s_put0, MP.s_put1, MP.s_putN, MP.f_P, MP.f_xPs, MP.f_xPf, MP.f_User, MP.f_xFU, MP.f_Meth, MP.f_xM, MP.f_xM2, MP.f_Make, MP.f_xMk, MP.f_xMkF, MP.fe_ok, MP.r_run, MP.r_un, MP.r_un0, MP.r_nx, MP.r_ret, MP.r_exc, MP.t_nx, MP.t_cont, MP.t_brk, MP.t_ret, MP.b_nm, MP.b_tp2, MP.b_tp3, MP.t_bk, MP.fe_pop, MP.s_appF, MP.s_dead, MP.g_divmod, MP.g_sorted, MP.g_allB, MP.g_anyB, MP.g_sumI, MP.g_zipT, MP.g_zipL, MP.e_pZip, MP.e_xZp, MP.g_abs, MP.g_intI, MP.g_intB, MP.g_repT, MP.e_pLRng, MP.e_xLR, MP.f_Pop, MP.f_xPop, MP.s_AppF, MP.s_xAF0, MP.s_xAF, MP.s_xAF2, MP.g_inI, MP.g_ninI, MP.g_inT, MP.g_ninT, MP.g_ninST, MP.e_c2, MP.e_c3, MP.e_c4, MP.e_c5, MP.e_pIsi, MP.s_tryV, MP.s_raise, MP.s_raiseN, MP.e_pMt, MP.e_xMtL, MP.e_xMtK, MP.g_xor, MP.s_Raise, MP.s_xRa1, MP.s_xRa2, MP.s_RaiseN, MP.s_TryV, MP.s_xTVn, MP.s_xTVr, MP.s_xTVe, MP.s_tryC, MP.e_xDe, MP.e_x1e, MP.e_x2e, MP.e_xBe, MP.s_xExe, MP.s_xSVe, MP.s_xSOe, MP.s_xRte, MP.s_xIfe, MP.s_xTue, MP.s_xThe, MP.s_xEFe, MP.s_xSFe, MP.s_xRFe, MP.fe_exc, MP.t_exc, MP.n_xv, List.getElem?_cons_zero, List.getElem?_cons_succ, List.getElem?_nil, List.set_cons_zero, List.set_cons_succ, List.map_cons, List.map_nil, List.length_cons, List.length_nil, List.length_append, List.cons_append, List.nil_append, List.length_map, List.length_singleton, Nat.reduceBEq, Nat.reduceAdd, Nat.reduceSub, Nat.reduceMul, Nat.reduceEqDiff, Nat.reduceLeDiff, Nat.reduceLT, if_false, if_true, ite_true, ite_false, ↓reduceIte, Bool.not_true, Bool.not_false, Bool.false_eq_true, decide_true, decide_false, eq_self, and_true, true_and, and_self, Nat.zero_le, Nat.zero_add, Option.bind_some, Option.bind_none, Nat.lt_irrefl, Int.reduceToNat, Int.reducePow, Int.reduceNeg, Int.reduceMul, Int.reduceAdd, Int.reduceSub, Int.reduceLT, Int.reduceLE, Int.reduceEq, beq_self_eq_true, wipeE, MP.at0, MP.at1, MP.at2, MP.atLit, en, h1, h2, h3, h4, h5]
  have h6 : ¬ (es.length : Int) ≤ 12 := by unfold amiss at h; omega
  simp (disch := (first | assumption | with_reducible rfl | decide +kernel | exact Or.inl (by decide +kernel) | exact Or.inr (by decide +kernel) | omega | (simp only [List.length_cons, List.length_nil, List.length_append, List.length_map, List.length_replicate, List.length_range] <;> omega) | rfl)) only [MP.of_some, MP.map_some, MP.e_lv, MP.e_lo, MP.e_pD, MP.e_xDs, MP.e_xDf, MP.e_pC, MP.e_pYes, MP.e_pVar, MP.e_p2, MP.e_x2, MP.e_p1, MP.e_x1, MP.e_pB, MP.e_xB, MP.e_pNot, MP.e_xNot, MP.e_pAnd, MP.e_xAndT, MP.e_xAndF, MP.e_pOr, MP.e_xOrT, MP.e_xOrF, MP.e_pAndV, MP.e_xAndVT, MP.e_xAndVF, MP.e_pOrV, MP.e_xOrVT, MP.e_xOrVF, MP.e_pNotV, MP.e_xNotV, MP.e_pIf, MP.e_xIfT, MP.e_xIfF, MP.e_p3, MP.e_x3, MP.e_x3bT, MP.e_x3bF, MP.e_pNil, MP.e_pCons, MP.e_xCons, MP.e_pTup, MP.e_xTp, MP.e_pLst, MP.e_xLs, MP.e_pNo, MP.e_pSome, MP.e_xSo, MP.e_pSl, MP.e_xSl, MP.e_pCall, MP.e_xG, MP.e_pSeq, MP.e_xSq, MP.e_pSeqR, MP.e_xSqR, MP.e_pRng, MP.e_pEnum, MP.e_xEn, MP.e_pComp, MP.e_xC, MP.e_xC2, MP.e_pUser, MP.e_xU, MP.e_xFv, MP.e_xFo, MP.e_xFe, MP.e_pSeal, MP.e_xSe, MP.e_xSeFv, MP.e_xSeFo, MP.e_pLook, MP.e_xLo, MP.e_xLoF, MP.e_xLoO, MP.e_xLoE, MP.e_pFld, MP.e_xFd, MP.e_xOb, MP.e_xLk0, MP.e_xLk1, MP.e_c0, MP.e_c1, MP.g_add, MP.g_catS, MP.g_catL, MP.g_catT, MP.g_sub, MP.g_mul, MP.g_rep, MP.g_div, MP.g_mod, MP.g_pow, MP.g_shl, MP.g_shr, MP.g_and, MP.g_orI, MP.g_neg, MP.g_lt, MP.g_le, MP.g_gt, MP.g_ge, MP.g_eqI, MP.g_eqS, MP.g_eqBo, MP.g_neI, MP.g_neS, MP.g_neBo, MP.g_is, MP.g_isNot, MP.n_none, MP.n_int, MP.n_str, MP.n_tup, MP.n_list, MP.n_bool, MP.g_max, MP.g_min, MP.g_lenL, MP.g_lenK, MP.g_lenT, MP.g_listL, MP.g_listK, MP.g_listT, MP.g_tupL, MP.g_tupT, MP.q_list, MP.q_lk, MP.q_tup, MP.g_rng1, MP.g_rng2, MP.g_enumL, MP.g_enumK, MP.g_ixL, MP.g_ixK, MP.g_ixT, MP.g_slL, MP.g_slK, MP.g_slT, MP.s_Nil, MP.s_Brk, MP.s_Cont, MP.s_Seq, MP.s_xSn, MP.s_xSr, MP.s_xSb, MP.s_xSc, MP.s_xSe, MP.s_Expr, MP.s_xEx, MP.s_SetV, MP.s_xSV, MP.s_SetO, MP.s_xSOs, MP.s_xSOf, MP.s_Ret, MP.s_xRts, MP.s_xRtf, MP.s_RetN, MP.s_RetS, MP.s_xRSo, MP.s_xRSv, MP.s_If, MP.s_xIfT, MP.s_xIfF, MP.s_Tup, MP.s_xTu, MP.s_xTb, MP.s_For, MP.s_xFor, MP.s_App, MP.s_xAp, MP.s_Thaw, MP.s_xTh, MP.s_Frz, MP.s_xFzo, MP.s_xFzv, MP.s_ExprF, MP.s_xEF, MP.s_SetF, MP.s_xSF, MP.s_RetF, MP.s_xRF, MP.s_IfF, MP.s_xIFT, MP.s_xIFF, MP.s_FldN, MP.s_xN, MP.s_xN2, MP.s_xN3, MP.s_put0, MP.s_put1, MP.s_putN, MP.f_P, MP.f_xPs, MP.f_xPf, MP.f_User, MP.f_xFU, MP.f_Meth, MP.f_xM, MP.f_xM2, MP.f_Make, MP.f_xMk, MP.f_xMkF, MP.fe_ok, MP.r_run, MP.r_un, MP.r_un0, MP.r_nx, MP.r_ret, MP.r_exc, MP.t_nx, MP.t_cont, MP.t_brk, MP.t_ret, MP.b_nm, MP.b_tp2, MP.b_tp3, MP.t_bk, MP.fe_pop, MP.s_appF, MP.s_dead, MP.g_divmod, MP.g_sorted, MP.g_allB, MP.g_anyB, MP.g_sumI, MP.g_zipT, MP.g_zipL, MP.e_pZip, MP.e_xZp, MP.g_abs, MP.g_intI, MP.g_intB, MP.g_repT, MP.e_pLRng, MP.e_xLR, MP.f_Pop, MP.f_xPop, MP.s_AppF, MP.s_xAF0, MP.s_xAF, MP.s_xAF2, MP.g_inI, MP.g_ninI, MP.g_inT, MP.g_ninT, MP.g_ninST, MP.e_c2, MP.e_c3, MP.e_c4, MP.e_c5, MP.e_pIsi, MP.s_tryV, MP.s_raise, MP.s_raiseN, MP.e_pMt, MP.e_xMtL, MP.e_xMtK, MP.g_xor, MP.s_Raise, MP.s_xRa1, MP.s_xRa2, MP.s_RaiseN, MP.s_TryV, MP.s_xTVn, MP.s_xTVr, MP.s_xTVe, MP.s_tryC, MP.e_xDe, MP.e_x1e, MP.e_x2e, MP.e_xBe, MP.s_xExe, MP.s_xSVe, MP.s_xSOe, MP.s_xRte, MP.s_xIfe, MP.s_xTue, MP.s_xThe, MP.s_xEFe, MP.s_xSFe, MP.s_xRFe, MP.fe_exc, MP.t_exc, MP.n_xv, List.getElem?_cons_zero, List.getElem?_cons_succ, List.getElem?_nil, List.set_cons_zero, List.set_cons_succ, List.map_cons, List.map_nil, List.length_cons, List.length_nil, List.length_append, List.cons_append, List.nil_append, List.length_map, List.length_singleton, Nat.reduceBEq, Nat.reduceAdd, Nat.reduceSub, Nat.reduceMul, Nat.reduceEqDiff, Nat.reduceLeDiff, Nat.reduceLT, if_false, if_true, ite_true, ite_false, ↓reduceIte, Bool.not_true, Bool.not_false, Bool.false_eq_true, decide_true, decide_false, eq_self, and_true, true_and, and_self, Nat.zero_le, Nat.zero_add, Option.bind_some, Option.bind_none, Nat.lt_irrefl, Int.reduceToNat, Int.reducePow, Int.reduceNeg, Int.reduceMul, Int.reduceAdd, Int.reduceSub, Int.reduceLT, Int.reduceLE, Int.reduceEq, beq_self_eq_true, wipeE, MP.at0, MP.at1, MP.at2, MP.atLit, en, h1, h2, h3, h4, h5, h6]
theorem m_loop_b (R C : Int) (es : List (Int × Int)) (h : ¬ amiss R C es.length) (v : Option D) (hv : (v = none ∧ ∀ i < es.length, ¬ bad R C es i) ∨ ∃ i0, v = some (.int (i0 : Nat)) ∧ i0 < es.length ∧ bad R C es i0 ∧ ∀ j < i0, ¬ bad R C es j) :
    sem_l_first_bad [.int R, .int C, .list (psD es)] [] = .ok (.v (vdB v)) [] := by
  unfold sem_l_first_bad
  refine run_ex (Q := fun r => r = .ok (.v (vdB v)) []) [.v (.int R), .v (.int C), .v (.list (psD es)), .un, .un, .un] rfl ?_
  unfold b_l_first_bad
  have hl := psD_len es
  have en : ((psD es).length : Int) = (es.length : Int) := by omega
  unfold amiss at h
  have h1 : ¬ R < 1 := by omega
  have h2 : ¬ 6 < R := by omega
  have h3 : ¬ C < 1 := by omega
  have h4 : ¬ 6 < C := by omega
  have h5 : ¬ (es.length : Int) < 1 := by omega
  have h6 : ¬ 12 < (es.length : Int) := by omega
  refine sqR (s' := ⟨[.v (.int R), .v (.int C), .v (.list (psD es)), .un, .un, .un], []⟩) (by simp (disch := (first | assumption | with_reducible rfl | decide +kernel | exact Or.inl (by decide +kernel) | exact Or.inr (by decide +kernel) | omega | (simp only [List.length_cons, List.length_nil, List.length_append, List.length_map, List.length_replicate, List.length_range] <;> omega) | rfl)) only [MP.of_some, MP.map_some, MP.e_lv, MP.e_lo, MP.e_pD, MP.e_xDs, MP.e_xDf, MP.e_pC, MP.e_pYes, MP.e_pVar, MP.e_p2, MP.e_x2, MP.e_p1, MP.e_x1, MP.e_pB, MP.e_xB, MP.e_pNot, MP.e_xNot, MP.e_pAnd, MP.e_xAndT, MP.e_xAndF, MP.e_pOr, MP.e_xOrT, MP.e_xOrF, MP.e_pAndV, MP.e_xAndVT, MP.e_xAndVF, MP.e_pOrV, MP.e_xOrVT, MP.e_xOrVF, MP.e_pNotV, MP.e_xNotV, MP.e_pIf, MP.e_xIfT, MP.e_xIfF, MP.e_p3, MP.e_x3, MP.e_x3bT, MP.e_x3bF, MP.e_pNil, MP.e_pCons, MP.e_xCons, MP.e_pTup, MP.e_xTp, MP.e_pLst, MP.e_xLs, MP.e_pNo, MP.e_pSome, MP.e_xSo, MP.e_pSl, MP.e_xSl, MP.e_pCall, MP.e_xG, MP.e_pSeq, MP.e_xSq, MP.e_pSeqR, MP.e_xSqR, MP.e_pRng, MP.e_pEnum, MP.e_xEn, MP.e_pComp, MP.e_xC, MP.e_xC2, MP.e_pUser, MP.e_xU, MP.e_xFv, MP.e_xFo, MP.e_xFe, MP.e_pSeal, MP.e_xSe, MP.e_xSeFv, MP.e_xSeFo, MP.e_pLook, MP.e_xLo, MP.e_xLoF, MP.e_xLoO, MP.e_xLoE, MP.e_pFld, MP.e_xFd, MP.e_xOb, MP.e_xLk0, MP.e_xLk1, MP.e_c0, MP.e_c1, MP.g_add, MP.g_catS, MP.g_catL, MP.g_catT, MP.g_sub, MP.g_mul, MP.g_rep, MP.g_div, MP.g_mod, MP.g_pow, MP.g_shl, MP.g_shr, MP.g_and, MP.g_orI, MP.g_neg, MP.g_lt, MP.g_le, MP.g_gt, MP.g_ge, MP.g_eqI, MP.g_eqS, MP.g_eqBo, MP.g_neI, MP.g_neS, MP.g_neBo, MP.g_is, MP.g_isNot, MP.n_none, MP.n_int, MP.n_str, MP.n_tup, MP.n_list, MP.n_bool, MP.g_max, MP.g_min, MP.g_lenL, MP.g_lenK, MP.g_lenT, MP.g_listL, MP.g_listK, MP.g_listT, MP.g_tupL, MP.g_tupT, MP.q_list, MP.q_lk, MP.q_tup, MP.g_rng1, MP.g_rng2, MP.g_enumL, MP.g_enumK, MP.g_ixL, MP.g_ixK, MP.g_ixT, MP.g_slL, MP.g_slK, MP.g_slT, MP.s_Nil, MP.s_Brk, MP.s_Cont, MP.s_Seq, MP.s_xSn, MP.s_xSr, MP.s_xSb, MP.s_xSc, MP.s_xSe, MP.s_Expr, MP.s_xEx, MP.s_SetV, MP.s_xSV, MP.s_SetO, MP.s_xSOs, MP.s_xSOf, MP.s_Ret, MP.s_xRts, MP.s_xRtf, MP.s_RetN, MP.s_RetS, MP.s_xRSo, MP.s_xRSv, MP.s_If, MP.s_xIfT, MP.s_xIfF, MP.s_Tup, MP.s_xTu, MP.s_xTb, MP.s_For, MP.s_xFor, MP.s_App, MP.s_xAp, MP.s_Thaw, MP.s_xTh, MP.s_Frz, MP.s_xFzo, MP.s_xFzv, MP.s_ExprF, MP.s_xEF, MP.s_SetF, MP.s_xSF, MP.s_RetF, MP.s_xRF, MP.s_IfF, MP.s_xIFT, MP.s_xIFF, MP.s_FldN, MP.s_xN, MP.s_xN2, MP.s_xN3, MP.s_put0, MP.s_put1, MP.s_putN, MP.f_P, MP.f_xPs, MP.f_xPf, MP.f_User, MP.f_xFU, MP.f_Meth, MP.f_xM, MP.f_xM2, MP.f_Make, MP.f_xMk, MP.f_xMkF, MP.fe_ok, MP.r_run, MP.r_un, MP.r_un0, MP.r_nx, MP.r_ret, MP.r_exc, MP.t_nx, MP.t_cont, MP.t_brk, MP.t_ret, MP.b_nm, MP.b_tp2, MP.b_tp3, MP.t_bk, MP.fe_pop, MP.s_appF, MP.s_dead, MP.g_divmod, MP.g_sorted, MP.g_allB, MP.g_anyB, MP.g_sumI, MP.g_zipT, MP.g_zipL, MP.e_pZip, MP.e_xZp, MP.g_abs, MP.g_intI, MP.g_intB, MP.g_repT, MP.e_pLRng, MP.e_xLR, MP.f_Pop, MP.f_xPop, MP.s_AppF, MP.s_xAF0, MP.s_xAF, MP.s_xAF2, MP.g_inI, MP.g_ninI, MP.g_inT, MP.g_ninT, MP.g_ninST, MP.e_c2, MP.e_c3, MP.e_c4, MP.e_c5, MP.e_pIsi, MP.s_tryV, MP.s_raise, MP.s_raiseN, MP.e_pMt, MP.e_xMtL, MP.e_xMtK, MP.g_xor, MP.s_Raise, MP.s_xRa1, MP.s_xRa2, MP.s_RaiseN, MP.s_TryV, MP.s_xTVn, MP.s_xTVr, MP.s_xTVe, MP.s_tryC, MP.e_xDe, MP.e_x1e, MP.e_x2e, MP.e_xBe, MP.s_xExe, MP.s_xSVe, MP.s_xSOe, MP.s_xRte, MP.s_xIfe, MP.s_xTue, MP.s_xThe, MP.s_xEFe, MP.s_xSFe, MP.s_xRFe, MP.fe_exc, MP.t_exc, MP.n_xv, List.getElem?_cons_zero, List.getElem?_cons_succ, List.getElem?_nil, List.set_cons_zero, List.set_cons_succ, List.map_cons, List.map_nil, List.length_cons, List.length_nil, List.length_append, List.cons_append, List.nil_append, List.length_map, List.length_singleton, Nat.reduceBEq, Nat.reduceAdd, Nat.reduceSub, Nat.reduceMul, Nat.reduceEqDiff, Nat.reduceLeDiff, Nat.reduceLT, if_false, if_true, ite_true, ite_false, ↓reduceIte, Bool.not_true, Bool.not_false, Bool.false_eq_true, decide_true, decide_false, eq_self, and_true, true_and, and_self, Nat.zero_le, Nat.zero_add, Option.bind_some, Option.bind_none, Nat.lt_irrefl, Int.reduceToNat, Int.reducePow, Int.reduceNeg, Int.reduceMul, Int.reduceAdd, Int.reduceSub, Int.reduceLT, Int.reduceLE, Int.reduceEq, beq_self_eq_true, wipeE, MP.at0, MP.at1, MP.at2, MP.atLit, en, h1, h2, h3, h4, h5, h6]) ?_
  refine sq_for (P := fun fl => fl.fr = .ok (.v (vdB v)) []) (rng 0 (es.length : Int)) (fun i s => (∀ i0 : Nat, v = some (.int (i0 : Int)) → i ≤ i0) ∧ ∃ x3 x4 x5, s = ⟨[.v (.int R), .v (.int C), .v (.list (psD es)), x3, x4, x5], []⟩) (by simp (disch := (first | assumption | with_reducible rfl | decide +kernel | exact Or.inl (by decide +kernel) | exact Or.inr (by decide +kernel) | omega | (simp only [List.length_cons, List.length_nil, List.length_append, List.length_map, List.length_replicate, List.length_range] <;> omega) | rfl)) only [MP.of_some, MP.map_some, MP.e_lv, MP.e_lo, MP.e_pD, MP.e_xDs, MP.e_xDf, MP.e_pC, MP.e_pYes, MP.e_pVar, MP.e_p2, MP.e_x2, MP.e_p1, MP.e_x1, MP.e_pB, MP.e_xB, MP.e_pNot, MP.e_xNot, MP.e_pAnd, MP.e_xAndT, MP.e_xAndF, MP.e_pOr, MP.e_xOrT, MP.e_xOrF, MP.e_pAndV, MP.e_xAndVT, MP.e_xAndVF, MP.e_pOrV, MP.e_xOrVT, MP.e_xOrVF, MP.e_pNotV, MP.e_xNotV, MP.e_pIf, MP.e_xIfT, MP.e_xIfF, MP.e_p3, MP.e_x3, MP.e_x3bT, MP.e_x3bF, MP.e_pNil, MP.e_pCons, MP.e_xCons, MP.e_pTup, MP.e_xTp, MP.e_pLst, MP.e_xLs, MP.e_pNo, MP.e_pSome, MP.e_xSo, MP.e_pSl, MP.e_xSl, MP.e_pCall, MP.e_xG, MP.e_pSeq, MP.e_xSq, MP.e_pSeqR, MP.e_xSqR, MP.e_pRng, MP.e_pEnum, MP.e_xEn, MP.e_pComp, MP.e_xC, MP.e_xC2, MP.e_pUser, MP.e_xU, MP.e_xFv, MP.e_xFo, MP.e_xFe, MP.e_pSeal, MP.e_xSe, MP.e_xSeFv, MP.e_xSeFo, MP.e_pLook, MP.e_xLo, MP.e_xLoF, MP.e_xLoO, MP.e_xLoE, MP.e_pFld, MP.e_xFd, MP.e_xOb, MP.e_xLk0, MP.e_xLk1, MP.e_c0, MP.e_c1, MP.g_add, MP.g_catS, MP.g_catL, MP.g_catT, MP.g_sub, MP.g_mul, MP.g_rep, MP.g_div, MP.g_mod, MP.g_pow, MP.g_shl, MP.g_shr, MP.g_and, MP.g_orI, MP.g_neg, MP.g_lt, MP.g_le, MP.g_gt, MP.g_ge, MP.g_eqI, MP.g_eqS, MP.g_eqBo, MP.g_neI, MP.g_neS, MP.g_neBo, MP.g_is, MP.g_isNot, MP.n_none, MP.n_int, MP.n_str, MP.n_tup, MP.n_list, MP.n_bool, MP.g_max, MP.g_min, MP.g_lenL, MP.g_lenK, MP.g_lenT, MP.g_listL, MP.g_listK, MP.g_listT, MP.g_tupL, MP.g_tupT, MP.q_list, MP.q_lk, MP.q_tup, MP.g_rng1, MP.g_rng2, MP.g_enumL, MP.g_enumK, MP.g_ixL, MP.g_ixK, MP.g_ixT, MP.g_slL, MP.g_slK, MP.g_slT, MP.s_Nil, MP.s_Brk, MP.s_Cont, MP.s_Seq, MP.s_xSn, MP.s_xSr, MP.s_xSb, MP.s_xSc, MP.s_xSe, MP.s_Expr, MP.s_xEx, MP.s_SetV, MP.s_xSV, MP.s_SetO, MP.s_xSOs, MP.s_xSOf, MP.s_Ret, MP.s_xRts, MP.s_xRtf, MP.s_RetN, MP.s_RetS, MP.s_xRSo, MP.s_xRSv, MP.s_If, MP.s_xIfT, MP.s_xIfF, MP.s_Tup, MP.s_xTu, MP.s_xTb, MP.s_For, MP.s_xFor, MP.s_App, MP.s_xAp, MP.s_Thaw, MP.s_xTh, MP.s_Frz, MP.s_xFzo, MP.s_xFzv, MP.s_ExprF, MP.s_xEF, MP.s_SetF, MP.s_xSF, MP.s_RetF, MP.s_xRF, MP.s_IfF, MP.s_xIFT, MP.s_xIFF, MP.s_FldN, MP.s_xN, MP.s_xN2, MP.s_xN3, MP.s_put0, MP.s_put1, MP.s_putN, MP.f_P, MP.f_xPs, MP.f_xPf, MP.f_User, MP.f_xFU, MP.f_Meth, MP.f_xM, MP.f_xM2, MP.f_Make, MP.f_xMk, MP.f_xMkF, MP.fe_ok, MP.r_run, MP.r_un, MP.r_un0, MP.r_nx, MP.r_ret, MP.r_exc, MP.t_nx, MP.t_cont, MP.t_brk, MP.t_ret, MP.b_nm, MP.b_tp2, MP.b_tp3, MP.t_bk, MP.fe_pop, MP.s_appF, MP.s_dead, MP.g_divmod, MP.g_sorted, MP.g_allB, MP.g_anyB, MP.g_sumI, MP.g_zipT, MP.g_zipL, MP.e_pZip, MP.e_xZp, MP.g_abs, MP.g_intI, MP.g_intB, MP.g_repT, MP.e_pLRng, MP.e_xLR, MP.f_Pop, MP.f_xPop, MP.s_AppF, MP.s_xAF0, MP.s_xAF, MP.s_xAF2, MP.g_inI, MP.g_ninI, MP.g_inT, MP.g_ninT, MP.g_ninST, MP.e_c2, MP.e_c3, MP.e_c4, MP.e_c5, MP.e_pIsi, MP.s_tryV, MP.s_raise, MP.s_raiseN, MP.e_pMt, MP.e_xMtL, MP.e_xMtK, MP.g_xor, MP.s_Raise, MP.s_xRa1, MP.s_xRa2, MP.s_RaiseN, MP.s_TryV, MP.s_xTVn, MP.s_xTVr, MP.s_xTVe, MP.s_tryC, MP.e_xDe, MP.e_x1e, MP.e_x2e, MP.e_xBe, MP.s_xExe, MP.s_xSVe, MP.s_xSOe, MP.s_xRte, MP.s_xIfe, MP.s_xTue, MP.s_xThe, MP.s_xEFe, MP.s_xSFe, MP.s_xRFe, MP.fe_exc, MP.t_exc, MP.n_xv, List.getElem?_cons_zero, List.getElem?_cons_succ, List.getElem?_nil, List.set_cons_zero, List.set_cons_succ, List.map_cons, List.map_nil, List.length_cons, List.length_nil, List.length_append, List.cons_append, List.nil_append, List.length_map, List.length_singleton, Nat.reduceBEq, Nat.reduceAdd, Nat.reduceSub, Nat.reduceMul, Nat.reduceEqDiff, Nat.reduceLeDiff, Nat.reduceLT, if_false, if_true, ite_true, ite_false, ↓reduceIte, Bool.not_true, Bool.not_false, Bool.false_eq_true, decide_true, decide_false, eq_self, and_true, true_and, and_self, Nat.zero_le, Nat.zero_add, Option.bind_some, Option.bind_none, Nat.lt_irrefl, Int.reduceToNat, Int.reducePow, Int.reduceNeg, Int.reduceMul, Int.reduceAdd, Int.reduceSub, Int.reduceLT, Int.reduceLE, Int.reduceEq, beq_self_eq_true, wipeE, MP.at0, MP.at1, MP.at2, MP.atLit, en]) ⟨fun _ _ => Nat.zero_le _, _, _, _, rfl⟩ ?_ ?_
  · rintro i d s hd ⟨hi0, x3, x4, x5, rfl⟩
    obtain ⟨rfl, hi⟩ := rngAt hd
    have hi : i < es.length := by omega
    refine ⟨_, b_nm .., ?_⟩
    show Turn _ _ (lp_l_first_bad_1 ⟨[.v (.int R), .v (.int C), .v (.list (psD es)), .v (.int (i : Int)), x4, x5], []⟩)
    rcases hv with ⟨rfl, hv⟩ | ⟨i0, rfl, h7, h8, h9⟩
    · obtain ⟨a, b, e⟩ := m_fb_ok R C es i hi (hv i hi) x4 x5
      rw [e]
      exact ⟨(fun i0 h => by cases h), _, _, _, rfl⟩
    · by_cases hlt : i < i0
      · obtain ⟨a, b, e⟩ := m_fb_ok R C es i hi (h9 i hlt) x4 x5
        rw [e]
        exact ⟨(fun i1 h => by injection h with h; injection h with h; omega), _, _, _, rfl⟩
      · have : i = i0 := by have := hi0 i0 rfl; omega
        subst this
        obtain ⟨s, e⟩ := m_fb_bad R C es i hi h8 x4 x5
        rw [e]
        rfl
  · rintro s ⟨hi0, x3, x4, x5, rfl⟩
    rw [rngLenN] at hi0
    rcases hv with ⟨rfl, hv⟩ | ⟨i0, rfl, h7, h8, h9⟩
    · unfold vdB
      simp (disch := (first | assumption | with_reducible rfl | decide +kernel | exact Or.inl (by decide +kernel) | exact Or.inr (by decide +kernel) | omega | (simp only [List.length_cons, List.length_nil, List.length_append, List.length_map, List.length_replicate, List.length_range] <;> omega) | rfl)) only [MP.of_some, MP.map_some, MP.e_lv, MP.e_lo, MP.e_pD, MP.e_xDs, MP.e_xDf, MP.e_pC, MP.e_pYes, MP.e_pVar, MP.e_p2, MP.e_x2, MP.e_p1, MP.e_x1, MP.e_pB, MP.e_xB, MP.e_pNot, MP.e_xNot, MP.e_pAnd, MP.e_xAndT, MP.e_xAndF, MP.e_pOr, MP.e_xOrT, MP.e_xOrF, MP.e_pAndV, MP.e_xAndVT, MP.e_xAndVF, MP.e_pOrV, MP.e_xOrVT, MP.e_xOrVF, MP.e_pNotV, MP.e_xNotV, MP.e_pIf, MP.e_xIfT, MP.e_xIfF, MP.e_p3, MP.e_x3, MP.e_x3bT, MP.e_x3bF, MP.e_pNil, MP.e_pCons, MP.e_xCons, MP.e_pTup, MP.e_xTp, MP.e_pLst, MP.e_xLs, MP.e_pNo, MP.e_pSome, MP.e_xSo, MP.e_pSl, MP.e_xSl, MP.e_pCall, MP.e_xG, MP.e_pSeq, MP.e_xSq, MP.e_pSeqR, MP.e_xSqR, MP.e_pRng, MP.e_pEnum, MP.e_xEn, MP.e_pComp, MP.e_xC, MP.e_xC2, MP.e_pUser, MP.e_xU, MP.e_xFv, MP.e_xFo, MP.e_xFe, MP.e_pSeal, MP.e_xSe, MP.e_xSeFv, MP.e_xSeFo, MP.e_pLook, MP.e_xLo, MP.e_xLoF, MP.e_xLoO, MP.e_xLoE, MP.e_pFld, MP.e_xFd, MP.e_xOb, MP.e_xLk0, MP.e_xLk1, MP.e_c0, MP.e_c1, MP.g_add, MP.g_catS, MP.g_catL, MP.g_catT, MP.g_sub, MP.g_mul, MP.g_rep, MP.g_div, MP.g_mod, MP.g_pow, MP.g_shl, MP.g_shr, MP.g_and, MP.g_orI, MP.g_neg, MP.g_lt, MP.g_le, MP.g_gt, MP.g_ge, MP.g_eqI, MP.g_eqS, MP.g_eqBo, MP.g_neI, MP.g_neS, MP.g_neBo, MP.g_is, MP.g_isNot, MP.n_none, MP.n_int, MP.n_str, MP.n_tup, MP.n_list, MP.n_bool, MP.g_max, MP.g_min, MP.g_lenL, MP.g_lenK, MP.g_lenT, MP.g_listL, MP.g_listK, MP.g_listT, MP.g_tupL, MP.g_tupT, MP.q_list, MP.q_lk, MP.q_tup, MP.g_rng1, MP.g_rng2, MP.g_enumL, MP.g_enumK, MP.g_ixL, MP.g_ixK, MP.g_ixT, MP.g_slL, MP.g_slK, MP.g_slT, MP.s_Nil, MP.s_Brk, MP.s_Cont, MP.s_Seq, MP.s_xSn, MP.s_xSr, MP.s_xSb, MP.s_xSc, MP.s_xSe, MP.s_Expr, MP.s_xEx, MP.s_SetV, MP.s_xSV, MP.s_SetO, MP.s_xSOs, MP.s_xSOf, MP.s_Ret, MP.s_xRts, MP.s_xRtf, MP.s_RetN, MP.s_RetS, MP.s_xRSo, MP.s_xRSv, MP.s_If, MP.s_xIfT, MP.s_xIfF, MP.s_Tup, MP.s_xTu, MP.s_xTb, MP.s_For, MP.s_xFor, MP.s_App, MP.s_xAp, MP.s_Thaw, MP.s_xTh, MP.s_Frz, MP.s_xFzo, MP.s_xFzv, MP.s_ExprF, MP.s_xEF, MP.s_SetF, MP.s_xSF, MP.s_RetF, MP.s_xRF, MP.s_IfF, MP.s_xIFT, MP.s_xIFF, MP.s_FldN, MP.s_xN, MP.s_xN2, MP.s_xN3, MP.s_put0, MP.s_put1, MP.s_putN, MP.f_P, MP.f_xPs, MP.f_xPf, MP.f_User, MP.f_xFU, MP.f_Meth, MP.f_xM, MP.f_xM2, MP.f_Make, MP.f_xMk, MP.f_xMkF, MP.fe_ok, MP.r_run, MP.r_un, MP.r_un0, MP.r_nx, MP.r_ret, MP.r_exc, MP.t_nx, MP.t_cont, MP.t_brk, MP.t_ret, MP.b_nm, MP.b_tp2, MP.b_tp3, MP.t_bk, MP.fe_pop, MP.s_appF, MP.s_dead, MP.g_divmod, MP.g_sorted, MP.g_allB, MP.g_anyB, MP.g_sumI, MP.g_zipT, MP.g_zipL, MP.e_pZip, MP.e_xZp, MP.g_abs, MP.g_intI, MP.g_intB, MP.g_repT, MP.e_pLRng, MP.e_xLR, MP.f_Pop, MP.f_xPop, MP.s_AppF, MP.s_xAF0, MP.s_xAF, MP.s_xAF2, MP.g_inI, MP.g_ninI, MP.g_inT, MP.g_ninT, MP.g_ninST, MP.e_c2, MP.e_c3, MP.e_c4, MP.e_c5, MP.e_pIsi, MP.s_tryV, MP.s_raise, MP.s_raiseN, MP.e_pMt, MP.e_xMtL, MP.e_xMtK, MP.g_xor, MP.s_Raise, MP.s_xRa1, MP.s_xRa2, MP.s_RaiseN, MP.s_TryV, MP.s_xTVn, MP.s_xTVr, MP.s_xTVe, MP.s_tryC, MP.e_xDe, MP.e_x1e, MP.e_x2e, MP.e_xBe, MP.s_xExe, MP.s_xSVe, MP.s_xSOe, MP.s_xRte, MP.s_xIfe, MP.s_xTue, MP.s_xThe, MP.s_xEFe, MP.s_xSFe, MP.s_xRFe, MP.fe_exc, MP.t_exc, MP.n_xv, List.getElem?_cons_zero, List.getElem?_cons_succ, List.getElem?_nil, List.set_cons_zero, List.set_cons_succ, List.map_cons, List.map_nil, List.length_cons, List.length_nil, List.length_append, List.cons_append, List.nil_append, List.length_map, List.length_singleton, Nat.reduceBEq, Nat.reduceAdd, Nat.reduceSub, Nat.reduceMul, Nat.reduceEqDiff, Nat.reduceLeDiff, Nat.reduceLT, if_false, if_true, ite_true, ite_false, ↓reduceIte, Bool.not_true, Bool.not_false, Bool.false_eq_true, decide_true, decide_false, eq_self, and_true, true_and, and_self, Nat.zero_le, Nat.zero_add, Option.bind_some, Option.bind_none, Nat.lt_irrefl, Int.reduceToNat, Int.reducePow, Int.reduceNeg, Int.reduceMul, Int.reduceAdd, Int.reduceSub, Int.reduceLT, Int.reduceLE, Int.reduceEq, beq_self_eq_true, wipeE, MP.at0, MP.at1, MP.at2, MP.atLit]
    · have := hi0 i0 rfl
      omega
theorem m_loop_f (R C : Int) (es : List (Int × Int)) (h : ¬ amiss R C es.length) (v : Option D) (hv : (v = none ∧ ∀ i < es.length, ¬ bad R C es i) ∨ ∃ i0, v = some (.int (i0 : Nat)) ∧ i0 < es.length ∧ bad R C es i0 ∧ ∀ j < i0, ¬ bad R C es j) :
    sem_frame_of [.int R, .int C, .list (psD es)] [] = vdF R C es v := by
  unfold sem_frame_of
  refine run_ex (Q := fun r => r = vdF R C es v) [.v (.int R), .v (.int C), .v (.list (psD es)), .un, .un, .un] rfl ?_
  unfold b_frame_of k_MOST_WIRES k_MOST_KEYS
  have hl := psD_len es
  have en : ((psD es).length : Int) = (es.length : Int) := by omega
  unfold amiss at h
  have h1 : 1 ≤ R := by omega
  have h2 : R ≤ 6 := by omega
  have h3 : 1 ≤ C := by omega
  have h4 : C ≤ 6 := by omega
  have h5 : 1 ≤ (es.length : Int) := by omega
  have h6 : (es.length : Int) ≤ 12 := by omega
  refine sqR (s' := ⟨[.v (.int R), .v (.int C), .v (.list (psD es)), .un, .un, .un], []⟩) (by simp (disch := (first | assumption | with_reducible rfl | decide +kernel | exact Or.inl (by decide +kernel) | exact Or.inr (by decide +kernel) | omega | (simp only [List.length_cons, List.length_nil, List.length_append, List.length_map, List.length_replicate, List.length_range] <;> omega) | rfl)) only [MP.of_some, MP.map_some, MP.e_lv, MP.e_lo, MP.e_pD, MP.e_xDs, MP.e_xDf, MP.e_pC, MP.e_pYes, MP.e_pVar, MP.e_p2, MP.e_x2, MP.e_p1, MP.e_x1, MP.e_pB, MP.e_xB, MP.e_pNot, MP.e_xNot, MP.e_pAnd, MP.e_xAndT, MP.e_xAndF, MP.e_pOr, MP.e_xOrT, MP.e_xOrF, MP.e_pAndV, MP.e_xAndVT, MP.e_xAndVF, MP.e_pOrV, MP.e_xOrVT, MP.e_xOrVF, MP.e_pNotV, MP.e_xNotV, MP.e_pIf, MP.e_xIfT, MP.e_xIfF, MP.e_p3, MP.e_x3, MP.e_x3bT, MP.e_x3bF, MP.e_pNil, MP.e_pCons, MP.e_xCons, MP.e_pTup, MP.e_xTp, MP.e_pLst, MP.e_xLs, MP.e_pNo, MP.e_pSome, MP.e_xSo, MP.e_pSl, MP.e_xSl, MP.e_pCall, MP.e_xG, MP.e_pSeq, MP.e_xSq, MP.e_pSeqR, MP.e_xSqR, MP.e_pRng, MP.e_pEnum, MP.e_xEn, MP.e_pComp, MP.e_xC, MP.e_xC2, MP.e_pUser, MP.e_xU, MP.e_xFv, MP.e_xFo, MP.e_xFe, MP.e_pSeal, MP.e_xSe, MP.e_xSeFv, MP.e_xSeFo, MP.e_pLook, MP.e_xLo, MP.e_xLoF, MP.e_xLoO, MP.e_xLoE, MP.e_pFld, MP.e_xFd, MP.e_xOb, MP.e_xLk0, MP.e_xLk1, MP.e_c0, MP.e_c1, MP.g_add, MP.g_catS, MP.g_catL, MP.g_catT, MP.g_sub, MP.g_mul, MP.g_rep, MP.g_div, MP.g_mod, MP.g_pow, MP.g_shl, MP.g_shr, MP.g_and, MP.g_orI, MP.g_neg, MP.g_lt, MP.g_le, MP.g_gt, MP.g_ge, MP.g_eqI, MP.g_eqS, MP.g_eqBo, MP.g_neI, MP.g_neS, MP.g_neBo, MP.g_is, MP.g_isNot, MP.n_none, MP.n_int, MP.n_str, MP.n_tup, MP.n_list, MP.n_bool, MP.g_max, MP.g_min, MP.g_lenL, MP.g_lenK, MP.g_lenT, MP.g_listL, MP.g_listK, MP.g_listT, MP.g_tupL, MP.g_tupT, MP.q_list, MP.q_lk, MP.q_tup, MP.g_rng1, MP.g_rng2, MP.g_enumL, MP.g_enumK, MP.g_ixL, MP.g_ixK, MP.g_ixT, MP.g_slL, MP.g_slK, MP.g_slT, MP.s_Nil, MP.s_Brk, MP.s_Cont, MP.s_Seq, MP.s_xSn, MP.s_xSr, MP.s_xSb, MP.s_xSc, MP.s_xSe, MP.s_Expr, MP.s_xEx, MP.s_SetV, MP.s_xSV, MP.s_SetO, MP.s_xSOs, MP.s_xSOf, MP.s_Ret, MP.s_xRts, MP.s_xRtf, MP.s_RetN, MP.s_RetS, MP.s_xRSo, MP.s_xRSv, MP.s_If, MP.s_xIfT, MP.s_xIfF, MP.s_Tup, MP.s_xTu, MP.s_xTb, MP.s_For, MP.s_xFor, MP.s_App, MP.s_xAp, MP.s_Thaw, MP.s_xTh, MP.s_Frz, MP.s_xFzo, MP.s_xFzv, MP.s_ExprF, MP.s_xEF, MP.s_SetF, MP.s_xSF, MP.s_RetF, MP.s_xRF, MP.s_IfF, MP.s_xIFT, MP.s_xIFF, MP.s_FldN, MP.s_xN, MP.s_xN2, MP.s_xN3, MP.s_put0, MP.s_put1, MP.s_putN, MP.f_P, MP.f_xPs, MP.f_xPf, MP.f_User, MP.f_xFU, MP.f_Meth, MP.f_xM, MP.f_xM2, MP.f_Make, MP.f_xMk, MP.f_xMkF, MP.fe_ok, MP.r_run, MP.r_un, MP.r_un0, MP.r_nx, MP.r_ret, MP.r_exc, MP.t_nx, MP.t_cont, MP.t_brk, MP.t_ret, MP.b_nm, MP.b_tp2, MP.b_tp3, MP.t_bk, MP.fe_pop, MP.s_appF, MP.s_dead, MP.g_divmod, MP.g_sorted, MP.g_allB, MP.g_anyB, MP.g_sumI, MP.g_zipT, MP.g_zipL, MP.e_pZip, MP.e_xZp, MP.g_abs, MP.g_intI, MP.g_intB, MP.g_repT, MP.e_pLRng, MP.e_xLR, MP.f_Pop, MP.f_xPop, MP.s_AppF, MP.s_xAF0, MP.s_xAF, MP.s_xAF2, MP.g_inI, MP.g_ninI, MP.g_inT, MP.g_ninT, MP.g_ninST, MP.e_c2, MP.e_c3, MP.e_c4, MP.e_c5, MP.e_pIsi, MP.s_tryV, MP.s_raise, MP.s_raiseN, MP.e_pMt, MP.e_xMtL, MP.e_xMtK, MP.g_xor, MP.s_Raise, MP.s_xRa1, MP.s_xRa2, MP.s_RaiseN, MP.s_TryV, MP.s_xTVn, MP.s_xTVr, MP.s_xTVe, MP.s_tryC, MP.e_xDe, MP.e_x1e, MP.e_x2e, MP.e_xBe, MP.s_xExe, MP.s_xSVe, MP.s_xSOe, MP.s_xRte, MP.s_xIfe, MP.s_xTue, MP.s_xThe, MP.s_xEFe, MP.s_xSFe, MP.s_xRFe, MP.fe_exc, MP.t_exc, MP.n_xv, List.getElem?_cons_zero, List.getElem?_cons_succ, List.getElem?_nil, List.set_cons_zero, List.set_cons_succ, List.map_cons, List.map_nil, List.length_cons, List.length_nil, List.length_append, List.cons_append, List.nil_append, List.length_map, List.length_singleton, Nat.reduceBEq, Nat.reduceAdd, Nat.reduceSub, Nat.reduceMul, Nat.reduceEqDiff, Nat.reduceLeDiff, Nat.reduceLT, if_false, if_true, ite_true, ite_false, ↓reduceIte, Bool.not_true, Bool.not_false, Bool.false_eq_true, decide_true, decide_false, eq_self, and_true, true_and, and_self, Nat.zero_le, Nat.zero_add, Option.bind_some, Option.bind_none, Nat.lt_irrefl, Int.reduceToNat, Int.reducePow, Int.reduceNeg, Int.reduceMul, Int.reduceAdd, Int.reduceSub, Int.reduceLT, Int.reduceLE, Int.reduceEq, beq_self_eq_true, wipeE, MP.at0, MP.at1, MP.at2, MP.atLit, en, h1, h2, h3, h4, h5, h6]) ?_
  refine sq_for (P := fun fl => fl.fr = vdF R C es v) (rng 0 (es.length : Int)) (fun i s => (∀ i0 : Nat, v = some (.int (i0 : Int)) → i ≤ i0) ∧ ∃ x3 x4 x5, s = ⟨[.v (.int R), .v (.int C), .v (.list (psD es)), x3, x4, x5], []⟩) (by simp (disch := (first | assumption | with_reducible rfl | decide +kernel | exact Or.inl (by decide +kernel) | exact Or.inr (by decide +kernel) | omega | (simp only [List.length_cons, List.length_nil, List.length_append, List.length_map, List.length_replicate, List.length_range] <;> omega) | rfl)) only [MP.of_some, MP.map_some, MP.e_lv, MP.e_lo, MP.e_pD, MP.e_xDs, MP.e_xDf, MP.e_pC, MP.e_pYes, MP.e_pVar, MP.e_p2, MP.e_x2, MP.e_p1, MP.e_x1, MP.e_pB, MP.e_xB, MP.e_pNot, MP.e_xNot, MP.e_pAnd, MP.e_xAndT, MP.e_xAndF, MP.e_pOr, MP.e_xOrT, MP.e_xOrF, MP.e_pAndV, MP.e_xAndVT, MP.e_xAndVF, MP.e_pOrV, MP.e_xOrVT, MP.e_xOrVF, MP.e_pNotV, MP.e_xNotV, MP.e_pIf, MP.e_xIfT, MP.e_xIfF, MP.e_p3, MP.e_x3, MP.e_x3bT, MP.e_x3bF, MP.e_pNil, MP.e_pCons, MP.e_xCons, MP.e_pTup, MP.e_xTp, MP.e_pLst, MP.e_xLs, MP.e_pNo, MP.e_pSome, MP.e_xSo, MP.e_pSl, MP.e_xSl, MP.e_pCall, MP.e_xG, MP.e_pSeq, MP.e_xSq, MP.e_pSeqR, MP.e_xSqR, MP.e_pRng, MP.e_pEnum, MP.e_xEn, MP.e_pComp, MP.e_xC, MP.e_xC2, MP.e_pUser, MP.e_xU, MP.e_xFv, MP.e_xFo, MP.e_xFe, MP.e_pSeal, MP.e_xSe, MP.e_xSeFv, MP.e_xSeFo, MP.e_pLook, MP.e_xLo, MP.e_xLoF, MP.e_xLoO, MP.e_xLoE, MP.e_pFld, MP.e_xFd, MP.e_xOb, MP.e_xLk0, MP.e_xLk1, MP.e_c0, MP.e_c1, MP.g_add, MP.g_catS, MP.g_catL, MP.g_catT, MP.g_sub, MP.g_mul, MP.g_rep, MP.g_div, MP.g_mod, MP.g_pow, MP.g_shl, MP.g_shr, MP.g_and, MP.g_orI, MP.g_neg, MP.g_lt, MP.g_le, MP.g_gt, MP.g_ge, MP.g_eqI, MP.g_eqS, MP.g_eqBo, MP.g_neI, MP.g_neS, MP.g_neBo, MP.g_is, MP.g_isNot, MP.n_none, MP.n_int, MP.n_str, MP.n_tup, MP.n_list, MP.n_bool, MP.g_max, MP.g_min, MP.g_lenL, MP.g_lenK, MP.g_lenT, MP.g_listL, MP.g_listK, MP.g_listT, MP.g_tupL, MP.g_tupT, MP.q_list, MP.q_lk, MP.q_tup, MP.g_rng1, MP.g_rng2, MP.g_enumL, MP.g_enumK, MP.g_ixL, MP.g_ixK, MP.g_ixT, MP.g_slL, MP.g_slK, MP.g_slT, MP.s_Nil, MP.s_Brk, MP.s_Cont, MP.s_Seq, MP.s_xSn, MP.s_xSr, MP.s_xSb, MP.s_xSc, MP.s_xSe, MP.s_Expr, MP.s_xEx, MP.s_SetV, MP.s_xSV, MP.s_SetO, MP.s_xSOs, MP.s_xSOf, MP.s_Ret, MP.s_xRts, MP.s_xRtf, MP.s_RetN, MP.s_RetS, MP.s_xRSo, MP.s_xRSv, MP.s_If, MP.s_xIfT, MP.s_xIfF, MP.s_Tup, MP.s_xTu, MP.s_xTb, MP.s_For, MP.s_xFor, MP.s_App, MP.s_xAp, MP.s_Thaw, MP.s_xTh, MP.s_Frz, MP.s_xFzo, MP.s_xFzv, MP.s_ExprF, MP.s_xEF, MP.s_SetF, MP.s_xSF, MP.s_RetF, MP.s_xRF, MP.s_IfF, MP.s_xIFT, MP.s_xIFF, MP.s_FldN, MP.s_xN, MP.s_xN2, MP.s_xN3, MP.s_put0, MP.s_put1, MP.s_putN, MP.f_P, MP.f_xPs, MP.f_xPf, MP.f_User, MP.f_xFU, MP.f_Meth, MP.f_xM, MP.f_xM2, MP.f_Make, MP.f_xMk, MP.f_xMkF, MP.fe_ok, MP.r_run, MP.r_un, MP.r_un0, MP.r_nx, MP.r_ret, MP.r_exc, MP.t_nx, MP.t_cont, MP.t_brk, MP.t_ret, MP.b_nm, MP.b_tp2, MP.b_tp3, MP.t_bk, MP.fe_pop, MP.s_appF, MP.s_dead, MP.g_divmod, MP.g_sorted, MP.g_allB, MP.g_anyB, MP.g_sumI, MP.g_zipT, MP.g_zipL, MP.e_pZip, MP.e_xZp, MP.g_abs, MP.g_intI, MP.g_intB, MP.g_repT, MP.e_pLRng, MP.e_xLR, MP.f_Pop, MP.f_xPop, MP.s_AppF, MP.s_xAF0, MP.s_xAF, MP.s_xAF2, MP.g_inI, MP.g_ninI, MP.g_inT, MP.g_ninT, MP.g_ninST, MP.e_c2, MP.e_c3, MP.e_c4, MP.e_c5, MP.e_pIsi, MP.s_tryV, MP.s_raise, MP.s_raiseN, MP.e_pMt, MP.e_xMtL, MP.e_xMtK, MP.g_xor, MP.s_Raise, MP.s_xRa1, MP.s_xRa2, MP.s_RaiseN, MP.s_TryV, MP.s_xTVn, MP.s_xTVr, MP.s_xTVe, MP.s_tryC, MP.e_xDe, MP.e_x1e, MP.e_x2e, MP.e_xBe, MP.s_xExe, MP.s_xSVe, MP.s_xSOe, MP.s_xRte, MP.s_xIfe, MP.s_xTue, MP.s_xThe, MP.s_xEFe, MP.s_xSFe, MP.s_xRFe, MP.fe_exc, MP.t_exc, MP.n_xv, List.getElem?_cons_zero, List.getElem?_cons_succ, List.getElem?_nil, List.set_cons_zero, List.set_cons_succ, List.map_cons, List.map_nil, List.length_cons, List.length_nil, List.length_append, List.cons_append, List.nil_append, List.length_map, List.length_singleton, Nat.reduceBEq, Nat.reduceAdd, Nat.reduceSub, Nat.reduceMul, Nat.reduceEqDiff, Nat.reduceLeDiff, Nat.reduceLT, if_false, if_true, ite_true, ite_false, ↓reduceIte, Bool.not_true, Bool.not_false, Bool.false_eq_true, decide_true, decide_false, eq_self, and_true, true_and, and_self, Nat.zero_le, Nat.zero_add, Option.bind_some, Option.bind_none, Nat.lt_irrefl, Int.reduceToNat, Int.reducePow, Int.reduceNeg, Int.reduceMul, Int.reduceAdd, Int.reduceSub, Int.reduceLT, Int.reduceLE, Int.reduceEq, beq_self_eq_true, wipeE, MP.at0, MP.at1, MP.at2, MP.atLit, en]) ⟨fun _ _ => Nat.zero_le _, _, _, _, rfl⟩ ?_ ?_
  · rintro i d s hd ⟨hi0, x3, x4, x5, rfl⟩
    obtain ⟨rfl, hi⟩ := rngAt hd
    have hi : i < es.length := by omega
    refine ⟨_, b_nm .., ?_⟩
    show Turn _ _ (lp_frame_of_1 ⟨[.v (.int R), .v (.int C), .v (.list (psD es)), .v (.int (i : Int)), x4, x5], []⟩)
    rcases hv with ⟨rfl, hv⟩ | ⟨i0, rfl, h7, h8, h9⟩
    · obtain ⟨a, b, e⟩ := m_fo_ok R C es i hi (hv i hi) x4 x5
      rw [e]
      exact ⟨(fun i0 h => by cases h), _, _, _, rfl⟩
    · by_cases hlt : i < i0
      · obtain ⟨a, b, e⟩ := m_fo_ok R C es i hi (h9 i hlt) x4 x5
        rw [e]
        exact ⟨(fun i1 h => by injection h with h; injection h with h; omega), _, _, _, rfl⟩
      · have : i = i0 := by have := hi0 i0 rfl; omega
        subst this
        obtain ⟨s, e⟩ := m_fo_bad R C es i hi h8 x4 x5
        rw [e]
        rfl
  · rintro s ⟨hi0, x3, x4, x5, rfl⟩
    rw [rngLenN] at hi0
    rcases hv with ⟨rfl, hv⟩ | ⟨i0, rfl, h7, h8, h9⟩
    · unfold vdF
      simp (disch := (first | assumption | with_reducible rfl | decide +kernel | exact Or.inl (by decide +kernel) | exact Or.inr (by decide +kernel) | omega | (simp only [List.length_cons, List.length_nil, List.length_append, List.length_map, List.length_replicate, List.length_range] <;> omega) | rfl)) only [MP.of_some, MP.map_some, MP.e_lv, MP.e_lo, MP.e_pD, MP.e_xDs, MP.e_xDf, MP.e_pC, MP.e_pYes, MP.e_pVar, MP.e_p2, MP.e_x2, MP.e_p1, MP.e_x1, MP.e_pB, MP.e_xB, MP.e_pNot, MP.e_xNot, MP.e_pAnd, MP.e_xAndT, MP.e_xAndF, MP.e_pOr, MP.e_xOrT, MP.e_xOrF, MP.e_pAndV, MP.e_xAndVT, MP.e_xAndVF, MP.e_pOrV, MP.e_xOrVT, MP.e_xOrVF, MP.e_pNotV, MP.e_xNotV, MP.e_pIf, MP.e_xIfT, MP.e_xIfF, MP.e_p3, MP.e_x3, MP.e_x3bT, MP.e_x3bF, MP.e_pNil, MP.e_pCons, MP.e_xCons, MP.e_pTup, MP.e_xTp, MP.e_pLst, MP.e_xLs, MP.e_pNo, MP.e_pSome, MP.e_xSo, MP.e_pSl, MP.e_xSl, MP.e_pCall, MP.e_xG, MP.e_pSeq, MP.e_xSq, MP.e_pSeqR, MP.e_xSqR, MP.e_pRng, MP.e_pEnum, MP.e_xEn, MP.e_pComp, MP.e_xC, MP.e_xC2, MP.e_pUser, MP.e_xU, MP.e_xFv, MP.e_xFo, MP.e_xFe, MP.e_pSeal, MP.e_xSe, MP.e_xSeFv, MP.e_xSeFo, MP.e_pLook, MP.e_xLo, MP.e_xLoF, MP.e_xLoO, MP.e_xLoE, MP.e_pFld, MP.e_xFd, MP.e_xOb, MP.e_xLk0, MP.e_xLk1, MP.e_c0, MP.e_c1, MP.g_add, MP.g_catS, MP.g_catL, MP.g_catT, MP.g_sub, MP.g_mul, MP.g_rep, MP.g_div, MP.g_mod, MP.g_pow, MP.g_shl, MP.g_shr, MP.g_and, MP.g_orI, MP.g_neg, MP.g_lt, MP.g_le, MP.g_gt, MP.g_ge, MP.g_eqI, MP.g_eqS, MP.g_eqBo, MP.g_neI, MP.g_neS, MP.g_neBo, MP.g_is, MP.g_isNot, MP.n_none, MP.n_int, MP.n_str, MP.n_tup, MP.n_list, MP.n_bool, MP.g_max, MP.g_min, MP.g_lenL, MP.g_lenK, MP.g_lenT, MP.g_listL, MP.g_listK, MP.g_listT, MP.g_tupL, MP.g_tupT, MP.q_list, MP.q_lk, MP.q_tup, MP.g_rng1, MP.g_rng2, MP.g_enumL, MP.g_enumK, MP.g_ixL, MP.g_ixK, MP.g_ixT, MP.g_slL, MP.g_slK, MP.g_slT, MP.s_Nil, MP.s_Brk, MP.s_Cont, MP.s_Seq, MP.s_xSn, MP.s_xSr, MP.s_xSb, MP.s_xSc, MP.s_xSe, MP.s_Expr, MP.s_xEx, MP.s_SetV, MP.s_xSV, MP.s_SetO, MP.s_xSOs, MP.s_xSOf, MP.s_Ret, MP.s_xRts, MP.s_xRtf, MP.s_RetN, MP.s_RetS, MP.s_xRSo, MP.s_xRSv, MP.s_If, MP.s_xIfT, MP.s_xIfF, MP.s_Tup, MP.s_xTu, MP.s_xTb, MP.s_For, MP.s_xFor, MP.s_App, MP.s_xAp, MP.s_Thaw, MP.s_xTh, MP.s_Frz, MP.s_xFzo, MP.s_xFzv, MP.s_ExprF, MP.s_xEF, MP.s_SetF, MP.s_xSF, MP.s_RetF, MP.s_xRF, MP.s_IfF, MP.s_xIFT, MP.s_xIFF, MP.s_FldN, MP.s_xN, MP.s_xN2, MP.s_xN3, MP.s_put0, MP.s_put1, MP.s_putN, MP.f_P, MP.f_xPs, MP.f_xPf, MP.f_User, MP.f_xFU, MP.f_Meth, MP.f_xM, MP.f_xM2, MP.f_Make, MP.f_xMk, MP.f_xMkF, MP.fe_ok, MP.r_run, MP.r_un, MP.r_un0, MP.r_nx, MP.r_ret, MP.r_exc, MP.t_nx, MP.t_cont, MP.t_brk, MP.t_ret, MP.b_nm, MP.b_tp2, MP.b_tp3, MP.t_bk, MP.fe_pop, MP.s_appF, MP.s_dead, MP.g_divmod, MP.g_sorted, MP.g_allB, MP.g_anyB, MP.g_sumI, MP.g_zipT, MP.g_zipL, MP.e_pZip, MP.e_xZp, MP.g_abs, MP.g_intI, MP.g_intB, MP.g_repT, MP.e_pLRng, MP.e_xLR, MP.f_Pop, MP.f_xPop, MP.s_AppF, MP.s_xAF0, MP.s_xAF, MP.s_xAF2, MP.g_inI, MP.g_ninI, MP.g_inT, MP.g_ninT, MP.g_ninST, MP.e_c2, MP.e_c3, MP.e_c4, MP.e_c5, MP.e_pIsi, MP.s_tryV, MP.s_raise, MP.s_raiseN, MP.e_pMt, MP.e_xMtL, MP.e_xMtK, MP.g_xor, MP.s_Raise, MP.s_xRa1, MP.s_xRa2, MP.s_RaiseN, MP.s_TryV, MP.s_xTVn, MP.s_xTVr, MP.s_xTVe, MP.s_tryC, MP.e_xDe, MP.e_x1e, MP.e_x2e, MP.e_xBe, MP.s_xExe, MP.s_xSVe, MP.s_xSOe, MP.s_xRte, MP.s_xIfe, MP.s_xTue, MP.s_xThe, MP.s_xEFe, MP.s_xSFe, MP.s_xRFe, MP.fe_exc, MP.t_exc, MP.n_xv, List.getElem?_cons_zero, List.getElem?_cons_succ, List.getElem?_nil, List.set_cons_zero, List.set_cons_succ, List.map_cons, List.map_nil, List.length_cons, List.length_nil, List.length_append, List.cons_append, List.nil_append, List.length_map, List.length_singleton, Nat.reduceBEq, Nat.reduceAdd, Nat.reduceSub, Nat.reduceMul, Nat.reduceEqDiff, Nat.reduceLeDiff, Nat.reduceLT, if_false, if_true, ite_true, ite_false, ↓reduceIte, Bool.not_true, Bool.not_false, Bool.false_eq_true, decide_true, decide_false, eq_self, and_true, true_and, and_self, Nat.zero_le, Nat.zero_add, Option.bind_some, Option.bind_none, Nat.lt_irrefl, Int.reduceToNat, Int.reducePow, Int.reduceNeg, Int.reduceMul, Int.reduceAdd, Int.reduceSub, Int.reduceLT, Int.reduceLE, Int.reduceEq, beq_self_eq_true, wipeE, MP.at0, MP.at1, MP.at2, MP.atLit]
    · have := hi0 i0 rfl
      omega
theorem least (p : Nat → Prop) : ∀ n : Nat, (∀ i < n, ¬ p i) ∨ ∃ i0, i0 < n ∧ p i0 ∧ ∀ j < i0, ¬ p j
  | 0 => .inl fun i h => by omega
  | n + 1 => by
    rcases least p n with h | ⟨i0, h1, h2, h3⟩
    · by_cases hp : p n
      · exact .inr ⟨n, by omega, hp, h⟩
      · refine .inl fun i hi => ?_
        by_cases e : i = n
        · exact e ▸ hp
        · exact h i (by omega)
    · exact .inr ⟨i0, by omega, h2, h3⟩
theorem m_verdict (R C : Int) (es : List (Int × Int)) : ∃ v : Option D, (v = none ∨ v = some .none ∨ ∃ i : Int, v = some (.int i)) ∧ sem_l_first_bad [.int R, .int C, .list (psD es)] [] = .ok (.v (vdB v)) [] ∧ sem_frame_of [.int R, .int C, .list (psD es)] [] = vdF R C es v := by
  by_cases h : amiss R C es.length
  · exact ⟨some .none, .inr (.inl rfl), m_amiss_b R C es h, m_amiss_f R C es h⟩
  · rcases least (bad R C es) es.length with hv | ⟨i0, h1, h2, h3⟩
    · exact ⟨none, .inl rfl, m_loop_b R C es h none (.inl ⟨rfl, hv⟩), m_loop_f R C es h none (.inl ⟨rfl, hv⟩)⟩
    · exact ⟨some (.int (i0 : Int)), .inr (.inr ⟨_, rfl⟩), m_loop_b R C es h _ (.inr ⟨i0, rfl, h1, h2, h3⟩), m_loop_f R C es h _ (.inr ⟨i0, rfl, h1, h2, h3⟩)⟩
/-! ## what is refused -/
theorem m_whole (i : Int) : sem_l_whole [.int i] [] = .ok (.v (.bool true)) [] := by
  unfold sem_l_whole b_l_whole
  simp (disch := (first | assumption | with_reducible rfl | decide +kernel | exact Or.inl (by decide +kernel) | exact Or.inr (by decide +kernel) | omega | (simp only [List.length_cons, List.length_nil, List.length_append, List.length_map, List.length_replicate, List.length_range] <;> omega) | rfl)) only [MP.of_some, MP.map_some, MP.e_lv, MP.e_lo, MP.e_pD, MP.e_xDs, MP.e_xDf, MP.e_pC, MP.e_pYes, MP.e_pVar, MP.e_p2, MP.e_x2, MP.e_p1, MP.e_x1, MP.e_pB, MP.e_xB, MP.e_pNot, MP.e_xNot, MP.e_pAnd, MP.e_xAndT, MP.e_xAndF, MP.e_pOr, MP.e_xOrT, MP.e_xOrF, MP.e_pAndV, MP.e_xAndVT, MP.e_xAndVF, MP.e_pOrV, MP.e_xOrVT, MP.e_xOrVF, MP.e_pNotV, MP.e_xNotV, MP.e_pIf, MP.e_xIfT, MP.e_xIfF, MP.e_p3, MP.e_x3, MP.e_x3bT, MP.e_x3bF, MP.e_pNil, MP.e_pCons, MP.e_xCons, MP.e_pTup, MP.e_xTp, MP.e_pLst, MP.e_xLs, MP.e_pNo, MP.e_pSome, MP.e_xSo, MP.e_pSl, MP.e_xSl, MP.e_pCall, MP.e_xG, MP.e_pSeq, MP.e_xSq, MP.e_pSeqR, MP.e_xSqR, MP.e_pRng, MP.e_pEnum, MP.e_xEn, MP.e_pComp, MP.e_xC, MP.e_xC2, MP.e_pUser, MP.e_xU, MP.e_xFv, MP.e_xFo, MP.e_xFe, MP.e_pSeal, MP.e_xSe, MP.e_xSeFv, MP.e_xSeFo, MP.e_pLook, MP.e_xLo, MP.e_xLoF, MP.e_xLoO, MP.e_xLoE, MP.e_pFld, MP.e_xFd, MP.e_xOb, MP.e_xLk0, MP.e_xLk1, MP.e_c0, MP.e_c1, MP.g_add, MP.g_catS, MP.g_catL, MP.g_catT, MP.g_sub, MP.g_mul, MP.g_rep, MP.g_div, MP.g_mod, MP.g_pow, MP.g_shl, MP.g_shr, MP.g_and, MP.g_orI, MP.g_neg, MP.g_lt, MP.g_le, MP.g_gt, MP.g_ge, MP.g_eqI, MP.g_eqS, MP.g_eqBo, MP.g_neI, MP.g_neS, MP.g_neBo, MP.g_is, MP.g_isNot, MP.n_none, MP.n_int, MP.n_str, MP.n_tup, MP.n_list, MP.n_bool, MP.g_max, MP.g_min, MP.g_lenL, MP.g_lenK, MP.g_lenT, MP.g_listL, MP.g_listK, MP.g_listT, MP.g_tupL, MP.g_tupT, MP.q_list, MP.q_lk, MP.q_tup, MP.g_rng1, MP.g_rng2, MP.g_enumL, MP.g_enumK, MP.g_ixL, MP.g_ixK, MP.g_ixT, MP.g_slL, MP.g_slK, MP.g_slT, MP.s_Nil, MP.s_Brk, MP.s_Cont, MP.s_Seq, MP.s_xSn, MP.s_xSr, MP.s_xSb, MP.s_xSc, MP.s_xSe, MP.s_Expr, MP.s_xEx, MP.s_SetV, MP.s_xSV, MP.s_SetO, MP.s_xSOs, MP.s_xSOf, MP.s_Ret, MP.s_xRts, MP.s_xRtf, MP.s_RetN, MP.s_RetS, MP.s_xRSo, MP.s_xRSv, MP.s_If, MP.s_xIfT, MP.s_xIfF, MP.s_Tup, MP.s_xTu, MP.s_xTb, MP.s_For, MP.s_xFor, MP.s_App, MP.s_xAp, MP.s_Thaw, MP.s_xTh, MP.s_Frz, MP.s_xFzo, MP.s_xFzv, MP.s_ExprF, MP.s_xEF, MP.s_SetF, MP.s_xSF, MP.s_RetF, MP.s_xRF, MP.s_IfF, MP.s_xIFT, MP.s_xIFF, MP.s_FldN, MP.s_xN, MP.s_xN2, MP.s_xN3, MP.s_put0, MP.s_put1, MP.s_putN, MP.f_P, MP.f_xPs, MP.f_xPf, MP.f_User, MP.f_xFU, MP.f_Meth, MP.f_xM, MP.f_xM2, MP.f_Make, MP.f_xMk, MP.f_xMkF, MP.fe_ok, MP.r_run, MP.r_un, MP.r_un0, MP.r_nx, MP.r_ret, MP.r_exc, MP.t_nx, MP.t_cont, MP.t_brk, MP.t_ret, MP.b_nm, MP.b_tp2, MP.b_tp3, MP.t_bk, MP.fe_pop, MP.s_appF, MP.s_dead, MP.g_divmod, MP.g_sorted, MP.g_allB, MP.g_anyB, MP.g_sumI, MP.g_zipT, MP.g_zipL, MP.e_pZip, MP.e_xZp, MP.g_abs, MP.g_intI, MP.g_intB, MP.g_repT, MP.e_pLRng, MP.e_xLR, MP.f_Pop, MP.f_xPop, MP.s_AppF, MP.s_xAF0, MP.s_xAF, MP.s_xAF2, MP.g_inI, MP.g_ninI, MP.g_inT, MP.g_ninT, MP.g_ninST, MP.e_c2, MP.e_c3, MP.e_c4, MP.e_c5, MP.e_pIsi, MP.s_tryV, MP.s_raise, MP.s_raiseN, MP.e_pMt, MP.e_xMtL, MP.e_xMtK, MP.g_xor, MP.s_Raise, MP.s_xRa1, MP.s_xRa2, MP.s_RaiseN, MP.s_TryV, MP.s_xTVn, MP.s_xTVr, MP.s_xTVe, MP.s_tryC, MP.e_xDe, MP.e_x1e, MP.e_x2e, MP.e_xBe, MP.s_xExe, MP.s_xSVe, MP.s_xSOe, MP.s_xRte, MP.s_xIfe, MP.s_xTue, MP.s_xThe, MP.s_xEFe, MP.s_xSFe, MP.s_xRFe, MP.fe_exc, MP.t_exc, MP.n_xv, List.getElem?_cons_zero, List.getElem?_cons_succ, List.getElem?_nil, List.set_cons_zero, List.set_cons_succ, List.map_cons, List.map_nil, List.length_cons, List.length_nil, List.length_append, List.cons_append, List.nil_append, List.length_map, List.length_singleton, Nat.reduceBEq, Nat.reduceAdd, Nat.reduceSub, Nat.reduceMul, Nat.reduceEqDiff, Nat.reduceLeDiff, Nat.reduceLT, if_false, if_true, ite_true, ite_false, ↓reduceIte, Bool.not_true, Bool.not_false, Bool.false_eq_true, decide_true, decide_false, eq_self, and_true, true_and, and_self, Nat.zero_le, Nat.zero_add, Option.bind_some, Option.bind_none, Nat.lt_irrefl, Int.reduceToNat, Int.reducePow, Int.reduceNeg, Int.reduceMul, Int.reduceAdd, Int.reduceSub, Int.reduceLT, Int.reduceLE, Int.reduceEq, beq_self_eq_true, wipeE, MP.at0, MP.at1, MP.at2, MP.atLit, isiB, tyN]
  rfl
theorem m_classes (d : D) : sem_l_classes [.xv "NoFrame" [("place", d)]] [] = .ok (.v (.int 0)) [] := by
  unfold sem_l_classes b_l_classes
  have e1 : gCount [.bool true, .bool false, .bool false, .bool false, .bool false, .bool false, .bool false, .bool false, .bool false, .bool false] (.bool true) = some ⟨.sh, .int 1⟩ := by rfl
  have e2 : gIndex [.bool true, .bool false, .bool false, .bool false, .bool false, .bool false, .bool false, .bool false, .bool false, .bool false] (.bool true) = some ⟨.sh, .int 0⟩ := by rfl
  simp (disch := (first | assumption | with_reducible rfl | decide +kernel | exact Or.inl (by decide +kernel) | exact Or.inr (by decide +kernel) | omega | (simp only [List.length_cons, List.length_nil, List.length_append, List.length_map, List.length_replicate, List.length_range] <;> omega) | rfl)) only [MP.of_some, MP.map_some, MP.e_lv, MP.e_lo, MP.e_pD, MP.e_xDs, MP.e_xDf, MP.e_pC, MP.e_pYes, MP.e_pVar, MP.e_p2, MP.e_x2, MP.e_p1, MP.e_x1, MP.e_pB, MP.e_xB, MP.e_pNot, MP.e_xNot, MP.e_pAnd, MP.e_xAndT, MP.e_xAndF, MP.e_pOr, MP.e_xOrT, MP.e_xOrF, MP.e_pAndV, MP.e_xAndVT, MP.e_xAndVF, MP.e_pOrV, MP.e_xOrVT, MP.e_xOrVF, MP.e_pNotV, MP.e_xNotV, MP.e_pIf, MP.e_xIfT, MP.e_xIfF, MP.e_p3, MP.e_x3, MP.e_x3bT, MP.e_x3bF, MP.e_pNil, MP.e_pCons, MP.e_xCons, MP.e_pTup, MP.e_xTp, MP.e_pLst, MP.e_xLs, MP.e_pNo, MP.e_pSome, MP.e_xSo, MP.e_pSl, MP.e_xSl, MP.e_pCall, MP.e_xG, MP.e_pSeq, MP.e_xSq, MP.e_pSeqR, MP.e_xSqR, MP.e_pRng, MP.e_pEnum, MP.e_xEn, MP.e_pComp, MP.e_xC, MP.e_xC2, MP.e_pUser, MP.e_xU, MP.e_xFv, MP.e_xFo, MP.e_xFe, MP.e_pSeal, MP.e_xSe, MP.e_xSeFv, MP.e_xSeFo, MP.e_pLook, MP.e_xLo, MP.e_xLoF, MP.e_xLoO, MP.e_xLoE, MP.e_pFld, MP.e_xFd, MP.e_xOb, MP.e_xLk0, MP.e_xLk1, MP.e_c0, MP.e_c1, MP.g_add, MP.g_catS, MP.g_catL, MP.g_catT, MP.g_sub, MP.g_mul, MP.g_rep, MP.g_div, MP.g_mod, MP.g_pow, MP.g_shl, MP.g_shr, MP.g_and, MP.g_orI, MP.g_neg, MP.g_lt, MP.g_le, MP.g_gt, MP.g_ge, MP.g_eqI, MP.g_eqS, MP.g_eqBo, MP.g_neI, MP.g_neS, MP.g_neBo, MP.g_is, MP.g_isNot, MP.n_none, MP.n_int, MP.n_str, MP.n_tup, MP.n_list, MP.n_bool, MP.g_max, MP.g_min, MP.g_lenL, MP.g_lenK, MP.g_lenT, MP.g_listL, MP.g_listK, MP.g_listT, MP.g_tupL, MP.g_tupT, MP.q_list, MP.q_lk, MP.q_tup, MP.g_rng1, MP.g_rng2, MP.g_enumL, MP.g_enumK, MP.g_ixL, MP.g_ixK, MP.g_ixT, MP.g_slL, MP.g_slK, MP.g_slT, MP.s_Nil, MP.s_Brk, MP.s_Cont, MP.s_Seq, MP.s_xSn, MP.s_xSr, MP.s_xSb, MP.s_xSc, MP.s_xSe, MP.s_Expr, MP.s_xEx, MP.s_SetV, MP.s_xSV, MP.s_SetO, MP.s_xSOs, MP.s_xSOf, MP.s_Ret, MP.s_xRts, MP.s_xRtf, MP.s_RetN, MP.s_RetS, MP.s_xRSo, MP.s_xRSv, MP.s_If, MP.s_xIfT, MP.s_xIfF, MP.s_Tup, MP.s_xTu, MP.s_xTb, MP.s_For, MP.s_xFor, MP.s_App, MP.s_xAp, MP.s_Thaw, MP.s_xTh, MP.s_Frz, MP.s_xFzo, MP.s_xFzv, MP.s_ExprF, MP.s_xEF, MP.s_SetF, MP.s_xSF, MP.s_RetF, MP.s_xRF, MP.s_IfF, MP.s_xIFT, MP.s_xIFF, MP.s_FldN, MP.s_xN, MP.s_xN2, MP.s_xN3, MP.s_put0, MP.s_put1, MP.s_putN, MP.f_P, MP.f_xPs, MP.f_xPf, MP.f_User, MP.f_xFU, MP.f_Meth, MP.f_xM, MP.f_xM2, MP.f_Make, MP.f_xMk, MP.f_xMkF, MP.fe_ok, MP.r_run, MP.r_un, MP.r_un0, MP.r_nx, MP.r_ret, MP.r_exc, MP.t_nx, MP.t_cont, MP.t_brk, MP.t_ret, MP.b_nm, MP.b_tp2, MP.b_tp3, MP.t_bk, MP.fe_pop, MP.s_appF, MP.s_dead, MP.g_divmod, MP.g_sorted, MP.g_allB, MP.g_anyB, MP.g_sumI, MP.g_zipT, MP.g_zipL, MP.e_pZip, MP.e_xZp, MP.g_abs, MP.g_intI, MP.g_intB, MP.g_repT, MP.e_pLRng, MP.e_xLR, MP.f_Pop, MP.f_xPop, MP.s_AppF, MP.s_xAF0, MP.s_xAF, MP.s_xAF2, MP.g_inI, MP.g_ninI, MP.g_inT, MP.g_ninT, MP.g_ninST, MP.e_c2, MP.e_c3, MP.e_c4, MP.e_c5, MP.e_pIsi, MP.s_tryV, MP.s_raise, MP.s_raiseN, MP.e_pMt, MP.e_xMtL, MP.e_xMtK, MP.g_xor, MP.s_Raise, MP.s_xRa1, MP.s_xRa2, MP.s_RaiseN, MP.s_TryV, MP.s_xTVn, MP.s_xTVr, MP.s_xTVe, MP.s_tryC, MP.e_xDe, MP.e_x1e, MP.e_x2e, MP.e_xBe, MP.s_xExe, MP.s_xSVe, MP.s_xSOe, MP.s_xRte, MP.s_xIfe, MP.s_xTue, MP.s_xThe, MP.s_xEFe, MP.s_xSFe, MP.s_xRFe, MP.fe_exc, MP.t_exc, MP.n_xv, List.getElem?_cons_zero, List.getElem?_cons_succ, List.getElem?_nil, List.set_cons_zero, List.set_cons_succ, List.map_cons, List.map_nil, List.length_cons, List.length_nil, List.length_append, List.cons_append, List.nil_append, List.length_map, List.length_singleton, Nat.reduceBEq, Nat.reduceAdd, Nat.reduceSub, Nat.reduceMul, Nat.reduceEqDiff, Nat.reduceLeDiff, Nat.reduceLT, if_false, if_true, ite_true, ite_false, ↓reduceIte, Bool.not_true, Bool.not_false, Bool.false_eq_true, decide_true, decide_false, eq_self, and_true, true_and, and_self, Nat.zero_le, Nat.zero_add, Option.bind_some, Option.bind_none, Nat.lt_irrefl, Int.reduceToNat, Int.reducePow, Int.reduceNeg, Int.reduceMul, Int.reduceAdd, Int.reduceSub, Int.reduceLT, Int.reduceLE, Int.reduceEq, beq_self_eq_true, wipeE, MP.at0, MP.at1, MP.at2, MP.atLit, ct_BedError_NoFrame, gi_NoChord_NoFrame, gi_NoBed_NoFrame, gi_NoReading_NoFrame, gi_NoFrame_NoFrame, gi_NoBook_NoFrame, gi_NoKeys_NoFrame, gi_TooMany_NoFrame, gi_NoText_NoFrame, gi_NoRow_NoFrame, gi_NoWord_NoFrame, gi_ValueError_NoFrame, gx_place_NoFrame, e1, e2]
theorem m_refused (R C : Int) (l : List D) (d : D) (hd : d = .none ∨ ∃ i : Int, d = .int i) (h : sem_frame_of [.int R, .int C, .list l] [] = .exc ⟨"NoFrame", [("place", d)]⟩ []) : sem_l_refused [.int R, .int C, .list l] [] = .ok (.v (.tup [.bool true, d])) [] := by
  unfold sem_l_refused
  refine run_ex (Q := fun r => r = .ok (.v (.tup [.bool true, d])) []) [.v (.int R), .v (.int C), .v (.list l), .un, .un] rfl ?_
  unfold b_l_refused
  have hc := m_classes d
  rcases hd with rfl | ⟨i, rfl⟩
  · simp (disch := (first | assumption | with_reducible rfl | decide +kernel | exact Or.inl (by decide +kernel) | exact Or.inr (by decide +kernel) | omega | (simp only [List.length_cons, List.length_nil, List.length_append, List.length_map, List.length_replicate, List.length_range] <;> omega) | rfl)) only [MP.of_some, MP.map_some, MP.e_lv, MP.e_lo, MP.e_pD, MP.e_xDs, MP.e_xDf, MP.e_pC, MP.e_pYes, MP.e_pVar, MP.e_p2, MP.e_x2, MP.e_p1, MP.e_x1, MP.e_pB, MP.e_xB, MP.e_pNot, MP.e_xNot, MP.e_pAnd, MP.e_xAndT, MP.e_xAndF, MP.e_pOr, MP.e_xOrT, MP.e_xOrF, MP.e_pAndV, MP.e_xAndVT, MP.e_xAndVF, MP.e_pOrV, MP.e_xOrVT, MP.e_xOrVF, MP.e_pNotV, MP.e_xNotV, MP.e_pIf, MP.e_xIfT, MP.e_xIfF, MP.e_p3, MP.e_x3, MP.e_x3bT, MP.e_x3bF, MP.e_pNil, MP.e_pCons, MP.e_xCons, MP.e_pTup, MP.e_xTp, MP.e_pLst, MP.e_xLs, MP.e_pNo, MP.e_pSome, MP.e_xSo, MP.e_pSl, MP.e_xSl, MP.e_pCall, MP.e_xG, MP.e_pSeq, MP.e_xSq, MP.e_pSeqR, MP.e_xSqR, MP.e_pRng, MP.e_pEnum, MP.e_xEn, MP.e_pComp, MP.e_xC, MP.e_xC2, MP.e_pUser, MP.e_xU, MP.e_xFv, MP.e_xFo, MP.e_xFe, MP.e_pSeal, MP.e_xSe, MP.e_xSeFv, MP.e_xSeFo, MP.e_pLook, MP.e_xLo, MP.e_xLoF, MP.e_xLoO, MP.e_xLoE, MP.e_pFld, MP.e_xFd, MP.e_xOb, MP.e_xLk0, MP.e_xLk1, MP.e_c0, MP.e_c1, MP.g_add, MP.g_catS, MP.g_catL, MP.g_catT, MP.g_sub, MP.g_mul, MP.g_rep, MP.g_div, MP.g_mod, MP.g_pow, MP.g_shl, MP.g_shr, MP.g_and, MP.g_orI, MP.g_neg, MP.g_lt, MP.g_le, MP.g_gt, MP.g_ge, MP.g_eqI, MP.g_eqS, MP.g_eqBo, MP.g_neI, MP.g_neS, MP.g_neBo, MP.g_is, MP.g_isNot, MP.n_none, MP.n_int, MP.n_str, MP.n_tup, MP.n_list, MP.n_bool, MP.g_max, MP.g_min, MP.g_lenL, MP.g_lenK, MP.g_lenT, MP.g_listL, MP.g_listK, MP.g_listT, MP.g_tupL, MP.g_tupT, MP.q_list, MP.q_lk, MP.q_tup, MP.g_rng1, MP.g_rng2, MP.g_enumL, MP.g_enumK, MP.g_ixL, MP.g_ixK, MP.g_ixT, MP.g_slL, MP.g_slK, MP.g_slT, MP.s_Nil, MP.s_Brk, MP.s_Cont, MP.s_Seq, MP.s_xSn, MP.s_xSr, MP.s_xSb, MP.s_xSc, MP.s_xSe, MP.s_Expr, MP.s_xEx, MP.s_SetV, MP.s_xSV, MP.s_SetO, MP.s_xSOs, MP.s_xSOf, MP.s_Ret, MP.s_xRts, MP.s_xRtf, MP.s_RetN, MP.s_RetS, MP.s_xRSo, MP.s_xRSv, MP.s_If, MP.s_xIfT, MP.s_xIfF, MP.s_Tup, MP.s_xTu, MP.s_xTb, MP.s_For, MP.s_xFor, MP.s_App, MP.s_xAp, MP.s_Thaw, MP.s_xTh, MP.s_Frz, MP.s_xFzo, MP.s_xFzv, MP.s_ExprF, MP.s_xEF, MP.s_SetF, MP.s_xSF, MP.s_RetF, MP.s_xRF, MP.s_IfF, MP.s_xIFT, MP.s_xIFF, MP.s_FldN, MP.s_xN, MP.s_xN2, MP.s_xN3, MP.s_put0, MP.s_put1, MP.s_putN, MP.f_P, MP.f_xPs, MP.f_xPf, MP.f_User, MP.f_xFU, MP.f_Meth, MP.f_xM, MP.f_xM2, MP.f_Make, MP.f_xMk, MP.f_xMkF, MP.fe_ok, MP.r_run, MP.r_un, MP.r_un0, MP.r_nx, MP.r_ret, MP.r_exc, MP.t_nx, MP.t_cont, MP.t_brk, MP.t_ret, MP.b_nm, MP.b_tp2, MP.b_tp3, MP.t_bk, MP.fe_pop, MP.s_appF, MP.s_dead, MP.g_divmod, MP.g_sorted, MP.g_allB, MP.g_anyB, MP.g_sumI, MP.g_zipT, MP.g_zipL, MP.e_pZip, MP.e_xZp, MP.g_abs, MP.g_intI, MP.g_intB, MP.g_repT, MP.e_pLRng, MP.e_xLR, MP.f_Pop, MP.f_xPop, MP.s_AppF, MP.s_xAF0, MP.s_xAF, MP.s_xAF2, MP.g_inI, MP.g_ninI, MP.g_inT, MP.g_ninT, MP.g_ninST, MP.e_c2, MP.e_c3, MP.e_c4, MP.e_c5, MP.e_pIsi, MP.s_tryV, MP.s_raise, MP.s_raiseN, MP.e_pMt, MP.e_xMtL, MP.e_xMtK, MP.g_xor, MP.s_Raise, MP.s_xRa1, MP.s_xRa2, MP.s_RaiseN, MP.s_TryV, MP.s_xTVn, MP.s_xTVr, MP.s_xTVe, MP.s_tryC, MP.e_xDe, MP.e_x1e, MP.e_x2e, MP.e_xBe, MP.s_xExe, MP.s_xSVe, MP.s_xSOe, MP.s_xRte, MP.s_xIfe, MP.s_xTue, MP.s_xThe, MP.s_xEFe, MP.s_xSFe, MP.s_xRFe, MP.fe_exc, MP.t_exc, MP.n_xv, List.getElem?_cons_zero, List.getElem?_cons_succ, List.getElem?_nil, List.set_cons_zero, List.set_cons_succ, List.map_cons, List.map_nil, List.length_cons, List.length_nil, List.length_append, List.cons_append, List.nil_append, List.length_map, List.length_singleton, Nat.reduceBEq, Nat.reduceAdd, Nat.reduceSub, Nat.reduceMul, Nat.reduceEqDiff, Nat.reduceLeDiff, Nat.reduceLT, if_false, if_true, ite_true, ite_false, ↓reduceIte, Bool.not_true, Bool.not_false, Bool.false_eq_true, decide_true, decide_false, eq_self, and_true, true_and, and_self, Nat.zero_le, Nat.zero_add, Option.bind_some, Option.bind_none, Nat.lt_irrefl, Int.reduceToNat, Int.reducePow, Int.reduceNeg, Int.reduceMul, Int.reduceAdd, Int.reduceSub, Int.reduceLT, Int.reduceLE, Int.reduceEq, beq_self_eq_true, wipeE, MP.at0, MP.at1, MP.at2, MP.atLit, h, ct_BedError_NoFrame, gi_NoChord_NoFrame, gi_NoBed_NoFrame, gi_NoReading_NoFrame, gi_NoFrame_NoFrame, gi_NoBook_NoFrame, gi_NoKeys_NoFrame, gi_TooMany_NoFrame, gi_NoText_NoFrame, gi_NoRow_NoFrame, gi_NoWord_NoFrame, gi_ValueError_NoFrame, gx_place_NoFrame, hc]
  · have hw := m_whole i
    simp (disch := (first | assumption | with_reducible rfl | decide +kernel | exact Or.inl (by decide +kernel) | exact Or.inr (by decide +kernel) | omega | (simp only [List.length_cons, List.length_nil, List.length_append, List.length_map, List.length_replicate, List.length_range] <;> omega) | rfl)) only [MP.of_some, MP.map_some, MP.e_lv, MP.e_lo, MP.e_pD, MP.e_xDs, MP.e_xDf, MP.e_pC, MP.e_pYes, MP.e_pVar, MP.e_p2, MP.e_x2, MP.e_p1, MP.e_x1, MP.e_pB, MP.e_xB, MP.e_pNot, MP.e_xNot, MP.e_pAnd, MP.e_xAndT, MP.e_xAndF, MP.e_pOr, MP.e_xOrT, MP.e_xOrF, MP.e_pAndV, MP.e_xAndVT, MP.e_xAndVF, MP.e_pOrV, MP.e_xOrVT, MP.e_xOrVF, MP.e_pNotV, MP.e_xNotV, MP.e_pIf, MP.e_xIfT, MP.e_xIfF, MP.e_p3, MP.e_x3, MP.e_x3bT, MP.e_x3bF, MP.e_pNil, MP.e_pCons, MP.e_xCons, MP.e_pTup, MP.e_xTp, MP.e_pLst, MP.e_xLs, MP.e_pNo, MP.e_pSome, MP.e_xSo, MP.e_pSl, MP.e_xSl, MP.e_pCall, MP.e_xG, MP.e_pSeq, MP.e_xSq, MP.e_pSeqR, MP.e_xSqR, MP.e_pRng, MP.e_pEnum, MP.e_xEn, MP.e_pComp, MP.e_xC, MP.e_xC2, MP.e_pUser, MP.e_xU, MP.e_xFv, MP.e_xFo, MP.e_xFe, MP.e_pSeal, MP.e_xSe, MP.e_xSeFv, MP.e_xSeFo, MP.e_pLook, MP.e_xLo, MP.e_xLoF, MP.e_xLoO, MP.e_xLoE, MP.e_pFld, MP.e_xFd, MP.e_xOb, MP.e_xLk0, MP.e_xLk1, MP.e_c0, MP.e_c1, MP.g_add, MP.g_catS, MP.g_catL, MP.g_catT, MP.g_sub, MP.g_mul, MP.g_rep, MP.g_div, MP.g_mod, MP.g_pow, MP.g_shl, MP.g_shr, MP.g_and, MP.g_orI, MP.g_neg, MP.g_lt, MP.g_le, MP.g_gt, MP.g_ge, MP.g_eqI, MP.g_eqS, MP.g_eqBo, MP.g_neI, MP.g_neS, MP.g_neBo, MP.g_is, MP.g_isNot, MP.n_none, MP.n_int, MP.n_str, MP.n_tup, MP.n_list, MP.n_bool, MP.g_max, MP.g_min, MP.g_lenL, MP.g_lenK, MP.g_lenT, MP.g_listL, MP.g_listK, MP.g_listT, MP.g_tupL, MP.g_tupT, MP.q_list, MP.q_lk, MP.q_tup, MP.g_rng1, MP.g_rng2, MP.g_enumL, MP.g_enumK, MP.g_ixL, MP.g_ixK, MP.g_ixT, MP.g_slL, MP.g_slK, MP.g_slT, MP.s_Nil, MP.s_Brk, MP.s_Cont, MP.s_Seq, MP.s_xSn, MP.s_xSr, MP.s_xSb, MP.s_xSc, MP.s_xSe, MP.s_Expr, MP.s_xEx, MP.s_SetV, MP.s_xSV, MP.s_SetO, MP.s_xSOs, MP.s_xSOf, MP.s_Ret, MP.s_xRts, MP.s_xRtf, MP.s_RetN, MP.s_RetS, MP.s_xRSo, MP.s_xRSv, MP.s_If, MP.s_xIfT, MP.s_xIfF, MP.s_Tup, MP.s_xTu, MP.s_xTb, MP.s_For, MP.s_xFor, MP.s_App, MP.s_xAp, MP.s_Thaw, MP.s_xTh, MP.s_Frz, MP.s_xFzo, MP.s_xFzv, MP.s_ExprF, MP.s_xEF, MP.s_SetF, MP.s_xSF, MP.s_RetF, MP.s_xRF, MP.s_IfF, MP.s_xIFT, MP.s_xIFF, MP.s_FldN, MP.s_xN, MP.s_xN2, MP.s_xN3, MP.s_put0, MP.s_put1, MP.s_putN, MP.f_P, MP.f_xPs, MP.f_xPf, MP.f_User, MP.f_xFU, MP.f_Meth, MP.f_xM, MP.f_xM2, MP.f_Make, MP.f_xMk, MP.f_xMkF, MP.fe_ok, MP.r_run, MP.r_un, MP.r_un0, MP.r_nx, MP.r_ret, MP.r_exc, MP.t_nx, MP.t_cont, MP.t_brk, MP.t_ret, MP.b_nm, MP.b_tp2, MP.b_tp3, MP.t_bk, MP.fe_pop, MP.s_appF, MP.s_dead, MP.g_divmod, MP.g_sorted, MP.g_allB, MP.g_anyB, MP.g_sumI, MP.g_zipT, MP.g_zipL, MP.e_pZip, MP.e_xZp, MP.g_abs, MP.g_intI, MP.g_intB, MP.g_repT, MP.e_pLRng, MP.e_xLR, MP.f_Pop, MP.f_xPop, MP.s_AppF, MP.s_xAF0, MP.s_xAF, MP.s_xAF2, MP.g_inI, MP.g_ninI, MP.g_inT, MP.g_ninT, MP.g_ninST, MP.e_c2, MP.e_c3, MP.e_c4, MP.e_c5, MP.e_pIsi, MP.s_tryV, MP.s_raise, MP.s_raiseN, MP.e_pMt, MP.e_xMtL, MP.e_xMtK, MP.g_xor, MP.s_Raise, MP.s_xRa1, MP.s_xRa2, MP.s_RaiseN, MP.s_TryV, MP.s_xTVn, MP.s_xTVr, MP.s_xTVe, MP.s_tryC, MP.e_xDe, MP.e_x1e, MP.e_x2e, MP.e_xBe, MP.s_xExe, MP.s_xSVe, MP.s_xSOe, MP.s_xRte, MP.s_xIfe, MP.s_xTue, MP.s_xThe, MP.s_xEFe, MP.s_xSFe, MP.s_xRFe, MP.fe_exc, MP.t_exc, MP.n_xv, List.getElem?_cons_zero, List.getElem?_cons_succ, List.getElem?_nil, List.set_cons_zero, List.set_cons_succ, List.map_cons, List.map_nil, List.length_cons, List.length_nil, List.length_append, List.cons_append, List.nil_append, List.length_map, List.length_singleton, Nat.reduceBEq, Nat.reduceAdd, Nat.reduceSub, Nat.reduceMul, Nat.reduceEqDiff, Nat.reduceLeDiff, Nat.reduceLT, if_false, if_true, ite_true, ite_false, ↓reduceIte, Bool.not_true, Bool.not_false, Bool.false_eq_true, decide_true, decide_false, eq_self, and_true, true_and, and_self, Nat.zero_le, Nat.zero_add, Option.bind_some, Option.bind_none, Nat.lt_irrefl, Int.reduceToNat, Int.reducePow, Int.reduceNeg, Int.reduceMul, Int.reduceAdd, Int.reduceSub, Int.reduceLT, Int.reduceLE, Int.reduceEq, beq_self_eq_true, wipeE, MP.at0, MP.at1, MP.at2, MP.atLit, h, ct_BedError_NoFrame, gi_NoChord_NoFrame, gi_NoBed_NoFrame, gi_NoReading_NoFrame, gi_NoFrame_NoFrame, gi_NoBook_NoFrame, gi_NoKeys_NoFrame, gi_TooMany_NoFrame, gi_NoText_NoFrame, gi_NoRow_NoFrame, gi_NoWord_NoFrame, gi_ValueError_NoFrame, gx_place_NoFrame, hc, hw]
/-! ## spots spoilt, other numbers -/
theorem psD_last (es : List (Int × Int)) (h : 0 < es.length) : ∃ a b : Int, atI (psD es) (-1) = some (.tup [.int a, .int b]) := by
  have hl := psD_len es
  refine ⟨(es.getLast (by intro e; rw [e] at h; cases h)).1, (es.getLast (by intro e; rw [e] at h; cases h)).2, ?_⟩
  rw [atLast]
  unfold psD
  rw [List.getLast?_map, List.getLast?_eq_some_getLast (by intro e; rw [e] at h; cases h)]
  rfl
theorem psD_prev (es : List (Int × Int)) (v : Nat) (h : v < es.length) : ∃ a b : Int, atI (psD es) ((v : Int) - 1) = some (.tup [.int a, .int b]) := by
  cases v with
  | zero => exact psD_last es h
  | succ n =>
    have e : ((n + 1 : Nat) : Int) - 1 = (n : Int) := by omega
    rw [e]
    exact ⟨_, _, psD_at es n (by omega)⟩
theorem odd6 (a1 b1 a2 b2 a3 b3 a4 b4 a5 b5 a6 b6 : Int) (w : Nat) (hw : w < 6) : ∃ a b : Int, atI [D.tup [.int a1, .int b1], .tup [.int a2, .int b2], .tup [.int a3, .int b3], .tup [.int a4, .int b4], .tup [.int a5, .int b5], .tup [.int a6, .int b6]] (w : Int) = some (.tup [.int a, .int b]) := by
  rw [atN]
  rcases (by omega : w = 0 ∨ w = 1 ∨ w = 2 ∨ w = 3 ∨ w = 4 ∨ w = 5) with rfl | rfl | rfl | rfl | rfl | rfl <;> exact ⟨_, _, rfl⟩
theorem m_spoilt (es : List (Int × Int)) (h : 0 < es.length) (hb : es.length ≤ 100) (c R C : Int) : ∃ es' : List (Int × Int), 0 < es'.length ∧ es'.length ≤ es.length + 1 ∧ sem_l_spoilt [.list (psD es), .int c, .int R, .int C] [] = .ok (.own (.list (psD es'))) [] := by
  unfold sem_l_spoilt
  refine run_ex (Q := fun r => ∃ es' : List (Int × Int), 0 < es'.length ∧ es'.length ≤ es.length + 1 ∧ r = .ok (.own (.list (psD es'))) []) [.v (.list (psD es)), .v (.int c), .v (.int R), .v (.int C), .un, .un, .un, .un, .un] rfl ?_
  unfold b_l_spoilt
  have hl := psD_len es
  have en : ((psD es).length : Int) = (es.length : Int) := by omega
  obtain ⟨v, hv, e1⟩ := m_take c 5 (by decide) es.length h
  obtain ⟨w, hw, e2⟩ := m_take c 6 (by decide) 6 (by decide)
  have e1 : sem_l_take [.int c, .int 5, .int es.length] [] = .ok (.v (.int v)) [] := e1
  have e2 : sem_l_take [.int c, .int 6, .int 6] [] = .ok (.v (.int w)) [] := e2
  have e3 := psD_at es v hv
  generalize (es.getD v (0, 0)).1 = a at e3
  generalize (es.getD v (0, 0)).2 = b at e3
  refine sq (P := fun fl => ∃ es' : List (Int × Int), 0 < es'.length ∧ es'.length ≤ es.length + 1 ∧ fl.fr = .ok (.own (.list (psD es'))) []) (s' := ⟨[.v (.list (psD es)), .v (.int c), .v (.int R), .v (.int C), .v (.int v), .un, .un, .un, .un], []⟩) (by simp (disch := (first | assumption | with_reducible rfl | decide +kernel | exact Or.inl (by decide +kernel) | exact Or.inr (by decide +kernel) | omega | (simp only [List.length_cons, List.length_nil, List.length_append, List.length_map, List.length_replicate, List.length_range] <;> omega) | rfl)) only [MP.of_some, MP.map_some, MP.e_lv, MP.e_lo, MP.e_pD, MP.e_xDs, MP.e_xDf, MP.e_pC, MP.e_pYes, MP.e_pVar, MP.e_p2, MP.e_x2, MP.e_p1, MP.e_x1, MP.e_pB, MP.e_xB, MP.e_pNot, MP.e_xNot, MP.e_pAnd, MP.e_xAndT, MP.e_xAndF, MP.e_pOr, MP.e_xOrT, MP.e_xOrF, MP.e_pAndV, MP.e_xAndVT, MP.e_xAndVF, MP.e_pOrV, MP.e_xOrVT, MP.e_xOrVF, MP.e_pNotV, MP.e_xNotV, MP.e_pIf, MP.e_xIfT, MP.e_xIfF, MP.e_p3, MP.e_x3, MP.e_x3bT, MP.e_x3bF, MP.e_pNil, MP.e_pCons, MP.e_xCons, MP.e_pTup, MP.e_xTp, MP.e_pLst, MP.e_xLs, MP.e_pNo, MP.e_pSome, MP.e_xSo, MP.e_pSl, MP.e_xSl, MP.e_pCall, MP.e_xG, MP.e_pSeq, MP.e_xSq, MP.e_pSeqR, MP.e_xSqR, MP.e_pRng, MP.e_pEnum, MP.e_xEn, MP.e_pComp, MP.e_xC, MP.e_xC2, MP.e_pUser, MP.e_xU, MP.e_xFv, MP.e_xFo, MP.e_xFe, MP.e_pSeal, MP.e_xSe, MP.e_xSeFv, MP.e_xSeFo, MP.e_pLook, MP.e_xLo, MP.e_xLoF, MP.e_xLoO, MP.e_xLoE, MP.e_pFld, MP.e_xFd, MP.e_xOb, MP.e_xLk0, MP.e_xLk1, MP.e_c0, MP.e_c1, MP.g_add, MP.g_catS, MP.g_catL, MP.g_catT, MP.g_sub, MP.g_mul, MP.g_rep, MP.g_div, MP.g_mod, MP.g_pow, MP.g_shl, MP.g_shr, MP.g_and, MP.g_orI, MP.g_neg, MP.g_lt, MP.g_le, MP.g_gt, MP.g_ge, MP.g_eqI, MP.g_eqS, MP.g_eqBo, MP.g_neI, MP.g_neS, MP.g_neBo, MP.g_is, MP.g_isNot, MP.n_none, MP.n_int, MP.n_str, MP.n_tup, MP.n_list, MP.n_bool, MP.g_max, MP.g_min, MP.g_lenL, MP.g_lenK, MP.g_lenT, MP.g_listL, MP.g_listK, MP.g_listT, MP.g_tupL, MP.g_tupT, MP.q_list, MP.q_lk, MP.q_tup, MP.g_rng1, MP.g_rng2, MP.g_enumL, MP.g_enumK, MP.g_ixL, MP.g_ixK, MP.g_ixT, MP.g_slL, MP.g_slK, MP.g_slT, MP.s_Nil, MP.s_Brk, MP.s_Cont, MP.s_Seq, MP.s_xSn, MP.s_xSr, MP.s_xSb, MP.s_xSc, MP.s_xSe, MP.s_Expr, MP.s_xEx, MP.s_SetV, MP.s_xSV, MP.s_SetO, MP.s_xSOs, MP.s_xSOf, MP.s_Ret, MP.s_xRts, MP.s_xRtf, MP.s_RetN, MP.s_RetS, MP.s_xRSo, MP.s_xRSv, MP.s_If, MP.s_xIfT, MP.s_xIfF, MP.s_Tup, MP.s_xTu, MP.s_xTb, MP.s_For, MP.s_xFor, MP.s_App, MP.s_xAp, MP.s_Thaw, MP.s_xTh, MP.s_Frz, MP.s_xFzo, MP.s_xFzv, MP.s_ExprF, MP.s_xEF, MP.s_SetF, MP.s_xSF, MP.s_RetF, MP.s_xRF, MP.s_IfF, MP.s_xIFT, MP.s_xIFF, MP.s_FldN, MP.s_xN, MP.s_xN2, MP.s_xN3, MP.s_put0, MP.s_put1, MP.s_putN, MP.f_P, MP.f_xPs, MP.f_xPf, MP.f_User, MP.f_xFU, MP.f_Meth, MP.f_xM, MP.f_xM2, MP.f_Make, MP.f_xMk, MP.f_xMkF, MP.fe_ok, MP.r_run, MP.r_un, MP.r_un0, MP.r_nx, MP.r_ret, MP.r_exc, MP.t_nx, MP.t_cont, MP.t_brk, MP.t_ret, MP.b_nm, MP.b_tp2, MP.b_tp3, MP.t_bk, MP.fe_pop, MP.s_appF, MP.s_dead, MP.g_divmod, MP.g_sorted, MP.g_allB, MP.g_anyB, MP.g_sumI, MP.g_zipT, MP.g_zipL, MP.e_pZip, MP.e_xZp, MP.g_abs, MP.g_intI, MP.g_intB, MP.g_repT, MP.e_pLRng, MP.e_xLR, MP.f_Pop, MP.f_xPop, MP.s_AppF, MP.s_xAF0, MP.s_xAF, MP.s_xAF2, MP.g_inI, MP.g_ninI, MP.g_inT, MP.g_ninT, MP.g_ninST, MP.e_c2, MP.e_c3, MP.e_c4, MP.e_c5, MP.e_pIsi, MP.s_tryV, MP.s_raise, MP.s_raiseN, MP.e_pMt, MP.e_xMtL, MP.e_xMtK, MP.g_xor, MP.s_Raise, MP.s_xRa1, MP.s_xRa2, MP.s_RaiseN, MP.s_TryV, MP.s_xTVn, MP.s_xTVr, MP.s_xTVe, MP.s_tryC, MP.e_xDe, MP.e_x1e, MP.e_x2e, MP.e_xBe, MP.s_xExe, MP.s_xSVe, MP.s_xSOe, MP.s_xRte, MP.s_xIfe, MP.s_xTue, MP.s_xThe, MP.s_xEFe, MP.s_xSFe, MP.s_xRFe, MP.fe_exc, MP.t_exc, MP.n_xv, List.getElem?_cons_zero, List.getElem?_cons_succ, List.getElem?_nil, List.set_cons_zero, List.set_cons_succ, List.map_cons, List.map_nil, List.length_cons, List.length_nil, List.length_append, List.cons_append, List.nil_append, List.length_map, List.length_singleton, Nat.reduceBEq, Nat.reduceAdd, Nat.reduceSub, Nat.reduceMul, Nat.reduceEqDiff, Nat.reduceLeDiff, Nat.reduceLT, if_false, if_true, ite_true, ite_false, ↓reduceIte, Bool.not_true, Bool.not_false, Bool.false_eq_true, decide_true, decide_false, eq_self, and_true, true_and, and_self, Nat.zero_le, Nat.zero_add, Option.bind_some, Option.bind_none, Nat.lt_irrefl, Int.reduceToNat, Int.reducePow, Int.reduceNeg, Int.reduceMul, Int.reduceAdd, Int.reduceSub, Int.reduceLT, Int.reduceLE, Int.reduceEq, beq_self_eq_true, wipeE, MP.at0, MP.at1, MP.at2, MP.atLit, en, e1]) ?_
  refine sq (P := fun fl => ∃ es' : List (Int × Int), 0 < es'.length ∧ es'.length ≤ es.length + 1 ∧ fl.fr = .ok (.own (.list (psD es'))) []) (s' := ⟨[.v (.list (psD es)), .v (.int c), .v (.int R), .v (.int C), .v (.int v), .un, .un, .v (.int a), .v (.int b)], []⟩) (by simp (disch := (first | assumption | with_reducible rfl | decide +kernel | exact Or.inl (by decide +kernel) | exact Or.inr (by decide +kernel) | omega | (simp only [List.length_cons, List.length_nil, List.length_append, List.length_map, List.length_replicate, List.length_range] <;> omega) | rfl)) only [MP.of_some, MP.map_some, MP.e_lv, MP.e_lo, MP.e_pD, MP.e_xDs, MP.e_xDf, MP.e_pC, MP.e_pYes, MP.e_pVar, MP.e_p2, MP.e_x2, MP.e_p1, MP.e_x1, MP.e_pB, MP.e_xB, MP.e_pNot, MP.e_xNot, MP.e_pAnd, MP.e_xAndT, MP.e_xAndF, MP.e_pOr, MP.e_xOrT, MP.e_xOrF, MP.e_pAndV, MP.e_xAndVT, MP.e_xAndVF, MP.e_pOrV, MP.e_xOrVT, MP.e_xOrVF, MP.e_pNotV, MP.e_xNotV, MP.e_pIf, MP.e_xIfT, MP.e_xIfF, MP.e_p3, MP.e_x3, MP.e_x3bT, MP.e_x3bF, MP.e_pNil, MP.e_pCons, MP.e_xCons, MP.e_pTup, MP.e_xTp, MP.e_pLst, MP.e_xLs, MP.e_pNo, MP.e_pSome, MP.e_xSo, MP.e_pSl, MP.e_xSl, MP.e_pCall, MP.e_xG, MP.e_pSeq, MP.e_xSq, MP.e_pSeqR, MP.e_xSqR, MP.e_pRng, MP.e_pEnum, MP.e_xEn, MP.e_pComp, MP.e_xC, MP.e_xC2, MP.e_pUser, MP.e_xU, MP.e_xFv, MP.e_xFo, MP.e_xFe, MP.e_pSeal, MP.e_xSe, MP.e_xSeFv, MP.e_xSeFo, MP.e_pLook, MP.e_xLo, MP.e_xLoF, MP.e_xLoO, MP.e_xLoE, MP.e_pFld, MP.e_xFd, MP.e_xOb, MP.e_xLk0, MP.e_xLk1, MP.e_c0, MP.e_c1, MP.g_add, MP.g_catS, MP.g_catL, MP.g_catT, MP.g_sub, MP.g_mul, MP.g_rep, MP.g_div, MP.g_mod, MP.g_pow, MP.g_shl, MP.g_shr, MP.g_and, MP.g_orI, MP.g_neg, MP.g_lt, MP.g_le, MP.g_gt, MP.g_ge, MP.g_eqI, MP.g_eqS, MP.g_eqBo, MP.g_neI, MP.g_neS, MP.g_neBo, MP.g_is, MP.g_isNot, MP.n_none, MP.n_int, MP.n_str, MP.n_tup, MP.n_list, MP.n_bool, MP.g_max, MP.g_min, MP.g_lenL, MP.g_lenK, MP.g_lenT, MP.g_listL, MP.g_listK, MP.g_listT, MP.g_tupL, MP.g_tupT, MP.q_list, MP.q_lk, MP.q_tup, MP.g_rng1, MP.g_rng2, MP.g_enumL, MP.g_enumK, MP.g_ixL, MP.g_ixK, MP.g_ixT, MP.g_slL, MP.g_slK, MP.g_slT, MP.s_Nil, MP.s_Brk, MP.s_Cont, MP.s_Seq, MP.s_xSn, MP.s_xSr, MP.s_xSb, MP.s_xSc, MP.s_xSe, MP.s_Expr, MP.s_xEx, MP.s_SetV, MP.s_xSV, MP.s_SetO, MP.s_xSOs, MP.s_xSOf, MP.s_Ret, MP.s_xRts, MP.s_xRtf, MP.s_RetN, MP.s_RetS, MP.s_xRSo, MP.s_xRSv, MP.s_If, MP.s_xIfT, MP.s_xIfF, MP.s_Tup, MP.s_xTu, MP.s_xTb, MP.s_For, MP.s_xFor, MP.s_App, MP.s_xAp, MP.s_Thaw, MP.s_xTh, MP.s_Frz, MP.s_xFzo, MP.s_xFzv, MP.s_ExprF, MP.s_xEF, MP.s_SetF, MP.s_xSF, MP.s_RetF, MP.s_xRF, MP.s_IfF, MP.s_xIFT, MP.s_xIFF, MP.s_FldN, MP.s_xN, MP.s_xN2, MP.s_xN3, MP.s_put0, MP.s_put1, MP.s_putN, MP.f_P, MP.f_xPs, MP.f_xPf, MP.f_User, MP.f_xFU, MP.f_Meth, MP.f_xM, MP.f_xM2, MP.f_Make, MP.f_xMk, MP.f_xMkF, MP.fe_ok, MP.r_run, MP.r_un, MP.r_un0, MP.r_nx, MP.r_ret, MP.r_exc, MP.t_nx, MP.t_cont, MP.t_brk, MP.t_ret, MP.b_nm, MP.b_tp2, MP.b_tp3, MP.t_bk, MP.fe_pop, MP.s_appF, MP.s_dead, MP.g_divmod, MP.g_sorted, MP.g_allB, MP.g_anyB, MP.g_sumI, MP.g_zipT, MP.g_zipL, MP.e_pZip, MP.e_xZp, MP.g_abs, MP.g_intI, MP.g_intB, MP.g_repT, MP.e_pLRng, MP.e_xLR, MP.f_Pop, MP.f_xPop, MP.s_AppF, MP.s_xAF0, MP.s_xAF, MP.s_xAF2, MP.g_inI, MP.g_ninI, MP.g_inT, MP.g_ninT, MP.g_ninST, MP.e_c2, MP.e_c3, MP.e_c4, MP.e_c5, MP.e_pIsi, MP.s_tryV, MP.s_raise, MP.s_raiseN, MP.e_pMt, MP.e_xMtL, MP.e_xMtK, MP.g_xor, MP.s_Raise, MP.s_xRa1, MP.s_xRa2, MP.s_RaiseN, MP.s_TryV, MP.s_xTVn, MP.s_xTVr, MP.s_xTVe, MP.s_tryC, MP.e_xDe, MP.e_x1e, MP.e_x2e, MP.e_xBe, MP.s_xExe, MP.s_xSVe, MP.s_xSOe, MP.s_xRte, MP.s_xIfe, MP.s_xTue, MP.s_xThe, MP.s_xEFe, MP.s_xSFe, MP.s_xRFe, MP.fe_exc, MP.t_exc, MP.n_xv, List.getElem?_cons_zero, List.getElem?_cons_succ, List.getElem?_nil, List.set_cons_zero, List.set_cons_succ, List.map_cons, List.map_nil, List.length_cons, List.length_nil, List.length_append, List.cons_append, List.nil_append, List.length_map, List.length_singleton, Nat.reduceBEq, Nat.reduceAdd, Nat.reduceSub, Nat.reduceMul, Nat.reduceEqDiff, Nat.reduceLeDiff, Nat.reduceLT, if_false, if_true, ite_true, ite_false, ↓reduceIte, Bool.not_true, Bool.not_false, Bool.false_eq_true, decide_true, decide_false, eq_self, and_true, true_and, and_self, Nat.zero_le, Nat.zero_add, Option.bind_some, Option.bind_none, Nat.lt_irrefl, Int.reduceToNat, Int.reducePow, Int.reduceNeg, Int.reduceMul, Int.reduceAdd, Int.reduceSub, Int.reduceLT, Int.reduceLE, Int.reduceEq, beq_self_eq_true, wipeE, MP.at0, MP.at1, MP.at2, MP.atLit, e3]) ?_
  refine sq (P := fun fl => ∃ es' : List (Int × Int), 0 < es'.length ∧ es'.length ≤ es.length + 1 ∧ fl.fr = .ok (.own (.list (psD es'))) []) (s' := ⟨[.v (.list (psD es)), .v (.int c), .v (.int R), .v (.int C), .v (.int v), .v (.int w), .un, .v (.int a), .v (.int b)], []⟩) (by simp (disch := (first | assumption | with_reducible rfl | decide +kernel | exact Or.inl (by decide +kernel) | exact Or.inr (by decide +kernel) | omega | (simp only [List.length_cons, List.length_nil, List.length_append, List.length_map, List.length_replicate, List.length_range] <;> omega) | rfl)) only [MP.of_some, MP.map_some, MP.e_lv, MP.e_lo, MP.e_pD, MP.e_xDs, MP.e_xDf, MP.e_pC, MP.e_pYes, MP.e_pVar, MP.e_p2, MP.e_x2, MP.e_p1, MP.e_x1, MP.e_pB, MP.e_xB, MP.e_pNot, MP.e_xNot, MP.e_pAnd, MP.e_xAndT, MP.e_xAndF, MP.e_pOr, MP.e_xOrT, MP.e_xOrF, MP.e_pAndV, MP.e_xAndVT, MP.e_xAndVF, MP.e_pOrV, MP.e_xOrVT, MP.e_xOrVF, MP.e_pNotV, MP.e_xNotV, MP.e_pIf, MP.e_xIfT, MP.e_xIfF, MP.e_p3, MP.e_x3, MP.e_x3bT, MP.e_x3bF, MP.e_pNil, MP.e_pCons, MP.e_xCons, MP.e_pTup, MP.e_xTp, MP.e_pLst, MP.e_xLs, MP.e_pNo, MP.e_pSome, MP.e_xSo, MP.e_pSl, MP.e_xSl, MP.e_pCall, MP.e_xG, MP.e_pSeq, MP.e_xSq, MP.e_pSeqR, MP.e_xSqR, MP.e_pRng, MP.e_pEnum, MP.e_xEn, MP.e_pComp, MP.e_xC, MP.e_xC2, MP.e_pUser, MP.e_xU, MP.e_xFv, MP.e_xFo, MP.e_xFe, MP.e_pSeal, MP.e_xSe, MP.e_xSeFv, MP.e_xSeFo, MP.e_pLook, MP.e_xLo, MP.e_xLoF, MP.e_xLoO, MP.e_xLoE, MP.e_pFld, MP.e_xFd, MP.e_xOb, MP.e_xLk0, MP.e_xLk1, MP.e_c0, MP.e_c1, MP.g_add, MP.g_catS, MP.g_catL, MP.g_catT, MP.g_sub, MP.g_mul, MP.g_rep, MP.g_div, MP.g_mod, MP.g_pow, MP.g_shl, MP.g_shr, MP.g_and, MP.g_orI, MP.g_neg, MP.g_lt, MP.g_le, MP.g_gt, MP.g_ge, MP.g_eqI, MP.g_eqS, MP.g_eqBo, MP.g_neI, MP.g_neS, MP.g_neBo, MP.g_is, MP.g_isNot, MP.n_none, MP.n_int, MP.n_str, MP.n_tup, MP.n_list, MP.n_bool, MP.g_max, MP.g_min, MP.g_lenL, MP.g_lenK, MP.g_lenT, MP.g_listL, MP.g_listK, MP.g_listT, MP.g_tupL, MP.g_tupT, MP.q_list, MP.q_lk, MP.q_tup, MP.g_rng1, MP.g_rng2, MP.g_enumL, MP.g_enumK, MP.g_ixL, MP.g_ixK, MP.g_ixT, MP.g_slL, MP.g_slK, MP.g_slT, MP.s_Nil, MP.s_Brk, MP.s_Cont, MP.s_Seq, MP.s_xSn, MP.s_xSr, MP.s_xSb, MP.s_xSc, MP.s_xSe, MP.s_Expr, MP.s_xEx, MP.s_SetV, MP.s_xSV, MP.s_SetO, MP.s_xSOs, MP.s_xSOf, MP.s_Ret, MP.s_xRts, MP.s_xRtf, MP.s_RetN, MP.s_RetS, MP.s_xRSo, MP.s_xRSv, MP.s_If, MP.s_xIfT, MP.s_xIfF, MP.s_Tup, MP.s_xTu, MP.s_xTb, MP.s_For, MP.s_xFor, MP.s_App, MP.s_xAp, MP.s_Thaw, MP.s_xTh, MP.s_Frz, MP.s_xFzo, MP.s_xFzv, MP.s_ExprF, MP.s_xEF, MP.s_SetF, MP.s_xSF, MP.s_RetF, MP.s_xRF, MP.s_IfF, MP.s_xIFT, MP.s_xIFF, MP.s_FldN, MP.s_xN, MP.s_xN2, MP.s_xN3, MP.s_put0, MP.s_put1, MP.s_putN, MP.f_P, MP.f_xPs, MP.f_xPf, MP.f_User, MP.f_xFU, MP.f_Meth, MP.f_xM, MP.f_xM2, MP.f_Make, MP.f_xMk, MP.f_xMkF, MP.fe_ok, MP.r_run, MP.r_un, MP.r_un0, MP.r_nx, MP.r_ret, MP.r_exc, MP.t_nx, MP.t_cont, MP.t_brk, MP.t_ret, MP.b_nm, MP.b_tp2, MP.b_tp3, MP.t_bk, MP.fe_pop, MP.s_appF, MP.s_dead, MP.g_divmod, MP.g_sorted, MP.g_allB, MP.g_anyB, MP.g_sumI, MP.g_zipT, MP.g_zipL, MP.e_pZip, MP.e_xZp, MP.g_abs, MP.g_intI, MP.g_intB, MP.g_repT, MP.e_pLRng, MP.e_xLR, MP.f_Pop, MP.f_xPop, MP.s_AppF, MP.s_xAF0, MP.s_xAF, MP.s_xAF2, MP.g_inI, MP.g_ninI, MP.g_inT, MP.g_ninT, MP.g_ninST, MP.e_c2, MP.e_c3, MP.e_c4, MP.e_c5, MP.e_pIsi, MP.s_tryV, MP.s_raise, MP.s_raiseN, MP.e_pMt, MP.e_xMtL, MP.e_xMtK, MP.g_xor, MP.s_Raise, MP.s_xRa1, MP.s_xRa2, MP.s_RaiseN, MP.s_TryV, MP.s_xTVn, MP.s_xTVr, MP.s_xTVe, MP.s_tryC, MP.e_xDe, MP.e_x1e, MP.e_x2e, MP.e_xBe, MP.s_xExe, MP.s_xSVe, MP.s_xSOe, MP.s_xRte, MP.s_xIfe, MP.s_xTue, MP.s_xThe, MP.s_xEFe, MP.s_xSFe, MP.s_xRFe, MP.fe_exc, MP.t_exc, MP.n_xv, List.getElem?_cons_zero, List.getElem?_cons_succ, List.getElem?_nil, List.set_cons_zero, List.set_cons_succ, List.map_cons, List.map_nil, List.length_cons, List.length_nil, List.length_append, List.cons_append, List.nil_append, List.length_map, List.length_singleton, Nat.reduceBEq, Nat.reduceAdd, Nat.reduceSub, Nat.reduceMul, Nat.reduceEqDiff, Nat.reduceLeDiff, Nat.reduceLT, if_false, if_true, ite_true, ite_false, ↓reduceIte, Bool.not_true, Bool.not_false, Bool.false_eq_true, decide_true, decide_false, eq_self, and_true, true_and, and_self, Nat.zero_le, Nat.zero_add, Option.bind_some, Option.bind_none, Nat.lt_irrefl, Int.reduceToNat, Int.reducePow, Int.reduceNeg, Int.reduceMul, Int.reduceAdd, Int.reduceSub, Int.reduceLT, Int.reduceLE, Int.reduceEq, beq_self_eq_true, wipeE, MP.at0, MP.at1, MP.at2, MP.atLit, e2]) ?_
  by_cases h0 : (w : Int) = 0
  · have h0 : ((w : Int) = 0) = True := eq_true h0
    refine ⟨es ++ [(a, b)], by simp, by simp, ?_⟩
    have h7 : [D.tup [.int a, .int b]] = psD [(a, b)] := rfl
    have h8 : (psD [(a, b)]).length = 1 := rfl
    simp (disch := (first | assumption | with_reducible rfl | decide +kernel | exact Or.inl (by decide +kernel) | exact Or.inr (by decide +kernel) | omega | (simp only [List.length_cons, List.length_nil, List.length_append, List.length_map, List.length_replicate, List.length_range] <;> omega) | rfl)) only [MP.of_some, MP.map_some, MP.e_lv, MP.e_lo, MP.e_pD, MP.e_xDs, MP.e_xDf, MP.e_pC, MP.e_pYes, MP.e_pVar, MP.e_p2, MP.e_x2, MP.e_p1, MP.e_x1, MP.e_pB, MP.e_xB, MP.e_pNot, MP.e_xNot, MP.e_pAnd, MP.e_xAndT, MP.e_xAndF, MP.e_pOr, MP.e_xOrT, MP.e_xOrF, MP.e_pAndV, MP.e_xAndVT, MP.e_xAndVF, MP.e_pOrV, MP.e_xOrVT, MP.e_xOrVF, MP.e_pNotV, MP.e_xNotV, MP.e_pIf, MP.e_xIfT, MP.e_xIfF, MP.e_p3, MP.e_x3, MP.e_x3bT, MP.e_x3bF, MP.e_pNil, MP.e_pCons, MP.e_xCons, MP.e_pTup, MP.e_xTp, MP.e_pLst, MP.e_xLs, MP.e_pNo, MP.e_pSome, MP.e_xSo, MP.e_pSl, MP.e_xSl, MP.e_pCall, MP.e_xG, MP.e_pSeq, MP.e_xSq, MP.e_pSeqR, MP.e_xSqR, MP.e_pRng, MP.e_pEnum, MP.e_xEn, MP.e_pComp, MP.e_xC, MP.e_xC2, MP.e_pUser, MP.e_xU, MP.e_xFv, MP.e_xFo, MP.e_xFe, MP.e_pSeal, MP.e_xSe, MP.e_xSeFv, MP.e_xSeFo, MP.e_pLook, MP.e_xLo, MP.e_xLoF, MP.e_xLoO, MP.e_xLoE, MP.e_pFld, MP.e_xFd, MP.e_xOb, MP.e_xLk0, MP.e_xLk1, MP.e_c0, MP.e_c1, MP.g_add, MP.g_catS, MP.g_catL, MP.g_catT, MP.g_sub, MP.g_mul, MP.g_rep, MP.g_div, MP.g_mod, MP.g_pow, MP.g_shl, MP.g_shr, MP.g_and, MP.g_orI, MP.g_neg, MP.g_lt, MP.g_le, MP.g_gt, MP.g_ge, MP.g_eqI, MP.g_eqS, MP.g_eqBo, MP.g_neI, MP.g_neS, MP.g_neBo, MP.g_is, MP.g_isNot, MP.n_none, MP.n_int, MP.n_str, MP.n_tup, MP.n_list, MP.n_bool, MP.g_max, MP.g_min, MP.g_lenL, MP.g_lenK, MP.g_lenT, MP.g_listL, MP.g_listK, MP.g_listT, MP.g_tupL, MP.g_tupT, MP.q_list, MP.q_lk, MP.q_tup, MP.g_rng1, MP.g_rng2, MP.g_enumL, MP.g_enumK, MP.g_ixL, MP.g_ixK, MP.g_ixT, MP.g_slL, MP.g_slK, MP.g_slT, MP.s_Nil, MP.s_Brk, MP.s_Cont, MP.s_Seq, MP.s_xSn, MP.s_xSr, MP.s_xSb, MP.s_xSc, MP.s_xSe, MP.s_Expr, MP.s_xEx, MP.s_SetV, MP.s_xSV, MP.s_SetO, MP.s_xSOs, MP.s_xSOf, MP.s_Ret, MP.s_xRts, MP.s_xRtf, MP.s_RetN, MP.s_RetS, MP.s_xRSo, MP.s_xRSv, MP.s_If, MP.s_xIfT, MP.s_xIfF, MP.s_Tup, MP.s_xTu, MP.s_xTb, MP.s_For, MP.s_xFor, MP.s_App, MP.s_xAp, MP.s_Thaw, MP.s_xTh, MP.s_Frz, MP.s_xFzo, MP.s_xFzv, MP.s_ExprF, MP.s_xEF, MP.s_SetF, MP.s_xSF, MP.s_RetF, MP.s_xRF, MP.s_IfF, MP.s_xIFT, MP.s_xIFF, MP.s_FldN, MP.s_xN, MP.s_xN2, MP.s_xN3, MP.s_put0, MP.s_put1, MP.s_putN, MP.f_P, MP.f_xPs, MP.f_xPf, MP.f_User, MP.f_xFU, MP.f_Meth, MP.f_xM, MP.f_xM2, MP.f_Make, MP.f_xMk, MP.f_xMkF, MP.fe_ok, MP.r_run, MP.r_un, MP.r_un0, MP.r_nx, MP.r_ret, MP.r_exc, MP.t_nx, MP.t_cont, MP.t_brk, MP.t_ret, MP.b_nm, MP.b_tp2, MP.b_tp3, MP.t_bk, MP.fe_pop, MP.s_appF, MP.s_dead, MP.g_divmod, MP.g_sorted, MP.g_allB, MP.g_anyB, MP.g_sumI, MP.g_zipT, MP.g_zipL, MP.e_pZip, MP.e_xZp, MP.g_abs, MP.g_intI, MP.g_intB, MP.g_repT, MP.e_pLRng, MP.e_xLR, MP.f_Pop, MP.f_xPop, MP.s_AppF, MP.s_xAF0, MP.s_xAF, MP.s_xAF2, MP.g_inI, MP.g_ninI, MP.g_inT, MP.g_ninT, MP.g_ninST, MP.e_c2, MP.e_c3, MP.e_c4, MP.e_c5, MP.e_pIsi, MP.s_tryV, MP.s_raise, MP.s_raiseN, MP.e_pMt, MP.e_xMtL, MP.e_xMtK, MP.g_xor, MP.s_Raise, MP.s_xRa1, MP.s_xRa2, MP.s_RaiseN, MP.s_TryV, MP.s_xTVn, MP.s_xTVr, MP.s_xTVe, MP.s_tryC, MP.e_xDe, MP.e_x1e, MP.e_x2e, MP.e_xBe, MP.s_xExe, MP.s_xSVe, MP.s_xSOe, MP.s_xRte, MP.s_xIfe, MP.s_xTue, MP.s_xThe, MP.s_xEFe, MP.s_xSFe, MP.s_xRFe, MP.fe_exc, MP.t_exc, MP.n_xv, List.getElem?_cons_zero, List.getElem?_cons_succ, List.getElem?_nil, List.set_cons_zero, List.set_cons_succ, List.map_cons, List.map_nil, List.length_cons, List.length_nil, List.length_append, List.cons_append, List.nil_append, List.length_map, List.length_singleton, Nat.reduceBEq, Nat.reduceAdd, Nat.reduceSub, Nat.reduceMul, Nat.reduceEqDiff, Nat.reduceLeDiff, Nat.reduceLT, if_false, if_true, ite_true, ite_false, ↓reduceIte, Bool.not_true, Bool.not_false, Bool.false_eq_true, decide_true, decide_false, eq_self, and_true, true_and, and_self, Nat.zero_le, Nat.zero_add, Option.bind_some, Option.bind_none, Nat.lt_irrefl, Int.reduceToNat, Int.reducePow, Int.reduceNeg, Int.reduceMul, Int.reduceAdd, Int.reduceSub, Int.reduceLT, Int.reduceLE, Int.reduceEq, beq_self_eq_true, wipeE, MP.at0, MP.at1, MP.at2, MP.atLit, h0, e3, h7, psD_app]
  · refine sq (P := fun fl => ∃ es' : List (Int × Int), 0 < es'.length ∧ es'.length ≤ es.length + 1 ∧ fl.fr = .ok (.own (.list (psD es'))) []) (s' := ⟨[.v (.list (psD es)), .v (.int c), .v (.int R), .v (.int C), .v (.int v), .v (.int w), .un, .v (.int a), .v (.int b)], []⟩) (by simp (disch := (first | assumption | with_reducible rfl | decide +kernel | exact Or.inl (by decide +kernel) | exact Or.inr (by decide +kernel) | omega | (simp only [List.length_cons, List.length_nil, List.length_append, List.length_map, List.length_replicate, List.length_range] <;> omega) | rfl)) only [MP.of_some, MP.map_some, MP.e_lv, MP.e_lo, MP.e_pD, MP.e_xDs, MP.e_xDf, MP.e_pC, MP.e_pYes, MP.e_pVar, MP.e_p2, MP.e_x2, MP.e_p1, MP.e_x1, MP.e_pB, MP.e_xB, MP.e_pNot, MP.e_xNot, MP.e_pAnd, MP.e_xAndT, MP.e_xAndF, MP.e_pOr, MP.e_xOrT, MP.e_xOrF, MP.e_pAndV, MP.e_xAndVT, MP.e_xAndVF, MP.e_pOrV, MP.e_xOrVT, MP.e_xOrVF, MP.e_pNotV, MP.e_xNotV, MP.e_pIf, MP.e_xIfT, MP.e_xIfF, MP.e_p3, MP.e_x3, MP.e_x3bT, MP.e_x3bF, MP.e_pNil, MP.e_pCons, MP.e_xCons, MP.e_pTup, MP.e_xTp, MP.e_pLst, MP.e_xLs, MP.e_pNo, MP.e_pSome, MP.e_xSo, MP.e_pSl, MP.e_xSl, MP.e_pCall, MP.e_xG, MP.e_pSeq, MP.e_xSq, MP.e_pSeqR, MP.e_xSqR, MP.e_pRng, MP.e_pEnum, MP.e_xEn, MP.e_pComp, MP.e_xC, MP.e_xC2, MP.e_pUser, MP.e_xU, MP.e_xFv, MP.e_xFo, MP.e_xFe, MP.e_pSeal, MP.e_xSe, MP.e_xSeFv, MP.e_xSeFo, MP.e_pLook, MP.e_xLo, MP.e_xLoF, MP.e_xLoO, MP.e_xLoE, MP.e_pFld, MP.e_xFd, MP.e_xOb, MP.e_xLk0, MP.e_xLk1, MP.e_c0, MP.e_c1, MP.g_add, MP.g_catS, MP.g_catL, MP.g_catT, MP.g_sub, MP.g_mul, MP.g_rep, MP.g_div, MP.g_mod, MP.g_pow, MP.g_shl, MP.g_shr, MP.g_and, MP.g_orI, MP.g_neg, MP.g_lt, MP.g_le, MP.g_gt, MP.g_ge, MP.g_eqI, MP.g_eqS, MP.g_eqBo, MP.g_neI, MP.g_neS, MP.g_neBo, MP.g_is, MP.g_isNot, MP.n_none, MP.n_int, MP.n_str, MP.n_tup, MP.n_list, MP.n_bool, MP.g_max, MP.g_min, MP.g_lenL, MP.g_lenK, MP.g_lenT, MP.g_listL, MP.g_listK, MP.g_listT, MP.g_tupL, MP.g_tupT, MP.q_list, MP.q_lk, MP.q_tup, MP.g_rng1, MP.g_rng2, MP.g_enumL, MP.g_enumK, MP.g_ixL, MP.g_ixK, MP.g_ixT, MP.g_slL, MP.g_slK, MP.g_slT, MP.s_Nil, MP.s_Brk, MP.s_Cont, MP.s_Seq, MP.s_xSn, MP.s_xSr, MP.s_xSb, MP.s_xSc, MP.s_xSe, MP.s_Expr, MP.s_xEx, MP.s_SetV, MP.s_xSV, MP.s_SetO, MP.s_xSOs, MP.s_xSOf, MP.s_Ret, MP.s_xRts, MP.s_xRtf, MP.s_RetN, MP.s_RetS, MP.s_xRSo, MP.s_xRSv, MP.s_If, MP.s_xIfT, MP.s_xIfF, MP.s_Tup, MP.s_xTu, MP.s_xTb, MP.s_For, MP.s_xFor, MP.s_App, MP.s_xAp, MP.s_Thaw, MP.s_xTh, MP.s_Frz, MP.s_xFzo, MP.s_xFzv, MP.s_ExprF, MP.s_xEF, MP.s_SetF, MP.s_xSF, MP.s_RetF, MP.s_xRF, MP.s_IfF, MP.s_xIFT, MP.s_xIFF, MP.s_FldN, MP.s_xN, MP.s_xN2, MP.s_xN3, MP.s_put0, MP.s_put1, MP.s_putN, MP.f_P, MP.f_xPs, MP.f_xPf, MP.f_User, MP.f_xFU, MP.f_Meth, MP.f_xM, MP.f_xM2, MP.f_Make, MP.f_xMk, MP.f_xMkF, MP.fe_ok, MP.r_run, MP.r_un, MP.r_un0, MP.r_nx, MP.r_ret, MP.r_exc, MP.t_nx, MP.t_cont, MP.t_brk, MP.t_ret, MP.b_nm, MP.b_tp2, MP.b_tp3, MP.t_bk, MP.fe_pop, MP.s_appF, MP.s_dead, MP.g_divmod, MP.g_sorted, MP.g_allB, MP.g_anyB, MP.g_sumI, MP.g_zipT, MP.g_zipL, MP.e_pZip, MP.e_xZp, MP.g_abs, MP.g_intI, MP.g_intB, MP.g_repT, MP.e_pLRng, MP.e_xLR, MP.f_Pop, MP.f_xPop, MP.s_AppF, MP.s_xAF0, MP.s_xAF, MP.s_xAF2, MP.g_inI, MP.g_ninI, MP.g_inT, MP.g_ninT, MP.g_ninST, MP.e_c2, MP.e_c3, MP.e_c4, MP.e_c5, MP.e_pIsi, MP.s_tryV, MP.s_raise, MP.s_raiseN, MP.e_pMt, MP.e_xMtL, MP.e_xMtK, MP.g_xor, MP.s_Raise, MP.s_xRa1, MP.s_xRa2, MP.s_RaiseN, MP.s_TryV, MP.s_xTVn, MP.s_xTVr, MP.s_xTVe, MP.s_tryC, MP.e_xDe, MP.e_x1e, MP.e_x2e, MP.e_xBe, MP.s_xExe, MP.s_xSVe, MP.s_xSOe, MP.s_xRte, MP.s_xIfe, MP.s_xTue, MP.s_xThe, MP.s_xEFe, MP.s_xSFe, MP.s_xRFe, MP.fe_exc, MP.t_exc, MP.n_xv, List.getElem?_cons_zero, List.getElem?_cons_succ, List.getElem?_nil, List.set_cons_zero, List.set_cons_succ, List.map_cons, List.map_nil, List.length_cons, List.length_nil, List.length_append, List.cons_append, List.nil_append, List.length_map, List.length_singleton, Nat.reduceBEq, Nat.reduceAdd, Nat.reduceSub, Nat.reduceMul, Nat.reduceEqDiff, Nat.reduceLeDiff, Nat.reduceLT, if_false, if_true, ite_true, ite_false, ↓reduceIte, Bool.not_true, Bool.not_false, Bool.false_eq_true, decide_true, decide_false, eq_self, and_true, true_and, and_self, Nat.zero_le, Nat.zero_add, Option.bind_some, Option.bind_none, Nat.lt_irrefl, Int.reduceToNat, Int.reducePow, Int.reduceNeg, Int.reduceMul, Int.reduceAdd, Int.reduceSub, Int.reduceLT, Int.reduceLE, Int.reduceEq, beq_self_eq_true, wipeE, MP.at0, MP.at1, MP.at2, MP.atLit, h0]) ?_
    obtain ⟨a1, b1, e4⟩ := psD_prev es v hv
    obtain ⟨a2, b2, e5⟩ := odd6 a1 b1 a C R b (-1) b a (-1 - b) (R + 1000000000000000000) 0 w hw
    refine sq (P := fun fl => ∃ es' : List (Int × Int), 0 < es'.length ∧ es'.length ≤ es.length + 1 ∧ fl.fr = .ok (.own (.list (psD es'))) []) (s' := ⟨[.v (.list (psD es)), .v (.int c), .v (.int R), .v (.int C), .v (.int v), .v (.int w), .v (.tup [.int a2, .int b2]), .v (.int a), .v (.int b)], []⟩) (by simp (disch := (first | assumption | with_reducible rfl | decide +kernel | exact Or.inl (by decide +kernel) | exact Or.inr (by decide +kernel) | omega | (simp only [List.length_cons, List.length_nil, List.length_append, List.length_map, List.length_replicate, List.length_range] <;> omega) | rfl)) only [MP.of_some, MP.map_some, MP.e_lv, MP.e_lo, MP.e_pD, MP.e_xDs, MP.e_xDf, MP.e_pC, MP.e_pYes, MP.e_pVar, MP.e_p2, MP.e_x2, MP.e_p1, MP.e_x1, MP.e_pB, MP.e_xB, MP.e_pNot, MP.e_xNot, MP.e_pAnd, MP.e_xAndT, MP.e_xAndF, MP.e_pOr, MP.e_xOrT, MP.e_xOrF, MP.e_pAndV, MP.e_xAndVT, MP.e_xAndVF, MP.e_pOrV, MP.e_xOrVT, MP.e_xOrVF, MP.e_pNotV, MP.e_xNotV, MP.e_pIf, MP.e_xIfT, MP.e_xIfF, MP.e_p3, MP.e_x3, MP.e_x3bT, MP.e_x3bF, MP.e_pNil, MP.e_pCons, MP.e_xCons, MP.e_pTup, MP.e_xTp, MP.e_pLst, MP.e_xLs, MP.e_pNo, MP.e_pSome, MP.e_xSo, MP.e_pSl, MP.e_xSl, MP.e_pCall, MP.e_xG, MP.e_pSeq, MP.e_xSq, MP.e_pSeqR, MP.e_xSqR, MP.e_pRng, MP.e_pEnum, MP.e_xEn, MP.e_pComp, MP.e_xC, MP.e_xC2, MP.e_pUser, MP.e_xU, MP.e_xFv, MP.e_xFo, MP.e_xFe, MP.e_pSeal, MP.e_xSe, MP.e_xSeFv, MP.e_xSeFo, MP.e_pLook, MP.e_xLo, MP.e_xLoF, MP.e_xLoO, MP.e_xLoE, MP.e_pFld, MP.e_xFd, MP.e_xOb, MP.e_xLk0, MP.e_xLk1, MP.e_c0, MP.e_c1, MP.g_add, MP.g_catS, MP.g_catL, MP.g_catT, MP.g_sub, MP.g_mul, MP.g_rep, MP.g_div, MP.g_mod, MP.g_pow, MP.g_shl, MP.g_shr, MP.g_and, MP.g_orI, MP.g_neg, MP.g_lt, MP.g_le, MP.g_gt, MP.g_ge, MP.g_eqI, MP.g_eqS, MP.g_eqBo, MP.g_neI, MP.g_neS, MP.g_neBo, MP.g_is, MP.g_isNot, MP.n_none, MP.n_int, MP.n_str, MP.n_tup, MP.n_list, MP.n_bool, MP.g_max, MP.g_min, MP.g_lenL, MP.g_lenK, MP.g_lenT, MP.g_listL, MP.g_listK, MP.g_listT, MP.g_tupL, MP.g_tupT, MP.q_list, MP.q_lk, MP.q_tup, MP.g_rng1, MP.g_rng2, MP.g_enumL, MP.g_enumK, MP.g_ixL, MP.g_ixK, MP.g_ixT, MP.g_slL, MP.g_slK, MP.g_slT, MP.s_Nil, MP.s_Brk, MP.s_Cont, MP.s_Seq, MP.s_xSn, MP.s_xSr, MP.s_xSb, MP.s_xSc, MP.s_xSe, MP.s_Expr, MP.s_xEx, MP.s_SetV, MP.s_xSV, MP.s_SetO, MP.s_xSOs, MP.s_xSOf, MP.s_Ret, MP.s_xRts, MP.s_xRtf, MP.s_RetN, MP.s_RetS, MP.s_xRSo, MP.s_xRSv, MP.s_If, MP.s_xIfT, MP.s_xIfF, MP.s_Tup, MP.s_xTu, MP.s_xTb, MP.s_For, MP.s_xFor, MP.s_App, MP.s_xAp, MP.s_Thaw, MP.s_xTh, MP.s_Frz, MP.s_xFzo, MP.s_xFzv, MP.s_ExprF, MP.s_xEF, MP.s_SetF, MP.s_xSF, MP.s_RetF, MP.s_xRF, MP.s_IfF, MP.s_xIFT, MP.s_xIFF, MP.s_FldN, MP.s_xN, MP.s_xN2, MP.s_xN3, MP.s_put0, MP.s_put1, MP.s_putN, MP.f_P, MP.f_xPs, MP.f_xPf, MP.f_User, MP.f_xFU, MP.f_Meth, MP.f_xM, MP.f_xM2, MP.f_Make, MP.f_xMk, MP.f_xMkF, MP.fe_ok, MP.r_run, MP.r_un, MP.r_un0, MP.r_nx, MP.r_ret, MP.r_exc, MP.t_nx, MP.t_cont, MP.t_brk, MP.t_ret, MP.b_nm, MP.b_tp2, MP.b_tp3, MP.t_bk, MP.fe_pop, MP.s_appF, MP.s_dead, MP.g_divmod, MP.g_sorted, MP.g_allB, MP.g_anyB, MP.g_sumI, MP.g_zipT, MP.g_zipL, MP.e_pZip, MP.e_xZp, MP.g_abs, MP.g_intI, MP.g_intB, MP.g_repT, MP.e_pLRng, MP.e_xLR, MP.f_Pop, MP.f_xPop, MP.s_AppF, MP.s_xAF0, MP.s_xAF, MP.s_xAF2, MP.g_inI, MP.g_ninI, MP.g_inT, MP.g_ninT, MP.g_ninST, MP.e_c2, MP.e_c3, MP.e_c4, MP.e_c5, MP.e_pIsi, MP.s_tryV, MP.s_raise, MP.s_raiseN, MP.e_pMt, MP.e_xMtL, MP.e_xMtK, MP.g_xor, MP.s_Raise, MP.s_xRa1, MP.s_xRa2, MP.s_RaiseN, MP.s_TryV, MP.s_xTVn, MP.s_xTVr, MP.s_xTVe, MP.s_tryC, MP.e_xDe, MP.e_x1e, MP.e_x2e, MP.e_xBe, MP.s_xExe, MP.s_xSVe, MP.s_xSOe, MP.s_xRte, MP.s_xIfe, MP.s_xTue, MP.s_xThe, MP.s_xEFe, MP.s_xSFe, MP.s_xRFe, MP.fe_exc, MP.t_exc, MP.n_xv, List.getElem?_cons_zero, List.getElem?_cons_succ, List.getElem?_nil, List.set_cons_zero, List.set_cons_succ, List.map_cons, List.map_nil, List.length_cons, List.length_nil, List.length_append, List.cons_append, List.nil_append, List.length_map, List.length_singleton, Nat.reduceBEq, Nat.reduceAdd, Nat.reduceSub, Nat.reduceMul, Nat.reduceEqDiff, Nat.reduceLeDiff, Nat.reduceLT, if_false, if_true, ite_true, ite_false, ↓reduceIte, Bool.not_true, Bool.not_false, Bool.false_eq_true, decide_true, decide_false, eq_self, and_true, true_and, and_self, Nat.zero_le, Nat.zero_add, Option.bind_some, Option.bind_none, Nat.lt_irrefl, Int.reduceToNat, Int.reducePow, Int.reduceNeg, Int.reduceMul, Int.reduceAdd, Int.reduceSub, Int.reduceLT, Int.reduceLE, Int.reduceEq, beq_self_eq_true, wipeE, MP.at0, MP.at1, MP.at2, MP.atLit, e4, e5]) ?_
    have e6 := cut_hi (psD es) (h := (v : Int)) (by omega)
    have e7 := cut_lo (psD es) (l := (v : Int) + 1) (by omega)
    rw [Int.toNat_natCast, psD_take] at e6
    rw [show ((v : Int) + 1).toNat = v + 1 by omega, psD_drop] at e7
    refine ⟨es.take v ++ [(a2, b2)] ++ es.drop (v + 1), by simp; omega, by simp; omega, ?_⟩
    have h1 := psD_len (es.take v)
    have h2 := psD_len (es.drop (v + 1))
    have h3 : (es.take v).length ≤ es.length := by simp; omega
    have h4 : (es.drop (v + 1)).length ≤ es.length := by simp
    have h5 := psD_len (es.take v ++ [(a2, b2)])
    have h6 : (es.take v ++ [(a2, b2)]).length = (es.take v).length + 1 := by simp
    generalize es.take v = u1 at *
    generalize es.drop (v + 1) = u2 at *
    have h7 : [D.tup [.int a2, .int b2]] = psD [(a2, b2)] := rfl
    have h8 : (psD [(a2, b2)]).length = 1 := rfl
    simp (disch := (first | assumption | with_reducible rfl | decide +kernel | exact Or.inl (by decide +kernel) | exact Or.inr (by decide +kernel) | omega | (simp only [List.length_cons, List.length_nil, List.length_append, List.length_map, List.length_replicate, List.length_range] <;> omega) | rfl)) only [MP.of_some, MP.map_some, MP.e_lv, MP.e_lo, MP.e_pD, MP.e_xDs, MP.e_xDf, MP.e_pC, MP.e_pYes, MP.e_pVar, MP.e_p2, MP.e_x2, MP.e_p1, MP.e_x1, MP.e_pB, MP.e_xB, MP.e_pNot, MP.e_xNot, MP.e_pAnd, MP.e_xAndT, MP.e_xAndF, MP.e_pOr, MP.e_xOrT, MP.e_xOrF, MP.e_pAndV, MP.e_xAndVT, MP.e_xAndVF, MP.e_pOrV, MP.e_xOrVT, MP.e_xOrVF, MP.e_pNotV, MP.e_xNotV, MP.e_pIf, MP.e_xIfT, MP.e_xIfF, MP.e_p3, MP.e_x3, MP.e_x3bT, MP.e_x3bF, MP.e_pNil, MP.e_pCons, MP.e_xCons, MP.e_pTup, MP.e_xTp, MP.e_pLst, MP.e_xLs, MP.e_pNo, MP.e_pSome, MP.e_xSo, MP.e_pSl, MP.e_xSl, MP.e_pCall, MP.e_xG, MP.e_pSeq, MP.e_xSq, MP.e_pSeqR, MP.e_xSqR, MP.e_pRng, MP.e_pEnum, MP.e_xEn, MP.e_pComp, MP.e_xC, MP.e_xC2, MP.e_pUser, MP.e_xU, MP.e_xFv, MP.e_xFo, MP.e_xFe, MP.e_pSeal, MP.e_xSe, MP.e_xSeFv, MP.e_xSeFo, MP.e_pLook, MP.e_xLo, MP.e_xLoF, MP.e_xLoO, MP.e_xLoE, MP.e_pFld, MP.e_xFd, MP.e_xOb, MP.e_xLk0, MP.e_xLk1, MP.e_c0, MP.e_c1, MP.g_add, MP.g_catS, MP.g_catL, MP.g_catT, MP.g_sub, MP.g_mul, MP.g_rep, MP.g_div, MP.g_mod, MP.g_pow, MP.g_shl, MP.g_shr, MP.g_and, MP.g_orI, MP.g_neg, MP.g_lt, MP.g_le, MP.g_gt, MP.g_ge, MP.g_eqI, MP.g_eqS, MP.g_eqBo, MP.g_neI, MP.g_neS, MP.g_neBo, MP.g_is, MP.g_isNot, MP.n_none, MP.n_int, MP.n_str, MP.n_tup, MP.n_list, MP.n_bool, MP.g_max, MP.g_min, MP.g_lenL, MP.g_lenK, MP.g_lenT, MP.g_listL, MP.g_listK, MP.g_listT, MP.g_tupL, MP.g_tupT, MP.q_list, MP.q_lk, MP.q_tup, MP.g_rng1, MP.g_rng2, MP.g_enumL, MP.g_enumK, MP.g_ixL, MP.g_ixK, MP.g_ixT, MP.g_slL, MP.g_slK, MP.g_slT, MP.s_Nil, MP.s_Brk, MP.s_Cont, MP.s_Seq, MP.s_xSn, MP.s_xSr, MP.s_xSb, MP.s_xSc, MP.s_xSe, MP.s_Expr, MP.s_xEx, MP.s_SetV, MP.s_xSV, MP.s_SetO, MP.s_xSOs, MP.s_xSOf, MP.s_Ret, MP.s_xRts, MP.s_xRtf, MP.s_RetN, MP.s_RetS, MP.s_xRSo, MP.s_xRSv, MP.s_If, MP.s_xIfT, MP.s_xIfF, MP.s_Tup, MP.s_xTu, MP.s_xTb, MP.s_For, MP.s_xFor, MP.s_App, MP.s_xAp, MP.s_Thaw, MP.s_xTh, MP.s_Frz, MP.s_xFzo, MP.s_xFzv, MP.s_ExprF, MP.s_xEF, MP.s_SetF, MP.s_xSF, MP.s_RetF, MP.s_xRF, MP.s_IfF, MP.s_xIFT, MP.s_xIFF, MP.s_FldN, MP.s_xN, MP.s_xN2, MP.s_xN3, MP.s_put0, MP.s_put1, MP.s_putN, MP.f_P, MP.f_xPs, MP.f_xPf, MP.f_User, MP.f_xFU, MP.f_Meth, MP.f_xM, MP.f_xM2, MP.f_Make, MP.f_xMk, MP.f_xMkF, MP.fe_ok, MP.r_run, MP.r_un, MP.r_un0, MP.r_nx, MP.r_ret, MP.r_exc, MP.t_nx, MP.t_cont, MP.t_brk, MP.t_ret, MP.b_nm, MP.b_tp2, MP.b_tp3, MP.t_bk, MP.fe_pop, MP.s_appF, MP.s_dead, MP.g_divmod, MP.g_sorted, MP.g_allB, MP.g_anyB, MP.g_sumI, MP.g_zipT, MP.g_zipL, MP.e_pZip, MP.e_xZp, MP.g_abs, MP.g_intI, MP.g_intB, MP.g_repT, MP.e_pLRng, MP.e_xLR, MP.f_Pop, MP.f_xPop, MP.s_AppF, MP.s_xAF0, MP.s_xAF, MP.s_xAF2, MP.g_inI, MP.g_ninI, MP.g_inT, MP.g_ninT, MP.g_ninST, MP.e_c2, MP.e_c3, MP.e_c4, MP.e_c5, MP.e_pIsi, MP.s_tryV, MP.s_raise, MP.s_raiseN, MP.e_pMt, MP.e_xMtL, MP.e_xMtK, MP.g_xor, MP.s_Raise, MP.s_xRa1, MP.s_xRa2, MP.s_RaiseN, MP.s_TryV, MP.s_xTVn, MP.s_xTVr, MP.s_xTVe, MP.s_tryC, MP.e_xDe, MP.e_x1e, MP.e_x2e, MP.e_xBe, MP.s_xExe, MP.s_xSVe, MP.s_xSOe, MP.s_xRte, MP.s_xIfe, MP.s_xTue, MP.s_xThe, MP.s_xEFe, MP.s_xSFe, MP.s_xRFe, MP.fe_exc, MP.t_exc, MP.n_xv, List.getElem?_cons_zero, List.getElem?_cons_succ, List.getElem?_nil, List.set_cons_zero, List.set_cons_succ, List.map_cons, List.map_nil, List.length_cons, List.length_nil, List.length_append, List.cons_append, List.nil_append, List.length_map, List.length_singleton, Nat.reduceBEq, Nat.reduceAdd, Nat.reduceSub, Nat.reduceMul, Nat.reduceEqDiff, Nat.reduceLeDiff, Nat.reduceLT, if_false, if_true, ite_true, ite_false, ↓reduceIte, Bool.not_true, Bool.not_false, Bool.false_eq_true, decide_true, decide_false, eq_self, and_true, true_and, and_self, Nat.zero_le, Nat.zero_add, Option.bind_some, Option.bind_none, Nat.lt_irrefl, Int.reduceToNat, Int.reducePow, Int.reduceNeg, Int.reduceMul, Int.reduceAdd, Int.reduceSub, Int.reduceLT, Int.reduceLE, Int.reduceEq, beq_self_eq_true, wipeE, MP.at0, MP.at1, MP.at2, MP.atLit, e6, e7, h7, psD_app]
/-! ## the law -/
/-- the law's names behind the faults -/
def at7 (ns : List Int) (f R C : Int) (es : List (Int × Int)) (x7 x8 : Slot) : Sta := ⟨[.v (.lk (zs ns)), .v (.list (psD es)), .v (.int f), .un, .un, .v (.int R), .v (.int C), x7, x8, .un, .un], []⟩
theorem m_4 (ns : List Int) (f R C : Int) (es : List (Int × Int)) (x7 x8 : Slot) (h : 0 < es.length) (hb : es.length ≤ 12) : ∃ es' : List (Int × Int), 0 < es'.length ∧ es'.length ≤ 13 ∧ st_law_4 (at7 ns f R C es x7 x8) = .nx (at7 ns f R C es' x7 x8) := by
  unfold st_law_4 at7
  by_cases hf : f % 4 = 1
  · have c1 := m_cell ns 14 (by decide)
    generalize ns.getD (14 : Int).toNat 0 = c at c1
    obtain ⟨es', h1, h2, e⟩ := m_spoilt es h (by omega) c R C
    have hf : (f % 4 = 1) = True := eq_true hf
    refine ⟨es', h1, by omega, ?_⟩
    simp (disch := (first | assumption | with_reducible rfl | decide +kernel | exact Or.inl (by decide +kernel) | exact Or.inr (by decide +kernel) | omega | (simp only [List.length_cons, List.length_nil, List.length_append, List.length_map, List.length_replicate, List.length_range] <;> omega) | rfl)) only [MP.of_some, MP.map_some, MP.e_lv, MP.e_lo, MP.e_pD, MP.e_xDs, MP.e_xDf, MP.e_pC, MP.e_pYes, MP.e_pVar, MP.e_p2, MP.e_x2, MP.e_p1, MP.e_x1, MP.e_pB, MP.e_xB, MP.e_pNot, MP.e_xNot, MP.e_pAnd, MP.e_xAndT, MP.e_xAndF, MP.e_pOr, MP.e_xOrT, MP.e_xOrF, MP.e_pAndV, MP.e_xAndVT, MP.e_xAndVF, MP.e_pOrV, MP.e_xOrVT, MP.e_xOrVF, MP.e_pNotV, MP.e_xNotV, MP.e_pIf, MP.e_xIfT, MP.e_xIfF, MP.e_p3, MP.e_x3, MP.e_x3bT, MP.e_x3bF, MP.e_pNil, MP.e_pCons, MP.e_xCons, MP.e_pTup, MP.e_xTp, MP.e_pLst, MP.e_xLs, MP.e_pNo, MP.e_pSome, MP.e_xSo, MP.e_pSl, MP.e_xSl, MP.e_pCall, MP.e_xG, MP.e_pSeq, MP.e_xSq, MP.e_pSeqR, MP.e_xSqR, MP.e_pRng, MP.e_pEnum, MP.e_xEn, MP.e_pComp, MP.e_xC, MP.e_xC2, MP.e_pUser, MP.e_xU, MP.e_xFv, MP.e_xFo, MP.e_xFe, MP.e_pSeal, MP.e_xSe, MP.e_xSeFv, MP.e_xSeFo, MP.e_pLook, MP.e_xLo, MP.e_xLoF, MP.e_xLoO, MP.e_xLoE, MP.e_pFld, MP.e_xFd, MP.e_xOb, MP.e_xLk0, MP.e_xLk1, MP.e_c0, MP.e_c1, MP.g_add, MP.g_catS, MP.g_catL, MP.g_catT, MP.g_sub, MP.g_mul, MP.g_rep, MP.g_div, MP.g_mod, MP.g_pow, MP.g_shl, MP.g_shr, MP.g_and, MP.g_orI, MP.g_neg, MP.g_lt, MP.g_le, MP.g_gt, MP.g_ge, MP.g_eqI, MP.g_eqS, MP.g_eqBo, MP.g_neI, MP.g_neS, MP.g_neBo, MP.g_is, MP.g_isNot, MP.n_none, MP.n_int, MP.n_str, MP.n_tup, MP.n_list, MP.n_bool, MP.g_max, MP.g_min, MP.g_lenL, MP.g_lenK, MP.g_lenT, MP.g_listL, MP.g_listK, MP.g_listT, MP.g_tupL, MP.g_tupT, MP.q_list, MP.q_lk, MP.q_tup, MP.g_rng1, MP.g_rng2, MP.g_enumL, MP.g_enumK, MP.g_ixL, MP.g_ixK, MP.g_ixT, MP.g_slL, MP.g_slK, MP.g_slT, MP.s_Nil, MP.s_Brk, MP.s_Cont, MP.s_Seq, MP.s_xSn, MP.s_xSr, MP.s_xSb, MP.s_xSc, MP.s_xSe, MP.s_Expr, MP.s_xEx, MP.s_SetV, MP.s_xSV, MP.s_SetO, MP.s_xSOs, MP.s_xSOf, MP.s_Ret, MP.s_xRts, MP.s_xRtf, MP.s_RetN, MP.s_RetS, MP.s_xRSo, MP.s_xRSv, MP.s_If, MP.s_xIfT, MP.s_xIfF, MP.s_Tup, MP.s_xTu, MP.s_xTb, MP.s_For, MP.s_xFor, MP.s_App, MP.s_xAp, MP.s_Thaw, MP.s_xTh, MP.s_Frz, MP.s_xFzo, MP.s_xFzv, MP.s_ExprF, MP.s_xEF, MP.s_SetF, MP.s_xSF, MP.s_RetF, MP.s_xRF, MP.s_IfF, MP.s_xIFT, MP.s_xIFF, MP.s_FldN, MP.s_xN, MP.s_xN2, MP.s_xN3, MP.s_put0, MP.s_put1, MP.s_putN, MP.f_P, MP.f_xPs, MP.f_xPf, MP.f_User, MP.f_xFU, MP.f_Meth, MP.f_xM, MP.f_xM2, MP.f_Make, MP.f_xMk, MP.f_xMkF, MP.fe_ok, MP.r_run, MP.r_un, MP.r_un0, MP.r_nx, MP.r_ret, MP.r_exc, MP.t_nx, MP.t_cont, MP.t_brk, MP.t_ret, MP.b_nm, MP.b_tp2, MP.b_tp3, MP.t_bk, MP.fe_pop, MP.s_appF, MP.s_dead, MP.g_divmod, MP.g_sorted, MP.g_allB, MP.g_anyB, MP.g_sumI, MP.g_zipT, MP.g_zipL, MP.e_pZip, MP.e_xZp, MP.g_abs, MP.g_intI, MP.g_intB, MP.g_repT, MP.e_pLRng, MP.e_xLR, MP.f_Pop, MP.f_xPop, MP.s_AppF, MP.s_xAF0, MP.s_xAF, MP.s_xAF2, MP.g_inI, MP.g_ninI, MP.g_inT, MP.g_ninT, MP.g_ninST, MP.e_c2, MP.e_c3, MP.e_c4, MP.e_c5, MP.e_pIsi, MP.s_tryV, MP.s_raise, MP.s_raiseN, MP.e_pMt, MP.e_xMtL, MP.e_xMtK, MP.g_xor, MP.s_Raise, MP.s_xRa1, MP.s_xRa2, MP.s_RaiseN, MP.s_TryV, MP.s_xTVn, MP.s_xTVr, MP.s_xTVe, MP.s_tryC, MP.e_xDe, MP.e_x1e, MP.e_x2e, MP.e_xBe, MP.s_xExe, MP.s_xSVe, MP.s_xSOe, MP.s_xRte, MP.s_xIfe, MP.s_xTue, MP.s_xThe, MP.s_xEFe, MP.s_xSFe, MP.s_xRFe, MP.fe_exc, MP.t_exc, MP.n_xv, List.getElem?_cons_zero, List.getElem?_cons_succ, List.getElem?_nil, List.set_cons_zero, List.set_cons_succ, List.map_cons, List.map_nil, List.length_cons, List.length_nil, List.length_append, List.cons_append, List.nil_append, List.length_map, List.length_singleton, Nat.reduceBEq, Nat.reduceAdd, Nat.reduceSub, Nat.reduceMul, Nat.reduceEqDiff, Nat.reduceLeDiff, Nat.reduceLT, if_false, if_true, ite_true, ite_false, ↓reduceIte, Bool.not_true, Bool.not_false, Bool.false_eq_true, decide_true, decide_false, eq_self, and_true, true_and, and_self, Nat.zero_le, Nat.zero_add, Option.bind_some, Option.bind_none, Nat.lt_irrefl, Int.reduceToNat, Int.reducePow, Int.reduceNeg, Int.reduceMul, Int.reduceAdd, Int.reduceSub, Int.reduceLT, Int.reduceLE, Int.reduceEq, beq_self_eq_true, wipeE, MP.at0, MP.at1, MP.at2, MP.atLit, hf, c1, e]
  · refine ⟨es, h, by omega, ?_⟩
    simp (disch := (first | assumption | with_reducible rfl | decide +kernel | exact Or.inl (by decide +kernel) | exact Or.inr (by decide +kernel) | omega | (simp only [List.length_cons, List.length_nil, List.length_append, List.length_map, List.length_replicate, List.length_range] <;> omega) | rfl)) only [MP.of_some, MP.map_some, MP.e_lv, MP.e_lo, MP.e_pD, MP.e_xDs, MP.e_xDf, MP.e_pC, MP.e_pYes, MP.e_pVar, MP.e_p2, MP.e_x2, MP.e_p1, MP.e_x1, MP.e_pB, MP.e_xB, MP.e_pNot, MP.e_xNot, MP.e_pAnd, MP.e_xAndT, MP.e_xAndF, MP.e_pOr, MP.e_xOrT, MP.e_xOrF, MP.e_pAndV, MP.e_xAndVT, MP.e_xAndVF, MP.e_pOrV, MP.e_xOrVT, MP.e_xOrVF, MP.e_pNotV, MP.e_xNotV, MP.e_pIf, MP.e_xIfT, MP.e_xIfF, MP.e_p3, MP.e_x3, MP.e_x3bT, MP.e_x3bF, MP.e_pNil, MP.e_pCons, MP.e_xCons, MP.e_pTup, MP.e_xTp, MP.e_pLst, MP.e_xLs, MP.e_pNo, MP.e_pSome, MP.e_xSo, MP.e_pSl, MP.e_xSl, MP.e_pCall, MP.e_xG, MP.e_pSeq, MP.e_xSq, MP.e_pSeqR, MP.e_xSqR, MP.e_pRng, MP.e_pEnum, MP.e_xEn, MP.e_pComp, MP.e_xC, MP.e_xC2, MP.e_pUser, MP.e_xU, MP.e_xFv, MP.e_xFo, MP.e_xFe, MP.e_pSeal, MP.e_xSe, MP.e_xSeFv, MP.e_xSeFo, MP.e_pLook, MP.e_xLo, MP.e_xLoF, MP.e_xLoO, MP.e_xLoE, MP.e_pFld, MP.e_xFd, MP.e_xOb, MP.e_xLk0, MP.e_xLk1, MP.e_c0, MP.e_c1, MP.g_add, MP.g_catS, MP.g_catL, MP.g_catT, MP.g_sub, MP.g_mul, MP.g_rep, MP.g_div, MP.g_mod, MP.g_pow, MP.g_shl, MP.g_shr, MP.g_and, MP.g_orI, MP.g_neg, MP.g_lt, MP.g_le, MP.g_gt, MP.g_ge, MP.g_eqI, MP.g_eqS, MP.g_eqBo, MP.g_neI, MP.g_neS, MP.g_neBo, MP.g_is, MP.g_isNot, MP.n_none, MP.n_int, MP.n_str, MP.n_tup, MP.n_list, MP.n_bool, MP.g_max, MP.g_min, MP.g_lenL, MP.g_lenK, MP.g_lenT, MP.g_listL, MP.g_listK, MP.g_listT, MP.g_tupL, MP.g_tupT, MP.q_list, MP.q_lk, MP.q_tup, MP.g_rng1, MP.g_rng2, MP.g_enumL, MP.g_enumK, MP.g_ixL, MP.g_ixK, MP.g_ixT, MP.g_slL, MP.g_slK, MP.g_slT, MP.s_Nil, MP.s_Brk, MP.s_Cont, MP.s_Seq, MP.s_xSn, MP.s_xSr, MP.s_xSb, MP.s_xSc, MP.s_xSe, MP.s_Expr, MP.s_xEx, MP.s_SetV, MP.s_xSV, MP.s_SetO, MP.s_xSOs, MP.s_xSOf, MP.s_Ret, MP.s_xRts, MP.s_xRtf, MP.s_RetN, MP.s_RetS, MP.s_xRSo, MP.s_xRSv, MP.s_If, MP.s_xIfT, MP.s_xIfF, MP.s_Tup, MP.s_xTu, MP.s_xTb, MP.s_For, MP.s_xFor, MP.s_App, MP.s_xAp, MP.s_Thaw, MP.s_xTh, MP.s_Frz, MP.s_xFzo, MP.s_xFzv, MP.s_ExprF, MP.s_xEF, MP.s_SetF, MP.s_xSF, MP.s_RetF, MP.s_xRF, MP.s_IfF, MP.s_xIFT, MP.s_xIFF, MP.s_FldN, MP.s_xN, MP.s_xN2, MP.s_xN3, MP.s_put0, MP.s_put1, MP.s_putN, MP.f_P, MP.f_xPs, MP.f_xPf, MP.f_User, MP.f_xFU, MP.f_Meth, MP.f_xM, MP.f_xM2, MP.f_Make, MP.f_xMk, MP.f_xMkF, MP.fe_ok, MP.r_run, MP.r_un, MP.r_un0, MP.r_nx, MP.r_ret, MP.r_exc, MP.t_nx, MP.t_cont, MP.t_brk, MP.t_ret, MP.b_nm, MP.b_tp2, MP.b_tp3, MP.t_bk, MP.fe_pop, MP.s_appF, MP.s_dead, MP.g_divmod, MP.g_sorted, MP.g_allB, MP.g_anyB, MP.g_sumI, MP.g_zipT, MP.g_zipL, MP.e_pZip, MP.e_xZp, MP.g_abs, MP.g_intI, MP.g_intB, MP.g_repT, MP.e_pLRng, MP.e_xLR, MP.f_Pop, MP.f_xPop, MP.s_AppF, MP.s_xAF0, MP.s_xAF, MP.s_xAF2, MP.g_inI, MP.g_ninI, MP.g_inT, MP.g_ninT, MP.g_ninST, MP.e_c2, MP.e_c3, MP.e_c4, MP.e_c5, MP.e_pIsi, MP.s_tryV, MP.s_raise, MP.s_raiseN, MP.e_pMt, MP.e_xMtL, MP.e_xMtK, MP.g_xor, MP.s_Raise, MP.s_xRa1, MP.s_xRa2, MP.s_RaiseN, MP.s_TryV, MP.s_xTVn, MP.s_xTVr, MP.s_xTVe, MP.s_tryC, MP.e_xDe, MP.e_x1e, MP.e_x2e, MP.e_xBe, MP.s_xExe, MP.s_xSVe, MP.s_xSOe, MP.s_xRte, MP.s_xIfe, MP.s_xTue, MP.s_xThe, MP.s_xEFe, MP.s_xSFe, MP.s_xRFe, MP.fe_exc, MP.t_exc, MP.n_xv, List.getElem?_cons_zero, List.getElem?_cons_succ, List.getElem?_nil, List.set_cons_zero, List.set_cons_succ, List.map_cons, List.map_nil, List.length_cons, List.length_nil, List.length_append, List.cons_append, List.nil_append, List.length_map, List.length_singleton, Nat.reduceBEq, Nat.reduceAdd, Nat.reduceSub, Nat.reduceMul, Nat.reduceEqDiff, Nat.reduceLeDiff, Nat.reduceLT, if_false, if_true, ite_true, ite_false, ↓reduceIte, Bool.not_true, Bool.not_false, Bool.false_eq_true, decide_true, decide_false, eq_self, and_true, true_and, and_self, Nat.zero_le, Nat.zero_add, Option.bind_some, Option.bind_none, Nat.lt_irrefl, Int.reduceToNat, Int.reducePow, Int.reduceNeg, Int.reduceMul, Int.reduceAdd, Int.reduceSub, Int.reduceLT, Int.reduceLE, Int.reduceEq, beq_self_eq_true, wipeE, MP.at0, MP.at1, MP.at2, MP.atLit, hf]
theorem m_5 (ns : List Int) (f R C : Int) (es : List (Int × Int)) (x7 x8 : Slot) (h : 0 < es.length) (hb : es.length ≤ 13) : ∃ es' : List (Int × Int), 0 < es'.length ∧ es'.length ≤ 14 ∧ st_law_5 (at7 ns f R C es x7 x8) = .nx (at7 ns f R C es' x7 x8) := by
  unfold st_law_5 at7
  have hl := psD_len es
  have en : ((psD es).length : Int) = (es.length : Int) := by omega
  by_cases hf : f % 8 = 1
  · have hf : (f % 8 = 1) = True := eq_true hf
    by_cases h13 : (es.length : Int) < 13
    · have c1 := m_cell ns 15 (by decide)
      generalize ns.getD (15 : Int).toNat 0 = c at c1
      obtain ⟨es', h1, h2, e⟩ := m_spoilt es h (by omega) c R C
      refine ⟨es', h1, by omega, ?_⟩
      simp (disch := (first | assumption | with_reducible rfl | decide +kernel | exact Or.inl (by decide +kernel) | exact Or.inr (by decide +kernel) | omega | (simp only [List.length_cons, List.length_nil, List.length_append, List.length_map, List.length_replicate, List.length_range] <;> omega) | rfl)) only [MP.of_some, MP.map_some, MP.e_lv, MP.e_lo, MP.e_pD, MP.e_xDs, MP.e_xDf, MP.e_pC, MP.e_pYes, MP.e_pVar, MP.e_p2, MP.e_x2, MP.e_p1, MP.e_x1, MP.e_pB, MP.e_xB, MP.e_pNot, MP.e_xNot, MP.e_pAnd, MP.e_xAndT, MP.e_xAndF, MP.e_pOr, MP.e_xOrT, MP.e_xOrF, MP.e_pAndV, MP.e_xAndVT, MP.e_xAndVF, MP.e_pOrV, MP.e_xOrVT, MP.e_xOrVF, MP.e_pNotV, MP.e_xNotV, MP.e_pIf, MP.e_xIfT, MP.e_xIfF, MP.e_p3, MP.e_x3, MP.e_x3bT, MP.e_x3bF, MP.e_pNil, MP.e_pCons, MP.e_xCons, MP.e_pTup, MP.e_xTp, MP.e_pLst, MP.e_xLs, MP.e_pNo, MP.e_pSome, MP.e_xSo, MP.e_pSl, MP.e_xSl, MP.e_pCall, MP.e_xG, MP.e_pSeq, MP.e_xSq, MP.e_pSeqR, MP.e_xSqR, MP.e_pRng, MP.e_pEnum, MP.e_xEn, MP.e_pComp, MP.e_xC, MP.e_xC2, MP.e_pUser, MP.e_xU, MP.e_xFv, MP.e_xFo, MP.e_xFe, MP.e_pSeal, MP.e_xSe, MP.e_xSeFv, MP.e_xSeFo, MP.e_pLook, MP.e_xLo, MP.e_xLoF, MP.e_xLoO, MP.e_xLoE, MP.e_pFld, MP.e_xFd, MP.e_xOb, MP.e_xLk0, MP.e_xLk1, MP.e_c0, MP.e_c1, MP.g_add, MP.g_catS, MP.g_catL, MP.g_catT, MP.g_sub, MP.g_mul, MP.g_rep, MP.g_div, MP.g_mod, MP.g_pow, MP.g_shl, MP.g_shr, MP.g_and, MP.g_orI, MP.g_neg, MP.g_lt, MP.g_le, MP.g_gt, MP.g_ge, MP.g_eqI, MP.g_eqS, MP.g_eqBo, MP.g_neI, MP.g_neS, MP.g_neBo, MP.g_is, MP.g_isNot, MP.n_none, MP.n_int, MP.n_str, MP.n_tup, MP.n_list, MP.n_bool, MP.g_max, MP.g_min, MP.g_lenL, MP.g_lenK, MP.g_lenT, MP.g_listL, MP.g_listK, MP.g_listT, MP.g_tupL, MP.g_tupT, MP.q_list, MP.q_lk, MP.q_tup, MP.g_rng1, MP.g_rng2, MP.g_enumL, MP.g_enumK, MP.g_ixL, MP.g_ixK, MP.g_ixT, MP.g_slL, MP.g_slK, MP.g_slT, MP.s_Nil, MP.s_Brk, MP.s_Cont, MP.s_Seq, MP.s_xSn, MP.s_xSr, MP.s_xSb, MP.s_xSc, MP.s_xSe, MP.s_Expr, MP.s_xEx, MP.s_SetV, MP.s_xSV, MP.s_SetO, MP.s_xSOs, MP.s_xSOf, MP.s_Ret, MP.s_xRts, MP.s_xRtf, MP.s_RetN, MP.s_RetS, MP.s_xRSo, MP.s_xRSv, MP.s_If, MP.s_xIfT, MP.s_xIfF, MP.s_Tup, MP.s_xTu, MP.s_xTb, MP.s_For, MP.s_xFor, MP.s_App, MP.s_xAp, MP.s_Thaw, MP.s_xTh, MP.s_Frz, MP.s_xFzo, MP.s_xFzv, MP.s_ExprF, MP.s_xEF, MP.s_SetF, MP.s_xSF, MP.s_RetF, MP.s_xRF, MP.s_IfF, MP.s_xIFT, MP.s_xIFF, MP.s_FldN, MP.s_xN, MP.s_xN2, MP.s_xN3, MP.s_put0, MP.s_put1, MP.s_putN, MP.f_P, MP.f_xPs, MP.f_xPf, MP.f_User, MP.f_xFU, MP.f_Meth, MP.f_xM, MP.f_xM2, MP.f_Make, MP.f_xMk, MP.f_xMkF, MP.fe_ok, MP.r_run, MP.r_un, MP.r_un0, MP.r_nx, MP.r_ret, MP.r_exc, MP.t_nx, MP.t_cont, MP.t_brk, MP.t_ret, MP.b_nm, MP.b_tp2, MP.b_tp3, MP.t_bk, MP.fe_pop, MP.s_appF, MP.s_dead, MP.g_divmod, MP.g_sorted, MP.g_allB, MP.g_anyB, MP.g_sumI, MP.g_zipT, MP.g_zipL, MP.e_pZip, MP.e_xZp, MP.g_abs, MP.g_intI, MP.g_intB, MP.g_repT, MP.e_pLRng, MP.e_xLR, MP.f_Pop, MP.f_xPop, MP.s_AppF, MP.s_xAF0, MP.s_xAF, MP.s_xAF2, MP.g_inI, MP.g_ninI, MP.g_inT, MP.g_ninT, MP.g_ninST, MP.e_c2, MP.e_c3, MP.e_c4, MP.e_c5, MP.e_pIsi, MP.s_tryV, MP.s_raise, MP.s_raiseN, MP.e_pMt, MP.e_xMtL, MP.e_xMtK, MP.g_xor, MP.s_Raise, MP.s_xRa1, MP.s_xRa2, MP.s_RaiseN, MP.s_TryV, MP.s_xTVn, MP.s_xTVr, MP.s_xTVe, MP.s_tryC, MP.e_xDe, MP.e_x1e, MP.e_x2e, MP.e_xBe, MP.s_xExe, MP.s_xSVe, MP.s_xSOe, MP.s_xRte, MP.s_xIfe, MP.s_xTue, MP.s_xThe, MP.s_xEFe, MP.s_xSFe, MP.s_xRFe, MP.fe_exc, MP.t_exc, MP.n_xv, List.getElem?_cons_zero, List.getElem?_cons_succ, List.getElem?_nil, List.set_cons_zero, List.set_cons_succ, List.map_cons, List.map_nil, List.length_cons, List.length_nil, List.length_append, List.cons_append, List.nil_append, List.length_map, List.length_singleton, Nat.reduceBEq, Nat.reduceAdd, Nat.reduceSub, Nat.reduceMul, Nat.reduceEqDiff, Nat.reduceLeDiff, Nat.reduceLT, if_false, if_true, ite_true, ite_false, ↓reduceIte, Bool.not_true, Bool.not_false, Bool.false_eq_true, decide_true, decide_false, eq_self, and_true, true_and, and_self, Nat.zero_le, Nat.zero_add, Option.bind_some, Option.bind_none, Nat.lt_irrefl, Int.reduceToNat, Int.reducePow, Int.reduceNeg, Int.reduceMul, Int.reduceAdd, Int.reduceSub, Int.reduceLT, Int.reduceLE, Int.reduceEq, beq_self_eq_true, wipeE, MP.at0, MP.at1, MP.at2, MP.atLit, hf, en, h13, c1, e]
    · refine ⟨es, h, by omega, ?_⟩
      simp (disch := (first | assumption | with_reducible rfl | decide +kernel | exact Or.inl (by decide +kernel) | exact Or.inr (by decide +kernel) | omega | (simp only [List.length_cons, List.length_nil, List.length_append, List.length_map, List.length_replicate, List.length_range] <;> omega) | rfl)) only [MP.of_some, MP.map_some, MP.e_lv, MP.e_lo, MP.e_pD, MP.e_xDs, MP.e_xDf, MP.e_pC, MP.e_pYes, MP.e_pVar, MP.e_p2, MP.e_x2, MP.e_p1, MP.e_x1, MP.e_pB, MP.e_xB, MP.e_pNot, MP.e_xNot, MP.e_pAnd, MP.e_xAndT, MP.e_xAndF, MP.e_pOr, MP.e_xOrT, MP.e_xOrF, MP.e_pAndV, MP.e_xAndVT, MP.e_xAndVF, MP.e_pOrV, MP.e_xOrVT, MP.e_xOrVF, MP.e_pNotV, MP.e_xNotV, MP.e_pIf, MP.e_xIfT, MP.e_xIfF, MP.e_p3, MP.e_x3, MP.e_x3bT, MP.e_x3bF, MP.e_pNil, MP.e_pCons, MP.e_xCons, MP.e_pTup, MP.e_xTp, MP.e_pLst, MP.e_xLs, MP.e_pNo, MP.e_pSome, MP.e_xSo, MP.e_pSl, MP.e_xSl, MP.e_pCall, MP.e_xG, MP.e_pSeq, MP.e_xSq, MP.e_pSeqR, MP.e_xSqR, MP.e_pRng, MP.e_pEnum, MP.e_xEn, MP.e_pComp, MP.e_xC, MP.e_xC2, MP.e_pUser, MP.e_xU, MP.e_xFv, MP.e_xFo, MP.e_xFe, MP.e_pSeal, MP.e_xSe, MP.e_xSeFv, MP.e_xSeFo, MP.e_pLook, MP.e_xLo, MP.e_xLoF, MP.e_xLoO, MP.e_xLoE, MP.e_pFld, MP.e_xFd, MP.e_xOb, MP.e_xLk0, MP.e_xLk1, MP.e_c0, MP.e_c1, MP.g_add, MP.g_catS, MP.g_catL, MP.g_catT, MP.g_sub, MP.g_mul, MP.g_rep, MP.g_div, MP.g_mod, MP.g_pow, MP.g_shl, MP.g_shr, MP.g_and, MP.g_orI, MP.g_neg, MP.g_lt, MP.g_le, MP.g_gt, MP.g_ge, MP.g_eqI, MP.g_eqS, MP.g_eqBo, MP.g_neI, MP.g_neS, MP.g_neBo, MP.g_is, MP.g_isNot, MP.n_none, MP.n_int, MP.n_str, MP.n_tup, MP.n_list, MP.n_bool, MP.g_max, MP.g_min, MP.g_lenL, MP.g_lenK, MP.g_lenT, MP.g_listL, MP.g_listK, MP.g_listT, MP.g_tupL, MP.g_tupT, MP.q_list, MP.q_lk, MP.q_tup, MP.g_rng1, MP.g_rng2, MP.g_enumL, MP.g_enumK, MP.g_ixL, MP.g_ixK, MP.g_ixT, MP.g_slL, MP.g_slK, MP.g_slT, MP.s_Nil, MP.s_Brk, MP.s_Cont, MP.s_Seq, MP.s_xSn, MP.s_xSr, MP.s_xSb, MP.s_xSc, MP.s_xSe, MP.s_Expr, MP.s_xEx, MP.s_SetV, MP.s_xSV, MP.s_SetO, MP.s_xSOs, MP.s_xSOf, MP.s_Ret, MP.s_xRts, MP.s_xRtf, MP.s_RetN, MP.s_RetS, MP.s_xRSo, MP.s_xRSv, MP.s_If, MP.s_xIfT, MP.s_xIfF, MP.s_Tup, MP.s_xTu, MP.s_xTb, MP.s_For, MP.s_xFor, MP.s_App, MP.s_xAp, MP.s_Thaw, MP.s_xTh, MP.s_Frz, MP.s_xFzo, MP.s_xFzv, MP.s_ExprF, MP.s_xEF, MP.s_SetF, MP.s_xSF, MP.s_RetF, MP.s_xRF, MP.s_IfF, MP.s_xIFT, MP.s_xIFF, MP.s_FldN, MP.s_xN, MP.s_xN2, MP.s_xN3, MP.s_put0, MP.s_put1, MP.s_putN, MP.f_P, MP.f_xPs, MP.f_xPf, MP.f_User, MP.f_xFU, MP.f_Meth, MP.f_xM, MP.f_xM2, MP.f_Make, MP.f_xMk, MP.f_xMkF, MP.fe_ok, MP.r_run, MP.r_un, MP.r_un0, MP.r_nx, MP.r_ret, MP.r_exc, MP.t_nx, MP.t_cont, MP.t_brk, MP.t_ret, MP.b_nm, MP.b_tp2, MP.b_tp3, MP.t_bk, MP.fe_pop, MP.s_appF, MP.s_dead, MP.g_divmod, MP.g_sorted, MP.g_allB, MP.g_anyB, MP.g_sumI, MP.g_zipT, MP.g_zipL, MP.e_pZip, MP.e_xZp, MP.g_abs, MP.g_intI, MP.g_intB, MP.g_repT, MP.e_pLRng, MP.e_xLR, MP.f_Pop, MP.f_xPop, MP.s_AppF, MP.s_xAF0, MP.s_xAF, MP.s_xAF2, MP.g_inI, MP.g_ninI, MP.g_inT, MP.g_ninT, MP.g_ninST, MP.e_c2, MP.e_c3, MP.e_c4, MP.e_c5, MP.e_pIsi, MP.s_tryV, MP.s_raise, MP.s_raiseN, MP.e_pMt, MP.e_xMtL, MP.e_xMtK, MP.g_xor, MP.s_Raise, MP.s_xRa1, MP.s_xRa2, MP.s_RaiseN, MP.s_TryV, MP.s_xTVn, MP.s_xTVr, MP.s_xTVe, MP.s_tryC, MP.e_xDe, MP.e_x1e, MP.e_x2e, MP.e_xBe, MP.s_xExe, MP.s_xSVe, MP.s_xSOe, MP.s_xRte, MP.s_xIfe, MP.s_xTue, MP.s_xThe, MP.s_xEFe, MP.s_xSFe, MP.s_xRFe, MP.fe_exc, MP.t_exc, MP.n_xv, List.getElem?_cons_zero, List.getElem?_cons_succ, List.getElem?_nil, List.set_cons_zero, List.set_cons_succ, List.map_cons, List.map_nil, List.length_cons, List.length_nil, List.length_append, List.cons_append, List.nil_append, List.length_map, List.length_singleton, Nat.reduceBEq, Nat.reduceAdd, Nat.reduceSub, Nat.reduceMul, Nat.reduceEqDiff, Nat.reduceLeDiff, Nat.reduceLT, if_false, if_true, ite_true, ite_false, ↓reduceIte, Bool.not_true, Bool.not_false, Bool.false_eq_true, decide_true, decide_false, eq_self, and_true, true_and, and_self, Nat.zero_le, Nat.zero_add, Option.bind_some, Option.bind_none, Nat.lt_irrefl, Int.reduceToNat, Int.reducePow, Int.reduceNeg, Int.reduceMul, Int.reduceAdd, Int.reduceSub, Int.reduceLT, Int.reduceLE, Int.reduceEq, beq_self_eq_true, wipeE, MP.at0, MP.at1, MP.at2, MP.atLit, hf, en, h13]
  · refine ⟨es, h, by omega, ?_⟩
    simp (disch := (first | assumption | with_reducible rfl | decide +kernel | exact Or.inl (by decide +kernel) | exact Or.inr (by decide +kernel) | omega | (simp only [List.length_cons, List.length_nil, List.length_append, List.length_map, List.length_replicate, List.length_range] <;> omega) | rfl)) only [MP.of_some, MP.map_some, MP.e_lv, MP.e_lo, MP.e_pD, MP.e_xDs, MP.e_xDf, MP.e_pC, MP.e_pYes, MP.e_pVar, MP.e_p2, MP.e_x2, MP.e_p1, MP.e_x1, MP.e_pB, MP.e_xB, MP.e_pNot, MP.e_xNot, MP.e_pAnd, MP.e_xAndT, MP.e_xAndF, MP.e_pOr, MP.e_xOrT, MP.e_xOrF, MP.e_pAndV, MP.e_xAndVT, MP.e_xAndVF, MP.e_pOrV, MP.e_xOrVT, MP.e_xOrVF, MP.e_pNotV, MP.e_xNotV, MP.e_pIf, MP.e_xIfT, MP.e_xIfF, MP.e_p3, MP.e_x3, MP.e_x3bT, MP.e_x3bF, MP.e_pNil, MP.e_pCons, MP.e_xCons, MP.e_pTup, MP.e_xTp, MP.e_pLst, MP.e_xLs, MP.e_pNo, MP.e_pSome, MP.e_xSo, MP.e_pSl, MP.e_xSl, MP.e_pCall, MP.e_xG, MP.e_pSeq, MP.e_xSq, MP.e_pSeqR, MP.e_xSqR, MP.e_pRng, MP.e_pEnum, MP.e_xEn, MP.e_pComp, MP.e_xC, MP.e_xC2, MP.e_pUser, MP.e_xU, MP.e_xFv, MP.e_xFo, MP.e_xFe, MP.e_pSeal, MP.e_xSe, MP.e_xSeFv, MP.e_xSeFo, MP.e_pLook, MP.e_xLo, MP.e_xLoF, MP.e_xLoO, MP.e_xLoE, MP.e_pFld, MP.e_xFd, MP.e_xOb, MP.e_xLk0, MP.e_xLk1, MP.e_c0, MP.e_c1, MP.g_add, MP.g_catS, MP.g_catL, MP.g_catT, MP.g_sub, MP.g_mul, MP.g_rep, MP.g_div, MP.g_mod, MP.g_pow, MP.g_shl, MP.g_shr, MP.g_and, MP.g_orI, MP.g_neg, MP.g_lt, MP.g_le, MP.g_gt, MP.g_ge, MP.g_eqI, MP.g_eqS, MP.g_eqBo, MP.g_neI, MP.g_neS, MP.g_neBo, MP.g_is, MP.g_isNot, MP.n_none, MP.n_int, MP.n_str, MP.n_tup, MP.n_list, MP.n_bool, MP.g_max, MP.g_min, MP.g_lenL, MP.g_lenK, MP.g_lenT, MP.g_listL, MP.g_listK, MP.g_listT, MP.g_tupL, MP.g_tupT, MP.q_list, MP.q_lk, MP.q_tup, MP.g_rng1, MP.g_rng2, MP.g_enumL, MP.g_enumK, MP.g_ixL, MP.g_ixK, MP.g_ixT, MP.g_slL, MP.g_slK, MP.g_slT, MP.s_Nil, MP.s_Brk, MP.s_Cont, MP.s_Seq, MP.s_xSn, MP.s_xSr, MP.s_xSb, MP.s_xSc, MP.s_xSe, MP.s_Expr, MP.s_xEx, MP.s_SetV, MP.s_xSV, MP.s_SetO, MP.s_xSOs, MP.s_xSOf, MP.s_Ret, MP.s_xRts, MP.s_xRtf, MP.s_RetN, MP.s_RetS, MP.s_xRSo, MP.s_xRSv, MP.s_If, MP.s_xIfT, MP.s_xIfF, MP.s_Tup, MP.s_xTu, MP.s_xTb, MP.s_For, MP.s_xFor, MP.s_App, MP.s_xAp, MP.s_Thaw, MP.s_xTh, MP.s_Frz, MP.s_xFzo, MP.s_xFzv, MP.s_ExprF, MP.s_xEF, MP.s_SetF, MP.s_xSF, MP.s_RetF, MP.s_xRF, MP.s_IfF, MP.s_xIFT, MP.s_xIFF, MP.s_FldN, MP.s_xN, MP.s_xN2, MP.s_xN3, MP.s_put0, MP.s_put1, MP.s_putN, MP.f_P, MP.f_xPs, MP.f_xPf, MP.f_User, MP.f_xFU, MP.f_Meth, MP.f_xM, MP.f_xM2, MP.f_Make, MP.f_xMk, MP.f_xMkF, MP.fe_ok, MP.r_run, MP.r_un, MP.r_un0, MP.r_nx, MP.r_ret, MP.r_exc, MP.t_nx, MP.t_cont, MP.t_brk, MP.t_ret, MP.b_nm, MP.b_tp2, MP.b_tp3, MP.t_bk, MP.fe_pop, MP.s_appF, MP.s_dead, MP.g_divmod, MP.g_sorted, MP.g_allB, MP.g_anyB, MP.g_sumI, MP.g_zipT, MP.g_zipL, MP.e_pZip, MP.e_xZp, MP.g_abs, MP.g_intI, MP.g_intB, MP.g_repT, MP.e_pLRng, MP.e_xLR, MP.f_Pop, MP.f_xPop, MP.s_AppF, MP.s_xAF0, MP.s_xAF, MP.s_xAF2, MP.g_inI, MP.g_ninI, MP.g_inT, MP.g_ninT, MP.g_ninST, MP.e_c2, MP.e_c3, MP.e_c4, MP.e_c5, MP.e_pIsi, MP.s_tryV, MP.s_raise, MP.s_raiseN, MP.e_pMt, MP.e_xMtL, MP.e_xMtK, MP.g_xor, MP.s_Raise, MP.s_xRa1, MP.s_xRa2, MP.s_RaiseN, MP.s_TryV, MP.s_xTVn, MP.s_xTVr, MP.s_xTVe, MP.s_tryC, MP.e_xDe, MP.e_x1e, MP.e_x2e, MP.e_xBe, MP.s_xExe, MP.s_xSVe, MP.s_xSOe, MP.s_xRte, MP.s_xIfe, MP.s_xTue, MP.s_xThe, MP.s_xEFe, MP.s_xSFe, MP.s_xRFe, MP.fe_exc, MP.t_exc, MP.n_xv, List.getElem?_cons_zero, List.getElem?_cons_succ, List.getElem?_nil, List.set_cons_zero, List.set_cons_succ, List.map_cons, List.map_nil, List.length_cons, List.length_nil, List.length_append, List.cons_append, List.nil_append, List.length_map, List.length_singleton, Nat.reduceBEq, Nat.reduceAdd, Nat.reduceSub, Nat.reduceMul, Nat.reduceEqDiff, Nat.reduceLeDiff, Nat.reduceLT, if_false, if_true, ite_true, ite_false, ↓reduceIte, Bool.not_true, Bool.not_false, Bool.false_eq_true, decide_true, decide_false, eq_self, and_true, true_and, and_self, Nat.zero_le, Nat.zero_add, Option.bind_some, Option.bind_none, Nat.lt_irrefl, Int.reduceToNat, Int.reducePow, Int.reduceNeg, Int.reduceMul, Int.reduceAdd, Int.reduceSub, Int.reduceLT, Int.reduceLE, Int.reduceEq, beq_self_eq_true, wipeE, MP.at0, MP.at1, MP.at2, MP.atLit, hf]
theorem m_6 (ns : List Int) (f R C : Int) (es : List (Int × Int)) (x7 x8 : Slot) : ∃ (R' C' : Int) (x8' : Slot), st_law_6 (at7 ns f R C es x7 x8) = .nx (at7 ns f R' C' es x7 x8') := by
  unfold st_law_6 at7
  by_cases hf : f % 4 = 3
  · have hf : (f % 4 = 3) = True := eq_true hf
    obtain ⟨v, hv, e1⟩ := m_take f 7 (by decide) 4 (by decide)
    obtain ⟨w, hw, e2⟩ := m_take f 8 (by decide) 2 (by decide)
    have e1 : sem_l_take [.int f, .int 7, .int 4] [] = .ok (.v (.int v)) [] := e1
    have e2 : sem_l_take [.int f, .int 8, .int 2] [] = .ok (.v (.int w)) [] := e2
    obtain ⟨o, e3⟩ : ∃ o : Int, atI [D.int 0, .int 7, .int (-1), .int 10000000000000000000] (v : Int) = some (.int o) := by
      rw [atN]
      rcases (by omega : v = 0 ∨ v = 1 ∨ v = 2 ∨ v = 3) with rfl | rfl | rfl | rfl <;> exact ⟨_, rfl⟩
    obtain ⟨a, b, e4⟩ : ∃ a b : Int, atI [D.tup [.int o, .int C], .tup [.int R, .int o]] (w : Int) = some (.tup [.int a, .int b]) := by
      rw [atN]
      rcases (by omega : w = 0 ∨ w = 1) with rfl | rfl <;> exact ⟨_, _, rfl⟩
    refine ⟨a, b, .v (.int o), ?_⟩
    simp (disch := (first | assumption | with_reducible rfl | decide +kernel | exact Or.inl (by decide +kernel) | exact Or.inr (by decide +kernel) | omega | (simp only [List.length_cons, List.length_nil, List.length_append, List.length_map, List.length_replicate, List.length_range] <;> omega) | rfl)) only [MP.of_some, MP.map_some, MP.e_lv, MP.e_lo, MP.e_pD, MP.e_xDs, MP.e_xDf, MP.e_pC, MP.e_pYes, MP.e_pVar, MP.e_p2, MP.e_x2, MP.e_p1, MP.e_x1, MP.e_pB, MP.e_xB, MP.e_pNot, MP.e_xNot, MP.e_pAnd, MP.e_xAndT, MP.e_xAndF, MP.e_pOr, MP.e_xOrT, MP.e_xOrF, MP.e_pAndV, MP.e_xAndVT, MP.e_xAndVF, MP.e_pOrV, MP.e_xOrVT, MP.e_xOrVF, MP.e_pNotV, MP.e_xNotV, MP.e_pIf, MP.e_xIfT, MP.e_xIfF, MP.e_p3, MP.e_x3, MP.e_x3bT, MP.e_x3bF, MP.e_pNil, MP.e_pCons, MP.e_xCons, MP.e_pTup, MP.e_xTp, MP.e_pLst, MP.e_xLs, MP.e_pNo, MP.e_pSome, MP.e_xSo, MP.e_pSl, MP.e_xSl, MP.e_pCall, MP.e_xG, MP.e_pSeq, MP.e_xSq, MP.e_pSeqR, MP.e_xSqR, MP.e_pRng, MP.e_pEnum, MP.e_xEn, MP.e_pComp, MP.e_xC, MP.e_xC2, MP.e_pUser, MP.e_xU, MP.e_xFv, MP.e_xFo, MP.e_xFe, MP.e_pSeal, MP.e_xSe, MP.e_xSeFv, MP.e_xSeFo, MP.e_pLook, MP.e_xLo, MP.e_xLoF, MP.e_xLoO, MP.e_xLoE, MP.e_pFld, MP.e_xFd, MP.e_xOb, MP.e_xLk0, MP.e_xLk1, MP.e_c0, MP.e_c1, MP.g_add, MP.g_catS, MP.g_catL, MP.g_catT, MP.g_sub, MP.g_mul, MP.g_rep, MP.g_div, MP.g_mod, MP.g_pow, MP.g_shl, MP.g_shr, MP.g_and, MP.g_orI, MP.g_neg, MP.g_lt, MP.g_le, MP.g_gt, MP.g_ge, MP.g_eqI, MP.g_eqS, MP.g_eqBo, MP.g_neI, MP.g_neS, MP.g_neBo, MP.g_is, MP.g_isNot, MP.n_none, MP.n_int, MP.n_str, MP.n_tup, MP.n_list, MP.n_bool, MP.g_max, MP.g_min, MP.g_lenL, MP.g_lenK, MP.g_lenT, MP.g_listL, MP.g_listK, MP.g_listT, MP.g_tupL, MP.g_tupT, MP.q_list, MP.q_lk, MP.q_tup, MP.g_rng1, MP.g_rng2, MP.g_enumL, MP.g_enumK, MP.g_ixL, MP.g_ixK, MP.g_ixT, MP.g_slL, MP.g_slK, MP.g_slT, MP.s_Nil, MP.s_Brk, MP.s_Cont, MP.s_Seq, MP.s_xSn, MP.s_xSr, MP.s_xSb, MP.s_xSc, MP.s_xSe, MP.s_Expr, MP.s_xEx, MP.s_SetV, MP.s_xSV, MP.s_SetO, MP.s_xSOs, MP.s_xSOf, MP.s_Ret, MP.s_xRts, MP.s_xRtf, MP.s_RetN, MP.s_RetS, MP.s_xRSo, MP.s_xRSv, MP.s_If, MP.s_xIfT, MP.s_xIfF, MP.s_Tup, MP.s_xTu, MP.s_xTb, MP.s_For, MP.s_xFor, MP.s_App, MP.s_xAp, MP.s_Thaw, MP.s_xTh, MP.s_Frz, MP.s_xFzo, MP.s_xFzv, MP.s_ExprF, MP.s_xEF, MP.s_SetF, MP.s_xSF, MP.s_RetF, MP.s_xRF, MP.s_IfF, MP.s_xIFT, MP.s_xIFF, MP.s_FldN, MP.s_xN, MP.s_xN2, MP.s_xN3, MP.s_put0, MP.s_put1, MP.s_putN, MP.f_P, MP.f_xPs, MP.f_xPf, MP.f_User, MP.f_xFU, MP.f_Meth, MP.f_xM, MP.f_xM2, MP.f_Make, MP.f_xMk, MP.f_xMkF, MP.fe_ok, MP.r_run, MP.r_un, MP.r_un0, MP.r_nx, MP.r_ret, MP.r_exc, MP.t_nx, MP.t_cont, MP.t_brk, MP.t_ret, MP.b_nm, MP.b_tp2, MP.b_tp3, MP.t_bk, MP.fe_pop, MP.s_appF, MP.s_dead, MP.g_divmod, MP.g_sorted, MP.g_allB, MP.g_anyB, MP.g_sumI, MP.g_zipT, MP.g_zipL, MP.e_pZip, MP.e_xZp, MP.g_abs, MP.g_intI, MP.g_intB, MP.g_repT, MP.e_pLRng, MP.e_xLR, MP.f_Pop, MP.f_xPop, MP.s_AppF, MP.s_xAF0, MP.s_xAF, MP.s_xAF2, MP.g_inI, MP.g_ninI, MP.g_inT, MP.g_ninT, MP.g_ninST, MP.e_c2, MP.e_c3, MP.e_c4, MP.e_c5, MP.e_pIsi, MP.s_tryV, MP.s_raise, MP.s_raiseN, MP.e_pMt, MP.e_xMtL, MP.e_xMtK, MP.g_xor, MP.s_Raise, MP.s_xRa1, MP.s_xRa2, MP.s_RaiseN, MP.s_TryV, MP.s_xTVn, MP.s_xTVr, MP.s_xTVe, MP.s_tryC, MP.e_xDe, MP.e_x1e, MP.e_x2e, MP.e_xBe, MP.s_xExe, MP.s_xSVe, MP.s_xSOe, MP.s_xRte, MP.s_xIfe, MP.s_xTue, MP.s_xThe, MP.s_xEFe, MP.s_xSFe, MP.s_xRFe, MP.fe_exc, MP.t_exc, MP.n_xv, List.getElem?_cons_zero, List.getElem?_cons_succ, List.getElem?_nil, List.set_cons_zero, List.set_cons_succ, List.map_cons, List.map_nil, List.length_cons, List.length_nil, List.length_append, List.cons_append, List.nil_append, List.length_map, List.length_singleton, Nat.reduceBEq, Nat.reduceAdd, Nat.reduceSub, Nat.reduceMul, Nat.reduceEqDiff, Nat.reduceLeDiff, Nat.reduceLT, if_false, if_true, ite_true, ite_false, ↓reduceIte, Bool.not_true, Bool.not_false, Bool.false_eq_true, decide_true, decide_false, eq_self, and_true, true_and, and_self, Nat.zero_le, Nat.zero_add, Option.bind_some, Option.bind_none, Nat.lt_irrefl, Int.reduceToNat, Int.reducePow, Int.reduceNeg, Int.reduceMul, Int.reduceAdd, Int.reduceSub, Int.reduceLT, Int.reduceLE, Int.reduceEq, beq_self_eq_true, wipeE, MP.at0, MP.at1, MP.at2, MP.atLit, hf, e1, e2, e3, e4]
  · refine ⟨R, C, x8, ?_⟩
    simp (disch := (first | assumption | with_reducible rfl | decide +kernel | exact Or.inl (by decide +kernel) | exact Or.inr (by decide +kernel) | omega | (simp only [List.length_cons, List.length_nil, List.length_append, List.length_map, List.length_replicate, List.length_range] <;> omega) | rfl)) only [MP.of_some, MP.map_some, MP.e_lv, MP.e_lo, MP.e_pD, MP.e_xDs, MP.e_xDf, MP.e_pC, MP.e_pYes, MP.e_pVar, MP.e_p2, MP.e_x2, MP.e_p1, MP.e_x1, MP.e_pB, MP.e_xB, MP.e_pNot, MP.e_xNot, MP.e_pAnd, MP.e_xAndT, MP.e_xAndF, MP.e_pOr, MP.e_xOrT, MP.e_xOrF, MP.e_pAndV, MP.e_xAndVT, MP.e_xAndVF, MP.e_pOrV, MP.e_xOrVT, MP.e_xOrVF, MP.e_pNotV, MP.e_xNotV, MP.e_pIf, MP.e_xIfT, MP.e_xIfF, MP.e_p3, MP.e_x3, MP.e_x3bT, MP.e_x3bF, MP.e_pNil, MP.e_pCons, MP.e_xCons, MP.e_pTup, MP.e_xTp, MP.e_pLst, MP.e_xLs, MP.e_pNo, MP.e_pSome, MP.e_xSo, MP.e_pSl, MP.e_xSl, MP.e_pCall, MP.e_xG, MP.e_pSeq, MP.e_xSq, MP.e_pSeqR, MP.e_xSqR, MP.e_pRng, MP.e_pEnum, MP.e_xEn, MP.e_pComp, MP.e_xC, MP.e_xC2, MP.e_pUser, MP.e_xU, MP.e_xFv, MP.e_xFo, MP.e_xFe, MP.e_pSeal, MP.e_xSe, MP.e_xSeFv, MP.e_xSeFo, MP.e_pLook, MP.e_xLo, MP.e_xLoF, MP.e_xLoO, MP.e_xLoE, MP.e_pFld, MP.e_xFd, MP.e_xOb, MP.e_xLk0, MP.e_xLk1, MP.e_c0, MP.e_c1, MP.g_add, MP.g_catS, MP.g_catL, MP.g_catT, MP.g_sub, MP.g_mul, MP.g_rep, MP.g_div, MP.g_mod, MP.g_pow, MP.g_shl, MP.g_shr, MP.g_and, MP.g_orI, MP.g_neg, MP.g_lt, MP.g_le, MP.g_gt, MP.g_ge, MP.g_eqI, MP.g_eqS, MP.g_eqBo, MP.g_neI, MP.g_neS, MP.g_neBo, MP.g_is, MP.g_isNot, MP.n_none, MP.n_int, MP.n_str, MP.n_tup, MP.n_list, MP.n_bool, MP.g_max, MP.g_min, MP.g_lenL, MP.g_lenK, MP.g_lenT, MP.g_listL, MP.g_listK, MP.g_listT, MP.g_tupL, MP.g_tupT, MP.q_list, MP.q_lk, MP.q_tup, MP.g_rng1, MP.g_rng2, MP.g_enumL, MP.g_enumK, MP.g_ixL, MP.g_ixK, MP.g_ixT, MP.g_slL, MP.g_slK, MP.g_slT, MP.s_Nil, MP.s_Brk, MP.s_Cont, MP.s_Seq, MP.s_xSn, MP.s_xSr, MP.s_xSb, MP.s_xSc, MP.s_xSe, MP.s_Expr, MP.s_xEx, MP.s_SetV, MP.s_xSV, MP.s_SetO, MP.s_xSOs, MP.s_xSOf, MP.s_Ret, MP.s_xRts, MP.s_xRtf, MP.s_RetN, MP.s_RetS, MP.s_xRSo, MP.s_xRSv, MP.s_If, MP.s_xIfT, MP.s_xIfF, MP.s_Tup, MP.s_xTu, MP.s_xTb, MP.s_For, MP.s_xFor, MP.s_App, MP.s_xAp, MP.s_Thaw, MP.s_xTh, MP.s_Frz, MP.s_xFzo, MP.s_xFzv, MP.s_ExprF, MP.s_xEF, MP.s_SetF, MP.s_xSF, MP.s_RetF, MP.s_xRF, MP.s_IfF, MP.s_xIFT, MP.s_xIFF, MP.s_FldN, MP.s_xN, MP.s_xN2, MP.s_xN3, MP.s_put0, MP.s_put1, MP.s_putN, MP.f_P, MP.f_xPs, MP.f_xPf, MP.f_User, MP.f_xFU, MP.f_Meth, MP.f_xM, MP.f_xM2, MP.f_Make, MP.f_xMk, MP.f_xMkF, MP.fe_ok, MP.r_run, MP.r_un, MP.r_un0, MP.r_nx, MP.r_ret, MP.r_exc, MP.t_nx, MP.t_cont, MP.t_brk, MP.t_ret, MP.b_nm, MP.b_tp2, MP.b_tp3, MP.t_bk, MP.fe_pop, MP.s_appF, MP.s_dead, MP.g_divmod, MP.g_sorted, MP.g_allB, MP.g_anyB, MP.g_sumI, MP.g_zipT, MP.g_zipL, MP.e_pZip, MP.e_xZp, MP.g_abs, MP.g_intI, MP.g_intB, MP.g_repT, MP.e_pLRng, MP.e_xLR, MP.f_Pop, MP.f_xPop, MP.s_AppF, MP.s_xAF0, MP.s_xAF, MP.s_xAF2, MP.g_inI, MP.g_ninI, MP.g_inT, MP.g_ninT, MP.g_ninST, MP.e_c2, MP.e_c3, MP.e_c4, MP.e_c5, MP.e_pIsi, MP.s_tryV, MP.s_raise, MP.s_raiseN, MP.e_pMt, MP.e_xMtL, MP.e_xMtK, MP.g_xor, MP.s_Raise, MP.s_xRa1, MP.s_xRa2, MP.s_RaiseN, MP.s_TryV, MP.s_xTVn, MP.s_xTVr, MP.s_xTVe, MP.s_tryC, MP.e_xDe, MP.e_x1e, MP.e_x2e, MP.e_xBe, MP.s_xExe, MP.s_xSVe, MP.s_xSOe, MP.s_xRte, MP.s_xIfe, MP.s_xTue, MP.s_xThe, MP.s_xEFe, MP.s_xSFe, MP.s_xRFe, MP.fe_exc, MP.t_exc, MP.n_xv, List.getElem?_cons_zero, List.getElem?_cons_succ, List.getElem?_nil, List.set_cons_zero, List.set_cons_succ, List.map_cons, List.map_nil, List.length_cons, List.length_nil, List.length_append, List.cons_append, List.nil_append, List.length_map, List.length_singleton, Nat.reduceBEq, Nat.reduceAdd, Nat.reduceSub, Nat.reduceMul, Nat.reduceEqDiff, Nat.reduceLeDiff, Nat.reduceLT, if_false, if_true, ite_true, ite_false, ↓reduceIte, Bool.not_true, Bool.not_false, Bool.false_eq_true, decide_true, decide_false, eq_self, and_true, true_and, and_self, Nat.zero_le, Nat.zero_add, Option.bind_some, Option.bind_none, Nat.lt_irrefl, Int.reduceToNat, Int.reducePow, Int.reduceNeg, Int.reduceMul, Int.reduceAdd, Int.reduceSub, Int.reduceLT, Int.reduceLE, Int.reduceEq, beq_self_eq_true, wipeE, MP.at0, MP.at1, MP.at2, MP.atLit, hf]
theorem g_rep13 (es : List (Int × Int)) (hb : es.length ≤ 14) : ∃ es' : List (Int × Int), gTimes (.list (psD es)) (.int 13) = some ⟨.fr, .list (psD es')⟩ := by
  have hl := psD_len es
  refine ⟨(List.replicate 13 es).flatten, ?_⟩
  have : (13 : Int) < 16777216 ∧ (psD es).length * (13 : Int).toNat ≤ 16777216 ∧ -16777216 < (13 : Int) := ⟨by omega, by rw [show (13 : Int).toNat = 13 from rfl]; omega, by omega⟩
  show (gMul _ _).or (if _ then _ else _) = _
  rw [if_pos this]
  show some _ = _
  rw [show (13 : Int).toNat = 13 from rfl]
  unfold psD
  rw [List.map_flatten, List.map_replicate]
theorem m_7 (ns : List Int) (f R C : Int) (es : List (Int × Int)) (x7 x8 : Slot) (hb : es.length ≤ 14) : ∃ es' : List (Int × Int), es'.length ≤ 14 ∧ st_law_7 (at7 ns f R C es x7 x8) = .nx (at7 ns f R C es' x7 x8) := by
  unfold st_law_7 at7
  by_cases hf : f % 8 = 5
  · have hf : (f % 8 = 5) = True := eq_true hf
    obtain ⟨v, hv, e1⟩ := m_take f 9 (by decide) 2 (by decide)
    have e1 : sem_l_take [.int f, .int 9, .int 2] [] = .ok (.v (.int v)) [] := e1
    obtain ⟨es2, e2⟩ := g_rep13 es hb
    have e3 := cut_hi (psD es2) (h := (13 : Int)) (by omega)
    rw [psD_take, show (13 : Int).toNat = 13 from rfl] at e3
    obtain ⟨es3, e5, e4⟩ : ∃ es3 : List (Int × Int), es3.length ≤ 14 ∧ atI [D.list [], .list (psD (es2.take 13))] (v : Int) = some (.list (psD es3)) := by
      rw [atN]
      rcases (by omega : v = 0 ∨ v = 1) with rfl | rfl
      · exact ⟨[], by simp, rfl⟩
      · exact ⟨es2.take 13, by simp; omega, rfl⟩
    refine ⟨es3, e5, ?_⟩
    simp (disch := (first | assumption | with_reducible rfl | decide +kernel | exact Or.inl (by decide +kernel) | exact Or.inr (by decide +kernel) | omega | (simp only [List.length_cons, List.length_nil, List.length_append, List.length_map, List.length_replicate, List.length_range] <;> omega) | rfl)) only [MP.of_some, MP.map_some, MP.e_lv, MP.e_lo, MP.e_pD, MP.e_xDs, MP.e_xDf, MP.e_pC, MP.e_pYes, MP.e_pVar, MP.e_p2, MP.e_x2, MP.e_p1, MP.e_x1, MP.e_pB, MP.e_xB, MP.e_pNot, MP.e_xNot, MP.e_pAnd, MP.e_xAndT, MP.e_xAndF, MP.e_pOr, MP.e_xOrT, MP.e_xOrF, MP.e_pAndV, MP.e_xAndVT, MP.e_xAndVF, MP.e_pOrV, MP.e_xOrVT, MP.e_xOrVF, MP.e_pNotV, MP.e_xNotV, MP.e_pIf, MP.e_xIfT, MP.e_xIfF, MP.e_p3, MP.e_x3, MP.e_x3bT, MP.e_x3bF, MP.e_pNil, MP.e_pCons, MP.e_xCons, MP.e_pTup, MP.e_xTp, MP.e_pLst, MP.e_xLs, MP.e_pNo, MP.e_pSome, MP.e_xSo, MP.e_pSl, MP.e_xSl, MP.e_pCall, MP.e_xG, MP.e_pSeq, MP.e_xSq, MP.e_pSeqR, MP.e_xSqR, MP.e_pRng, MP.e_pEnum, MP.e_xEn, MP.e_pComp, MP.e_xC, MP.e_xC2, MP.e_pUser, MP.e_xU, MP.e_xFv, MP.e_xFo, MP.e_xFe, MP.e_pSeal, MP.e_xSe, MP.e_xSeFv, MP.e_xSeFo, MP.e_pLook, MP.e_xLo, MP.e_xLoF, MP.e_xLoO, MP.e_xLoE, MP.e_pFld, MP.e_xFd, MP.e_xOb, MP.e_xLk0, MP.e_xLk1, MP.e_c0, MP.e_c1, MP.g_add, MP.g_catS, MP.g_catL, MP.g_catT, MP.g_sub, MP.g_mul, MP.g_rep, MP.g_div, MP.g_mod, MP.g_pow, MP.g_shl, MP.g_shr, MP.g_and, MP.g_orI, MP.g_neg, MP.g_lt, MP.g_le, MP.g_gt, MP.g_ge, MP.g_eqI, MP.g_eqS, MP.g_eqBo, MP.g_neI, MP.g_neS, MP.g_neBo, MP.g_is, MP.g_isNot, MP.n_none, MP.n_int, MP.n_str, MP.n_tup, MP.n_list, MP.n_bool, MP.g_max, MP.g_min, MP.g_lenL, MP.g_lenK, MP.g_lenT, MP.g_listL, MP.g_listK, MP.g_listT, MP.g_tupL, MP.g_tupT, MP.q_list, MP.q_lk, MP.q_tup, MP.g_rng1, MP.g_rng2, MP.g_enumL, MP.g_enumK, MP.g_ixL, MP.g_ixK, MP.g_ixT, MP.g_slL, MP.g_slK, MP.g_slT, MP.s_Nil, MP.s_Brk, MP.s_Cont, MP.s_Seq, MP.s_xSn, MP.s_xSr, MP.s_xSb, MP.s_xSc, MP.s_xSe, MP.s_Expr, MP.s_xEx, MP.s_SetV, MP.s_xSV, MP.s_SetO, MP.s_xSOs, MP.s_xSOf, MP.s_Ret, MP.s_xRts, MP.s_xRtf, MP.s_RetN, MP.s_RetS, MP.s_xRSo, MP.s_xRSv, MP.s_If, MP.s_xIfT, MP.s_xIfF, MP.s_Tup, MP.s_xTu, MP.s_xTb, MP.s_For, MP.s_xFor, MP.s_App, MP.s_xAp, MP.s_Thaw, MP.s_xTh, MP.s_Frz, MP.s_xFzo, MP.s_xFzv, MP.s_ExprF, MP.s_xEF, MP.s_SetF, MP.s_xSF, MP.s_RetF, MP.s_xRF, MP.s_IfF, MP.s_xIFT, MP.s_xIFF, MP.s_FldN, MP.s_xN, MP.s_xN2, MP.s_xN3, MP.s_put0, MP.s_put1, MP.s_putN, MP.f_P, MP.f_xPs, MP.f_xPf, MP.f_User, MP.f_xFU, MP.f_Meth, MP.f_xM, MP.f_xM2, MP.f_Make, MP.f_xMk, MP.f_xMkF, MP.fe_ok, MP.r_run, MP.r_un, MP.r_un0, MP.r_nx, MP.r_ret, MP.r_exc, MP.t_nx, MP.t_cont, MP.t_brk, MP.t_ret, MP.b_nm, MP.b_tp2, MP.b_tp3, MP.t_bk, MP.fe_pop, MP.s_appF, MP.s_dead, MP.g_divmod, MP.g_sorted, MP.g_allB, MP.g_anyB, MP.g_sumI, MP.g_zipT, MP.g_zipL, MP.e_pZip, MP.e_xZp, MP.g_abs, MP.g_intI, MP.g_intB, MP.g_repT, MP.e_pLRng, MP.e_xLR, MP.f_Pop, MP.f_xPop, MP.s_AppF, MP.s_xAF0, MP.s_xAF, MP.s_xAF2, MP.g_inI, MP.g_ninI, MP.g_inT, MP.g_ninT, MP.g_ninST, MP.e_c2, MP.e_c3, MP.e_c4, MP.e_c5, MP.e_pIsi, MP.s_tryV, MP.s_raise, MP.s_raiseN, MP.e_pMt, MP.e_xMtL, MP.e_xMtK, MP.g_xor, MP.s_Raise, MP.s_xRa1, MP.s_xRa2, MP.s_RaiseN, MP.s_TryV, MP.s_xTVn, MP.s_xTVr, MP.s_xTVe, MP.s_tryC, MP.e_xDe, MP.e_x1e, MP.e_x2e, MP.e_xBe, MP.s_xExe, MP.s_xSVe, MP.s_xSOe, MP.s_xRte, MP.s_xIfe, MP.s_xTue, MP.s_xThe, MP.s_xEFe, MP.s_xSFe, MP.s_xRFe, MP.fe_exc, MP.t_exc, MP.n_xv, List.getElem?_cons_zero, List.getElem?_cons_succ, List.getElem?_nil, List.set_cons_zero, List.set_cons_succ, List.map_cons, List.map_nil, List.length_cons, List.length_nil, List.length_append, List.cons_append, List.nil_append, List.length_map, List.length_singleton, Nat.reduceBEq, Nat.reduceAdd, Nat.reduceSub, Nat.reduceMul, Nat.reduceEqDiff, Nat.reduceLeDiff, Nat.reduceLT, if_false, if_true, ite_true, ite_false, ↓reduceIte, Bool.not_true, Bool.not_false, Bool.false_eq_true, decide_true, decide_false, eq_self, and_true, true_and, and_self, Nat.zero_le, Nat.zero_add, Option.bind_some, Option.bind_none, Nat.lt_irrefl, Int.reduceToNat, Int.reducePow, Int.reduceNeg, Int.reduceMul, Int.reduceAdd, Int.reduceSub, Int.reduceLT, Int.reduceLE, Int.reduceEq, beq_self_eq_true, wipeE, MP.at0, MP.at1, MP.at2, MP.atLit, hf, e1, e2, e3, e4]
  · refine ⟨es, hb, ?_⟩
    simp (disch := (first | assumption | with_reducible rfl | decide +kernel | exact Or.inl (by decide +kernel) | exact Or.inr (by decide +kernel) | omega | (simp only [List.length_cons, List.length_nil, List.length_append, List.length_map, List.length_replicate, List.length_range] <;> omega) | rfl)) only [MP.of_some, MP.map_some, MP.e_lv, MP.e_lo, MP.e_pD, MP.e_xDs, MP.e_xDf, MP.e_pC, MP.e_pYes, MP.e_pVar, MP.e_p2, MP.e_x2, MP.e_p1, MP.e_x1, MP.e_pB, MP.e_xB, MP.e_pNot, MP.e_xNot, MP.e_pAnd, MP.e_xAndT, MP.e_xAndF, MP.e_pOr, MP.e_xOrT, MP.e_xOrF, MP.e_pAndV, MP.e_xAndVT, MP.e_xAndVF, MP.e_pOrV, MP.e_xOrVT, MP.e_xOrVF, MP.e_pNotV, MP.e_xNotV, MP.e_pIf, MP.e_xIfT, MP.e_xIfF, MP.e_p3, MP.e_x3, MP.e_x3bT, MP.e_x3bF, MP.e_pNil, MP.e_pCons, MP.e_xCons, MP.e_pTup, MP.e_xTp, MP.e_pLst, MP.e_xLs, MP.e_pNo, MP.e_pSome, MP.e_xSo, MP.e_pSl, MP.e_xSl, MP.e_pCall, MP.e_xG, MP.e_pSeq, MP.e_xSq, MP.e_pSeqR, MP.e_xSqR, MP.e_pRng, MP.e_pEnum, MP.e_xEn, MP.e_pComp, MP.e_xC, MP.e_xC2, MP.e_pUser, MP.e_xU, MP.e_xFv, MP.e_xFo, MP.e_xFe, MP.e_pSeal, MP.e_xSe, MP.e_xSeFv, MP.e_xSeFo, MP.e_pLook, MP.e_xLo, MP.e_xLoF, MP.e_xLoO, MP.e_xLoE, MP.e_pFld, MP.e_xFd, MP.e_xOb, MP.e_xLk0, MP.e_xLk1, MP.e_c0, MP.e_c1, MP.g_add, MP.g_catS, MP.g_catL, MP.g_catT, MP.g_sub, MP.g_mul, MP.g_rep, MP.g_div, MP.g_mod, MP.g_pow, MP.g_shl, MP.g_shr, MP.g_and, MP.g_orI, MP.g_neg, MP.g_lt, MP.g_le, MP.g_gt, MP.g_ge, MP.g_eqI, MP.g_eqS, MP.g_eqBo, MP.g_neI, MP.g_neS, MP.g_neBo, MP.g_is, MP.g_isNot, MP.n_none, MP.n_int, MP.n_str, MP.n_tup, MP.n_list, MP.n_bool, MP.g_max, MP.g_min, MP.g_lenL, MP.g_lenK, MP.g_lenT, MP.g_listL, MP.g_listK, MP.g_listT, MP.g_tupL, MP.g_tupT, MP.q_list, MP.q_lk, MP.q_tup, MP.g_rng1, MP.g_rng2, MP.g_enumL, MP.g_enumK, MP.g_ixL, MP.g_ixK, MP.g_ixT, MP.g_slL, MP.g_slK, MP.g_slT, MP.s_Nil, MP.s_Brk, MP.s_Cont, MP.s_Seq, MP.s_xSn, MP.s_xSr, MP.s_xSb, MP.s_xSc, MP.s_xSe, MP.s_Expr, MP.s_xEx, MP.s_SetV, MP.s_xSV, MP.s_SetO, MP.s_xSOs, MP.s_xSOf, MP.s_Ret, MP.s_xRts, MP.s_xRtf, MP.s_RetN, MP.s_RetS, MP.s_xRSo, MP.s_xRSv, MP.s_If, MP.s_xIfT, MP.s_xIfF, MP.s_Tup, MP.s_xTu, MP.s_xTb, MP.s_For, MP.s_xFor, MP.s_App, MP.s_xAp, MP.s_Thaw, MP.s_xTh, MP.s_Frz, MP.s_xFzo, MP.s_xFzv, MP.s_ExprF, MP.s_xEF, MP.s_SetF, MP.s_xSF, MP.s_RetF, MP.s_xRF, MP.s_IfF, MP.s_xIFT, MP.s_xIFF, MP.s_FldN, MP.s_xN, MP.s_xN2, MP.s_xN3, MP.s_put0, MP.s_put1, MP.s_putN, MP.f_P, MP.f_xPs, MP.f_xPf, MP.f_User, MP.f_xFU, MP.f_Meth, MP.f_xM, MP.f_xM2, MP.f_Make, MP.f_xMk, MP.f_xMkF, MP.fe_ok, MP.r_run, MP.r_un, MP.r_un0, MP.r_nx, MP.r_ret, MP.r_exc, MP.t_nx, MP.t_cont, MP.t_brk, MP.t_ret, MP.b_nm, MP.b_tp2, MP.b_tp3, MP.t_bk, MP.fe_pop, MP.s_appF, MP.s_dead, MP.g_divmod, MP.g_sorted, MP.g_allB, MP.g_anyB, MP.g_sumI, MP.g_zipT, MP.g_zipL, MP.e_pZip, MP.e_xZp, MP.g_abs, MP.g_intI, MP.g_intB, MP.g_repT, MP.e_pLRng, MP.e_xLR, MP.f_Pop, MP.f_xPop, MP.s_AppF, MP.s_xAF0, MP.s_xAF, MP.s_xAF2, MP.g_inI, MP.g_ninI, MP.g_inT, MP.g_ninT, MP.g_ninST, MP.e_c2, MP.e_c3, MP.e_c4, MP.e_c5, MP.e_pIsi, MP.s_tryV, MP.s_raise, MP.s_raiseN, MP.e_pMt, MP.e_xMtL, MP.e_xMtK, MP.g_xor, MP.s_Raise, MP.s_xRa1, MP.s_xRa2, MP.s_RaiseN, MP.s_TryV, MP.s_xTVn, MP.s_xTVr, MP.s_xTVe, MP.s_tryC, MP.e_xDe, MP.e_x1e, MP.e_x2e, MP.e_xBe, MP.s_xExe, MP.s_xSVe, MP.s_xSOe, MP.s_xRte, MP.s_xIfe, MP.s_xTue, MP.s_xThe, MP.s_xEFe, MP.s_xSFe, MP.s_xRFe, MP.fe_exc, MP.t_exc, MP.n_xv, List.getElem?_cons_zero, List.getElem?_cons_succ, List.getElem?_nil, List.set_cons_zero, List.set_cons_succ, List.map_cons, List.map_nil, List.length_cons, List.length_nil, List.length_append, List.cons_append, List.nil_append, List.length_map, List.length_singleton, Nat.reduceBEq, Nat.reduceAdd, Nat.reduceSub, Nat.reduceMul, Nat.reduceEqDiff, Nat.reduceLeDiff, Nat.reduceLT, if_false, if_true, ite_true, ite_false, ↓reduceIte, Bool.not_true, Bool.not_false, Bool.false_eq_true, decide_true, decide_false, eq_self, and_true, true_and, and_self, Nat.zero_le, Nat.zero_add, Option.bind_some, Option.bind_none, Nat.lt_irrefl, Int.reduceToNat, Int.reducePow, Int.reduceNeg, Int.reduceMul, Int.reduceAdd, Int.reduceSub, Int.reduceLT, Int.reduceLE, Int.reduceEq, beq_self_eq_true, wipeE, MP.at0, MP.at1, MP.at2, MP.atLit, hf]
theorem m_rest (ns : List Int) (f R C : Int) (es : List (Int × Int)) (hb : es.length ≤ 14) (x7 x8 : Slot) : (sSeq st_law_8 (sSeq st_law_9 (sSeq st_law_10 (sSeq st_law_11 (sSeq st_law_12 (sSeq st_law_13 st_law_14))))) (at7 ns f R C es x7 x8)).fr = .ok (.v (.bool true)) [] := by
  obtain ⟨v, hv, eb, ef⟩ := m_verdict R C es
  have hl := psD_len es
  unfold at7 st_law_8 st_law_9 st_law_10 st_law_11 st_law_12 st_law_13 st_law_14
  have p1 : gEq (.list (psD es)) (.list (psD es)) = some ⟨.sh, .bool true⟩ := g_eqR (plain_lst es) rfl
  rcases hv with rfl | hv
  · have p2 : gNe (.list (psD es)) (.list (psD es)) = some ⟨.sh, .bool false⟩ := g_neR (plain_lst es) rfl
    have p3 : gNe (.tup [.int R, .int C, .tup (psD es)]) (.tup [.int R, .int C, .tup (psD es)]) = some ⟨.sh, .bool false⟩ := g_neR (plain_fr R C es) rfl
    have p4 : gEq (.tup [.int R, .int C, .tup (psD es)]) (.tup [.int R, .int C, .tup (psD es)]) = some ⟨.sh, .bool true⟩ := g_eqR (plain_fr R C es) rfl
    have p5 := cold_fr R C es
    unfold vdB at eb
    unfold vdF at ef
    simp (disch := (first | assumption | with_reducible rfl | decide +kernel | exact Or.inl (by decide +kernel) | exact Or.inr (by decide +kernel) | omega | (simp only [List.length_cons, List.length_nil, List.length_append, List.length_map, List.length_replicate, List.length_range] <;> omega) | rfl)) only [MP.of_some, MP.map_some, MP.e_lv, MP.e_lo, MP.e_pD, MP.e_xDs, MP.e_xDf, MP.e_pC, MP.e_pYes, MP.e_pVar, MP.e_p2, MP.e_x2, MP.e_p1, MP.e_x1, MP.e_pB, MP.e_xB, MP.e_pNot, MP.e_xNot, MP.e_pAnd, MP.e_xAndT, MP.e_xAndF, MP.e_pOr, MP.e_xOrT, MP.e_xOrF, MP.e_pAndV, MP.e_xAndVT, MP.e_xAndVF, MP.e_pOrV, MP.e_xOrVT, MP.e_xOrVF, MP.e_pNotV, MP.e_xNotV, MP.e_pIf, MP.e_xIfT, MP.e_xIfF, MP.e_p3, MP.e_x3, MP.e_x3bT, MP.e_x3bF, MP.e_pNil, MP.e_pCons, MP.e_xCons, MP.e_pTup, MP.e_xTp, MP.e_pLst, MP.e_xLs, MP.e_pNo, MP.e_pSome, MP.e_xSo, MP.e_pSl, MP.e_xSl, MP.e_pCall, MP.e_xG, MP.e_pSeq, MP.e_xSq, MP.e_pSeqR, MP.e_xSqR, MP.e_pRng, MP.e_pEnum, MP.e_xEn, MP.e_pComp, MP.e_xC, MP.e_xC2, MP.e_pUser, MP.e_xU, MP.e_xFv, MP.e_xFo, MP.e_xFe, MP.e_pSeal, MP.e_xSe, MP.e_xSeFv, MP.e_xSeFo, MP.e_pLook, MP.e_xLo, MP.e_xLoF, MP.e_xLoO, MP.e_xLoE, MP.e_pFld, MP.e_xFd, MP.e_xOb, MP.e_xLk0, MP.e_xLk1, MP.e_c0, MP.e_c1, MP.g_add, MP.g_catS, MP.g_catL, MP.g_catT, MP.g_sub, MP.g_mul, MP.g_rep, MP.g_div, MP.g_mod, MP.g_pow, MP.g_shl, MP.g_shr, MP.g_and, MP.g_orI, MP.g_neg, MP.g_lt, MP.g_le, MP.g_gt, MP.g_ge, MP.g_eqI, MP.g_eqS, MP.g_eqBo, MP.g_neI, MP.g_neS, MP.g_neBo, MP.g_is, MP.g_isNot, MP.n_none, MP.n_int, MP.n_str, MP.n_tup, MP.n_list, MP.n_bool, MP.g_max, MP.g_min, MP.g_lenL, MP.g_lenK, MP.g_lenT, MP.g_listL, MP.g_listK, MP.g_listT, MP.g_tupL, MP.g_tupT, MP.q_list, MP.q_lk, MP.q_tup, MP.g_rng1, MP.g_rng2, MP.g_enumL, MP.g_enumK, MP.g_ixL, MP.g_ixK, MP.g_ixT, MP.g_slL, MP.g_slK, MP.g_slT, MP.s_Nil, MP.s_Brk, MP.s_Cont, MP.s_Seq, MP.s_xSn, MP.s_xSr, MP.s_xSb, MP.s_xSc, MP.s_xSe, MP.s_Expr, MP.s_xEx, MP.s_SetV, MP.s_xSV, MP.s_SetO, MP.s_xSOs, MP.s_xSOf, MP.s_Ret, MP.s_xRts, MP.s_xRtf, MP.s_RetN, MP.s_RetS, MP.s_xRSo, MP.s_xRSv, MP.s_If, MP.s_xIfT, MP.s_xIfF, MP.s_Tup, MP.s_xTu, MP.s_xTb, MP.s_For, MP.s_xFor, MP.s_App, MP.s_xAp, MP.s_Thaw, MP.s_xTh, MP.s_Frz, MP.s_xFzo, MP.s_xFzv, MP.s_ExprF, MP.s_xEF, MP.s_SetF, MP.s_xSF, MP.s_RetF, MP.s_xRF, MP.s_IfF, MP.s_xIFT, MP.s_xIFF, MP.s_FldN, MP.s_xN, MP.s_xN2, MP.s_xN3, MP.s_put0, MP.s_put1, MP.s_putN, MP.f_P, MP.f_xPs, MP.f_xPf, MP.f_User, MP.f_xFU, MP.f_Meth, MP.f_xM, MP.f_xM2, MP.f_Make, MP.f_xMk, MP.f_xMkF, MP.fe_ok, MP.r_run, MP.r_un, MP.r_un0, MP.r_nx, MP.r_ret, MP.r_exc, MP.t_nx, MP.t_cont, MP.t_brk, MP.t_ret, MP.b_nm, MP.b_tp2, MP.b_tp3, MP.t_bk, MP.fe_pop, MP.s_appF, MP.s_dead, MP.g_divmod, MP.g_sorted, MP.g_allB, MP.g_anyB, MP.g_sumI, MP.g_zipT, MP.g_zipL, MP.e_pZip, MP.e_xZp, MP.g_abs, MP.g_intI, MP.g_intB, MP.g_repT, MP.e_pLRng, MP.e_xLR, MP.f_Pop, MP.f_xPop, MP.s_AppF, MP.s_xAF0, MP.s_xAF, MP.s_xAF2, MP.g_inI, MP.g_ninI, MP.g_inT, MP.g_ninT, MP.g_ninST, MP.e_c2, MP.e_c3, MP.e_c4, MP.e_c5, MP.e_pIsi, MP.s_tryV, MP.s_raise, MP.s_raiseN, MP.e_pMt, MP.e_xMtL, MP.e_xMtK, MP.g_xor, MP.s_Raise, MP.s_xRa1, MP.s_xRa2, MP.s_RaiseN, MP.s_TryV, MP.s_xTVn, MP.s_xTVr, MP.s_xTVe, MP.s_tryC, MP.e_xDe, MP.e_x1e, MP.e_x2e, MP.e_xBe, MP.s_xExe, MP.s_xSVe, MP.s_xSOe, MP.s_xRte, MP.s_xIfe, MP.s_xTue, MP.s_xThe, MP.s_xEFe, MP.s_xSFe, MP.s_xRFe, MP.fe_exc, MP.t_exc, MP.n_xv, List.getElem?_cons_zero, List.getElem?_cons_succ, List.getElem?_nil, List.set_cons_zero, List.set_cons_succ, List.map_cons, List.map_nil, List.length_cons, List.length_nil, List.length_append, List.cons_append, List.nil_append, List.length_map, List.length_singleton, Nat.reduceBEq, Nat.reduceAdd, Nat.reduceSub, Nat.reduceMul, Nat.reduceEqDiff, Nat.reduceLeDiff, Nat.reduceLT, if_false, if_true, ite_true, ite_false, ↓reduceIte, Bool.not_true, Bool.not_false, Bool.false_eq_true, decide_true, decide_false, eq_self, and_true, true_and, and_self, Nat.zero_le, Nat.zero_add, Option.bind_some, Option.bind_none, Nat.lt_irrefl, Int.reduceToNat, Int.reducePow, Int.reduceNeg, Int.reduceMul, Int.reduceAdd, Int.reduceSub, Int.reduceLT, Int.reduceLE, Int.reduceEq, beq_self_eq_true, wipeE, MP.at0, MP.at1, MP.at2, MP.atLit, eb, ef, p2, p3, p4, isiB, tyN]
  · obtain ⟨d, rfl, hd⟩ : ∃ d : D, v = some d ∧ (d = .none ∨ ∃ i : Int, d = .int i) := by
      rcases hv with rfl | ⟨i, rfl⟩
      · exact ⟨_, rfl, .inl rfl⟩
      · exact ⟨_, rfl, .inr ⟨_, rfl⟩⟩
    unfold vdB at eb
    have er := m_refused R C (psD es) d hd ef
    have p2 : coldD (.tup [.bool true, d]) = true := by
      rcases hd with rfl | ⟨i, rfl⟩ <;> simp only [coldD, coldDs, Bool.and_self]
    have p3 : gEq (.tup [.bool true, d]) (.tup [.bool true, d]) = some ⟨.sh, .bool true⟩ := by
      rcases hd with rfl | ⟨i, rfl⟩
      · exact g_eqR rfl rfl
      · exact g_eqR rfl rfl
    simp (disch := (first | assumption | with_reducible rfl | decide +kernel | exact Or.inl (by decide +kernel) | exact Or.inr (by decide +kernel) | omega | (simp only [List.length_cons, List.length_nil, List.length_append, List.length_map, List.length_replicate, List.length_range] <;> omega) | rfl)) only [MP.of_some, MP.map_some, MP.e_lv, MP.e_lo, MP.e_pD, MP.e_xDs, MP.e_xDf, MP.e_pC, MP.e_pYes, MP.e_pVar, MP.e_p2, MP.e_x2, MP.e_p1, MP.e_x1, MP.e_pB, MP.e_xB, MP.e_pNot, MP.e_xNot, MP.e_pAnd, MP.e_xAndT, MP.e_xAndF, MP.e_pOr, MP.e_xOrT, MP.e_xOrF, MP.e_pAndV, MP.e_xAndVT, MP.e_xAndVF, MP.e_pOrV, MP.e_xOrVT, MP.e_xOrVF, MP.e_pNotV, MP.e_xNotV, MP.e_pIf, MP.e_xIfT, MP.e_xIfF, MP.e_p3, MP.e_x3, MP.e_x3bT, MP.e_x3bF, MP.e_pNil, MP.e_pCons, MP.e_xCons, MP.e_pTup, MP.e_xTp, MP.e_pLst, MP.e_xLs, MP.e_pNo, MP.e_pSome, MP.e_xSo, MP.e_pSl, MP.e_xSl, MP.e_pCall, MP.e_xG, MP.e_pSeq, MP.e_xSq, MP.e_pSeqR, MP.e_xSqR, MP.e_pRng, MP.e_pEnum, MP.e_xEn, MP.e_pComp, MP.e_xC, MP.e_xC2, MP.e_pUser, MP.e_xU, MP.e_xFv, MP.e_xFo, MP.e_xFe, MP.e_pSeal, MP.e_xSe, MP.e_xSeFv, MP.e_xSeFo, MP.e_pLook, MP.e_xLo, MP.e_xLoF, MP.e_xLoO, MP.e_xLoE, MP.e_pFld, MP.e_xFd, MP.e_xOb, MP.e_xLk0, MP.e_xLk1, MP.e_c0, MP.e_c1, MP.g_add, MP.g_catS, MP.g_catL, MP.g_catT, MP.g_sub, MP.g_mul, MP.g_rep, MP.g_div, MP.g_mod, MP.g_pow, MP.g_shl, MP.g_shr, MP.g_and, MP.g_orI, MP.g_neg, MP.g_lt, MP.g_le, MP.g_gt, MP.g_ge, MP.g_eqI, MP.g_eqS, MP.g_eqBo, MP.g_neI, MP.g_neS, MP.g_neBo, MP.g_is, MP.g_isNot, MP.n_none, MP.n_int, MP.n_str, MP.n_tup, MP.n_list, MP.n_bool, MP.g_max, MP.g_min, MP.g_lenL, MP.g_lenK, MP.g_lenT, MP.g_listL, MP.g_listK, MP.g_listT, MP.g_tupL, MP.g_tupT, MP.q_list, MP.q_lk, MP.q_tup, MP.g_rng1, MP.g_rng2, MP.g_enumL, MP.g_enumK, MP.g_ixL, MP.g_ixK, MP.g_ixT, MP.g_slL, MP.g_slK, MP.g_slT, MP.s_Nil, MP.s_Brk, MP.s_Cont, MP.s_Seq, MP.s_xSn, MP.s_xSr, MP.s_xSb, MP.s_xSc, MP.s_xSe, MP.s_Expr, MP.s_xEx, MP.s_SetV, MP.s_xSV, MP.s_SetO, MP.s_xSOs, MP.s_xSOf, MP.s_Ret, MP.s_xRts, MP.s_xRtf, MP.s_RetN, MP.s_RetS, MP.s_xRSo, MP.s_xRSv, MP.s_If, MP.s_xIfT, MP.s_xIfF, MP.s_Tup, MP.s_xTu, MP.s_xTb, MP.s_For, MP.s_xFor, MP.s_App, MP.s_xAp, MP.s_Thaw, MP.s_xTh, MP.s_Frz, MP.s_xFzo, MP.s_xFzv, MP.s_ExprF, MP.s_xEF, MP.s_SetF, MP.s_xSF, MP.s_RetF, MP.s_xRF, MP.s_IfF, MP.s_xIFT, MP.s_xIFF, MP.s_FldN, MP.s_xN, MP.s_xN2, MP.s_xN3, MP.s_put0, MP.s_put1, MP.s_putN, MP.f_P, MP.f_xPs, MP.f_xPf, MP.f_User, MP.f_xFU, MP.f_Meth, MP.f_xM, MP.f_xM2, MP.f_Make, MP.f_xMk, MP.f_xMkF, MP.fe_ok, MP.r_run, MP.r_un, MP.r_un0, MP.r_nx, MP.r_ret, MP.r_exc, MP.t_nx, MP.t_cont, MP.t_brk, MP.t_ret, MP.b_nm, MP.b_tp2, MP.b_tp3, MP.t_bk, MP.fe_pop, MP.s_appF, MP.s_dead, MP.g_divmod, MP.g_sorted, MP.g_allB, MP.g_anyB, MP.g_sumI, MP.g_zipT, MP.g_zipL, MP.e_pZip, MP.e_xZp, MP.g_abs, MP.g_intI, MP.g_intB, MP.g_repT, MP.e_pLRng, MP.e_xLR, MP.f_Pop, MP.f_xPop, MP.s_AppF, MP.s_xAF0, MP.s_xAF, MP.s_xAF2, MP.g_inI, MP.g_ninI, MP.g_inT, MP.g_ninT, MP.g_ninST, MP.e_c2, MP.e_c3, MP.e_c4, MP.e_c5, MP.e_pIsi, MP.s_tryV, MP.s_raise, MP.s_raiseN, MP.e_pMt, MP.e_xMtL, MP.e_xMtK, MP.g_xor, MP.s_Raise, MP.s_xRa1, MP.s_xRa2, MP.s_RaiseN, MP.s_TryV, MP.s_xTVn, MP.s_xTVr, MP.s_xTVe, MP.s_tryC, MP.e_xDe, MP.e_x1e, MP.e_x2e, MP.e_xBe, MP.s_xExe, MP.s_xSVe, MP.s_xSOe, MP.s_xRte, MP.s_xIfe, MP.s_xTue, MP.s_xThe, MP.s_xEFe, MP.s_xSFe, MP.s_xRFe, MP.fe_exc, MP.t_exc, MP.n_xv, List.getElem?_cons_zero, List.getElem?_cons_succ, List.getElem?_nil, List.set_cons_zero, List.set_cons_succ, List.map_cons, List.map_nil, List.length_cons, List.length_nil, List.length_append, List.cons_append, List.nil_append, List.length_map, List.length_singleton, Nat.reduceBEq, Nat.reduceAdd, Nat.reduceSub, Nat.reduceMul, Nat.reduceEqDiff, Nat.reduceLeDiff, Nat.reduceLT, if_false, if_true, ite_true, ite_false, ↓reduceIte, Bool.not_true, Bool.not_false, Bool.false_eq_true, decide_true, decide_false, eq_self, and_true, true_and, and_self, Nat.zero_le, Nat.zero_add, Option.bind_some, Option.bind_none, Nat.lt_irrefl, Int.reduceToNat, Int.reducePow, Int.reduceNeg, Int.reduceMul, Int.reduceAdd, Int.reduceSub, Int.reduceLT, Int.reduceLE, Int.reduceEq, beq_self_eq_true, wipeE, MP.at0, MP.at1, MP.at2, MP.atLit, eb, er, p1, p3]
theorem m_law (ns : List Int) (h : ns.length ≤ 63) : ∃ st, sem_law [.lk (zs ns)] [] = .ok (.v (.bool true)) st := by
  refine ⟨[], ?_⟩
  unfold sem_law
  refine run_ex (Q := fun r => r = .ok (.v (.bool true)) []) [.v (.lk (zs ns)), .un, .un, .un, .un, .un, .un, .un, .un, .un, .un] rfl ?_
  obtain ⟨R, C, es, hR1, hR2, hC1, hC2, hf, h1, h2, e⟩ := m_frame ns 12 (by decide)
  have e : sem_l_frame [.lk (zs ns), .int 12] [] = .ok (.v (frD R C es)) [] := e
  unfold frD at e
  rw [spsD_int] at e
  have hl : (intE es).length = es.length := by unfold intE; simp
  rw [← hl] at h1 h2
  generalize intE es = es0 at *
  have c1 := m_cell ns 13 (by decide)
  generalize ns.getD (13 : Int).toNat 0 = f at c1
  unfold b_law
  refine sqR (s' := ⟨[.v (.lk (zs ns)), .un, .un, .un, .un, .v (.int R), .v (.int C), .v (.tup (psD es0)), .un, .un, .un], []⟩) (by unfold st_law_1; simp (disch := (first | assumption | with_reducible rfl | decide +kernel | exact Or.inl (by decide +kernel) | exact Or.inr (by decide +kernel) | omega | (simp only [List.length_cons, List.length_nil, List.length_append, List.length_map, List.length_replicate, List.length_range] <;> omega) | rfl)) only [MP.of_some, MP.map_some, MP.e_lv, MP.e_lo, MP.e_pD, MP.e_xDs, MP.e_xDf, MP.e_pC, MP.e_pYes, MP.e_pVar, MP.e_p2, MP.e_x2, MP.e_p1, MP.e_x1, MP.e_pB, MP.e_xB, MP.e_pNot, MP.e_xNot, MP.e_pAnd, MP.e_xAndT, MP.e_xAndF, MP.e_pOr, MP.e_xOrT, MP.e_xOrF, MP.e_pAndV, MP.e_xAndVT, MP.e_xAndVF, MP.e_pOrV, MP.e_xOrVT, MP.e_xOrVF, MP.e_pNotV, MP.e_xNotV, MP.e_pIf, MP.e_xIfT, MP.e_xIfF, MP.e_p3, MP.e_x3, MP.e_x3bT, MP.e_x3bF, MP.e_pNil, MP.e_pCons, MP.e_xCons, MP.e_pTup, MP.e_xTp, MP.e_pLst, MP.e_xLs, MP.e_pNo, MP.e_pSome, MP.e_xSo, MP.e_pSl, MP.e_xSl, MP.e_pCall, MP.e_xG, MP.e_pSeq, MP.e_xSq, MP.e_pSeqR, MP.e_xSqR, MP.e_pRng, MP.e_pEnum, MP.e_xEn, MP.e_pComp, MP.e_xC, MP.e_xC2, MP.e_pUser, MP.e_xU, MP.e_xFv, MP.e_xFo, MP.e_xFe, MP.e_pSeal, MP.e_xSe, MP.e_xSeFv, MP.e_xSeFo, MP.e_pLook, MP.e_xLo, MP.e_xLoF, MP.e_xLoO, MP.e_xLoE, MP.e_pFld, MP.e_xFd, MP.e_xOb, MP.e_xLk0, MP.e_xLk1, MP.e_c0, MP.e_c1, MP.g_add, MP.g_catS, MP.g_catL, MP.g_catT, MP.g_sub, MP.g_mul, MP.g_rep, MP.g_div, MP.g_mod, MP.g_pow, MP.g_shl, MP.g_shr, MP.g_and, MP.g_orI, MP.g_neg, MP.g_lt, MP.g_le, MP.g_gt, MP.g_ge, MP.g_eqI, MP.g_eqS, MP.g_eqBo, MP.g_neI, MP.g_neS, MP.g_neBo, MP.g_is, MP.g_isNot, MP.n_none, MP.n_int, MP.n_str, MP.n_tup, MP.n_list, MP.n_bool, MP.g_max, MP.g_min, MP.g_lenL, MP.g_lenK, MP.g_lenT, MP.g_listL, MP.g_listK, MP.g_listT, MP.g_tupL, MP.g_tupT, MP.q_list, MP.q_lk, MP.q_tup, MP.g_rng1, MP.g_rng2, MP.g_enumL, MP.g_enumK, MP.g_ixL, MP.g_ixK, MP.g_ixT, MP.g_slL, MP.g_slK, MP.g_slT, MP.s_Nil, MP.s_Brk, MP.s_Cont, MP.s_Seq, MP.s_xSn, MP.s_xSr, MP.s_xSb, MP.s_xSc, MP.s_xSe, MP.s_Expr, MP.s_xEx, MP.s_SetV, MP.s_xSV, MP.s_SetO, MP.s_xSOs, MP.s_xSOf, MP.s_Ret, MP.s_xRts, MP.s_xRtf, MP.s_RetN, MP.s_RetS, MP.s_xRSo, MP.s_xRSv, MP.s_If, MP.s_xIfT, MP.s_xIfF, MP.s_Tup, MP.s_xTu, MP.s_xTb, MP.s_For, MP.s_xFor, MP.s_App, MP.s_xAp, MP.s_Thaw, MP.s_xTh, MP.s_Frz, MP.s_xFzo, MP.s_xFzv, MP.s_ExprF, MP.s_xEF, MP.s_SetF, MP.s_xSF, MP.s_RetF, MP.s_xRF, MP.s_IfF, MP.s_xIFT, MP.s_xIFF, MP.s_FldN, MP.s_xN, MP.s_xN2, MP.s_xN3, MP.s_put0, MP.s_put1, MP.s_putN, MP.f_P, MP.f_xPs, MP.f_xPf, MP.f_User, MP.f_xFU, MP.f_Meth, MP.f_xM, MP.f_xM2, MP.f_Make, MP.f_xMk, MP.f_xMkF, MP.fe_ok, MP.r_run, MP.r_un, MP.r_un0, MP.r_nx, MP.r_ret, MP.r_exc, MP.t_nx, MP.t_cont, MP.t_brk, MP.t_ret, MP.b_nm, MP.b_tp2, MP.b_tp3, MP.t_bk, MP.fe_pop, MP.s_appF, MP.s_dead, MP.g_divmod, MP.g_sorted, MP.g_allB, MP.g_anyB, MP.g_sumI, MP.g_zipT, MP.g_zipL, MP.e_pZip, MP.e_xZp, MP.g_abs, MP.g_intI, MP.g_intB, MP.g_repT, MP.e_pLRng, MP.e_xLR, MP.f_Pop, MP.f_xPop, MP.s_AppF, MP.s_xAF0, MP.s_xAF, MP.s_xAF2, MP.g_inI, MP.g_ninI, MP.g_inT, MP.g_ninT, MP.g_ninST, MP.e_c2, MP.e_c3, MP.e_c4, MP.e_c5, MP.e_pIsi, MP.s_tryV, MP.s_raise, MP.s_raiseN, MP.e_pMt, MP.e_xMtL, MP.e_xMtK, MP.g_xor, MP.s_Raise, MP.s_xRa1, MP.s_xRa2, MP.s_RaiseN, MP.s_TryV, MP.s_xTVn, MP.s_xTVr, MP.s_xTVe, MP.s_tryC, MP.e_xDe, MP.e_x1e, MP.e_x2e, MP.e_xBe, MP.s_xExe, MP.s_xSVe, MP.s_xSOe, MP.s_xRte, MP.s_xIfe, MP.s_xTue, MP.s_xThe, MP.s_xEFe, MP.s_xSFe, MP.s_xRFe, MP.fe_exc, MP.t_exc, MP.n_xv, List.getElem?_cons_zero, List.getElem?_cons_succ, List.getElem?_nil, List.set_cons_zero, List.set_cons_succ, List.map_cons, List.map_nil, List.length_cons, List.length_nil, List.length_append, List.cons_append, List.nil_append, List.length_map, List.length_singleton, Nat.reduceBEq, Nat.reduceAdd, Nat.reduceSub, Nat.reduceMul, Nat.reduceEqDiff, Nat.reduceLeDiff, Nat.reduceLT, if_false, if_true, ite_true, ite_false, ↓reduceIte, Bool.not_true, Bool.not_false, Bool.false_eq_true, decide_true, decide_false, eq_self, and_true, true_and, and_self, Nat.zero_le, Nat.zero_add, Option.bind_some, Option.bind_none, Nat.lt_irrefl, Int.reduceToNat, Int.reducePow, Int.reduceNeg, Int.reduceMul, Int.reduceAdd, Int.reduceSub, Int.reduceLT, Int.reduceLE, Int.reduceEq, beq_self_eq_true, wipeE, MP.at0, MP.at1, MP.at2, MP.atLit, e]) ?_
  refine sqR (s' := ⟨[.v (.lk (zs ns)), .v (.list (psD es0)), .un, .un, .un, .v (.int R), .v (.int C), .v (.tup (psD es0)), .un, .un, .un], []⟩) (by unfold st_law_2; simp (disch := (first | assumption | with_reducible rfl | decide +kernel | exact Or.inl (by decide +kernel) | exact Or.inr (by decide +kernel) | omega | (simp only [List.length_cons, List.length_nil, List.length_append, List.length_map, List.length_replicate, List.length_range] <;> omega) | rfl)) only [MP.of_some, MP.map_some, MP.e_lv, MP.e_lo, MP.e_pD, MP.e_xDs, MP.e_xDf, MP.e_pC, MP.e_pYes, MP.e_pVar, MP.e_p2, MP.e_x2, MP.e_p1, MP.e_x1, MP.e_pB, MP.e_xB, MP.e_pNot, MP.e_xNot, MP.e_pAnd, MP.e_xAndT, MP.e_xAndF, MP.e_pOr, MP.e_xOrT, MP.e_xOrF, MP.e_pAndV, MP.e_xAndVT, MP.e_xAndVF, MP.e_pOrV, MP.e_xOrVT, MP.e_xOrVF, MP.e_pNotV, MP.e_xNotV, MP.e_pIf, MP.e_xIfT, MP.e_xIfF, MP.e_p3, MP.e_x3, MP.e_x3bT, MP.e_x3bF, MP.e_pNil, MP.e_pCons, MP.e_xCons, MP.e_pTup, MP.e_xTp, MP.e_pLst, MP.e_xLs, MP.e_pNo, MP.e_pSome, MP.e_xSo, MP.e_pSl, MP.e_xSl, MP.e_pCall, MP.e_xG, MP.e_pSeq, MP.e_xSq, MP.e_pSeqR, MP.e_xSqR, MP.e_pRng, MP.e_pEnum, MP.e_xEn, MP.e_pComp, MP.e_xC, MP.e_xC2, MP.e_pUser, MP.e_xU, MP.e_xFv, MP.e_xFo, MP.e_xFe, MP.e_pSeal, MP.e_xSe, MP.e_xSeFv, MP.e_xSeFo, MP.e_pLook, MP.e_xLo, MP.e_xLoF, MP.e_xLoO, MP.e_xLoE, MP.e_pFld, MP.e_xFd, MP.e_xOb, MP.e_xLk0, MP.e_xLk1, MP.e_c0, MP.e_c1, MP.g_add, MP.g_catS, MP.g_catL, MP.g_catT, MP.g_sub, MP.g_mul, MP.g_rep, MP.g_div, MP.g_mod, MP.g_pow, MP.g_shl, MP.g_shr, MP.g_and, MP.g_orI, MP.g_neg, MP.g_lt, MP.g_le, MP.g_gt, MP.g_ge, MP.g_eqI, MP.g_eqS, MP.g_eqBo, MP.g_neI, MP.g_neS, MP.g_neBo, MP.g_is, MP.g_isNot, MP.n_none, MP.n_int, MP.n_str, MP.n_tup, MP.n_list, MP.n_bool, MP.g_max, MP.g_min, MP.g_lenL, MP.g_lenK, MP.g_lenT, MP.g_listL, MP.g_listK, MP.g_listT, MP.g_tupL, MP.g_tupT, MP.q_list, MP.q_lk, MP.q_tup, MP.g_rng1, MP.g_rng2, MP.g_enumL, MP.g_enumK, MP.g_ixL, MP.g_ixK, MP.g_ixT, MP.g_slL, MP.g_slK, MP.g_slT, MP.s_Nil, MP.s_Brk, MP.s_Cont, MP.s_Seq, MP.s_xSn, MP.s_xSr, MP.s_xSb, MP.s_xSc, MP.s_xSe, MP.s_Expr, MP.s_xEx, MP.s_SetV, MP.s_xSV, MP.s_SetO, MP.s_xSOs, MP.s_xSOf, MP.s_Ret, MP.s_xRts, MP.s_xRtf, MP.s_RetN, MP.s_RetS, MP.s_xRSo, MP.s_xRSv, MP.s_If, MP.s_xIfT, MP.s_xIfF, MP.s_Tup, MP.s_xTu, MP.s_xTb, MP.s_For, MP.s_xFor, MP.s_App, MP.s_xAp, MP.s_Thaw, MP.s_xTh, MP.s_Frz, MP.s_xFzo, MP.s_xFzv, MP.s_ExprF, MP.s_xEF, MP.s_SetF, MP.s_xSF, MP.s_RetF, MP.s_xRF, MP.s_IfF, MP.s_xIFT, MP.s_xIFF, MP.s_FldN, MP.s_xN, MP.s_xN2, MP.s_xN3, MP.s_put0, MP.s_put1, MP.s_putN, MP.f_P, MP.f_xPs, MP.f_xPf, MP.f_User, MP.f_xFU, MP.f_Meth, MP.f_xM, MP.f_xM2, MP.f_Make, MP.f_xMk, MP.f_xMkF, MP.fe_ok, MP.r_run, MP.r_un, MP.r_un0, MP.r_nx, MP.r_ret, MP.r_exc, MP.t_nx, MP.t_cont, MP.t_brk, MP.t_ret, MP.b_nm, MP.b_tp2, MP.b_tp3, MP.t_bk, MP.fe_pop, MP.s_appF, MP.s_dead, MP.g_divmod, MP.g_sorted, MP.g_allB, MP.g_anyB, MP.g_sumI, MP.g_zipT, MP.g_zipL, MP.e_pZip, MP.e_xZp, MP.g_abs, MP.g_intI, MP.g_intB, MP.g_repT, MP.e_pLRng, MP.e_xLR, MP.f_Pop, MP.f_xPop, MP.s_AppF, MP.s_xAF0, MP.s_xAF, MP.s_xAF2, MP.g_inI, MP.g_ninI, MP.g_inT, MP.g_ninT, MP.g_ninST, MP.e_c2, MP.e_c3, MP.e_c4, MP.e_c5, MP.e_pIsi, MP.s_tryV, MP.s_raise, MP.s_raiseN, MP.e_pMt, MP.e_xMtL, MP.e_xMtK, MP.g_xor, MP.s_Raise, MP.s_xRa1, MP.s_xRa2, MP.s_RaiseN, MP.s_TryV, MP.s_xTVn, MP.s_xTVr, MP.s_xTVe, MP.s_tryC, MP.e_xDe, MP.e_x1e, MP.e_x2e, MP.e_xBe, MP.s_xExe, MP.s_xSVe, MP.s_xSOe, MP.s_xRte, MP.s_xIfe, MP.s_xTue, MP.s_xThe, MP.s_xEFe, MP.s_xSFe, MP.s_xRFe, MP.fe_exc, MP.t_exc, MP.n_xv, List.getElem?_cons_zero, List.getElem?_cons_succ, List.getElem?_nil, List.set_cons_zero, List.set_cons_succ, List.map_cons, List.map_nil, List.length_cons, List.length_nil, List.length_append, List.cons_append, List.nil_append, List.length_map, List.length_singleton, Nat.reduceBEq, Nat.reduceAdd, Nat.reduceSub, Nat.reduceMul, Nat.reduceEqDiff, Nat.reduceLeDiff, Nat.reduceLT, if_false, if_true, ite_true, ite_false, ↓reduceIte, Bool.not_true, Bool.not_false, Bool.false_eq_true, decide_true, decide_false, eq_self, and_true, true_and, and_self, Nat.zero_le, Nat.zero_add, Option.bind_some, Option.bind_none, Nat.lt_irrefl, Int.reduceToNat, Int.reducePow, Int.reduceNeg, Int.reduceMul, Int.reduceAdd, Int.reduceSub, Int.reduceLT, Int.reduceLE, Int.reduceEq, beq_self_eq_true, wipeE, MP.at0, MP.at1, MP.at2, MP.atLit]) ?_
  refine sqR (s' := at7 ns f R C es0 (.v (.tup (psD es0))) .un) (by unfold st_law_3 at7; simp (disch := (first | assumption | with_reducible rfl | decide +kernel | exact Or.inl (by decide +kernel) | exact Or.inr (by decide +kernel) | omega | (simp only [List.length_cons, List.length_nil, List.length_append, List.length_map, List.length_replicate, List.length_range] <;> omega) | rfl)) only [MP.of_some, MP.map_some, MP.e_lv, MP.e_lo, MP.e_pD, MP.e_xDs, MP.e_xDf, MP.e_pC, MP.e_pYes, MP.e_pVar, MP.e_p2, MP.e_x2, MP.e_p1, MP.e_x1, MP.e_pB, MP.e_xB, MP.e_pNot, MP.e_xNot, MP.e_pAnd, MP.e_xAndT, MP.e_xAndF, MP.e_pOr, MP.e_xOrT, MP.e_xOrF, MP.e_pAndV, MP.e_xAndVT, MP.e_xAndVF, MP.e_pOrV, MP.e_xOrVT, MP.e_xOrVF, MP.e_pNotV, MP.e_xNotV, MP.e_pIf, MP.e_xIfT, MP.e_xIfF, MP.e_p3, MP.e_x3, MP.e_x3bT, MP.e_x3bF, MP.e_pNil, MP.e_pCons, MP.e_xCons, MP.e_pTup, MP.e_xTp, MP.e_pLst, MP.e_xLs, MP.e_pNo, MP.e_pSome, MP.e_xSo, MP.e_pSl, MP.e_xSl, MP.e_pCall, MP.e_xG, MP.e_pSeq, MP.e_xSq, MP.e_pSeqR, MP.e_xSqR, MP.e_pRng, MP.e_pEnum, MP.e_xEn, MP.e_pComp, MP.e_xC, MP.e_xC2, MP.e_pUser, MP.e_xU, MP.e_xFv, MP.e_xFo, MP.e_xFe, MP.e_pSeal, MP.e_xSe, MP.e_xSeFv, MP.e_xSeFo, MP.e_pLook, MP.e_xLo, MP.e_xLoF, MP.e_xLoO, MP.e_xLoE, MP.e_pFld, MP.e_xFd, MP.e_xOb, MP.e_xLk0, MP.e_xLk1, MP.e_c0, MP.e_c1, MP.g_add, MP.g_catS, MP.g_catL, MP.g_catT, MP.g_sub, MP.g_mul, MP.g_rep, MP.g_div, MP.g_mod, MP.g_pow, MP.g_shl, MP.g_shr, MP.g_and, MP.g_orI, MP.g_neg, MP.g_lt, MP.g_le, MP.g_gt, MP.g_ge, MP.g_eqI, MP.g_eqS, MP.g_eqBo, MP.g_neI, MP.g_neS, MP.g_neBo, MP.g_is, MP.g_isNot, MP.n_none, MP.n_int, MP.n_str, MP.n_tup, MP.n_list, MP.n_bool, MP.g_max, MP.g_min, MP.g_lenL, MP.g_lenK, MP.g_lenT, MP.g_listL, MP.g_listK, MP.g_listT, MP.g_tupL, MP.g_tupT, MP.q_list, MP.q_lk, MP.q_tup, MP.g_rng1, MP.g_rng2, MP.g_enumL, MP.g_enumK, MP.g_ixL, MP.g_ixK, MP.g_ixT, MP.g_slL, MP.g_slK, MP.g_slT, MP.s_Nil, MP.s_Brk, MP.s_Cont, MP.s_Seq, MP.s_xSn, MP.s_xSr, MP.s_xSb, MP.s_xSc, MP.s_xSe, MP.s_Expr, MP.s_xEx, MP.s_SetV, MP.s_xSV, MP.s_SetO, MP.s_xSOs, MP.s_xSOf, MP.s_Ret, MP.s_xRts, MP.s_xRtf, MP.s_RetN, MP.s_RetS, MP.s_xRSo, MP.s_xRSv, MP.s_If, MP.s_xIfT, MP.s_xIfF, MP.s_Tup, MP.s_xTu, MP.s_xTb, MP.s_For, MP.s_xFor, MP.s_App, MP.s_xAp, MP.s_Thaw, MP.s_xTh, MP.s_Frz, MP.s_xFzo, MP.s_xFzv, MP.s_ExprF, MP.s_xEF, MP.s_SetF, MP.s_xSF, MP.s_RetF, MP.s_xRF, MP.s_IfF, MP.s_xIFT, MP.s_xIFF, MP.s_FldN, MP.s_xN, MP.s_xN2, MP.s_xN3, MP.s_put0, MP.s_put1, MP.s_putN, MP.f_P, MP.f_xPs, MP.f_xPf, MP.f_User, MP.f_xFU, MP.f_Meth, MP.f_xM, MP.f_xM2, MP.f_Make, MP.f_xMk, MP.f_xMkF, MP.fe_ok, MP.r_run, MP.r_un, MP.r_un0, MP.r_nx, MP.r_ret, MP.r_exc, MP.t_nx, MP.t_cont, MP.t_brk, MP.t_ret, MP.b_nm, MP.b_tp2, MP.b_tp3, MP.t_bk, MP.fe_pop, MP.s_appF, MP.s_dead, MP.g_divmod, MP.g_sorted, MP.g_allB, MP.g_anyB, MP.g_sumI, MP.g_zipT, MP.g_zipL, MP.e_pZip, MP.e_xZp, MP.g_abs, MP.g_intI, MP.g_intB, MP.g_repT, MP.e_pLRng, MP.e_xLR, MP.f_Pop, MP.f_xPop, MP.s_AppF, MP.s_xAF0, MP.s_xAF, MP.s_xAF2, MP.g_inI, MP.g_ninI, MP.g_inT, MP.g_ninT, MP.g_ninST, MP.e_c2, MP.e_c3, MP.e_c4, MP.e_c5, MP.e_pIsi, MP.s_tryV, MP.s_raise, MP.s_raiseN, MP.e_pMt, MP.e_xMtL, MP.e_xMtK, MP.g_xor, MP.s_Raise, MP.s_xRa1, MP.s_xRa2, MP.s_RaiseN, MP.s_TryV, MP.s_xTVn, MP.s_xTVr, MP.s_xTVe, MP.s_tryC, MP.e_xDe, MP.e_x1e, MP.e_x2e, MP.e_xBe, MP.s_xExe, MP.s_xSVe, MP.s_xSOe, MP.s_xRte, MP.s_xIfe, MP.s_xTue, MP.s_xThe, MP.s_xEFe, MP.s_xSFe, MP.s_xRFe, MP.fe_exc, MP.t_exc, MP.n_xv, List.getElem?_cons_zero, List.getElem?_cons_succ, List.getElem?_nil, List.set_cons_zero, List.set_cons_succ, List.map_cons, List.map_nil, List.length_cons, List.length_nil, List.length_append, List.cons_append, List.nil_append, List.length_map, List.length_singleton, Nat.reduceBEq, Nat.reduceAdd, Nat.reduceSub, Nat.reduceMul, Nat.reduceEqDiff, Nat.reduceLeDiff, Nat.reduceLT, if_false, if_true, ite_true, ite_false, ↓reduceIte, Bool.not_true, Bool.not_false, Bool.false_eq_true, decide_true, decide_false, eq_self, and_true, true_and, and_self, Nat.zero_le, Nat.zero_add, Option.bind_some, Option.bind_none, Nat.lt_irrefl, Int.reduceToNat, Int.reducePow, Int.reduceNeg, Int.reduceMul, Int.reduceAdd, Int.reduceSub, Int.reduceLT, Int.reduceLE, Int.reduceEq, beq_self_eq_true, wipeE, MP.at0, MP.at1, MP.at2, MP.atLit, c1]) ?_
  obtain ⟨es1, h3, h4, e1⟩ := m_4 ns f R C es0 (.v (.tup (psD es0))) .un h1 h2
  refine sqR e1 ?_
  obtain ⟨es2, h5, h6, e2⟩ := m_5 ns f R C es1 (.v (.tup (psD es0))) .un h3 h4
  refine sqR e2 ?_
  obtain ⟨R', C', x8, e3⟩ := m_6 ns f R C es2 (.v (.tup (psD es0))) .un
  refine sqR e3 ?_
  obtain ⟨es3, h7, e4⟩ := m_7 ns f R' C' es2 (.v (.tup (psD es0))) x8 h6
  refine sqR e4 ?_
  exact m_rest ns f R' C' es3 h7 _ x8
end L_k01

namespace L_k01
open PySem PySem.Spec PyProof.Rows L2 MP
theorem all_mk {l : PySem.W.OpenLaw} {w : World} {K : PySem.W.Frag} {h : Heap} {mg : Str → Option Value} {fa f0 f1 f2 f3 f4 f5 f6 f7 f8 f9 C_NoFrame C_BedError C_NoChord C_NoBed C_NoReading C_NoBook C_NoKeys C_TooMany C_NoText C_NoRow C_NoWord fI_NoFrame : Addr} (X : K.In h) (G : h.Ns mainGlobals mg) (hfa : mg "law" = some (.ref fa))
    {od0 an0 od1 an1 od2 an2 od3 an3 od4 an4 od5 an5 od6 an6 od7 an7 od8 an8 od9 an9 : Option Addr} {sl0 sl1 sl2 sl3 sl4 sl5 sl6 sl7 sl8 sl9 : Array (Option Value)} {oc0 kV0 dc0 pm0 cd0 ct0 oc1 kV1 dc1 pm1 cd1 ct1 oc2 kV2 dc2 pm2 cd2 ct2 oc3 kV3 dc3 pm3 cd3 ct3 oc4 kV4 dc4 pm4 cd4 ct4 oc5 kV5 dc5 pm5 cd5 ct5 oc6 kV6 dc6 pm6 cd6 ct6 oc7 kV7 dc7 pm7 cd7 ct7 oc8 kV8 dc8 pm8 cd8 ct8 oc9 kV9 dc9 pm9 cd9 ct9 : Value}
    {nm_NoFrame qn_NoFrame : Str} {N_NoFrame : Addr} {bs_NoFrame sub_NoFrame : List Value} {sn_NoFrame : List Str} {ab_NoFrame : Bool} {col_NoFrame : Option Bool} {dd_NoFrame : Option Addr} {e0_NoFrame e1_NoFrame e2_NoFrame e3_NoFrame e5_NoFrame : Option Value} {oc_NoFrame kV_NoFrame dc_NoFrame pm_NoFrame cd_NoFrame ct_NoFrame : Value} {odI_NoFrame anI_NoFrame : Option Addr} {slI_NoFrame : Array (Option Value)}
    {t_MOST_WIRES t_MOST_KEYS : PySem.Tok}
    (aC_NoFrame : PySem.W.nsIn K mainGlobals "NoFrame" = some (some (.ref C_NoFrame)))
    (aC_BedError : PySem.W.nsIn K mainGlobals "BedError" = some (some (.ref C_BedError)))
    (aC_NoChord : PySem.W.nsIn K mainGlobals "NoChord" = some (some (.ref C_NoChord)))
    (aC_NoBed : PySem.W.nsIn K mainGlobals "NoBed" = some (some (.ref C_NoBed)))
    (aC_NoReading : PySem.W.nsIn K mainGlobals "NoReading" = some (some (.ref C_NoReading)))
    (aC_NoBook : PySem.W.nsIn K mainGlobals "NoBook" = some (some (.ref C_NoBook)))
    (aC_NoKeys : PySem.W.nsIn K mainGlobals "NoKeys" = some (some (.ref C_NoKeys)))
    (aC_TooMany : PySem.W.nsIn K mainGlobals "TooMany" = some (some (.ref C_TooMany)))
    (aC_NoText : PySem.W.nsIn K mainGlobals "NoText" = some (some (.ref C_NoText)))
    (aC_NoRow : PySem.W.nsIn K mainGlobals "NoRow" = some (some (.ref C_NoRow)))
    (aC_NoWord : PySem.W.nsIn K mainGlobals "NoWord" = some (some (.ref C_NoWord)))
    (xrd_BedError : PySem.W.readsIn K C_BedError (.type "type") = true)
    (xsg_BedError : PySem.W.specialIn K (.ref C_BedError) "__getattribute__" = some (some (.builtin "type.__getattribute__")))
    (xfc_BedError : PySem.W.findCls K (.ref C_BedError) (.type "type") "__init__" = some (.val (.builtin "ValueError.__init__")))
    (tsb_BedError : PySem.W.subIn K (.ref C_BedError) (.type "BaseException") = some true)
    (thd_BedError : PySem.W.hasDictIn K C_BedError = true)
    (tty_BedError : PySem.W.typeIn K (.ref C_BedError) = some (.type "type"))
    (tsu_NoFrame_BedError : PySem.W.subIn K (.ref C_NoFrame) (.ref C_BedError) = some true)
    (ki_NoFrame_NoChord : PySem.W.kitOne K (.ref C_NoFrame) (.ref C_NoChord) = some false)
    (ki_NoFrame_NoBed : PySem.W.kitOne K (.ref C_NoFrame) (.ref C_NoBed) = some false)
    (ki_NoFrame_NoReading : PySem.W.kitOne K (.ref C_NoFrame) (.ref C_NoReading) = some false)
    (ki_NoFrame_NoFrame : PySem.W.kitOne K (.ref C_NoFrame) (.ref C_NoFrame) = some true)
    (ki_NoFrame_NoBook : PySem.W.kitOne K (.ref C_NoFrame) (.ref C_NoBook) = some false)
    (ki_NoFrame_NoKeys : PySem.W.kitOne K (.ref C_NoFrame) (.ref C_NoKeys) = some false)
    (ki_NoFrame_TooMany : PySem.W.kitOne K (.ref C_NoFrame) (.ref C_TooMany) = some false)
    (ki_NoFrame_NoText : PySem.W.kitOne K (.ref C_NoFrame) (.ref C_NoText) = some false)
    (ki_NoFrame_NoRow : PySem.W.kitOne K (.ref C_NoFrame) (.ref C_NoRow) = some false)
    (ki_NoFrame_NoWord : PySem.W.kitOne K (.ref C_NoFrame) (.ref C_NoWord) = some false)
    (ki_NoFrame_ValueError : PySem.W.kitOne K (.ref C_NoFrame) (.type "ValueError") = some true)
    (xic_NoFrame : PySem.W.isClsIn K C_NoFrame = true)
    (xga_NoFrame : PySem.W.findIn K (.ref C_NoFrame) "__getattribute__" = some (some (.builtin "BaseException.__getattribute__")))
    (xgg_NoFrame : PySem.W.findIn K (.ref C_NoFrame) "__getattr__" = some none)
    (xsb_NoFrame : PySem.W.subIn K (.ref C_NoFrame) (.type "BaseException") = some true)
    (xac_NoFrame : PySem.W.findIn K (.ref C_NoFrame) "__class__" = some (some (.builtin "object.__class__")))
    (xmr_NoFrame : PySem.W.mroIn K C_NoFrame (.type "object") = some true)
    (xhd_NoFrame : PySem.W.hasDictIn K C_NoFrame = true)
    (xty_NoFrame : PySem.W.typeIn K (.ref C_NoFrame) = some (.type "type"))
    (xkc_NoFrame : PySem.W.keepIn K (.ref C_NoFrame) = true)
    (xn_NoFrame_place : PySem.W.findIn K (.ref C_NoFrame) "place" = some none)
    (xl_NoFrame : K.lookup C_NoFrame = some (excClassObj nm_NoFrame qn_NoFrame C_NoFrame N_NoFrame bs_NoFrame [.ref C_BedError, .type "ValueError", .type "Exception", .type "BaseException", .type "object"] true sn_NoFrame sub_NoFrame ab_NoFrame col_NoFrame dd_NoFrame e0_NoFrame e1_NoFrame e2_NoFrame e3_NoFrame e5_NoFrame "ValueError.__new__"))
    (xsa_NoFrame : PySem.W.findIn K (.ref C_NoFrame) "__setattr__" = some (some (.builtin "object.__setattr__")))
    (xia_NoFrame : PySem.W.findIn K (.ref C_NoFrame) "__init__" = some (some (.ref fI_NoFrame)))
    (xit_NoFrame : PySem.W.typeIn K (.ref fI_NoFrame) = some (.type "function"))
    (xil_NoFrame : K.lookup fI_NoFrame = some ⟨oc_NoFrame, odI_NoFrame, .func (PySem.W.fnOf "__init__" "NoFrame.__init__" (defArgs s_NoFrame___init__) (defBody s_NoFrame___init__) (defScope s_NoFrame___init__) .none kV_NoFrame dc_NoFrame pm_NoFrame anI_NoFrame cd_NoFrame ct_NoFrame), slI_NoFrame⟩)
    (xil2_NoFrame : PySem.W.codeIn K cd_NoFrame "NoFrame.__init__" = true)
    (xil3_NoFrame : PySem.W.keepIn K (.ref fI_NoFrame) = true)
    (xgn : PySem.W.specialIn K (.builtin "object.__class__") "__get__" = some (some (.builtin "getset_descriptor.__get__")))
    (xtk : PySem.W.takesIn K (.builtin "object.__class__") = some true)
    (a0 : PySem.W.nsIn K mainGlobals "_law_cell" = some (some (.ref f0)))
    (l0 : K.lookup f0 = some ⟨oc0, od0, .func (PySem.W.fnOf "_law_cell" "_law_cell" (defArgs s_l_cell) (defBody s_l_cell) (defScope s_l_cell) .none kV0 dc0 pm0 an0 cd0 ct0), sl0⟩)
    (c0 : PySem.W.codeIn K cd0 "_law_cell" = true)
    (k0 : PySem.W.keepIn K (.ref f0) = true)
    (a1 : PySem.W.nsIn K mainGlobals "_law_take" = some (some (.ref f1)))
    (l1 : K.lookup f1 = some ⟨oc1, od1, .func (PySem.W.fnOf "_law_take" "_law_take" (defArgs s_l_take) (defBody s_l_take) (defScope s_l_take) .none kV1 dc1 pm1 an1 cd1 ct1), sl1⟩)
    (c1 : PySem.W.codeIn K cd1 "_law_take" = true)
    (k1 : PySem.W.keepIn K (.ref f1) = true)
    (a2 : PySem.W.nsIn K mainGlobals "_law_frame" = some (some (.ref f2)))
    (l2 : K.lookup f2 = some ⟨oc2, od2, .func (PySem.W.fnOf "_law_frame" "_law_frame" (defArgs s_l_frame) (defBody s_l_frame) (defScope s_l_frame) .none kV2 dc2 pm2 an2 cd2 ct2), sl2⟩)
    (c2 : PySem.W.codeIn K cd2 "_law_frame" = true)
    (k2 : PySem.W.keepIn K (.ref f2) = true)
    (a3 : PySem.W.nsIn K mainGlobals "_law_first_bad" = some (some (.ref f3)))
    (l3 : K.lookup f3 = some ⟨oc3, od3, .func (PySem.W.fnOf "_law_first_bad" "_law_first_bad" (defArgs s_l_first_bad) (defBody s_l_first_bad) (defScope s_l_first_bad) .none kV3 dc3 pm3 an3 cd3 ct3), sl3⟩)
    (c3 : PySem.W.codeIn K cd3 "_law_first_bad" = true)
    (k3 : PySem.W.keepIn K (.ref f3) = true)
    (a4 : PySem.W.nsIn K mainGlobals "frame_of" = some (some (.ref f4)))
    (l4 : K.lookup f4 = some ⟨oc4, od4, .func (PySem.W.fnOf "frame_of" "frame_of" (defArgs s_frame_of) (defBody s_frame_of) (defScope s_frame_of) .none kV4 dc4 pm4 an4 cd4 ct4), sl4⟩)
    (c4 : PySem.W.codeIn K cd4 "frame_of" = true)
    (k4 : PySem.W.keepIn K (.ref f4) = true)
    (a5 : PySem.W.nsIn K mainGlobals "_law_spoilt" = some (some (.ref f5)))
    (l5 : K.lookup f5 = some ⟨oc5, od5, .func (PySem.W.fnOf "_law_spoilt" "_law_spoilt" (defArgs s_l_spoilt) (defBody s_l_spoilt) (defScope s_l_spoilt) .none kV5 dc5 pm5 an5 cd5 ct5), sl5⟩)
    (c5 : PySem.W.codeIn K cd5 "_law_spoilt" = true)
    (k5 : PySem.W.keepIn K (.ref f5) = true)
    (a6 : PySem.W.nsIn K mainGlobals "_law_classes" = some (some (.ref f6)))
    (l6 : K.lookup f6 = some ⟨oc6, od6, .func (PySem.W.fnOf "_law_classes" "_law_classes" (defArgs s_l_classes) (defBody s_l_classes) (defScope s_l_classes) .none kV6 dc6 pm6 an6 cd6 ct6), sl6⟩)
    (c6 : PySem.W.codeIn K cd6 "_law_classes" = true)
    (k6 : PySem.W.keepIn K (.ref f6) = true)
    (a7 : PySem.W.nsIn K mainGlobals "_law_whole" = some (some (.ref f7)))
    (l7 : K.lookup f7 = some ⟨oc7, od7, .func (PySem.W.fnOf "_law_whole" "_law_whole" (defArgs s_l_whole) (defBody s_l_whole) (defScope s_l_whole) .none kV7 dc7 pm7 an7 cd7 ct7), sl7⟩)
    (c7 : PySem.W.codeIn K cd7 "_law_whole" = true)
    (k7 : PySem.W.keepIn K (.ref f7) = true)
    (a8 : PySem.W.nsIn K mainGlobals "_law_refused" = some (some (.ref f8)))
    (l8 : K.lookup f8 = some ⟨oc8, od8, .func (PySem.W.fnOf "_law_refused" "_law_refused" (defArgs s_l_refused) (defBody s_l_refused) (defScope s_l_refused) .none kV8 dc8 pm8 an8 cd8 ct8), sl8⟩)
    (c8 : PySem.W.codeIn K cd8 "_law_refused" = true)
    (k8 : PySem.W.keepIn K (.ref f8) = true)
    (a9 : PySem.W.nsIn K mainGlobals "law" = some (some (.ref f9)))
    (l9 : K.lookup f9 = some ⟨oc9, od9, .func (PySem.W.fnOf "law" "law" (defArgs s_law) (defBody s_law) (defScope s_law) .none kV9 dc9 pm9 an9 cd9 ct9), sl9⟩)
    (c9 : PySem.W.codeIn K cd9 "law" = true)
    (k9 : PySem.W.keepIn K (.ref f9) = true)
    (g_ValueError : PySem.W.nsIn K mainGlobals "ValueError" = some none)
    (g_bool : PySem.W.nsIn K mainGlobals "bool" = some none)
    (g_divmod : PySem.W.nsIn K mainGlobals "divmod" = some none)
    (g_int : PySem.W.nsIn K mainGlobals "int" = some none)
    (g_isinstance : PySem.W.nsIn K mainGlobals "isinstance" = some none)
    (g_len : PySem.W.nsIn K mainGlobals "len" = some none)
    (g_list : PySem.W.nsIn K mainGlobals "list" = some none)
    (g_min : PySem.W.nsIn K mainGlobals "min" = some none)
    (g_range : PySem.W.nsIn K mainGlobals "range" = some none)
    (g_tuple : PySem.W.nsIn K mainGlobals "tuple" = some none)
    (q_MOST_WIRES : PySem.W.nsIn K mainGlobals "MOST_WIRES" = some (some (.int 6 t_MOST_WIRES)))
    (q_MOST_KEYS : PySem.W.nsIn K mainGlobals "MOST_KEYS" = some (some (.int 12 t_MOST_KEYS)))
    : ∃ fd : FuncData, (∀ (s : Shared) (v : Value), BindsTo s fd ⟨[v], []⟩ [("_law_script", v)]) ∧ ∀ base : Heap, K.In base → base.Ns mainGlobals mg → FnOk l.prog w K mg base (L2.CX l.prog w) 5 fa fd ["_law_script"] (MP.spLaw K) := by
  have e := hfa.symm.trans (PySem.W.mg_of X G a9)
  cases e
  let ca : Nat → Addr := fun _ => fa
  have B : Gb K mg := ⟨PySem.W.mg_none_of X G g_ValueError, PySem.W.mg_none_of X G g_bool, PySem.W.mg_none_of X G g_divmod, PySem.W.mg_none_of X G g_int, PySem.W.mg_none_of X G g_isinstance, PySem.W.mg_none_of X G g_len, PySem.W.mg_none_of X G g_list, PySem.W.mg_none_of X G g_min, PySem.W.mg_none_of X G g_range, PySem.W.mg_none_of X G g_tuple, ⟨V.int 6, _, PySem.W.mg_of X G q_MOST_WIRES, ⟨_, rfl⟩, fun m M => .int _⟩, ⟨V.int 12, _, PySem.W.mg_of X G q_MOST_KEYS, ⟨_, rfl⟩, fun m M => .int _⟩⟩
  have F0 := fun_mk (st := s_l_cell) l0 c0 k0
  have b0 := F0.binds (ps := ["_law_script", "_law_k"]) fun _ _ _ _ _ _ us hl => match us, hl with | [_, _], _ => rfl
  have F1 := fun_mk (st := s_l_take) l1 c1 k1
  have b1 := F1.binds (ps := ["_law_cell_here", "_law_salt", "_law_many"]) fun _ _ _ _ _ _ us hl => match us, hl with | [_, _, _], _ => rfl
  have F2 := fun_mk (st := s_l_frame) l2 c2 k2
  have b2 := F2.binds (ps := ["_law_script", "_law_most"]) fun _ _ _ _ _ _ us hl => match us, hl with | [_, _], _ => rfl
  have F3 := fun_mk (st := s_l_first_bad) l3 c3 k3
  have b3 := F3.binds (ps := ["_law_rows", "_law_columns", "_law_spots"]) fun _ _ _ _ _ _ us hl => match us, hl with | [_, _, _], _ => rfl
  have F4 := fun_mk (st := s_frame_of) l4 c4 k4
  have b4 := F4.binds (ps := ["rows", "columns", "spots"]) fun _ _ _ _ _ _ us hl => match us, hl with | [_, _, _], _ => rfl
  have F5 := fun_mk (st := s_l_spoilt) l5 c5 k5
  have b5 := F5.binds (ps := ["_law_spots", "_law_cell_here", "_law_rows", "_law_columns"]) fun _ _ _ _ _ _ us hl => match us, hl with | [_, _, _, _], _ => rfl
  have F6 := fun_mk (st := s_l_classes) l6 c6 k6
  have b6 := F6.binds (ps := ["_law_e"]) fun _ _ _ _ _ _ us hl => match us, hl with | [_], _ => rfl
  have F7 := fun_mk (st := s_l_whole) l7 c7 k7
  have b7 := F7.binds (ps := ["_law_number"]) fun _ _ _ _ _ _ us hl => match us, hl with | [_], _ => rfl
  have F8 := fun_mk (st := s_l_refused) l8 c8 k8
  have b8 := F8.binds (ps := ["_law_rows", "_law_columns", "_law_spots"]) fun _ _ _ _ _ _ us hl => match us, hl with | [_, _, _], _ => rfl
  have F9 := fun_mk (st := s_law) l9 c9 k9
  refine ⟨PySem.W.fnOf "law" "law" (defArgs s_law) (defBody s_law) (defScope s_law) .none kV9 dc9 pm9 an9 cd9 ct9, fun s v => .of_eq rfl, fun base _ _ => ?_⟩
  have o_NoFrame : XcC K C_NoFrame := ⟨xic_NoFrame, xga_NoFrame, xgg_NoFrame, xsb_NoFrame, xac_NoFrame, xgn, xtk, xmr_NoFrame, xhd_NoFrame⟩
  have bb_BedError : BasC K mg "BedError" C_BedError := ⟨PySem.W.mg_of X G aC_BedError, xrd_BedError, xsg_BedError, xfc_BedError⟩
  have oe_NoFrame : OexC K C_NoFrame := ⟨⟨nm_NoFrame, qn_NoFrame, N_NoFrame, bs_NoFrame, _, sn_NoFrame, sub_NoFrame, ab_NoFrame, col_NoFrame, dd_NoFrame, e0_NoFrame, e1_NoFrame, e2_NoFrame, e3_NoFrame, e5_NoFrame, xl_NoFrame, by first | rfl | decide +kernel⟩, xsa_NoFrame, xsb_NoFrame, xty_NoFrame, xkc_NoFrame⟩
  have FI_NoFrame := fun_mk (st := s_NoFrame___init__) xil_NoFrame xil2_NoFrame xil3_NoFrame
  have bI_NoFrame := FI_NoFrame.binds (ps := ["self", "place"]) fun _ _ _ _ _ _ us hl => match us, hl with | [_, _], _ => rfl
  have E : Xb l.prog w K mg base := ⟨⟨by decide, C_NoFrame, fI_NoFrame, _, _, aC_NoFrame, PySem.W.mg_of X G aC_NoFrame, oe_NoFrame, xia_NoFrame, xit_NoFrame, okx_NoFrame bb_BedError oe_NoFrame xn_NoFrame_place FI_NoFrame, bI_NoFrame⟩, ⟨C_BedError, PySem.W.mg_of X G aC_BedError, (catch_cons aC_NoFrame (PySem.W.exm_ref tsb_BedError thd_BedError tty_BedError tsu_NoFrame_BedError) catch_nil)⟩, ⟨C_NoChord, PySem.W.mg_of X G aC_NoChord, (isx_cons aC_NoFrame ki_NoFrame_NoChord o_NoFrame isx_nil)⟩, ⟨C_NoBed, PySem.W.mg_of X G aC_NoBed, (isx_cons aC_NoFrame ki_NoFrame_NoBed o_NoFrame isx_nil)⟩, ⟨C_NoReading, PySem.W.mg_of X G aC_NoReading, (isx_cons aC_NoFrame ki_NoFrame_NoReading o_NoFrame isx_nil)⟩, ⟨C_NoFrame, PySem.W.mg_of X G aC_NoFrame, (isx_cons aC_NoFrame ki_NoFrame_NoFrame o_NoFrame isx_nil)⟩, ⟨C_NoBook, PySem.W.mg_of X G aC_NoBook, (isx_cons aC_NoFrame ki_NoFrame_NoBook o_NoFrame isx_nil)⟩, ⟨C_NoKeys, PySem.W.mg_of X G aC_NoKeys, (isx_cons aC_NoFrame ki_NoFrame_NoKeys o_NoFrame isx_nil)⟩, ⟨C_TooMany, PySem.W.mg_of X G aC_TooMany, (isx_cons aC_NoFrame ki_NoFrame_TooMany o_NoFrame isx_nil)⟩, ⟨C_NoText, PySem.W.mg_of X G aC_NoText, (isx_cons aC_NoFrame ki_NoFrame_NoText o_NoFrame isx_nil)⟩, ⟨C_NoRow, PySem.W.mg_of X G aC_NoRow, (isx_cons aC_NoFrame ki_NoFrame_NoRow o_NoFrame isx_nil)⟩, ⟨C_NoWord, PySem.W.mg_of X G aC_NoWord, (isx_cons aC_NoFrame ki_NoFrame_NoWord o_NoFrame isx_nil)⟩, (isx_cons aC_NoFrame ki_NoFrame_ValueError o_NoFrame isx_nil), (xf_cons aC_NoFrame o_NoFrame xn_NoFrame_place xf_nil)⟩
  have r0 : ∀ al, Callee l.prog w K mg base (tab ca) "_law_cell" al 1 2 sem_l_cell := fun al => ⟨_, _, _, ok_l_cell al F0 B, PySem.W.mg_of X G a0, k0, b0⟩
  have r1 : ∀ al, Callee l.prog w K mg base (tab ca) "_law_take" al 1 3 sem_l_take := fun al => ⟨_, _, _, ok_l_take al F1 B, PySem.W.mg_of X G a1, k1, b1⟩
  have r2 : ∀ al, Callee l.prog w K mg base (tab ca) "_law_frame" al 2 2 sem_l_frame := fun al => ⟨_, _, _, ok_l_frame al F2 B r0 r1, PySem.W.mg_of X G a2, k2, b2⟩
  have r3 : ∀ al, Callee l.prog w K mg base (tab ca) "_law_first_bad" al 1 3 sem_l_first_bad := fun al => ⟨_, _, _, ok_l_first_bad al F3 B, PySem.W.mg_of X G a3, k3, b3⟩
  have r4 : ∀ al, Callee l.prog w K mg base (tab ca) "frame_of" al 3 3 sem_frame_of := fun al => ⟨_, _, _, ok_frame_of al F4 E B, PySem.W.mg_of X G a4, k4, b4⟩
  have r5 : ∀ al, Callee l.prog w K mg base (tab ca) "_law_spoilt" al 2 4 sem_l_spoilt := fun al => ⟨_, _, _, ok_l_spoilt al F5 B r1, PySem.W.mg_of X G a5, k5, b5⟩
  have r6 : ∀ al, Callee l.prog w K mg base (tab ca) "_law_classes" al 1 1 sem_l_classes := fun al => ⟨_, _, _, ok_l_classes al F6 E B, PySem.W.mg_of X G a6, k6, b6⟩
  have r7 : ∀ al, Callee l.prog w K mg base (tab ca) "_law_whole" al 1 1 sem_l_whole := fun al => ⟨_, _, _, ok_l_whole al F7 B, PySem.W.mg_of X G a7, k7, b7⟩
  have r8 : ∀ al, Callee l.prog w K mg base (tab ca) "_law_refused" al 4 3 sem_l_refused := fun al => ⟨_, _, _, ok_l_refused al F8 E B r4 r6 r7, PySem.W.mg_of X G a8, k8, b8⟩
  exact FnOk.imp (ok_law true F9 B r2 r0 r5 r1 r3 r8 r4) (law_imp m_law)
end L_k01

open PySem PySem.W PyProof.Rows in
set_option maxRecDepth 100000 in
set_option maxHeartbeats 0 in
theorem PySem.Challenge.cw_chordbed_k01_frames_made_holds : PySem.Challenge.rw_chordbed_k01_frames_made.Holds := by
  w_on; o_law; k_head; (case hw => w_witness2)
  k_fill
  refine MP.law_end (l := PySem.Challenge.rw_chordbed_k01_frames_made) (k := 5) (x := "_law_script") rfl rfl ⟨rfl, by decide, by decide⟩ (fun w h Y => PySem.W.kIn_of Y) ?F
  case F =>
    intro w mg fa h KX G hmg
    refine' L_k01.all_mk KX G hmg ?aC_NoFrame ?aC_BedError ?aC_NoChord ?aC_NoBed ?aC_NoReading ?aC_NoBook ?aC_NoKeys ?aC_TooMany ?aC_NoText ?aC_NoRow ?aC_NoWord ?xrd_BedError ?xsg_BedError ?xfc_BedError ?tsb_BedError ?thd_BedError ?tty_BedError ?tsu_NoFrame_BedError ?ki_NoFrame_NoChord ?ki_NoFrame_NoBed ?ki_NoFrame_NoReading ?ki_NoFrame_NoFrame ?ki_NoFrame_NoBook ?ki_NoFrame_NoKeys ?ki_NoFrame_TooMany ?ki_NoFrame_NoText ?ki_NoFrame_NoRow ?ki_NoFrame_NoWord ?ki_NoFrame_ValueError ?xic_NoFrame ?xga_NoFrame ?xgg_NoFrame ?xsb_NoFrame ?xac_NoFrame ?xmr_NoFrame ?xhd_NoFrame ?xty_NoFrame ?xkc_NoFrame ?xn_NoFrame_place ?xl_NoFrame ?xsa_NoFrame ?xia_NoFrame ?xit_NoFrame ?xil_NoFrame ?xil2_NoFrame ?xil3_NoFrame ?xgn ?xtk ?a0 ?l0 ?c0 ?k0 ?a1 ?l1 ?c1 ?k1 ?a2 ?l2 ?c2 ?k2 ?a3 ?l3 ?c3 ?k3 ?a4 ?l4 ?c4 ?k4 ?a5 ?l5 ?c5 ?k5 ?a6 ?l6 ?c6 ?k6 ?a7 ?l7 ?c7 ?k7 ?a8 ?l8 ?c8 ?k8 ?a9 ?l9 ?c9 ?k9 ?g_ValueError ?g_bool ?g_divmod ?g_int ?g_isinstance ?g_len ?g_list ?g_min ?g_range ?g_tuple ?q_MOST_WIRES ?q_MOST_KEYS
    (case aC_NoFrame => k_is)
    (case aC_BedError => k_is)
    (case aC_NoChord => k_is)
    (case aC_NoBed => k_is)
    (case aC_NoReading => k_is)
    (case aC_NoBook => k_is)
    (case aC_NoKeys => k_is)
    (case aC_TooMany => k_is)
    (case aC_NoText => k_is)
    (case aC_NoRow => k_is)
    (case aC_NoWord => k_is)
    (case xrd_BedError => k_is)
    (case xsg_BedError => k_is)
    (case xfc_BedError => k_is)
    (case tsb_BedError => k_is)
    (case thd_BedError => k_is)
    (case tty_BedError => k_is)
    (case tsu_NoFrame_BedError => k_is)
    (case ki_NoFrame_NoChord => kit_is)
    (case ki_NoFrame_NoBed => kit_is)
    (case ki_NoFrame_NoReading => kit_is)
    (case ki_NoFrame_NoFrame => kit_is)
    (case ki_NoFrame_NoBook => kit_is)
    (case ki_NoFrame_NoKeys => kit_is)
    (case ki_NoFrame_TooMany => kit_is)
    (case ki_NoFrame_NoText => kit_is)
    (case ki_NoFrame_NoRow => kit_is)
    (case ki_NoFrame_NoWord => kit_is)
    (case ki_NoFrame_ValueError => kit_is)
    (case xic_NoFrame => k_is)
    (case xga_NoFrame => k_is)
    (case xgg_NoFrame => k_is)
    (case xsb_NoFrame => k_is)
    (case xac_NoFrame => k_is)
    (case xmr_NoFrame => k_is)
    (case xhd_NoFrame => k_is)
    (case xty_NoFrame => k_is)
    (case xkc_NoFrame => k_is)
    (case xn_NoFrame_place => k_is)
    (case xl_NoFrame => k_is)
    (case xsa_NoFrame => k_is)
    (case xia_NoFrame => k_is)
    (case xit_NoFrame => k_is)
    (case xil_NoFrame => k_is)
    (case xil2_NoFrame => k_is)
    (case xil3_NoFrame => k_is)
    (case xgn => k_is)
    (case xtk => k_is)
    (case a0 => k_is)
    (case l0 => k_is)
    (case c0 => k_is)
    (case k0 => k_is)
    (case a1 => k_is)
    (case l1 => k_is)
    (case c1 => k_is)
    (case k1 => k_is)
    (case a2 => k_is)
    (case l2 => k_is)
    (case c2 => k_is)
    (case k2 => k_is)
    (case a3 => k_is)
    (case l3 => k_is)
    (case c3 => k_is)
    (case k3 => k_is)
    (case a4 => k_is)
    (case l4 => k_is)
    (case c4 => k_is)
    (case k4 => k_is)
    (case a5 => k_is)
    (case l5 => k_is)
    (case c5 => k_is)
    (case k5 => k_is)
    (case a6 => k_is)
    (case l6 => k_is)
    (case c6 => k_is)
    (case k6 => k_is)
    (case a7 => k_is)
    (case l7 => k_is)
    (case c7 => k_is)
    (case k7 => k_is)
    (case a8 => k_is)
    (case l8 => k_is)
    (case c8 => k_is)
    (case k8 => k_is)
    (case a9 => k_is)
    (case l9 => k_is)
    (case c9 => k_is)
    (case k9 => k_is)
    (case g_ValueError => k_is)
    (case g_bool => k_is)
    (case g_divmod => k_is)
    (case g_int => k_is)
    (case g_isinstance => k_is)
    (case g_len => k_is)
    (case g_list => k_is)
    (case g_min => k_is)
    (case g_range => k_is)
    (case g_tuple => k_is)
    (case q_MOST_WIRES => k_is)
    (case q_MOST_KEYS => k_is)
