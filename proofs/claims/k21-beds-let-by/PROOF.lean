import PyProof.Rows.All
import Wide.All
import OpenK.AllK
import Wide.FinOn
import HandS.ForMost
import HandS.Conv
import HandS.Wide
import HandS.TupAny
import HandS.Deep
import HandS.TupLe
import HandS.ForExc
import HandS.IsInst
import HandS.SortInts
import HandS.TupMul
import HandS.WideBits
import HandS.Zip
import HandS.Text
import PySem.Challenge.RW_chordbed_k21_beds_let_by
set_option Elab.async false
set_option maxRecDepth 100000
set_option linter.all false
set_option maxHeartbeats 1000000
/-! MP 1: values by content, states, what a state means on the abstract heap. -/
namespace MP
open PySem PySem.Spec PyProof.Rows L2

/-- a value by its content -/
inductive D where
  | none | bool (b : Bool) | int (i : Int) | str (x : Str) | list (xs : List D) | lk (xs : List D) | tup (xs : List D) | dic (kvs : List (Key × D)) | obj (n : Nat)
  deriving Inhabited

mutual
def D.py : D → PyData
  | .none => .none
  | .bool b => .bool b
  | .int i => .int i
  | .str x => .str x
  | .list xs => .list (pys xs)
  | .lk xs => .list (pys xs)
  | .tup xs => .tuple (pys xs)
  | .dic _ => .dict []
  | .obj _ => .dict []
def pys : List D → List PyData
  | [] => []
  | x :: xs => x.py :: pys xs
end
theorem pys_map : ∀ xs : List D, pys xs = xs.map D.py
  | [] => by simp [pys]
  | x :: xs => by simp [pys, pys_map xs]

/-! what stands at an address, by content -/
mutual
inductive DR (K : PySem.W.Frag) (m : List Addr) (H : Hp) : V → D → Prop
  | non : DR K m H .non .none
  | bl (b : Bool) : DR K m H (.bl b) (.bool b)
  | int (i : Int) : DR K m H (.int i) (.int i)
  | str (x : Str) : DR K m H (.str x) (.str x)
  | list {a : Addr} {xs : List V} {ds : List D} : H a = some (.lst xs) → DRs K m H xs ds → DR K m H (.ref a) (.list ds)
  | lk {a : Addr} {xs : List V} {ds : List D} : SqL K H a xs → DRs K m H xs ds → DR K m H (.ref a) (.lk ds)
  | tup {a : Addr} {xs : List V} {ds : List D} : SqT K H a xs → DRs K m H xs ds → DR K m H (.ref a) (.tup ds)
  | dic {a : Addr} {ks : List (Key × V)} {kvs : List (Key × D)} : H a = some (.dK ks) → DRk K m H ks kvs → DR K m H (.ref a) (.dic kvs)
  | obj {a : Addr} {n : Nat} : m[n]? = some a → DR K m H (.ref a) (.obj n)
inductive DRs (K : PySem.W.Frag) (m : List Addr) (H : Hp) : List V → List D → Prop
  | nil : DRs K m H [] []
  | cons {v : V} {vs : List V} {d : D} {ds : List D} : DR K m H v d → DRs K m H vs ds → DRs K m H (v :: vs) (d :: ds)
inductive DRk (K : PySem.W.Frag) (m : List Addr) (H : Hp) : List (Key × V) → List (Key × D) → Prop
  | nil : DRk K m H [] []
  | cons {k : Key} {v : V} {vs : List (Key × V)} {d : D} {ds : List (Key × D)} : DR K m H v d → DRk K m H vs ds → DRk K m H ((k, v) :: vs) ((k, d) :: ds)
end

theorem Same.seqT {K : PySem.W.Frag} {H H' : Hp} {a : Addr} {xs : List V} (e : Same H H') (h : SqT K H a xs) : SqT K H' a xs := by
  rcases h with (h | ⟨o, h⟩) | h
  · exact .inl (.inl (e _ _ h))
  · exact .inl (.inr ⟨o, e _ _ h⟩)
  · exact .inr h

def MLe (m m' : List Addr) : Prop := ∀ (n : Nat) (a : Addr), m[n]? = some a → m'[n]? = some a
theorem MLe.refl (m : List Addr) : MLe m m := fun _ _ h => h
theorem MLe.trans {m1 m2 m3 : List Addr} (a : MLe m1 m2) (b : MLe m2 m3) : MLe m1 m3 := fun n x h => b n x (a n x h)
theorem MLe.snoc (m : List Addr) (x : Addr) : MLe m (m ++ [x]) := fun n a h => by
  have hl : n < m.length := (List.getElem?_eq_some_iff.mp h).1
  rw [List.getElem?_append_left hl]
  exact h

section
variable {K : PySem.W.Frag} {m m' : List Addr} {H H' : Hp}
mutual
theorem DR.mono (hm : MLe m m') (hs : Same H H') : ∀ (d : D) (v : V), DR K m H v d → DR K m' H' v d
  | .none, _, h => by cases h; exact .non
  | .bool b, _, h => by cases h; exact .bl b
  | .int i, _, h => by cases h; exact .int i
  | .str x, _, h => by cases h; exact .str x
  | .list ds, _, h => by
    cases h with
    | list h1 h2 => exact .list (hs _ _ h1) (DRs.mono hm hs ds _ h2)
  | .lk ds, _, h => by
    cases h with
    | lk h1 h2 => exact .lk (hs.seq h1) (DRs.mono hm hs ds _ h2)
  | .tup ds, _, h => by
    cases h with
    | tup h1 h2 => exact .tup (Same.seqT hs h1) (DRs.mono hm hs ds _ h2)
  | .dic kvs, _, h => by
    cases h with
    | dic h1 h2 => exact .dic (hs _ _ h1) (DRk.mono hm hs kvs _ h2)
  | .obj n, _, h => by
    cases h with
    | obj h1 => exact .obj (hm _ _ h1)
theorem DRs.mono (hm : MLe m m') (hs : Same H H') : ∀ (ds : List D) (vs : List V), DRs K m H vs ds → DRs K m' H' vs ds
  | [], _, h => by cases h; exact .nil
  | d :: ds, _, h => by
    cases h with
    | cons h1 h2 => exact .cons (DR.mono hm hs d _ h1) (DRs.mono hm hs ds _ h2)
theorem DRk.mono (hm : MLe m m') (hs : Same H H') : ∀ (ds : List (Key × D)) (vs : List (Key × V)), DRk K m H vs ds → DRk K m' H' vs ds
  | [], _, h => by cases h; exact .nil
  | (k, d) :: ds, _, h => by
    cases h with
    | cons h1 h2 => exact .cons (DR.mono hm hs d _ h1) (DRk.mono hm hs ds _ h2)
end
theorem DR.up {v : V} {d : D} (h : DR K m H v d) (hs : Same H H') : DR K m H' v d := DR.mono (MLe.refl m) hs d v h
theorem DRs.up {v : List V} {d : List D} (h : DRs K m H v d) (hs : Same H H') : DRs K m H' v d := DRs.mono (MLe.refl m) hs d v h
theorem DRk.up {v : List (Key × V)} {d : List (Key × D)} (h : DRk K m H v d) (hs : Same H H') : DRk K m H' v d := DRk.mono (MLe.refl m) hs d v h
theorem DRs.length : ∀ {vs : List V} {ds : List D}, DRs K m H vs ds → vs.length = ds.length
  | _, _, .nil => rfl
  | _, _, .cons _ t => by simp [DRs.length t]
theorem DRs.get : ∀ {vs : List V} {ds : List D} {i : Nat} {d : D}, DRs K m H vs ds → ds[i]? = some d → ∃ v, vs[i]? = some v ∧ DR K m H v d
  | _, _, _, _, .nil, e => by simp at e
  | _, _, 0, _, .cons r _, e => by simp at e; subst e; exact ⟨_, rfl, r⟩
  | _, _, i + 1, d, .cons _ t, e => by
    obtain ⟨v, h1, h2⟩ := DRs.get (i := i) (d := d) t (by simpa using e)
    exact ⟨v, by simpa using h1, h2⟩
theorem DRs.get' {vs : List V} {ds : List D} {i : Nat} {v : V} (h : DRs K m H vs ds) (e : vs[i]? = some v) : ∃ d, ds[i]? = some d ∧ DR K m H v d := by
  have hl := h.length
  have hi := (List.getElem?_eq_some_iff.mp e).1
  have hd : ds[i]? = some (ds[i]'(by omega)) := by simp
  obtain ⟨v', h1, h2⟩ := h.get hd
  rw [e] at h1
  cases h1
  exact ⟨_, hd, h2⟩
theorem DRs.append : ∀ {xs ys : List V} {us ws : List D}, DRs K m H xs us → DRs K m H ys ws → DRs K m H (xs ++ ys) (us ++ ws)
  | _, _, _, _, .nil, s => s
  | _, _, _, _, .cons r t, s => .cons r (DRs.append t s)
theorem DRs.set {x : V} {u : D} (r : DR K m H x u) : ∀ {xs : List V} {us : List D} (i : Nat), DRs K m H xs us → DRs K m H (xs.set i x) (us.set i u)
  | _, _, _, .nil => .nil
  | _, _, 0, .cons _ t => .cons r t
  | _, _, i + 1, .cons q t => .cons q (DRs.set r i t)
theorem DRs.take : ∀ {xs : List V} {us : List D} (n : Nat), DRs K m H xs us → DRs K m H (xs.take n) (us.take n)
  | _, _, 0, _ => .nil
  | _, _, _ + 1, .nil => .nil
  | _, _, n + 1, .cons r t => .cons r (DRs.take n t)
theorem DRs.drop : ∀ {xs : List V} {us : List D} (n : Nat), DRs K m H xs us → DRs K m H (xs.drop n) (us.drop n)
  | _, _, 0, r => r
  | _, _, _ + 1, .nil => .nil
  | _, _, n + 1, .cons _ t => DRs.drop n t
theorem DRs.eraseIdx : ∀ {xs : List V} {us : List D} (i : Nat), DRs K m H xs us → DRs K m H (xs.eraseIdx i) (us.eraseIdx i)
  | _, _, _, .nil => .nil
  | _, _, 0, .cons _ t => t
  | _, _, i + 1, .cons q t => .cons q (DRs.eraseIdx i t)
theorem DRs.reverse {xs : List V} {us : List D} (h : DRs K m H xs us) : DRs K m H xs.reverse us.reverse := by
  induction us generalizing xs with
  | nil => cases h; exact .nil
  | cons d ds ih =>
    cases h with
    | cons h1 h2 =>
      rw [List.reverse_cons, List.reverse_cons]
      exact (ih h2).append (.cons h1 .nil)
theorem DRs.ints : ∀ {ns : List Int}, DRs K m H (ns.map V.int) (ns.map D.int)
  | [] => .nil
  | _ :: _ => .cons (.int _) DRs.ints
theorem DRs.ints_of : ∀ {vs : List V} {ns : List Int}, DRs K m H vs (ns.map D.int) → vs = ns.map V.int
  | _, [], h => by cases h; rfl
  | _, n :: ns, h => by
    cases h with
    | cons h1 h2 =>
      cases h1
      rw [DRs.ints_of h2]
      rfl
end

/-! slots, objects, states -/
/-- what a name holds: nothing, a value that nobody changes, a list or dict of its own -/
inductive Slot where
  | un | v (d : D) | own (d : D)
structure Ob where
  cls : Nat
  fs : List (Nat × Slot)
structure Sta where
  env : List Slot
  st : List Ob
/-- the names of classes and attributes -/
structure Tab where
  ca : Nat → Addr
  nm : Nat → Str
  inj : ∀ i j, nm i = nm j → i = j

/-- an object of its own stands by content -/
inductive ObD (K : PySem.W.Frag) (m : List Addr) (M : Hp) : HO → D → Prop
  | lst {xs : List V} {ds : List D} : DRs K m M xs ds → ObD K m M (.lst xs) (.list ds)
  | dic {xs : List (Key × V)} {ds : List (Key × D)} : DRk K m M xs ds → ObD K m M (.dK xs) (.dic ds)
theorem ObD.mono {K : PySem.W.Frag} {m m' : List Addr} {M M' : Hp} {o : HO} {d : D} (h : ObD K m M o d) (hm : MLe m m') (hs : Same M M') : ObD K m' M' o d := by
  cases h with
  | lst h => exact .lst (DRs.mono hm hs _ _ h)
  | dic h => exact .dic (DRk.mono hm hs _ _ h)
theorem ObD.dr {K : PySem.W.Frag} {m : List Addr} {M H : Hp} {o : HO} {d : D} {a : Addr} (h : ObD K m M o d) (hs : Same M H) (e : H a = some o) : DR K m H (.ref a) d := by
  cases h with
  | lst h => exact .list e (h.up hs)
  | dic h => exact .dic e (h.up hs)

def SlotR (K : PySem.W.Frag) (m : List Addr) (M H : Hp) : Slot → Option V → List Addr → Prop
  | .un, _, fp => fp = []
  | .v d, x, fp => fp = [] ∧ ∃ y, x = some y ∧ DR K m M y d
  | .own d, x, fp => ∃ a o, fp = [a] ∧ x = some (.ref a) ∧ H a = some o ∧ ObD K m M o d
def SlotsR (K : PySem.W.Frag) (m : List Addr) (M H : Hp) : List Slot → List (Option V) → List Addr → Prop
  | [], [], fp => fp = []
  | s :: ss, x :: xs, fp => ∃ f1 f2, fp = f1 ++ f2 ∧ SlotR K m M H s x f1 ∧ SlotsR K m M H ss xs f2
  | _, _, _ => False
def FsR (K : PySem.W.Frag) (nm : Nat → Str) (m : List Addr) (M H : Hp) : List (Nat × Slot) → List (Str × V) → List Addr → Prop
  | [], [], fp => fp = []
  | (i, s) :: ss, (x, v) :: xs, fp => ∃ f1 f2, fp = f1 ++ f2 ∧ x = nm i ∧ SlotR K m M H s (some v) f1 ∧ FsR K nm m M H ss xs f2
  | _, _, _ => False
def ObR (K : PySem.W.Frag) (T : Tab) (m : List Addr) (M H : Hp) (ob : Ob) (a : Addr) (fp : List Addr) : Prop :=
  ∃ dx fs f, fp = a :: f ∧ H a = some (.ins (T.ca ob.cls) dx fs) ∧ FsR K T.nm m M H ob.fs fs f
def StoreR (K : PySem.W.Frag) (T : Tab) (m : List Addr) (M H : Hp) : List Ob → List Addr → List Addr → Prop
  | [], _, fp => fp = []
  | ob :: obs, a :: as, fp => ∃ f1 f2, fp = f1 ++ f2 ∧ ObR K T m M H ob a f1 ∧ StoreR K T m M H obs as f2
  | _ :: _, [], _ => False

/-- THE RELATION: M the values that nobody changes any more; G what must stay; the rest of the heap is of no account -/
structure Rel (K : PySem.W.Frag) (T : Tab) (m : List Addr) (M G H : Hp) (s : Sta) (σ : L2.St) : Prop where
  mh : Same M H
  gh : Same G H
  fp : ∃ f1 f2, SlotsR K m M H s.env σ f1 ∧ StoreR K T m M H s.st m f2 ∧ (f1 ++ f2).Nodup ∧ ∀ a ∈ f1 ++ f2, M a = Option.none ∧ G a = Option.none

/-- the heap grew, the values that nobody changes with it -/
structure Grow (H M H' M' : Hp) : Prop where
  same : Same H H'
  mm : Same M M'
  mh : Same M' H'
  new : ∀ a o, M' a = some o → M a = some o ∨ H a = Option.none
theorem Grow.refl {H M : Hp} (h : Same M H) : Grow H M H M := ⟨Same.refl _, Same.refl _, h, fun _ _ h => .inl h⟩
theorem Grow.trans {H M H1 M1 H2 M2 : Hp} (a : Grow H M H1 M1) (b : Grow H1 M1 H2 M2) : Grow H M H2 M2 :=
  ⟨a.same.trans b.same, a.mm.trans b.mm, b.mh, fun x o h => (b.new x o h).elim (fun h => a.new x o h) fun h => .inr (a.same.free h)⟩
theorem Grow.keepNone {H M H' M' : Hp} (g : Grow H M H' M') {a : Addr} {o : HO} (h : H a = some o) (n : M a = Option.none) : M' a = Option.none := by
  cases q : M' a with
  | none => rfl
  | some u =>
    rcases g.new a u q with z | z
    · rw [n] at z; cases z
    · rw [h] at z; cases z
/-- a new object, not shared -/
theorem Same.upd {H : Hp} {p : Addr} {o : HO} (h : H p = Option.none) : Same H (upd H p o) := fun b u e => by
  rw [upd_ne (ne_of_none e h)]; exact e
theorem Grow.fresh {H M : Hp} {p : Addr} {o : HO} (mh : Same M H) (h : H p = Option.none) : Grow H M (upd H p o) M :=
  ⟨Same.upd h, Same.refl _, mh.trans (Same.upd h), fun _ _ h => .inl h⟩
/-- a new object, shared at once -/
theorem Grow.share {H M : Hp} {p : Addr} {o : HO} (mh : Same M H) (h : H p = Option.none) : Grow H M (upd H p o) (upd M p o) := by
  have hM : M p = Option.none := mh.free h
  refine ⟨Same.upd h, Same.upd hM, fun b u e => ?_, fun a u e => ?_⟩
  · by_cases hb : b = p
    · subst hb; rw [upd_same] at e ⊢; exact e
    · rw [upd_ne hb] at e ⊢; exact mh _ _ e
  · by_cases hb : a = p
    · subst hb; exact .inr h
    · rw [upd_ne hb] at e; exact .inl e
/-- an object that stands alone is shared from now on -/
theorem Grow.freeze {H0 M0 H M : Hp} {p : Addr} {o : HO} (g : Grow H0 M0 H M) (h0 : H0 p = Option.none) (h : H p = some o) (hM : M p = Option.none) : Grow H0 M0 H (upd M p o) := by
  refine ⟨g.same, g.mm.trans (Same.upd hM), fun b u e => ?_, fun a u e => ?_⟩
  · by_cases hb : b = p
    · subst hb; rw [upd_same] at e; rw [← e]; exact h
    · rw [upd_ne hb] at e; exact g.mh _ _ e
  · by_cases hb : a = p
    · subst hb; exact .inr h0
    · rw [upd_ne hb] at e; exact g.new _ _ e

section
variable {K : PySem.W.Frag} {T : Tab} {m m' : List Addr} {M M' G G' H H' : Hp}
theorem SlotR.mono {s : Slot} {x : Option V} {fp : List Addr} (h : SlotR K m M H s x fp) (hm : MLe m m') (mm : Same M M') (hh : ∀ a ∈ fp, H' a = H a) : SlotR K m' M' H' s x fp := by
  cases s with
  | un => exact h
  | v d =>
    obtain ⟨e, y, ex, r⟩ := h
    exact ⟨e, y, ex, DR.mono hm mm _ _ r⟩
  | own d =>
    obtain ⟨a, o, e, ex, ha, r⟩ := h
    exact ⟨a, o, e, ex, by rw [hh a (by rw [e]; simp)]; exact ha, r.mono hm mm⟩
theorem SlotsR.mono : ∀ {s : List Slot} {x : List (Option V)} {fp : List Addr}, SlotsR K m M H s x fp → MLe m m' → Same M M' → (∀ a ∈ fp, H' a = H a) → SlotsR K m' M' H' s x fp
  | [], [], _, h, _, _, _ => h
  | s :: ss, x :: xs, fp, h, hm, mm, hh => by
    obtain ⟨f1, f2, e, h1, h2⟩ := h
    subst e
    exact ⟨f1, f2, rfl, h1.mono hm mm fun a ha => hh a (List.mem_append_left _ ha), SlotsR.mono h2 hm mm fun a ha => hh a (List.mem_append_right _ ha)⟩
  | [], _ :: _, _, h, _, _, _ => h.elim
  | _ :: _, [], _, h, _, _, _ => h.elim
theorem FsR.mono {nm : Nat → Str} : ∀ {s : List (Nat × Slot)} {x : List (Str × V)} {fp : List Addr}, FsR K nm m M H s x fp → MLe m m' → Same M M' → (∀ a ∈ fp, H' a = H a) → FsR K nm m' M' H' s x fp
  | [], [], _, h, _, _, _ => h
  | (i, s) :: ss, (x, v) :: xs, fp, h, hm, mm, hh => by
    obtain ⟨f1, f2, e, e2, h1, h2⟩ := h
    subst e
    exact ⟨f1, f2, rfl, e2, h1.mono hm mm fun a ha => hh a (List.mem_append_left _ ha), FsR.mono h2 hm mm fun a ha => hh a (List.mem_append_right _ ha)⟩
  | [], _ :: _, _, h, _, _, _ => h.elim
  | _ :: _, [], _, h, _, _, _ => h.elim
theorem ObR.mono {ob : Ob} {a : Addr} {fp : List Addr} (h : ObR K T m M H ob a fp) (hm : MLe m m') (mm : Same M M') (hh : ∀ b ∈ fp, H' b = H b) : ObR K T m' M' H' ob a fp := by
  obtain ⟨dx, fs, f, e, h1, h2⟩ := h
  subst e
  exact ⟨dx, fs, f, rfl, by rw [hh a (by simp)]; exact h1, h2.mono hm mm fun b hb => hh b (List.mem_cons_of_mem _ hb)⟩
theorem StoreR.mono : ∀ {s : List Ob} {as as' : List Addr} {fp : List Addr}, StoreR K T m M H s as fp → MLe m m' → MLe as as' → Same M M' → (∀ a ∈ fp, H' a = H a) → StoreR K T m' M' H' s as' fp
  | [], _, _, _, h, _, _, _, _ => h
  | ob :: obs, a :: as, [], fp, h, hm, hl, mm, hh => by
    have := hl 0 a rfl
    simp at this
  | ob :: obs, a :: as, a' :: as', fp, h, hm, hl, mm, hh => by
    obtain ⟨f1, f2, e, h1, h2⟩ := h
    subst e
    have e0 : a' = a := by
      have := hl 0 a rfl
      simpa using this
    subst e0
    exact ⟨f1, f2, rfl, h1.mono hm mm fun a ha => hh a (List.mem_append_left _ ha), StoreR.mono h2 hm (fun n x hx => by have := hl (n + 1) x (by simpa using hx); simpa using this) mm fun a ha => hh a (List.mem_append_right _ ha)⟩
  | _ :: _, [], _, _, h, _, _, _, _ => h.elim

/-- everything in a footprint stands in the heap -/
theorem SlotR.here {s : Slot} {x : Option V} {fp : List Addr} (h : SlotR K m M H s x fp) : ∀ a ∈ fp, ∃ o, H a = some o := by
  cases s with
  | un => intro a ha; rw [show fp = [] from h] at ha; cases ha
  | v d => intro a ha; rw [h.1] at ha; cases ha
  | own d =>
    obtain ⟨b, o, e, _, hb, _⟩ := h
    intro a ha
    rw [e] at ha
    have : a = b := by simpa using ha
    subst this
    exact ⟨o, hb⟩
theorem SlotsR.here : ∀ {s : List Slot} {x : List (Option V)} {fp : List Addr}, SlotsR K m M H s x fp → ∀ a ∈ fp, ∃ o, H a = some o
  | [], [], _, h, a, ha => by rw [show _ = [] from h] at ha; cases ha
  | s :: ss, x :: xs, fp, h, a, ha => by
    obtain ⟨f1, f2, e, h1, h2⟩ := h
    rw [e] at ha
    rcases List.mem_append.mp ha with ha | ha
    · exact h1.here a ha
    · exact SlotsR.here h2 a ha
  | [], _ :: _, _, h, _, _ => h.elim
  | _ :: _, [], _, h, _, _ => h.elim
theorem FsR.here {nm : Nat → Str} : ∀ {s : List (Nat × Slot)} {x : List (Str × V)} {fp : List Addr}, FsR K nm m M H s x fp → ∀ a ∈ fp, ∃ o, H a = some o
  | [], [], _, h, a, ha => by rw [show _ = [] from h] at ha; cases ha
  | (i, s) :: ss, (x, v) :: xs, fp, h, a, ha => by
    obtain ⟨f1, f2, e, _, h1, h2⟩ := h
    rw [e] at ha
    rcases List.mem_append.mp ha with ha | ha
    · exact h1.here a ha
    · exact FsR.here h2 a ha
  | [], _ :: _, _, h, _, _ => h.elim
  | _ :: _, [], _, h, _, _ => h.elim
theorem StoreR.here : ∀ {s : List Ob} {as : List Addr} {fp : List Addr}, StoreR K T m M H s as fp → ∀ a ∈ fp, ∃ o, H a = some o
  | [], _, _, h, a, ha => by rw [show _ = [] from h] at ha; cases ha
  | ob :: obs, a' :: as, fp, h, a, ha => by
    obtain ⟨f1, f2, e, h1, h2⟩ := h
    rw [e] at ha
    rcases List.mem_append.mp ha with ha | ha
    · obtain ⟨dx, fs, f, e, h3, h4⟩ := h1
      rw [e] at ha
      rcases List.mem_cons.mp ha with rfl | ha
      · exact ⟨_, h3⟩
      · exact h4.here a ha
    · exact StoreR.here h2 a ha
  | _ :: _, [], _, h, _, _ => h.elim

theorem Rel.grow {s : Sta} {σ : L2.St} (R : Rel K T m M G H s σ) (g : Grow H M H' M') : Rel K T m M' G H' s σ := by
  obtain ⟨mh, gh, ⟨f1, f2, h1, h2, nd, dj⟩⟩ := R
  have same : ∀ a ∈ f1 ++ f2, H' a = H a := fun a ha => by
    have : ∃ o, H a = some o := by
      rcases List.mem_append.mp ha with ha | ha
      · exact h1.here a ha
      · exact h2.here a ha
    obtain ⟨o, e⟩ := this
    rw [e]
    exact g.same a o e
  have here : ∀ a ∈ f1 ++ f2, ∃ o, H a = some o := fun a ha => by
    rcases List.mem_append.mp ha with ha | ha
    · exact h1.here a ha
    · exact h2.here a ha
  refine ⟨g.mh, gh.trans g.same, ⟨f1, f2, h1.mono (MLe.refl _) g.mm fun a ha => same a (List.mem_append_left _ ha), h2.mono (MLe.refl _) (MLe.refl _) g.mm fun a ha => same a (List.mem_append_right _ ha), nd, fun a ha => ?_⟩⟩
  obtain ⟨o, e⟩ := here a ha
  exact ⟨g.keepNone e (dj a ha).1, (dj a ha).2⟩
theorem SlotsR.len : ∀ {s : List Slot} {x : List (Option V)} {fp : List Addr}, SlotsR K m M H s x fp → s.length = x.length
  | [], [], _, _ => rfl
  | s :: ss, x :: xs, fp, h => by
    obtain ⟨f1, f2, e, h1, h2⟩ := h
    simp [SlotsR.len h2]
  | [], _ :: _, _, h => h.elim
  | _ :: _, [], _, h => h.elim
/-- one slot, cut out -/
theorem SlotsR.split : ∀ {s : List Slot} {x : List (Option V)} {fp : List Addr} {i : Nat} {sl : Slot}, SlotsR K m M H s x fp → s[i]? = some sl →
    ∃ f0 f1 f2 y, fp = f0 ++ f1 ++ f2 ∧ x[i]? = some y ∧ SlotR K m M H sl y f1 ∧
      ∀ (m' : List Addr) (M' H' : Hp) (sl' : Slot) (y' : Option V) (f1' : List Addr), MLe m m' → Same M M' → (∀ a ∈ f0 ++ f2, H' a = H a) → SlotR K m' M' H' sl' y' f1' → SlotsR K m' M' H' (s.set i sl') (x.set i y') (f0 ++ f1' ++ f2)
  | [], _, _, _, _, _, e => by simp at e
  | s :: ss, [], _, _, _, h, _ => h.elim
  | s :: ss, x :: xs, fp, 0, sl, h, e => by
    obtain ⟨f1, f2, ef, h1, h2⟩ := h
    have e' : s = sl := by simpa using e
    subst e'
    refine ⟨[], f1, f2, x, by simp [ef], rfl, h1, fun m' M' H' sl' y' f1' hm hM hh hs => ?_⟩
    exact ⟨f1', f2, by simp, hs, h2.mono hm hM fun a ha => hh a (by simp [ha])⟩
  | s :: ss, x :: xs, fp, i + 1, sl, h, e => by
    obtain ⟨f1, f2, ef, h1, h2⟩ := h
    obtain ⟨g0, g1, g2, y, eg, ey, hy, k⟩ := SlotsR.split h2 (i := i) (sl := sl) (by simpa using e)
    refine ⟨f1 ++ g0, g1, g2, y, by simp [ef, eg, List.append_assoc], by simpa using ey, hy, fun m' M' H' sl' y' f1' hm hM hh hs => ?_⟩
    refine ⟨f1, g0 ++ f1' ++ g2, by simp [List.append_assoc], h1.mono hm hM fun a ha => hh a (by simp [ha]), ?_⟩
    exact k m' M' H' sl' y' f1' hm hM (fun a ha => hh a (by
      rcases List.mem_append.mp ha with ha | ha
      · simp [ha]
      · simp [ha])) hs
end
end MP

/-! MP 2: expressions that change nothing: what they are worth, and that the machine agrees. -/
namespace MP
open PySem PySem.Spec PyProof.Rows L2

/-- how a result stands: shared, new and nobody else's, somebody's own that is only looked at -/
inductive RK where
  | sh | fr | pk
structure RV where
  k : RK
  d : D
abbrev sh (d : D) : RV := ⟨.sh, d⟩
abbrev fr (d : D) : RV := ⟨.fr, d⟩
/-- an exception: its class, its fields -/
structure Ex where
  cls : Nat
  fs : List (Nat × D)
inductive PR (α : Type) where
  | ok (a : α) | exc (e : Ex) | stuck
def PR.bind {α β : Type} (x : PR α) (f : α → PR β) : PR β := match x with
  | .ok a => f a
  | .exc e => .exc e
  | .stuck => .stuck
def PR.of {α : Type} : Option α → PR α
  | some a => .ok a
  | none => .stuck

def RR (K : PySem.W.Frag) (m : List Addr) (M H0 H : Hp) (y : V) (r : RV) : Prop := match r.k with
  | .sh => DR K m M y r.d
  | .fr => ∃ a o, y = .ref a ∧ H a = some o ∧ ObD K m M o r.d ∧ M a = none ∧ H0 a = none
  | .pk => ∃ a o, y = .ref a ∧ H a = some o ∧ ObD K m M o r.d
/-- what an operation may read -/
def Arg (K : PySem.W.Frag) (m : List Addr) (M H : Hp) (y : V) (d : D) : Prop := DR K m M y d ∨ ∃ a o, y = .ref a ∧ H a = some o ∧ ObD K m M o d

section
variable {K : PySem.W.Frag} {m : List Addr} {M M' H0 H H' : Hp} {y : V} {r : RV} {d : D}
theorem RR.arg (h : RR K m M H0 H y r) : Arg K m M H y r.d := by
  obtain ⟨k, d⟩ := r
  cases k with
  | sh => exact .inl h
  | fr => obtain ⟨a, o, h1, h2, h3, _⟩ := h; exact .inr ⟨a, o, h1, h2, h3⟩
  | pk => obtain ⟨a, o, h1, h2, h3⟩ := h; exact .inr ⟨a, o, h1, h2, h3⟩
theorem RR.grow (h : RR K m M H0 H y r) (g : Grow H M H' M') : RR K m M' H0 H' y r := by
  obtain ⟨k, d⟩ := r
  cases k with
  | sh => exact DR.up h g.mm
  | fr => obtain ⟨a, o, h1, h2, h3, h4, h5⟩ := h; exact ⟨a, o, h1, g.same _ _ h2, h3.mono (MLe.refl _) g.mm, g.keepNone h2 h4, h5⟩
  | pk => obtain ⟨a, o, h1, h2, h3⟩ := h; exact ⟨a, o, h1, g.same _ _ h2, h3.mono (MLe.refl _) g.mm⟩
theorem RR.since (h : RR K m M H H' y r) (s : Same H0 H) : RR K m M H0 H' y r := by
  obtain ⟨k, d⟩ := r
  cases k with
  | sh => exact h
  | fr => obtain ⟨a, o, h1, h2, h3, h4, h5⟩ := h; exact ⟨a, o, h1, h2, h3, h4, s.free h5⟩
  | pk => exact h
theorem Arg.grow (h : Arg K m M H y d) (g : Grow H M H' M') : Arg K m M' H' y d := by
  rcases h with h | ⟨a, o, h1, h2, h3⟩
  · exact .inl (h.up g.mm)
  · exact .inr ⟨a, o, h1, g.same _ _ h2, h3.mono (MLe.refl _) g.mm⟩
theorem Arg.dr (h : Arg K m M H y d) (s : Same M H) : DR K m H y d := by
  rcases h with h | ⟨a, o, rfl, h2, h3⟩
  · exact h.up s
  · exact h3.dr s h2
theorem Arg.int {i : Int} (h : Arg K m M H y (.int i)) : y = .int i := by
  rcases h with h | ⟨a, o, rfl, h2, h3⟩
  · cases h; rfl
  · cases h3
theorem Arg.bl {i : Bool} (h : Arg K m M H y (.bool i)) : y = .bl i := by
  rcases h with h | ⟨a, o, rfl, h2, h3⟩
  · cases h; rfl
  · cases h3
theorem Arg.str {i : Str} (h : Arg K m M H y (.str i)) : y = .str i := by
  rcases h with h | ⟨a, o, rfl, h2, h3⟩
  · cases h; rfl
  · cases h3
theorem Arg.non (h : Arg K m M H y .none) : y = .non := by
  rcases h with h | ⟨a, o, rfl, h2, h3⟩
  · cases h; rfl
  · cases h3
theorem Arg.list {ds : List D} (h : Arg K m M H y (.list ds)) (s : Same M H) : ∃ a xs, y = .ref a ∧ H a = some (.lst xs) ∧ DRs K m M xs ds := by
  rcases h with h | ⟨a, o, rfl, h2, h3⟩
  · cases h with
    | list h1 h2 => exact ⟨_, _, rfl, s _ _ h1, h2⟩
  · cases h3 with
    | lst h3 => exact ⟨_, _, rfl, h2, h3⟩
theorem Arg.lk {ds : List D} (h : Arg K m M H y (.lk ds)) (s : Same M H) : ∃ a xs, y = .ref a ∧ SqL K H a xs ∧ DRs K m M xs ds := by
  rcases h with h | ⟨a, o, rfl, h2, h3⟩
  · cases h with
    | lk h1 h2 => exact ⟨_, _, rfl, s.seq h1, h2⟩
  · cases h3
theorem Arg.tup {ds : List D} (h : Arg K m M H y (.tup ds)) (s : Same M H) : ∃ a xs, y = .ref a ∧ SqT K H a xs ∧ DRs K m M xs ds ∧ DR K m M y (.tup ds) := by
  rcases h with h | ⟨a, o, rfl, h2, h3⟩
  · cases h with
    | tup h1 h2 => exact ⟨_, _, rfl, Same.seqT s h1, h2, .tup h1 h2⟩
  · cases h3
theorem Arg.dic {ds : List (Key × D)} (h : Arg K m M H y (.dic ds)) (s : Same M H) : ∃ a xs, y = .ref a ∧ H a = some (.dK xs) ∧ DRk K m M xs ds := by
  rcases h with h | ⟨a, o, rfl, h2, h3⟩
  · cases h with
    | dic h1 h2 => exact ⟨_, _, rfl, s _ _ h1, h2⟩
  · cases h3 with
    | dic h3 => exact ⟨_, _, rfl, h2, h3⟩
/-- a list or a tuple, its items -/
def seqOf : D → Option (List D)
  | .list ds => some ds
  | .lk ds => some ds
  | .tup ds => some ds
  | _ => none
theorem Arg.seq {d : D} {ds : List D} (h : Arg K m M H y d) (e : seqOf d = some ds) (s : Same M H) : ∃ a xs, y = .ref a ∧ (SqL K H a xs ∨ SqT K H a xs) ∧ DRs K m M xs ds := by
  cases d with
  | list ds' =>
    cases e
    obtain ⟨a, xs, h1, h2, h3⟩ := h.list s
    exact ⟨a, xs, h1, .inl (SqL.of h2), h3⟩
  | lk ds' =>
    cases e
    obtain ⟨a, xs, h1, h2, h3⟩ := h.lk s
    exact ⟨a, xs, h1, .inl h2, h3⟩
  | tup ds' =>
    cases e
    obtain ⟨a, xs, h1, h2, h3, _⟩ := h.tup s
    exact ⟨a, xs, h1, .inr h2, h3⟩
  | _ => cases e
/-! to data as the library's == reads it -/
mutual
theorem DR.dp : ∀ (d : D) (v : V), DR K m H v d → d.py.canLay0 = true → Dp K H v d.py
  | .none, _, h, _ => by cases h; rw [D.py]; exact .non
  | .bool b, _, h, _ => by cases h; rw [D.py]; exact .bl b
  | .int i, _, h, _ => by cases h; rw [D.py]; exact .int i
  | .str x, _, h, _ => by cases h; rw [D.py]; exact .str x
  | .list ds, _, h, c => by
    cases h with
    | list h1 h2 =>
      rw [D.py] at c ⊢
      rw [PyData.canLay0] at c
      exact .lst (SqL.of h1) (DRs.dp ds _ h2 c)
  | .lk ds, _, h, c => by
    cases h with
    | lk h1 h2 =>
      rw [D.py] at c ⊢
      rw [PyData.canLay0] at c
      exact .lst h1 (DRs.dp ds _ h2 c)
  | .tup ds, _, h, c => by
    cases h with
    | tup h1 h2 =>
      rw [D.py] at c ⊢
      rw [PyData.canLay0] at c
      exact .tup h1 (DRs.dp ds _ h2 c)
  | .dic kvs, _, h, c => by rw [D.py] at c; simp [PyData.canLay0] at c
  | .obj n, _, h, c => by rw [D.py] at c; simp [PyData.canLay0] at c
theorem DRs.dp : ∀ (ds : List D) (vs : List V), DRs K m H vs ds → PyData.canLayAll0 (pys ds) = true → DpAll K H vs (pys ds)
  | [], _, h, _ => by cases h; rw [pys]; exact .nil
  | d :: ds, _, h, c => by
    cases h with
    | cons h1 h2 =>
      rw [pys] at c ⊢
      rw [PyData.canLayAll0, Bool.and_eq_true] at c
      exact .cons (DR.dp d _ h1 c.1) (DRs.dp ds _ h2 c.2)
end
end

/-! ### exceptions -/
def FldR (K : PySem.W.Frag) (nm : Nat → Str) (m : List Addr) (M : Hp) : List (Nat × D) → List (Str × V) → Prop
  | [], [] => True
  | (i, d) :: ss, (x, v) :: xs => x = nm i ∧ DR K m M v d ∧ FldR K nm m M ss xs
  | _, _ => False
/-- an exception by content -/
def ExR (K : PySem.W.Frag) (T : Tab) (m : List Addr) (M H : Hp) (e : Ex) (cls : Value) (d : Option Addr) : Prop :=
  cls = .ref (T.ca e.cls) ∧ ((e.fs = [] ∧ d = none) ∨ ∃ dd fs, d = some dd ∧ H dd = some (.xd fs) ∧ FldR K T.nm m M e.fs fs)

/-! ### readings by evaluation -/
section
variable (X : Cx) (T : Tab) (W : WX)
def tP (f : Sta → PR RV) : TE := fun σ H Q => ∃ s m M G, Rel X.K T m M G H s σ ∧ match f s with
  | .ok r => ∀ y H' M', Grow H M H' M' → RR X.K m M' H H' y r → Q y H'
  | .exc e => ∀ cls d H' M', Grow H M H' M' → ExR X.K T m M' H' e cls d → W cls d σ H'
  | .stuck => False
/-- shared -/
def tD (f : Sta → PR D) : TE := fun σ H Q => ∃ s m M G, Rel X.K T m M G H s σ ∧ match f s with
  | .ok d => ∀ y H' M', Grow H M H' M' → DR X.K m M' y d → Q y H'
  | .exc e => ∀ cls d H' M', Grow H M H' M' → ExR X.K T m M' H' e cls d → W cls d σ H'
  | .stuck => False
/-- a test -/
def tT (f : Sta → PR Bool) : TT := fun σ H Q => ∃ s m M G, Rel X.K T m M G H s σ ∧ match f s with
  | .ok b => ∀ H' M', Grow H M H' M' → Q b H'
  | .exc e => ∀ cls d H' M', Grow H M H' M' → ExR X.K T m M' H' e cls d → W cls d σ H'
  | .stuck => False
/-- arguments, all shared -/
def tAs (f : Sta → PR (List D)) : TA := fun σ H Q => ∃ s m M G, Rel X.K T m M G H s σ ∧ match f s with
  | .ok ds => ∀ ys H' M', Grow H M H' M' → DRs X.K m M' ys ds → Q ys H'
  | .exc e => ∀ cls d H' M', Grow H M H' M' → ExR X.K T m M' H' e cls d → W cls d σ H'
  | .stuck => False
/-- arguments, as they come -/
def tAr (f : Sta → PR (List RV)) : TA := fun σ H Q => ∃ s m M G, Rel X.K T m M G H s σ ∧ match f s with
  | .ok rs => ∀ ys H' M', Grow H M H' M' → Paired (RR X.K m M' H H') ys rs → Q ys H'
  | .exc e => ∀ cls d H' M', Grow H M H' M' → ExR X.K T m M' H' e cls d → W cls d σ H'
  | .stuck => False
abbrev PEv (e : Expr) (f : Sta → PR RV) : Prop := PE X e (tP X T W f)
abbrev PDv (e : Expr) (f : Sta → PR D) : Prop := PE X e (tD X T W f)
abbrev PTv (e : Expr) (f : Sta → PR Bool) : Prop := PT X e (tT X T W f)
abbrev PAs (es : List Expr) (f : Sta → PR (List D)) : Prop := PA X es (tAs X T W f)
abbrev PAr (es : List Expr) (f : Sta → PR (List RV)) : Prop := PA X es (tAr X T W f)
end

theorem PE.wk {X : Cx} {e : Expr} {t t' : TE} (h : PE X e t) (w : ∀ σ H Q, t' σ H Q → t σ H Q) : PE X e t' := ⟨fun pins s σ H Q I q => h.run pins s σ H Q I (w _ _ _ q)⟩
theorem PT.wk {X : Cx} {e : Expr} {t t' : TT} (h : PT X e t) (w : ∀ σ H Q, t' σ H Q → t σ H Q) : PT X e t' := ⟨fun pins s σ H Q I q => h.run pins s σ H Q I (w _ _ _ q)⟩
theorem PW.wk {X : Cx} {e : Expr} {t t' : TT} (h : PW X e t) (w : ∀ σ H Q, t' σ H Q → t σ H Q) : PW X e t' := ⟨fun wh pins s σ H Q I q => h.run wh pins s σ H Q I (w _ _ _ q)⟩
theorem PA.wk {X : Cx} {e : List Expr} {t t' : TA} (h : PA X e t) (w : ∀ σ H Q, t' σ H Q → t σ H Q) : PA X e t' := ⟨fun pos pins s σ H Q I q => h.run pos pins s σ H Q I (w _ _ _ q)⟩

section
variable {X : Cx} {T : Tab} {W : WX} {a b c e : Expr} {es : List Expr} {pos p : Pos} {fa fb fc : Sta → PR RV}

/-! ### a result is shared -/
def RV.shr (r : RV) : PR D := match r.k with
  | .sh => .ok r.d
  | .fr => .ok r.d
  | .pk => .stuck
def pD (f : Sta → PR RV) : Sta → PR D := fun s => (f s).bind RV.shr
theorem RR.share {K : PySem.W.Frag} {m : List Addr} {M0 M H0 H : Hp} {y : V} {r : RV} {d : D} (h : RR K m M H0 H y r) (g : Grow H0 M0 H M) (e : r.shr = .ok d) : ∃ M', Grow H0 M0 H M' ∧ Same M M' ∧ DR K m M' y d := by
  obtain ⟨k, d'⟩ := r
  cases k with
  | sh =>
    cases e
    exact ⟨M, g, Same.refl _, h⟩
  | fr =>
    cases e
    obtain ⟨a, o, rfl, h2, h3, h4, h5⟩ := h
    refine ⟨upd M a o, g.freeze h5 h2 h4, Same.upd h4, ?_⟩
    exact (h3.mono (MLe.refl _) (Same.upd h4)).dr (Same.refl _) upd_same
  | pk => cases e
theorem pd_of (h : PEv X T W e fa) : PDv X T W e (pD fa) := by
  refine PE.wk h ?_
  rintro σ H Q ⟨s, m, M, G, R, q⟩
  refine ⟨s, m, M, G, R, ?_⟩
  revert q
  unfold pD PR.bind
  cases fa s with
  | ok r =>
    intro q y H' M' g rr
    cases hr : r.shr with
    | ok d =>
      simp only [hr] at q
      obtain ⟨M2, g2, mm, dr⟩ := rr.share g hr
      exact q y H' M2 g2 dr
    | exc e => obtain ⟨k, d⟩ := r; cases k <;> cases hr
    | stuck => simp only [hr] at q
  | exc e => intro q; exact q
  | stuck => intro q; exact q
def pS (f : Sta → PR D) : Sta → PR RV := fun s => (f s).bind fun d => .ok (sh d)
theorem pe_of {f : Sta → PR D} (h : PDv X T W e f) : PEv X T W e (pS f) := by
  refine PE.wk h ?_
  rintro σ H Q ⟨s, m, M, G, R, q⟩
  refine ⟨s, m, M, G, R, ?_⟩
  revert q
  unfold pS PR.bind
  cases f s with
  | ok r => intro q y H' M' g rr; exact q y H' M' g rr
  | exc e => intro q; exact q
  | stuck => intro q; exact q

/-! ### names, constants -/
def Slot.look : Slot → Option RV
  | .un => none
  | .v d => some (sh d)
  | .own d => some ⟨.pk, d⟩
def pVar (i : Nat) : Sta → PR RV := fun s => PR.of (s.env[i]?.bind Slot.look)
theorem SlotsR.at {K : PySem.W.Frag} {m : List Addr} {M H : Hp} : ∀ {s : List Slot} {x : List (Option V)} {fp : List Addr} {i : Nat} {sl : Slot}, SlotsR K m M H s x fp → s[i]? = some sl → ∃ y f, x[i]? = some y ∧ SlotR K m M H sl y f ∧ ∀ a ∈ f, a ∈ fp
  | [], _, _, _, _, _, e => by simp at e
  | s :: ss, [], _, _, _, h, _ => h.elim
  | s :: ss, x :: xs, fp, 0, sl, h, e => by
    obtain ⟨f1, f2, ef, h1, h2⟩ := h
    have e' : s = sl := by simpa using e
    subst e'
    exact ⟨x, f1, rfl, h1, fun a ha => by rw [ef]; exact List.mem_append_left _ ha⟩
  | s :: ss, x :: xs, fp, i + 1, sl, h, e => by
    obtain ⟨f1, f2, ef, h1, h2⟩ := h
    obtain ⟨y, f, ey, hy, hf⟩ := SlotsR.at h2 (i := i) (sl := sl) (by simpa using e)
    exact ⟨y, f, by simpa using ey, hy, fun a ha => by rw [ef]; exact List.mem_append_right _ (hf a ha)⟩
theorem Rel.look {K : PySem.W.Frag} {m : List Addr} {M G H : Hp} {s : Sta} {σ : L2.St} {i : Nat} {r : RV} (R : Rel K T m M G H s σ) (e : s.env[i]?.bind Slot.look = some r) : ∃ y, σ[i]? = some (some y) ∧ RR K m M H H y r := by
  obtain ⟨mh, gh, ⟨f1, f2, h1, h2, nd, dj⟩⟩ := R
  cases hs : s.env[i]? with
  | none => rw [hs] at e; cases e
  | some sl =>
    rw [hs] at e
    obtain ⟨y, f, ey, hy, hf⟩ := h1.at hs
    cases sl with
    | un => cases e
    | v d =>
      cases e
      obtain ⟨_, y', rfl, r⟩ := hy
      exact ⟨y', ey, r⟩
    | own d =>
      cases e
      obtain ⟨a, o, _, rfl, h3, h4⟩ := hy
      exact ⟨_, ey, a, o, rfl, h3, h4⟩
theorem ev_var {i : Nat} {x : Str} (h : PE X (.Name x pos) (tVar i)) : PEv X T W (.Name x pos) (pVar i) := by
  refine PE.wk h ?_
  rintro σ H Q ⟨s, m, M, G, R, q⟩
  unfold pVar at q
  cases hl : s.env[i]?.bind Slot.look with
  | none => rw [hl] at q; exact q.elim
  | some r =>
    rw [hl] at q
    obtain ⟨y, ey, rr⟩ := R.look hl
    exact ⟨y, ey, q y H M (Grow.refl R.mh) rr⟩
def pC (d : D) : Sta → PR RV := fun _ => .ok (sh d)
theorem ev_const {v : V} {d : D} (h : PE X e (tC v)) (r : ∀ m M, DR X.K m M v d) : PEv X T W e (pC d) := by
  refine PE.wk h ?_
  rintro σ H Q ⟨s, m, M, G, R, q⟩
  exact q v H M (Grow.refl R.mh) (r m M)
theorem ev_int {i : Int} {j} : PEv X T W (.Constant (.int i) j pos) (pC (.int i)) := ev_const pe_int fun _ _ => .int i
theorem ev_bl {i : Bool} {j} : PEv X T W (.Constant (.bool i) j pos) (pC (.bool i)) := ev_const pe_bl fun _ _ => .bl i
theorem ev_non {j} : PEv X T W (.Constant .none j pos) (pC .none) := ev_const pe_non fun _ _ => .non
theorem ev_str {i : Str} {j} : PEv X T W (.Constant (.str i) j pos) (pC (.str i)) := ev_const pe_str fun _ _ => .str i

/-! ### two values -/
def p2 (g : D → D → Option RV) (fa fb : Sta → PR RV) : Sta → PR RV := fun s => (fa s).bind fun x => (fb s).bind fun y => .of (g x.d y.d)
def p1 (g : D → Option RV) (fa : Sta → PR RV) : Sta → PR RV := fun s => (fa s).bind fun x => .of (g x.d)
/-- a rule on two values keeps what g says -/
def R2Ok (K : PySem.W.Frag) (r : R2) (g : D → D → Option RV) : Prop := ∀ m M H x y d1 d2 res Q, Same M H → Arg K m M H x d1 → Arg K m M H y d2 → g d1 d2 = some res →
  (∀ z H' M', Grow H M H' M' → RR K m M' H H' z res → Q z H') → r x y H Q
def Op2Ok (X : Cx) (f : Value → Value → Sem Value) (g : D → D → Option RV) : Prop := ∃ r, OpR X f r ∧ R2Ok X.K r g
theorem tOp_of {r : R2} {g : D → D → Option RV} (hr : R2Ok X.K r g) {σ : L2.St} {H : Hp} {Q : VK} (h : tP X T W (p2 g fa fb) σ H Q) : tOp r (tP X T W fa) (tP X T W fb) σ H Q := by
  obtain ⟨s, m, M, G, R, q⟩ := h
  refine ⟨s, m, M, G, R, ?_⟩
  revert q
  unfold p2 PR.bind
  cases fa s with
  | ok r1 =>
    intro q y1 H1 M1 g1 rr1
    refine ⟨s, m, M1, G, R.grow g1, ?_⟩
    revert q
    cases fb s with
    | ok r2 =>
      intro q y2 H2 M2 g2 rr2
      cases hg : g r1.d r2.d with
      | none => simp only [hg, PR.of] at q
      | some res =>
        simp only [hg, PR.of] at q
        refine hr m M2 H2 y1 y2 _ _ res Q g2.mh ((rr1.grow g2).arg) rr2.arg hg fun z H' M' g3 rr3 => ?_
        exact q z H' M' (g1.trans (g2.trans g3)) (rr3.since (g1.same.trans g2.same))
    | exc e => intro q cls d H' M' g2 x; exact q cls d H' M' (g1.trans g2) x
    | stuck => intro q; exact q
  | exc e => intro q; exact q
  | stuck => intro q; exact q
theorem ev_bin {op : Operator} {g : D → D → Option RV} (ho : Op2Ok X (binaryOp op) g) (ha : PEv X T W a fa) (hb : PEv X T W b fb) : PEv X T W (.BinOp a op b pos) (p2 g fa fb) := by
  obtain ⟨r, h1, h2⟩ := ho
  exact PE.wk (pe_op h1 ha hb) fun σ H Q h => tOp_of h2 h
theorem ev_cmp {op : CmpOp} {g : D → D → Option RV} (ho : Op2Ok X (compareOp op) g) (ha : PEv X T W a fa) (hb : PEv X T W b fb) (hm : behindInMarks op b = false) : PEv X T W (.Compare a [op] [b] pos) (p2 g fa fb) := by
  obtain ⟨r, h1, h2⟩ := ho
  exact PE.wk (pe_cmpR h1 ha hb hm) fun σ H Q h => tOp_of h2 h
def UnOk (X : Cx) (f : Value → Sem Value) (g : D → Option RV) : Prop := ∃ r, UnR X f r ∧ ∀ m M H x d1 res Q, Same M H → Arg X.K m M H x d1 → g d1 = some res →
  (∀ z H' M', Grow H M H' M' → RR X.K m M' H H' z res → Q z H') → r x H Q
theorem ev_un {op : UnaryOp} {g : D → Option RV} (ho : UnOk X (unaryOp op) g) (ha : PEv X T W a fa) : PEv X T W (.UnaryOp op a pos) (p1 g fa) := by
  obtain ⟨r, h1, h2⟩ := ho
  refine PE.wk (pe_un h1 ha) ?_
  rintro σ H Q ⟨s, m, M, G, R, q⟩
  refine ⟨s, m, M, G, R, ?_⟩
  revert q
  unfold p1 PR.bind
  cases fa s with
  | ok r1 =>
    intro q y1 H1 M1 g1 rr1
    cases hg : g r1.d with
    | none => simp only [hg, PR.of] at q
    | some res =>
      simp only [hg, PR.of] at q
      exact h2 m M1 H1 y1 _ res Q g1.mh rr1.arg hg fun z H' M' g3 rr3 => q z H' M' (g1.trans g3) (rr3.since g1.same)
  | exc e => intro q; exact q
  | stuck => intro q; exact q

/-! ### which operations there are -/
theorem R2Ok.or {K : PySem.W.Frag} {r r' : R2} {g g' : D → D → Option RV} (h : R2Ok K r g) (h' : R2Ok K r' g') : R2Ok K (fun x y H Q => r x y H Q ∨ r' x y H Q) (fun a b => (g a b).or (g' a b)) := by
  intro m M H x y d1 d2 res Q s a1 a2 e k
  dsimp only at e
  cases hg : g d1 d2 with
  | some z =>
    rw [hg] at e
    have e' : z = res := Option.some.inj e
    subst e'
    exact .inl (h m M H x y d1 d2 z Q s a1 a2 hg k)
  | none =>
    rw [hg] at e
    exact .inr (h' m M H x y d1 d2 res Q s a1 a2 e k)
theorem Op2Ok.or {f : Value → Value → Sem Value} {g g' : D → D → Option RV} (h : Op2Ok X f g) (h' : Op2Ok X f g') : Op2Ok X f (fun a b => (g a b).or (g' a b)) := by
  obtain ⟨r, h1, h2⟩ := h
  obtain ⟨r', h1', h2'⟩ := h'
  exact ⟨_, h1.or h1', h2.or h2'⟩
/-- ints to a scalar -/
def gI (C : Int → Int → Bool) (g : Int → Int → D) : D → D → Option RV
  | .int i, .int j => if C i j = true then some (sh (g i j)) else none
  | _, _ => none
theorem ok_I {f : Value → Value → Sem Value} {C : Int → Int → Bool} {P : Int → Int → Prop} {gv : Int → Int → V} {g : Int → Int → D} (ho : OpR X f (rI P gv)) (hC : ∀ i j, C i j = true → P i j) (hg : ∀ i j m M, DR X.K m M (gv i j) (g i j)) : Op2Ok X f (gI C g) := by
  refine ⟨_, ho, fun m M H x y d1 d2 res Q s a1 a2 e k => ?_⟩
  cases d1 <;> try (cases e; done)
  cases d2 <;> try (cases e; done)
  rename_i i j
  dsimp only [gI] at e
  by_cases hc : C i j = true
  · rw [if_pos hc] at e
    cases e
    exact ⟨i, j, a1.int, a2.int, hC _ _ hc, k _ H M (Grow.refl s) (hg i j m M)⟩
  · rw [if_neg hc] at e
    cases e
def gI0 (g : Int → Int → D) : D → D → Option RV
  | .int i, .int j => some (sh (g i j))
  | _, _ => none
theorem ok_I0 {f : Value → Value → Sem Value} {gv : Int → Int → V} {g : Int → Int → D} (ho : OpR X f (rI0 gv)) (hg : ∀ i j m M, DR X.K m M (gv i j) (g i j)) : Op2Ok X f (gI0 g) := by
  refine ⟨_, ho, fun m M H x y d1 d2 res Q s a1 a2 e k => ?_⟩
  cases d1 <;> try (cases e; done)
  cases d2 <;> try (cases e; done)
  rename_i i j
  cases e
  exact ⟨i, j, a1.int, a2.int, k _ H M (Grow.refl s) (hg i j m M)⟩
def gAdd : D → D → Option RV := gI0 fun i j => .int (i + j)
def gSub : D → D → Option RV := gI0 fun i j => .int (i - j)
def small64b (i : Int) : Bool := decide (-(2 ^ 64) < i ∧ i < 2 ^ 64)
def gMul : D → D → Option RV := gI (fun i j => small64b i || small64b j) fun i j => .int (i * j)
def gDiv : D → D → Option RV := gI (fun _ j => decide (0 < j ∧ j < 2 ^ 200)) fun i j => .int (i / j)
def gMod : D → D → Option RV := gI (fun _ j => decide (0 < j)) fun i j => .int (i % j)
def gPow : D → D → Option RV := gI (fun i j => decide (0 ≤ j ∧ j ≤ 1000000 ∧ i.natAbs < 2 ^ 64)) fun i j => .int (i ^ j.toNat)
def gShl : D → D → Option RV := gI (fun i j => decide (0 ≤ j ∧ j ≤ 1000000 ∧ i.natAbs < 2 ^ 64)) fun i j => .int (i * 2 ^ j.toNat)
def gShr : D → D → Option RV := gI (fun _ j => decide (0 ≤ j)) fun i j => .int (i / 2 ^ j.toNat)
def gAnd : D → D → Option RV := gI0 fun i j => .int (Builtin.bitAnd i j)
def gOr : D → D → Option RV := gI0 fun i j => .int (Builtin.bitOr i j)
theorem ok_add : Op2Ok X (binaryOp .Add) gAdd := ok_I0 op_add fun _ _ _ _ => .int _
theorem ok_sub : Op2Ok X (binaryOp .Sub) gSub := ok_I0 op_sub fun _ _ _ _ => .int _
theorem ok_mul : Op2Ok X (binaryOp .Mult) gMul := ok_I op_mul (fun i j h => by
  rcases (Bool.or_eq_true _ _).mp h with h | h
  · exact .inl (of_decide_eq_true h)
  · exact .inr (of_decide_eq_true h)) fun _ _ _ _ => .int _
theorem ok_div : Op2Ok X (binaryOp .FloorDiv) gDiv := ok_I op_fdivW (fun i j h => by
  have h := of_decide_eq_true h
  refine wide_div h.1 (b := 200) ?_ (by decide) (by decide)
  have h1 := h.1
  have h2 := h.2
  have e : ((j.natAbs : Nat) : Int) = j := Int.natAbs_of_nonneg (by omega)
  have : ((j.natAbs : Nat) : Int) < ((2 ^ 200 : Nat) : Int) := by rw [e]; exact_mod_cast h2
  exact Int.ofNat_lt.mp this) fun _ _ _ _ => .int _
theorem ok_mod : Op2Ok X (binaryOp .Mod) gMod := ok_I op_mod (fun i j h => by simpa [CDiv, CPow] using h) fun _ _ _ _ => .int _
theorem ok_pow : Op2Ok X (binaryOp .Pow) gPow := ok_I op_pow (fun i j h => by simpa [CDiv, CPow] using h) fun _ _ _ _ => .int _
theorem ok_shl : Op2Ok X (binaryOp .LShift) gShl := ok_I op_shl (fun i j h => by simpa [CDiv, CPow] using h) fun _ _ _ _ => .int _
theorem ok_shr : Op2Ok X (binaryOp .RShift) gShr := ok_I op_shr (fun i j h => by simpa [CDiv, CPow] using h) fun _ _ _ _ => .int _
theorem ok_and : Op2Ok X (binaryOp .BitAnd) gAnd := ok_I0 op_and fun _ _ _ _ => .int _
theorem ok_or : Op2Ok X (binaryOp .BitOr) gOr := ok_I0 op_or fun _ _ _ _ => .int _
def gNeg : D → Option RV
  | .int i => some (sh (.int (-i)))
  | _ => none
theorem ok_neg : UnOk X (unaryOp .USub) gNeg := by
  refine ⟨_, un_neg, fun m M H x d1 res Q s a1 e k => ?_⟩
  cases d1 <;> try (cases e; done)
  rename_i i
  cases e
  exact ⟨i, a1.int, k _ H M (Grow.refl s) (.int _)⟩
def gLt : D → D → Option RV := gI0 fun i j => .bool (decide (i < j))
def gLe : D → D → Option RV := gI0 fun i j => .bool (decide (i ≤ j))
def gGt : D → D → Option RV := gI0 fun i j => .bool (decide (j < i))
def gGe : D → D → Option RV := gI0 fun i j => .bool (decide (j ≤ i))
theorem ok_lt : Op2Ok X (compareOp .Lt) gLt := ok_I0 op_lt fun _ _ _ _ => .bl _
theorem ok_le : Op2Ok X (compareOp .LtE) gLe := ok_I0 op_le fun _ _ _ _ => .bl _
theorem ok_gt : Op2Ok X (compareOp .Gt) gGt := ok_I0 op_gt fun _ _ _ _ => .bl _
theorem ok_ge : Op2Ok X (compareOp .GtE) gGe := ok_I0 op_ge fun _ _ _ _ => .bl _
/-- list + list -/
def gCatL : D → D → Option RV
  | .list xs, .list ys => if xs.length + ys.length ≤ 16777216 then some (fr (.list (xs ++ ys))) else none
  | _, _ => none
theorem le_line {n : Nat} (h : n ≤ 16777216) : n ≤ sizeLine := by rw [sizeLine_eq]; exact h
theorem ok_catL : Op2Ok X (binaryOp .Add) gCatL := by
  refine ⟨_, op_cat, fun m M H x y d1 d2 res Q s a1 a2 e k => ?_⟩
  cases d1 <;> try (cases e; done)
  cases d2 <;> try (cases e; done)
  rename_i xs ys
  dsimp only [gCatL] at e
  by_cases hl : xs.length + ys.length ≤ 16777216
  · rw [if_pos hl] at e
    cases e
    obtain ⟨a, us, rfl, h1, r1⟩ := a1.list s
    obtain ⟨b, ws, rfl, h2, r2⟩ := a2.list s
    refine ⟨a, b, us, ws, rfl, rfl, h1, h2, by rw [r1.length, r2.length]; exact le_line hl, fun p hp => ?_⟩
    exact k _ _ M (Grow.fresh s hp) ⟨p, _, rfl, upd_same, .lst (r1.append r2), s.free hp, hp⟩
  · rw [if_neg hl] at e
    cases e
/-- tuple + tuple -/
def gCatT : D → D → Option RV
  | .tup xs, .tup ys => if xs.length + ys.length ≤ 16777216 then some (sh (.tup (xs ++ ys))) else none
  | _, _ => none
def gCatS : D → D → Option RV
  | .str xs, .str ys => if xs.length + ys.length ≤ 16777216 then some (sh (.str (xs ++ ys))) else none
  | _, _ => none
theorem ok_catS : Op2Ok X (binaryOp .Add) gCatS := by
  refine ⟨_, op_add_str, fun m M H x y d1 d2 res Q s a1 a2 e k => ?_⟩
  cases d1 <;> try (cases e; done)
  cases d2 <;> try (cases e; done)
  rename_i xs ys
  dsimp only [gCatS] at e
  by_cases hl : xs.length + ys.length ≤ 16777216
  · rw [if_pos hl] at e
    cases e
    exact ⟨xs, ys, a1.str, a2.str, le_line hl, k _ H M (Grow.refl s) (.str _)⟩
  · rw [if_neg hl] at e
    cases e
/-- list * int -/
def gRepL : D → D → Option RV
  | .list xs, .int n => if n < 16777216 ∧ xs.length * n.toNat ≤ 16777216 ∧ -16777216 < n then some (fr (.list (List.replicate n.toNat xs).flatten)) else none
  | _, _ => none
theorem DRs.rep {K : PySem.W.Frag} {m : List Addr} {H : Hp} {xs : List V} {us : List D} (h : DRs K m H xs us) : ∀ k : Nat, DRs K m H (List.replicate k xs).flatten (List.replicate k us).flatten
  | 0 => .nil
  | k + 1 => by
    rw [List.replicate_succ, List.replicate_succ, List.flatten_cons, List.flatten_cons]
    exact h.append (DRs.rep h k)
theorem ok_repL : Op2Ok X (binaryOp .Mult) gRepL := by
  refine ⟨_, op_rep, fun m M H x y d1 d2 res Q s a1 a2 e k => ?_⟩
  cases d1 <;> try (cases e; done)
  cases d2 <;> try (cases e; done)
  rename_i xs n
  dsimp only [gRepL] at e
  by_cases hl : n < 16777216 ∧ xs.length * n.toNat ≤ 16777216 ∧ -16777216 < n
  · rw [if_pos hl] at e
    cases e
    obtain ⟨a, us, rfl, h1, r1⟩ := a1.list s
    refine ⟨a, n, us, rfl, a2.int, h1, by omega, by omega, by rw [r1.length]; exact le_line hl.2.1, fun p hp => ?_⟩
    exact k _ _ M (Grow.fresh s hp) ⟨p, _, rfl, upd_same, .lst (DRs.rep r1 _), s.free hp, hp⟩
  · rw [if_neg hl] at e
    cases e
theorem ok_catT : Op2Ok X (binaryOp .Add) gCatT := by
  refine ⟨_, op_catA, fun m M H x y d1 d2 res Q s a1 a2 e k => ?_⟩
  cases d1 <;> try (cases e; done)
  cases d2 <;> try (cases e; done)
  rename_i xs ys
  dsimp only [gCatT] at e
  by_cases hl : xs.length + ys.length ≤ 16777216
  · rw [if_pos hl] at e
    cases e
    obtain ⟨a, us, rfl, h1, r1, r1'⟩ := a1.tup s
    obtain ⟨b, ws, rfl, h2, r2, r2'⟩ := a2.tup s
    refine ⟨a, b, us, ws, rfl, rfl, h1, h2, by rw [r1.length, r2.length]; exact le_line hl, fun he => ?_, fun _ he => ?_, fun _ _ p hp => ?_⟩
    · subst he
      cases r1
      exact k _ H M (Grow.refl s) r2'
    · subst he
      cases r2
      exact k _ H M (Grow.refl s) (show DR X.K m M (.ref a) (.tup (xs ++ [])) from by rw [List.append_nil]; exact r1')
    · have gs := Grow.share (o := .tup (us ++ ws)) s hp
      exact k _ _ _ gs (.tup (SqT.of upd_same) ((r1.append r2).up gs.mm))
  · rw [if_neg hl] at e
    cases e
def gPlus : D → D → Option RV := fun a b => (gAdd a b).or ((gCatS a b).or ((gCatL a b).or (gCatT a b)))
theorem ok_plus : Op2Ok X (binaryOp .Add) gPlus := ok_add.or (ok_catS.or (ok_catL.or ok_catT))
def gTimes : D → D → Option RV := fun a b => (gMul a b).or (gRepL a b)
theorem ok_times : Op2Ok X (binaryOp .Mult) gTimes := ok_mul.or ok_repL
/-- == and != -/
def eqB (a b : D) : Option Bool := match a, b with
  | .int i, .int j => some (i == j)
  | .str x, .str y => some (x == y)
  | .bool x, .bool y => some (x == y)
  | a, b => if SeqAt.shaped a.py = true ∧ SeqAt.shaped b.py = true then some (PyData.eqv a.py b.py) else none
def gEq (a b : D) : Option RV := (eqB a b).map fun r => sh (.bool r)
def gNe (a b : D) : Option RV := (eqB a b).map fun r => sh (.bool (!r))
theorem eqB_cases {K : PySem.W.Frag} {m : List Addr} {M H : Hp} {x y : V} {d1 d2 : D} {r : Bool} (s : Same M H) (a1 : Arg K m M H x d1) (a2 : Arg K m M H y d2) (e : eqB d1 d2 = some r) :
    (scal x y = true ∧ decide (x = y) = r) ∨ ∃ d e, Dp K H x d ∧ Dp K H y e ∧ SeqAt.shaped d = true ∧ SeqAt.shaped e = true ∧ PyData.eqv d e = r := by
  have gen : (if SeqAt.shaped d1.py = true ∧ SeqAt.shaped d2.py = true then some (PyData.eqv d1.py d2.py) else none) = some r →
      ∃ d e, Dp K H x d ∧ Dp K H y e ∧ SeqAt.shaped d = true ∧ SeqAt.shaped e = true ∧ PyData.eqv d e = r := fun e => by
    by_cases hs : SeqAt.shaped d1.py = true ∧ SeqAt.shaped d2.py = true
    · rw [if_pos hs] at e
      exact ⟨_, _, DR.dp _ _ (a1.dr s) (SeqAt.canLay_of_shaped hs.1), DR.dp _ _ (a2.dr s) (SeqAt.canLay_of_shaped hs.2), hs.1, hs.2, Option.some.inj e⟩
    · rw [if_neg hs] at e
      cases e
  unfold eqB at e
  split at e
  · rw [a1.int, a2.int]
    exact .inl ⟨rfl, by rw [dec_int]; exact Option.some.inj e⟩
  · rw [a1.str, a2.str]
    exact .inl ⟨rfl, by rw [dec_str]; exact Option.some.inj e⟩
  · rw [a1.bl, a2.bl]
    exact .inl ⟨rfl, by rw [dec_bl]; exact Option.some.inj e⟩
  · exact .inr (gen e)
theorem ok_eq (hu : X.A.units + 64 < cLine) : Op2Ok X (compareOp .Eq) gEq := by
  refine ⟨_, op_eq.or (op_eqD hu), fun m M H x y d1 d2 res Q s a1 a2 e k => ?_⟩
  unfold gEq at e
  cases he : eqB d1 d2 with
  | none => rw [he] at e; cases e
  | some r =>
    rw [he] at e
    cases e
    rcases eqB_cases s a1 a2 he with ⟨h1, h2⟩ | ⟨d, e, h1, h2, h3, h4, h5⟩
    · exact .inl ⟨h1, by rw [h2]; exact k _ H M (Grow.refl s) (.bl _)⟩
    · exact .inr ⟨d, e, h1, h2, h3, h4, by rw [h5]; exact k _ H M (Grow.refl s) (.bl _)⟩
theorem ok_ne (hu : X.A.units + 64 < cLine) : Op2Ok X (compareOp .NotEq) gNe := by
  refine ⟨_, op_ne.or (op_neD hu), fun m M H x y d1 d2 res Q s a1 a2 e k => ?_⟩
  unfold gNe at e
  cases he : eqB d1 d2 with
  | none => rw [he] at e; cases e
  | some r =>
    rw [he] at e
    cases e
    rcases eqB_cases s a1 a2 he with ⟨h1, h2⟩ | ⟨d, e, h1, h2, h3, h4, h5⟩
    · exact .inl ⟨h1, by rw [h2]; exact k _ H M (Grow.refl s) (.bl _)⟩
    · exact .inr ⟨d, e, h1, h2, h3, h4, by rw [h5]; exact k _ H M (Grow.refl s) (.bl _)⟩
/-- is None -/
def D.isNone : D → Bool
  | .none => true
  | _ => false
def gIs : D → D → Option RV
  | d, .none => some (sh (.bool d.isNone))
  | _, _ => none
def gIsNot : D → D → Option RV
  | d, .none => some (sh (.bool (!d.isNone)))
  | _, _ => none
theorem Arg.isNon {K : PySem.W.Frag} {m : List Addr} {M H : Hp} {x : V} {d : D} (h : Arg K m M H x d) : decide (x = .non) = d.isNone := by
  rcases h with h | ⟨a, o, rfl, h2, h3⟩
  · cases h <;> rfl
  · cases h3 <;> rfl
theorem ok_is : Op2Ok X (compareOp .Is) gIs := by
  refine ⟨_, op_isN, fun m M H x y d1 d2 res Q s a1 a2 e k => ?_⟩
  cases d2 <;> try (cases e; done)
  cases e
  exact ⟨a2.non, by rw [a1.isNon]; exact k _ H M (Grow.refl s) (.bl _)⟩
theorem ok_isnot : Op2Ok X (compareOp .IsNot) gIsNot := by
  refine ⟨_, op_notN, fun m M H x y d1 d2 res Q s a1 a2 e k => ?_⟩
  cases d2 <;> try (cases e; done)
  cases e
  exact ⟨a2.non, by rw [a1.isNon]; exact k _ H M (Grow.refl s) (.bl _)⟩
end
end MP

/-! MP 3: tests, displays, subscripts, slices, built-in calls, what is walked, comprehensions. -/
namespace MP
open PySem PySem.Spec PyProof.Rows L2

section
variable {X : Cx} {T : Tab} {W : WX} {a b c e : Expr} {es : List Expr} {pos p : Pos} {fa fb fc : Sta → PR RV} {ta tb tc : Sta → PR Bool}

/-! ### tests -/
def RV.bool (r : RV) : PR Bool := match r.d with
  | .bool b => .ok b
  | _ => .stuck
def pB (f : Sta → PR RV) : Sta → PR Bool := fun s => (f s).bind RV.bool
theorem tB_of {σ : L2.St} {H : Hp} {Q : Bool → Hp → Prop} (h : tT X T W (pB fa) σ H Q) : tP X T W fa σ H (fun x H' => ∃ k, x = .bl k ∧ Q k H') := by
  obtain ⟨s, m, M, G, R, q⟩ := h
  refine ⟨s, m, M, G, R, ?_⟩
  revert q
  unfold pB PR.bind
  cases fa s with
  | ok r =>
    intro q y H' M' g rr
    obtain ⟨k, d⟩ := r
    cases d <;> try (exact q.elim)
    rename_i b
    exact ⟨b, rr.arg.bl, q H' M' g⟩
  | exc e => intro q; exact q
  | stuck => intro q; exact q
/-- a comparison as a test -/
theorem et_cmp {op : CmpOp} {g : D → D → Option RV} (ho : Op2Ok X (compareOp op) g) (ha : PEv X T W a fa) (hb : PEv X T W b fb) (hm : behindInMarks op b = false) : PTv X T W (.Compare a [op] [b] pos) (pB (p2 g fa fb)) := by
  obtain ⟨r, h1, h2⟩ := ho
  exact PT.wk (pt_cmpR h1 ha hb hm) fun σ H Q h => tOp_of h2 (tB_of h)
/-- a value that is a bool, as a test -/
theorem et_val (h : PEv X T W e fa) (he : ∀ whole, isTrue e X.env whole = (do let v ← whole; standAt e.pos; holding [v] (truthy v)) := by intro _; rfl) : PTv X T W e (pB fa) :=
  PT.wk (pt_val h he) fun σ H Q h => tB_of h
def pNot (f : Sta → PR Bool) : Sta → PR Bool := fun s => (f s).bind fun b => .ok (!b)
theorem et_not (h : PTv X T W a ta) : PTv X T W (.UnaryOp .Not a pos) (pNot ta) := by
  refine PT.wk (pt_not h) ?_
  rintro σ H Q ⟨s, m, M, G, R, q⟩
  refine ⟨s, m, M, G, R, ?_⟩
  revert q
  unfold pNot PR.bind
  cases ta s with
  | ok r => intro q; exact q
  | exc e => intro q; exact q
  | stuck => intro q; exact q
abbrev PWv (X : Cx) (T : Tab) (W : WX) (e : Expr) (f : Sta → PR Bool) : Prop := PW X e (tT X T W f)
def pAnd (f g : Sta → PR Bool) : Sta → PR Bool := fun s => (f s).bind fun b => if b then g s else .ok false
def pOr (f g : Sta → PR Bool) : Sta → PR Bool := fun s => (f s).bind fun b => if b then .ok true else g s
theorem ew_and1 (h : PTv X T W a ta) : PWv X T W (.BoolOp .And [a] pos) ta := pw_and1 h
theorem ew_or1 (h : PTv X T W a ta) : PWv X T W (.BoolOp .Or [a] pos) ta := pw_or1 h
theorem tT_seq {f g : Sta → PR Bool} {σ : L2.St} {H : Hp} {Q : Bool → Hp → Prop} {k : Sta → Bool → PR Bool} (h : tT X T W (fun s => (f s).bind fun b => k s b) σ H Q) :
    tT X T W f σ H fun b H1 => tT X T W (fun s => k s b) σ H1 Q := by
  obtain ⟨s, m, M, G, R, q⟩ := h
  refine ⟨s, m, M, G, R, ?_⟩
  revert q
  dsimp only
  unfold PR.bind
  cases f s with
  | ok b =>
    intro q H1 M1 g1
    refine ⟨s, m, M1, G, R.grow g1, ?_⟩
    revert q
    dsimp only
    cases k s b with
    | ok c => intro q H2 M2 g2; exact q H2 M2 (g1.trans g2)
    | exc e => intro q cls d H' M' g2 x; exact q cls d H' M' (g1.trans g2) x
    | stuck => intro q; exact q
  | exc e => intro q; exact q
  | stuck => intro q; exact q
theorem tT_ok {b : Bool} {σ : L2.St} {H : Hp} {Q : Bool → Hp → Prop} (h : tT X T W (fun _ => .ok b) σ H Q) : Q b H := by
  obtain ⟨s, m, M, G, R, q⟩ := h
  exact q H M (Grow.refl R.mh)
theorem ew_and {rest : List Expr} (ha : PTv X T W a ta) (hb : PWv X T W (.BoolOp .And (b :: rest) pos) tb) : PWv X T W (.BoolOp .And (a :: b :: rest) pos) (pAnd ta tb) := by
  refine PW.wk (pw_and ha hb) fun σ H Q h => ?_
  have h2 := tT_seq (f := ta) (g := tb) (k := fun s b => if b then tb s else .ok false) h
  obtain ⟨s, m, M, G, R, q⟩ := h2
  refine ⟨s, m, M, G, R, ?_⟩
  revert q
  cases ta s with
  | ok r =>
    intro q H1 M1 g1
    have q := q H1 M1 g1
    cases r with
    | true => exact q
    | false => exact tT_ok q
  | exc e => intro q; exact q
  | stuck => intro q; exact q
theorem ew_or {rest : List Expr} (ha : PTv X T W a ta) (hb : PWv X T W (.BoolOp .Or (b :: rest) pos) tb) : PWv X T W (.BoolOp .Or (a :: b :: rest) pos) (pOr ta tb) := by
  refine PW.wk (pw_or ha hb) fun σ H Q h => ?_
  have h2 := tT_seq (f := ta) (g := tb) (k := fun s b => if b then .ok true else tb s) h
  obtain ⟨s, m, M, G, R, q⟩ := h2
  refine ⟨s, m, M, G, R, ?_⟩
  revert q
  cases ta s with
  | ok r =>
    intro q H1 M1 g1
    have q := q H1 M1 g1
    cases r with
    | true => exact tT_ok q
    | false => exact q
  | exc e => intro q; exact q
  | stuck => intro q; exact q
theorem et_w (h : PWv X T W e ta) : PTv X T W e ta := PW.pt h

/-! ### and, or, not as values -/
def pAndV (f g : Sta → PR RV) : Sta → PR RV := fun s => (pB f s).bind fun b => if b then g s else .ok (sh (.bool false))
def pOrV (f g : Sta → PR RV) : Sta → PR RV := fun s => (pB f s).bind fun b => if b then .ok (sh (.bool true)) else g s
def pNotV (f : Sta → PR RV) : Sta → PR RV := fun s => (pB f s).bind fun b => .ok (sh (.bool (!b)))
theorem tV_seq {f : Sta → PR RV} {σ : L2.St} {H : Hp} {Q : VK} {k : Sta → Bool → PR RV} (h : tP X T W (fun s => (pB f s).bind fun b => k s b) σ H Q) :
    tP X T W f σ H fun x H1 => ∃ c, x = .bl c ∧ tP X T W (fun s => k s c) σ H1 Q := by
  refine tB_of ?_
  obtain ⟨s, m, M, G, R, q⟩ := h
  refine ⟨s, m, M, G, R, ?_⟩
  revert q
  dsimp only
  unfold PR.bind
  cases pB f s with
  | ok b =>
    intro q H1 M1 g1
    refine ⟨s, m, M1, G, R.grow g1, ?_⟩
    revert q
    dsimp only
    cases k s b with
    | ok c => intro q y H2 M2 g2 rr; exact q y H2 M2 (g1.trans g2) (rr.since g1.same)
    | exc e => intro q cls d H' M' g2 x; exact q cls d H' M' (g1.trans g2) x
    | stuck => intro q; exact q
  | exc e => intro q; exact q
  | stuck => intro q; exact q
theorem tP_ok {d : D} {v : V} {σ : L2.St} {H : Hp} {Q : VK} (h : tP X T W (fun _ => .ok (sh d)) σ H Q) (r : ∀ m M, DR X.K m M v d) : Q v H := by
  obtain ⟨s, m, M, G, R, q⟩ := h
  exact q v H M (Grow.refl R.mh) (r m M)
theorem ev_one {op : BoolOp} (h : PEv X T W a fa) : PEv X T W (.BoolOp op [a] pos) fa := pe_one h
theorem ev_and {rest : List Expr} (ha : PEv X T W a fa) (hb : PEv X T W (.BoolOp .And (b :: rest) pos) fb) : PEv X T W (.BoolOp .And (a :: b :: rest) pos) (pAndV fa fb) := by
  refine PE.wk (pe_and ha hb) fun σ H Q h => ?_
  have h2 := tV_seq (f := fa) (k := fun s b => if b then fb s else .ok (sh (.bool false))) h
  obtain ⟨s, m, M, G, R, q⟩ := h2
  refine ⟨s, m, M, G, R, ?_⟩
  revert q
  cases fa s with
  | ok r =>
    intro q y H1 M1 g1 rr
    obtain ⟨c, e1, q⟩ := q y H1 M1 g1 rr
    refine ⟨c, e1, ?_⟩
    cases c with
    | true => exact q
    | false => exact tP_ok q fun _ _ => .bl false
  | exc e => intro q; exact q
  | stuck => intro q; exact q
theorem ev_or {rest : List Expr} (ha : PEv X T W a fa) (hb : PEv X T W (.BoolOp .Or (b :: rest) pos) fb) : PEv X T W (.BoolOp .Or (a :: b :: rest) pos) (pOrV fa fb) := by
  refine PE.wk (pe_or ha hb) fun σ H Q h => ?_
  have h2 := tV_seq (f := fa) (k := fun s b => if b then .ok (sh (.bool true)) else fb s) h
  obtain ⟨s, m, M, G, R, q⟩ := h2
  refine ⟨s, m, M, G, R, ?_⟩
  revert q
  cases fa s with
  | ok r =>
    intro q y H1 M1 g1 rr
    obtain ⟨c, e1, q⟩ := q y H1 M1 g1 rr
    refine ⟨c, e1, ?_⟩
    cases c with
    | true => exact tP_ok q fun _ _ => .bl true
    | false => exact q
  | exc e => intro q; exact q
  | stuck => intro q; exact q
theorem ev_not (ha : PEv X T W a fa) : PEv X T W (.UnaryOp .Not a pos) (pNotV fa) := by
  refine PE.wk (pe_not ha) fun σ H Q h => ?_
  have h2 := tV_seq (f := fa) (k := fun s b => .ok (sh (.bool (!b)))) h
  obtain ⟨s, m, M, G, R, q⟩ := h2
  refine ⟨s, m, M, G, R, ?_⟩
  revert q
  cases fa s with
  | ok r =>
    intro q y H1 M1 g1 rr
    obtain ⟨c, e1, q⟩ := q y H1 M1 g1 rr
    exact ⟨c, e1, tP_ok q fun _ _ => .bl _⟩
  | exc e => intro q; exact q
  | stuck => intro q; exact q
/-- a if t else b -/
def pIf (t : Sta → PR Bool) (f g : Sta → PR RV) : Sta → PR RV := fun s => (t s).bind fun b => if b then f s else g s
theorem ev_if {t : Expr} (ht : PTv X T W t ta) (ha : PEv X T W a fa) (hb : PEv X T W b fb) : PEv X T W (.IfExp t a b pos) (pIf ta fa fb) := by
  refine PE.wk (pe_ifExp ht ha hb) ?_
  rintro σ H Q ⟨s, m, M, G, R, q⟩
  refine ⟨s, m, M, G, R, ?_⟩
  revert q
  unfold pIf PR.bind
  cases ta s with
  | ok r =>
    intro q H1 M1 g1
    have go : ∀ f : Sta → PR RV, (match f s with
        | .ok r => ∀ y H' M', Grow H M H' M' → RR X.K m M' H H' y r → Q y H'
        | .exc e => ∀ cls d H' M', Grow H M H' M' → ExR X.K T m M' H' e cls d → W cls d σ H'
        | .stuck => False) → tP X T W f σ H1 Q := fun f q => by
      refine ⟨s, m, M1, G, R.grow g1, ?_⟩
      revert q
      cases f s with
      | ok c => intro q y H2 M2 g2 rr; exact q y H2 M2 (g1.trans g2) (rr.since g1.same)
      | exc e => intro q cls d H' M' g2 x; exact q cls d H' M' (g1.trans g2) x
      | stuck => intro q; exact q
    cases r with
    | true => exact go fa q
    | false => exact go fb q
  | exc e => intro q; exact q
  | stuck => intro q; exact q
/-- a < b < c -/
def p3 (g g' : D → D → Option RV) (fa fb fc : Sta → PR RV) : Sta → PR RV := fun s => (fa s).bind fun x => (fb s).bind fun y => (PR.of (g x.d y.d)).bind fun r => (RV.bool r).bind fun k =>
  if k then (fc s).bind fun z => .of (g' y.d z.d) else .ok (sh (.bool false))
theorem ev_chain_r {r r' : R2} {g g' : D → D → Option RV} (h2 : R2Ok X.K r g) (h2' : R2Ok X.K r' g') {σ : L2.St} {H : Hp} {Q : VK} (h : tP X T W (p3 g g' fa fb fc) σ H Q) : tChain r r' (tP X T W fa) (tP X T W fb) (tP X T W fc) σ H Q := by
  obtain ⟨s, m, M, G, R, q⟩ := h
  refine ⟨s, m, M, G, R, ?_⟩
  revert q
  unfold p3 PR.bind
  cases fa s with
  | ok r1 =>
    intro q y1 H1 M1 g1 rr1
    refine ⟨s, m, M1, G, R.grow g1, ?_⟩
    revert q
    cases fb s with
    | ok r2 =>
      intro q y2 H2 M2 g2 rr2
      dsimp only at q
      cases hg : g r1.d r2.d with
      | none => simp only [hg, PR.of] at q
      | some res =>
        simp only [hg, PR.of] at q
        refine h2 m M2 H2 y1 y2 _ _ res _ g2.mh ((rr1.grow g2).arg) rr2.arg hg fun z H3 M3 g3 rr3 => ?_
        obtain ⟨k, d⟩ := res
        cases d <;> try (exact q.elim)
        rename_i kb
        refine ⟨kb, rr3.arg.bl, ?_⟩
        cases kb with
        | false =>
          rw [if_neg Bool.false_ne_true]
          exact q (.bl false) H3 M3 (g1.trans (g2.trans g3)) (.bl false)
        | true =>
          rw [if_pos rfl]
          refine ⟨s, m, M3, G, ((R.grow g1).grow g2).grow g3, ?_⟩
          simp only [RV.bool, if_true] at q
          revert q
          cases fc s with
          | ok r3 =>
            intro q y3 H4 M4 g4 rr4
            dsimp only at q
            cases hg' : g' r2.d r3.d with
            | none => simp only [hg', PR.of] at q
            | some res' =>
              simp only [hg', PR.of] at q
              refine h2' m M4 H4 y2 y3 _ _ res' Q g4.mh (((rr2.grow g3).grow g4).arg) rr4.arg hg' fun z H' M' g5 rr5 => ?_
              have gs := g1.trans (g2.trans (g3.trans g4))
              exact q z H' M' (gs.trans g5) (rr5.since gs.same)
          | exc e => intro q cls d H' M' g4 x; exact q cls d H' M' (g1.trans (g2.trans (g3.trans g4))) x
          | stuck => intro q; exact q
    | exc e => intro q cls d H' M' g2 x; exact q cls d H' M' (g1.trans g2) x
    | stuck => intro q; exact q
  | exc e => intro q; exact q
  | stuck => intro q; exact q
end

/-! ### argument lists -/
section
variable {X : Cx} {T : Tab} {W : WX} {a b c e : Expr} {es : List Expr} {pos p : Pos} {fa fb fc : Sta → PR RV}
def pNil {α : Type} : Sta → PR (List α) := fun _ => .ok []
def pCons {α : Type} (f : Sta → PR α) (fs : Sta → PR (List α)) : Sta → PR (List α) := fun s => (f s).bind fun x => (fs s).bind fun xs => .ok (x :: xs)
theorem as_nil : PAs X T W [] pNil := PA.wk pa_nil fun σ H Q ⟨s, m, M, G, R, q⟩ => q [] H M (Grow.refl R.mh) .nil
theorem ar_nil : PAr X T W [] pNil := PA.wk pa_nil fun σ H Q ⟨s, m, M, G, R, q⟩ => q [] H M (Grow.refl R.mh) .nil
theorem as_cons {f : Sta → PR D} {fs : Sta → PR (List D)} (ha : PDv X T W e f) (hr : PAs X T W es fs) (hs : starEach (e :: es) X.env = (false, eval e X.env) :: starEach es X.env := by rfl) : PAs X T W (e :: es) (pCons f fs) := by
  refine PA.wk (pa_cons ha hr hs) ?_
  rintro σ H Q ⟨s, m, M, G, R, q⟩
  refine ⟨s, m, M, G, R, ?_⟩
  revert q
  unfold pCons PR.bind
  cases f s with
  | ok x =>
    intro q y H1 M1 g1 r1
    refine ⟨s, m, M1, G, R.grow g1, ?_⟩
    revert q
    cases fs s with
    | ok xs => intro q ys H2 M2 g2 r2; exact q (y :: ys) H2 M2 (g1.trans g2) (.cons (r1.up g2.mm) r2)
    | exc e => intro q cls d H' M' g2 x; exact q cls d H' M' (g1.trans g2) x
    | stuck => intro q; exact q
  | exc e => intro q; exact q
  | stuck => intro q; exact q
theorem ar_cons {f : Sta → PR RV} {fs : Sta → PR (List RV)} (ha : PEv X T W e f) (hr : PAr X T W es fs) (hs : starEach (e :: es) X.env = (false, eval e X.env) :: starEach es X.env := by rfl) : PAr X T W (e :: es) (pCons f fs) := by
  refine PA.wk (pa_cons ha hr hs) ?_
  rintro σ H Q ⟨s, m, M, G, R, q⟩
  refine ⟨s, m, M, G, R, ?_⟩
  revert q
  unfold pCons PR.bind
  cases f s with
  | ok x =>
    intro q y H1 M1 g1 r1
    refine ⟨s, m, M1, G, R.grow g1, ?_⟩
    revert q
    cases fs s with
    | ok xs => intro q ys H2 M2 g2 r2; exact q (y :: ys) H2 M2 (g1.trans g2) (.cons (r1.grow g2) (Paired.mapP r2 fun _ _ z => z.since g1.same))
    | exc e => intro q cls d H' M' g2 x; exact q cls d H' M' (g1.trans g2) x
    | stuck => intro q; exact q
  | exc e => intro q; exact q
  | stuck => intro q; exact q

/-! ### displays -/
def pTup (fs : Sta → PR (List D)) : Sta → PR RV := fun s => (fs s).bind fun ds => if ds.length ≤ 1000 then .ok (sh (.tup ds)) else .stuck
def pLst (fs : Sta → PR (List D)) : Sta → PR RV := fun s => (fs s).bind fun ds => if ds.length ≤ 1000 then .ok (fr (.list ds)) else .stuck
theorem ev_tup {fs : Sta → PR (List D)} {x1} (h : PAs X T W es fs) : PEv X T W (.Tuple es x1 pos) (pTup fs) := by
  refine PE.wk (pe_tup h) ?_
  rintro σ H Q ⟨s, m, M, G, R, q⟩
  refine ⟨s, m, M, G, R, ?_⟩
  revert q
  unfold pTup PR.bind
  cases fs s with
  | ok ds =>
    intro q ys H1 M1 g1 r1
    dsimp only at q
    by_cases hl : ds.length ≤ 1000
    · rw [if_pos hl] at q
      refine ⟨by rw [r1.length]; exact le_line (by omega), fun p hp => ?_⟩
      have gs := Grow.share (o := .tup ys) g1.mh hp
      exact q _ _ _ (g1.trans gs) (.tup (SqT.of upd_same) (r1.up gs.mm))
    · rw [if_neg hl] at q
      exact q.elim
  | exc e => intro q; exact q
  | stuck => intro q; exact q
theorem ev_lst {fs : Sta → PR (List D)} (h : PAs X T W es fs) : PEv X T W (.List es pos) (pLst fs) := by
  refine PE.wk (pe_lst h) ?_
  rintro σ H Q ⟨s, m, M, G, R, q⟩
  refine ⟨s, m, M, G, R, ?_⟩
  revert q
  unfold pLst PR.bind
  cases fs s with
  | ok ds =>
    intro q ys H1 M1 g1 r1
    dsimp only at q
    by_cases hl : ds.length ≤ 1000
    · rw [if_pos hl] at q
      refine ⟨by rw [r1.length]; exact le_line (by omega), fun p hp => ?_⟩
      have gs := Grow.fresh (o := .lst ys) g1.mh hp
      exact q _ _ _ (g1.trans gs) ⟨p, _, rfl, upd_same, .lst r1, g1.mh.free hp, g1.same.free hp⟩
    · rw [if_neg hl] at q
      exact q.elim
  | exc e => intro q; exact q
  | stuck => intro q; exact q

/-! ### subscripts -/
def gIx : D → D → Option RV
  | .str z, .int i => if z.length ≤ 16777216 then (atI z.cps.toList i).map fun c => sh (.str ⟨#[c]⟩) else none
  | d, .int i => (seqOf d).bind fun ds => (atI ds i).map sh
  | _, _ => none
theorem DRs.atI {K : PySem.W.Frag} {m : List Addr} {H : Hp} {vs : List V} {ds : List D} {i : Int} {d : D} (h : DRs K m H vs ds) (e : L2.atI ds i = some d) : ∃ v, L2.atI vs i = some v ∧ DR K m H v d := by
  unfold L2.atI at e ⊢
  rw [h.length]
  cases hj : ixN ds.length i with
  | none => rw [hj] at e; cases e
  | some j =>
    rw [hj] at e
    exact h.get e
theorem ok_ix : R2Ok X.K (rIx X.K) gIx := by
  intro m M H x y d1 d2 res Q s a1 a2 e k
  have gen : ∀ (i : Int), d2 = .int i → ((seqOf d1).bind fun ds => (L2.atI ds i).map sh) = some res → rIx X.K x y H Q := fun i e2 e3 => by
    subst e2
    cases hs : seqOf d1 with
    | none => rw [hs] at e3; cases e3
    | some ds =>
      rw [hs] at e3
      cases ha : L2.atI ds i with
      | none => simp [ha] at e3
      | some d =>
        simp only [Option.bind_some, ha, Option.map_some, Option.some.injEq] at e3
        subst e3
        obtain ⟨a, xs, rfl, h1, r1⟩ := a1.seq hs s
        obtain ⟨v, hv, rv⟩ := r1.atI ha
        have q := k v H M (Grow.refl s) rv
        rcases h1 with h1 | h1
        · exact .inl ⟨a, xs, i, v, rfl, a2.int, h1, hv, q⟩
        · exact .inr (.inl ⟨a, xs, i, v, rfl, a2.int, h1, hv, q⟩)
  unfold gIx at e
  split at e
  · rename_i z i
    by_cases hl : z.length ≤ 16777216
    · rw [if_pos hl] at e
      cases hc : L2.atI z.cps.toList i with
      | none => rw [hc] at e; cases e
      | some c =>
        rw [hc] at e
        cases e
        exact .inr (.inr ⟨z, i, c, a1.str, a2.int, le_line hl, hc, k _ H M (Grow.refl s) (.str _)⟩)
    · rw [if_neg hl] at e
      cases e
  · exact gen _ rfl e
  · cases e
theorem ev_ix (ha : PEv X T W a fa) (hb : PEv X T W b fb) (hs : PlainIx b) : PEv X T W (.Subscript a b pos) (p2 gIx fa fb) :=
  PE.wk (pe_ix ix_seq ha hb hs) fun σ H Q h => tOp_of ok_ix h

/-! ### slices -/
def tO (X : Cx) (T : Tab) (W : WX) (f : Sta → PR (Option Int)) : TO := fun σ H Q => ∃ s m M G, Rel X.K T m M G H s σ ∧ match f s with
  | .ok o => ∀ H' M', Grow H M H' M' → Q o H'
  | .exc e => ∀ cls d H' M', Grow H M H' M' → ExR X.K T m M' H' e cls d → W cls d σ H'
  | .stuck => False
abbrev POv (X : Cx) (T : Tab) (W : WX) (e : Option Expr) (f : Sta → PR (Option Int)) : Prop := PO X e (tO X T W f)
theorem PO.wk {X : Cx} {e : Option Expr} {t t' : TO} (h : PO X e t) (w : ∀ σ H Q, t' σ H Q → t σ H Q) : PO X e t' := ⟨fun pins s σ H Q I q => h.run pins s σ H Q I (w _ _ _ q)⟩
def pNo : Sta → PR (Option Int) := fun _ => .ok none
def RV.int (r : RV) : PR Int := match r.d with
  | .int i => .ok i
  | _ => .stuck
def pSome (f : Sta → PR RV) : Sta → PR (Option Int) := fun s => (f s).bind fun r => (RV.int r).bind fun i => .ok (some i)
theorem eo_none : POv X T W none pNo := PO.wk po_none fun σ H Q ⟨s, m, M, G, R, q⟩ => q H M (Grow.refl R.mh)
theorem eo_some (h : PEv X T W e fa) : POv X T W (some e) (pSome fa) := by
  refine PO.wk (po_some h) ?_
  rintro σ H Q ⟨s, m, M, G, R, q⟩
  refine ⟨s, m, M, G, R, ?_⟩
  revert q
  unfold pSome PR.bind
  cases fa s with
  | ok r =>
    intro q y H1 M1 g1 rr
    obtain ⟨k, d⟩ := r
    cases d <;> try (exact q.elim)
    rename_i i
    exact ⟨i, rr.arg.int, q H1 M1 g1⟩
  | exc e => intro q; exact q
  | stuck => intro q; exact q
def cutD {α : Type} (xs : List α) (lo hi : Option Int) : List α := (xs.drop (HT.sIx xs.length 0 lo)).take (HT.sIx xs.length xs.length hi - HT.sIx xs.length 0 lo)
theorem cutV_eq (xs : List V) (lo hi : Option Int) : cutV xs lo hi = cutD xs lo hi := rfl
theorem DRs.cut {K : PySem.W.Frag} {m : List Addr} {H : Hp} {vs : List V} {ds : List D} (h : DRs K m H vs ds) (lo hi : Option Int) : DRs K m H (cutV vs lo hi) (cutD ds lo hi) := by
  unfold cutV cutD
  rw [h.length]
  exact (h.drop _).take _
theorem cutD_whole {α : Type} (xs : List α) (lo hi : Option Int) (h : HT.sIx xs.length 0 lo = 0 ∧ HT.sIx xs.length xs.length hi = xs.length) : cutD xs lo hi = xs := by
  unfold cutD
  rw [h.1, h.2]
  simp
def gSl : D → Option Int → Option Int → Option RV
  | .list ds, lo, hi => some (fr (.list (cutD ds lo hi)))
  | .lk ds, lo, hi => some (fr (.list (cutD ds lo hi)))
  | .tup ds, lo, hi => some (sh (.tup (cutD ds lo hi)))
  | .str z, lo, hi => if z.length ≤ 16777216 then some (sh (.str (cutS z lo hi))) else none
  | _, _, _ => none
def rSlice (K : PySem.W.Frag) : V → Option Int → Option Int → Hp → VK → Prop := fun x lo hi H Q => rSlL K x lo hi H Q ∨ (rSlA K x lo hi H Q ∨ rSlS x lo hi H Q)
theorem ok_sl {m : List Addr} {M H : Hp} {x : V} {d : D} {lo hi : Option Int} {res : RV} {Q : VK} (s : Same M H) (a1 : Arg X.K m M H x d) (e : gSl d lo hi = some res)
    (k : ∀ z H' M', Grow H M H' M' → RR X.K m M' H H' z res → Q z H') : rSlice X.K x lo hi H Q := by
  have lst : ∀ (a : Addr) (xs : List V) (ds : List D), x = .ref a → SqL X.K H a xs → DRs X.K m M xs ds → res = fr (.list (cutD ds lo hi)) → rSlice X.K x lo hi H Q := fun a xs ds e1 h1 r1 e2 => by
    subst e1 e2
    refine .inl ⟨a, xs, rfl, h1, fun p hp => ?_⟩
    exact k _ _ M (Grow.fresh s hp) ⟨p, _, rfl, upd_same, .lst (r1.cut lo hi), s.free hp, hp⟩
  cases d <;> try (cases e; done)
  · rename_i z
    dsimp only [gSl] at e
    by_cases hl : z.length ≤ 16777216
    · rw [if_pos hl] at e
      cases e
      exact .inr (.inr ⟨z, a1.str, le_line hl, k _ H M (Grow.refl s) (.str _)⟩)
    · rw [if_neg hl] at e
      cases e
  · rename_i ds
    cases e
    obtain ⟨a, xs, h0, h1, r1⟩ := a1.list s
    exact lst a xs ds h0 (SqL.of h1) r1 rfl
  · rename_i ds
    cases e
    obtain ⟨a, xs, h0, h1, r1⟩ := a1.lk s
    exact lst a xs ds h0 h1 r1 rfl
  · rename_i ds
    cases e
    obtain ⟨a, xs, rfl, h1, r1, r0⟩ := a1.tup s
    refine .inr (.inl ⟨a, xs, rfl, h1, fun hw => ?_, fun _ p hp => ?_⟩)
    · rw [r1.length] at hw
      exact k _ H M (Grow.refl s) (show DR X.K m M (.ref a) (.tup (cutD ds lo hi)) from by rw [cutD_whole ds lo hi hw]; exact r0)
    · have gs := Grow.share (o := .tup (cutV xs lo hi)) s hp
      exact k _ _ _ gs (.tup (SqT.of upd_same) ((r1.cut lo hi).up gs.mm))
def pSl (fa : Sta → PR RV) (lo hi : Sta → PR (Option Int)) : Sta → PR RV := fun s => (fa s).bind fun x => (lo s).bind fun l => (hi s).bind fun u => .of (gSl x.d l u)
theorem ev_sl {lo hi : Option Expr} {fl fh : Sta → PR (Option Int)} {p2 : Pos} (ha : PEv X T W e fa) (hl : POv X T W lo fl) (hh : POv X T W hi fh) : PEv X T W (.Subscript e (.Slice lo hi none p2) pos) (pSl fa fl fh) := by
  refine PE.wk (pe_slice (sl_list.or (sl_tupA.or sl_str)) ha hl hh) ?_
  rintro σ H Q ⟨s, m, M, G, R, q⟩
  refine ⟨s, m, M, G, R, ?_⟩
  revert q
  unfold pSl PR.bind
  cases fa s with
  | ok r1 =>
    intro q y1 H1 M1 g1 rr1
    refine ⟨s, m, M1, G, R.grow g1, ?_⟩
    revert q
    cases fl s with
    | ok l =>
      intro q H2 M2 g2
      refine ⟨s, m, M2, G, (R.grow g1).grow g2, ?_⟩
      revert q
      cases fh s with
      | ok u =>
        intro q H3 M3 g3
        dsimp only at q
        cases hg : gSl r1.d l u with
        | none => simp only [hg, PR.of] at q
        | some res =>
          simp only [hg, PR.of] at q
          have gs := g1.trans (g2.trans g3)
          exact ok_sl g3.mh ((rr1.grow g2).grow g3).arg hg fun z H' M' g4 rr4 => q z H' M' (gs.trans g4) (rr4.since gs.same)
      | exc e => intro q cls d H' M' g3 x; exact q cls d H' M' (g1.trans (g2.trans g3)) x
      | stuck => intro q; exact q
    | exc e => intro q cls d H' M' g2 x; exact q cls d H' M' (g1.trans g2) x
    | stuck => intro q; exact q
  | exc e => intro q; exact q
  | stuck => intro q; exact q

/-! ### built-in calls -/
def CallOk (X : Cx) (v : Value) (g : List D → Option RV) : Prop := ∃ r, CallR X v r ∧ ∀ m M H ys ds res Q, Same M H → Paired (Arg X.K m M H) ys ds → g ds = some res →
  (∀ z H' M', Grow H M H' M' → RR X.K m M' H H' z res → Q z H') → r ys H Q
theorem CallOk.or {v : Value} {g g' : List D → Option RV} (h : CallOk X v g) (h' : CallOk X v g') : CallOk X v (fun a => (g a).or (g' a)) := by
  obtain ⟨r, h1, h2⟩ := h
  obtain ⟨r', h1', h2'⟩ := h'
  refine ⟨_, h1.or h1', fun m M H ys ds res Q s a e k => ?_⟩
  dsimp only at e
  cases hg : g ds with
  | some z =>
    rw [hg] at e
    have e' : z = res := Option.some.inj e
    subst e'
    exact .inl (h2 m M H ys ds z Q s a hg k)
  | none =>
    rw [hg] at e
    exact .inr (h2' m M H ys ds res Q s a e k)
def pCall (g : List D → Option RV) (fs : Sta → PR (List RV)) : Sta → PR RV := fun s => (fs s).bind fun rs => .of (g (rs.map RV.d))
theorem args_of {K : PySem.W.Frag} {m : List Addr} {M H0 H : Hp} : ∀ {ys : List V} {rs : List RV}, Paired (RR K m M H0 H) ys rs → Paired (Arg K m M H) ys (rs.map RV.d)
  | _, _, .nil => .nil
  | _, _, .cons r t => .cons r.arg (args_of t)
theorem tCB_of {v : Value} {g : List D → Option RV} {fs : Sta → PR (List RV)} {r : List V → Hp → VK → Prop} (h2 : ∀ m M H ys ds res Q, Same M H → Paired (Arg X.K m M H) ys ds → g ds = some res →
    (∀ z H' M', Grow H M H' M' → RR X.K m M' H H' z res → Q z H') → r ys H Q) {σ : L2.St} {H : Hp} {Q : VK} (h : tP X T W (pCall g fs) σ H Q) : tCB r (tAr X T W fs) σ H Q := by
  obtain ⟨s, m, M, G, R, q⟩ := h
  refine ⟨s, m, M, G, R, ?_⟩
  revert q
  unfold pCall PR.bind
  cases fs s with
  | ok rs =>
    intro q ys H1 M1 g1 rr
    dsimp only at q
    cases hg : g (rs.map RV.d) with
    | none => simp only [hg, PR.of] at q
    | some res =>
      simp only [hg, PR.of] at q
      exact h2 m M1 H1 ys _ res Q g1.mh (args_of rr) hg fun z H' M' g2 rr2 => q z H' M' (g1.trans g2) (rr2.since g1.same)
  | exc e => intro q; exact q
  | stuck => intro q; exact q
theorem ev_callB {x : Str} {id : String} {g : List D → Option RV} {fs : Sta → PR (List RV)} (hc : CallOk X (.builtin id) g) (hg : Gl X x) (hm : X.mg x = none) (hv : bootBuiltins x = some (.builtin id)) (ha : PAr X T W (e :: es) fs)
    (hn : x ≠ "__name__" := by decide) (hdb : (x == ("__debug__" : Str)) = false := by decide)
    (he : starEach (e :: es) X.env = (false, eval e X.env) :: starEach es X.env := by rfl) (hpl : (backTo pos (starEach es X.env)).any (·.1) = false := by rfl) :
    PEv X T W (.Call (.Name x p) (e :: es) [] pos) (pCall g fs) := by
  obtain ⟨r, h1, h2⟩ := hc
  exact PE.wk (pe_callB h1 hg hm hv ha hn hdb he hpl) fun σ H Q h => tCB_of (v := .builtin id) h2 h
theorem ev_callTy {x : Str} {id : String} {g : List D → Option RV} {fs : Sta → PR (List RV)} (hc : CallOk X (.type id) g) (hg : Gl X x) (hm : X.mg x = none) (hv : bootBuiltins x = some (.type id)) (ha : PAr X T W (e :: es) fs)
    (hn : x ≠ "__name__" := by decide) (hdb : (x == ("__debug__" : Str)) = false := by decide)
    (he : starEach (e :: es) X.env = (false, eval e X.env) :: starEach es X.env := by rfl) (hpl : (backTo pos (starEach es X.env)).any (·.1) = false := by rfl) :
    PEv X T W (.Call (.Name x p) (e :: es) [] pos) (pCall g fs) := by
  obtain ⟨r, h1, h2⟩ := hc
  exact PE.wk (pe_callTy h1 hg hm hv ha hn hdb he hpl) fun σ H Q h => tCB_of (v := .type id) h2 h
def gLen : List D → Option RV
  | [.str z] => if z.length ≤ 16777216 then some (sh (.int z.length)) else none
  | [d] => (seqOf d).map fun ds => sh (.int ds.length)
  | _ => none
theorem ok_len : CallOk X (.builtin "len") gLen := by
  refine ⟨_, call_len_str.or call_len_seq, fun m M H ys ds res Q s a e k => ?_⟩
  unfold gLen at e
  split at e
  · rename_i z
    cases a with
    | cons a1 an =>
      cases an
      by_cases hl : z.length ≤ 16777216
      · rw [if_pos hl] at e
        cases e
        exact .inl ⟨z, by rw [a1.str], le_line hl, k _ H M (Grow.refl s) (.int _)⟩
      · rw [if_neg hl] at e
        cases e
  · rename_i d _
    cases a with
    | cons a1 an =>
      cases an
      cases hs : seqOf d with
      | none => rw [hs] at e; cases e
      | some ds =>
        rw [hs] at e
        cases e
        obtain ⟨p, xs, rfl, h1, r1⟩ := a1.seq hs s
        refine .inr ⟨p, xs, rfl, h1, ?_⟩
        rw [r1.length]
        exact k _ H M (Grow.refl s) (.int _)
  · cases e
def gMax : List D → Option RV
  | [.int i, .int j] => some (sh (.int (if j > i then j else i)))
  | _ => none
def gMin : List D → Option RV
  | [.int i, .int j] => some (sh (.int (if j < i then j else i)))
  | _ => none
theorem ok_max (hc : X.calm = true) : CallOk X (.builtin "max") gMax := by
  refine ⟨_, call_max2 hc, fun m M H ys ds res Q s a e k => ?_⟩
  unfold gMax at e
  split at e
  · cases e
    cases a with
    | cons a1 an => cases an with
      | cons a2 an =>
        cases an
        exact ⟨_, _, by rw [a1.int, a2.int], k _ H M (Grow.refl s) (.int _)⟩
  · cases e
theorem ok_min (hc : X.calm = true) : CallOk X (.builtin "min") gMin := by
  refine ⟨_, call_min2 hc, fun m M H ys ds res Q s a e k => ?_⟩
  unfold gMin at e
  split at e
  · cases e
    cases a with
    | cons a1 an => cases an with
      | cons a2 an =>
        cases an
        exact ⟨_, _, by rw [a1.int, a2.int], k _ H M (Grow.refl s) (.int _)⟩
  · cases e
def gList : List D → Option RV
  | [d] => (seqOf d).map fun ds => fr (.list ds)
  | _ => none
theorem ok_list : CallOk X (.type "list") gList := by
  refine ⟨_, call_list_of, fun m M H ys ds res Q s a e k => ?_⟩
  unfold gList at e
  split at e
  · rename_i d
    cases a with
    | cons a1 an =>
      cases an
      cases hs : seqOf d with
      | none => rw [hs] at e; cases e
      | some ds =>
        rw [hs] at e
        cases e
        obtain ⟨p, xs, rfl, h1, r1⟩ := a1.seq hs s
        refine ⟨p, xs, rfl, h1, fun l hl => ?_⟩
        exact k _ _ M (Grow.fresh s hl) ⟨l, _, rfl, upd_same, .lst r1, s.free hl, hl⟩
  · cases e
def gTuple : List D → Option RV
  | [d] => (seqOf d).map fun ds => sh (.tup ds)
  | _ => none
theorem ok_tuple : CallOk X (.type "tuple") gTuple := by
  refine ⟨_, call_tuple_of, fun m M H ys ds res Q s a e k => ?_⟩
  unfold gTuple at e
  split at e
  · rename_i d
    cases a with
    | cons a1 an =>
      cases an
      have lst : ∀ (p : Addr) (xs : List V) (ds : List D), SqL X.K H p xs → DRs X.K m M xs ds → res = sh (.tup ds) → ∀ l, H l = Option.none → Q (.ref l) (upd H l (.tup xs)) := fun p xs ds h1 r1 e2 l hl => by
        subst e2
        have gs := Grow.share (o := .tup xs) s hl
        exact k _ _ _ gs (.tup (SqT.of upd_same) (r1.up gs.mm))
      cases d <;> try (cases e; done)
      · rename_i ds
        cases e
        obtain ⟨p, xs, rfl, h1, r1⟩ := a1.list s
        exact ⟨p, xs, rfl, .inl ⟨SqL.of h1, lst p xs ds (SqL.of h1) r1 rfl⟩⟩
      · rename_i ds
        cases e
        obtain ⟨p, xs, rfl, h1, r1⟩ := a1.lk s
        exact ⟨p, xs, rfl, .inl ⟨h1, lst p xs ds h1 r1 rfl⟩⟩
      · rename_i ds
        cases e
        obtain ⟨p, xs, rfl, h1, r1, r0⟩ := a1.tup s
        exact ⟨p, xs, rfl, .inr ⟨h1, k _ H M (Grow.refl s) r0⟩⟩
  · cases e
end

/-! ### what is walked -/
/-- an iterator that yields what ds are, where M0 stands (and B, for a comprehension) -/
def ItOk (K : PySem.W.Frag) (m : List Addr) (J : It) (ds : List D) (M0 B : Hp) : Prop := ∀ (i : Nat) (M H : Hp), Same M0 M → Same M H → Same B H →
  (∀ d, ds[i]? = some d → J.go i H ∧ ∀ x H', J.yld i H x H' → ∃ M', Grow H M H' M' ∧ DR K m M' x d) ∧ (ds.length ≤ i → J.stop i H)
section
variable (X : Cx) (T : Tab) (W : WX)
def tI (f : Sta → PR (List D)) : TI := fun σ H R => ∃ s m M G, Rel X.K T m M G H s σ ∧ match f s with
  | .ok ds => ∀ J H' M', Grow H M H' M' → ItOk X.K m J ds M' (fun _ => Option.none) → R J H'
  | .exc e => ∀ cls d H' M', Grow H M H' M' → ExR X.K T m M' H' e cls d → W cls d σ H'
  | .stuck => False
def tIc (f : Sta → PR (List D)) : TI := fun σ H R => ∃ s m M G, Rel X.K T m M G H s σ ∧ match f s with
  | .ok ds => ∀ J H' M', Grow H M H' M' → ItOk X.K m J ds M' H' → R J H'
  | .exc e => ∀ cls d H' M', Grow H M H' M' → ExR X.K T m M' H' e cls d → W cls d σ H'
  | .stuck => False
abbrev PIv (tg iter : Expr) (f : Sta → PR (List D)) : Prop := PI X tg iter (tI X T W f)
abbrev PIc (tg iter : Expr) (f : Sta → PR (List D)) : Prop := PI X tg iter (tIc X T W f)
end
theorem PI.wk {X : Cx} {tg e : Expr} {t t' : TI} (h : PI X tg e t) (w : ∀ σ H Q, t' σ H Q → t σ H Q) : PI X tg e t' := ⟨fun pins s σ H Q I q => h.run pins s σ H Q I (w _ _ _ q)⟩
section
variable {X : Cx} {T : Tab} {W : WX} {a b c e tg iter : Expr} {es : List Expr} {pos p : Pos} {fa fb fc : Sta → PR RV}
theorem Same.none (H : Hp) : Same (fun _ => Option.none) H := fun _ _ h => nomatch h
theorem ic_of {f : Sta → PR (List D)} (h : PIv X T W tg iter f) : PIc X T W tg iter f := by
  refine PI.wk h ?_
  rintro σ H Q ⟨s, m, M, G, R, q⟩
  refine ⟨s, m, M, G, R, ?_⟩
  revert q
  cases f s with
  | ok ds => intro q J H' M' g ok; exact q J H' M' g fun i M H a b _ => ok i M H a b (Same.none _)
  | exc e => intro q; exact q
  | stuck => intro q; exact q
/-- a list or a tuple that is walked -/
def iSeq (K : PySem.W.Frag) (tl : TE) : TI := fun σ H R => tl σ H fun x H1 => ∃ a, x = .ref a ∧ (((∃ xs, SqL K H1 a xs) ∧ R (Itl K a) H1) ∨ ((∃ xs, SqT K H1 a xs) ∧ R (Itt K a) H1))
theorem pi_seq {l : Expr} {tl : TE} (hl : PE X l tl) : PI X tg l (iSeq X.K tl) := by
  refine ⟨fun pins s σ H R I h => ?_⟩
  refine thn (hl.run pins s σ H _ I h) fun v s1 ⟨x, H1, I1, r1, q1⟩ => ?_
  obtain ⟨a, e, q⟩ := q1
  subst e
  cases r1
  rcases q with ⟨⟨xs, hq⟩, q⟩ | ⟨⟨xs, hq⟩, q⟩
  · obtain ⟨its, rv, p, hz⟩ := I1.list hq
    refine wpAny_pyIter_list p.isList ?_
    refine ⟨s1.heap.objs.size, [s1.heap.objs.size], _, _, H1, rfl, I1.kept (t' := s1.toks) fun b o e => Heap.get?_push_of_some _ e, turn_list a _, ⟨_, Heap.get?_push_size _ rfl, rfl, rfl⟩, fun b hb => ?_, q⟩
    have e : b = s1.heap.objs.size := by simpa using hb
    subst e
    exact I1.fpOk (Nat.le_refl _) (I1.hok.fresh (Nat.le_refl _))
  · obtain ⟨its, rv, p, hz⟩ := I1.tuple hq
    refine wpAny_pyIter_tuple (show s1.heap.IsTuple a its.toArray from p) ?_
    refine ⟨s1.heap.objs.size, [s1.heap.objs.size], _, _, H1, rfl, I1.kept (t' := s1.toks) fun b o e => Heap.get?_push_of_some _ e, turn_tuple a _, ⟨_, Heap.get?_push_size _ rfl, rfl, rfl⟩, fun b hb => ?_, q⟩
    have e : b = s1.heap.objs.size := by simpa using hb
    subst e
    exact I1.fpOk (Nat.le_refl _) (I1.hok.fresh (Nat.le_refl _))
theorem itl_ok {K : PySem.W.Frag} {m : List Addr} {a' : Addr} {xs : List V} {ds : List D} {M0 B : Hp} (h : ∀ M H, Same M0 M → Same M H → Same B H → SqL K H a' xs) (r : DRs K m M0 xs ds) : ItOk K m (Itl K a') ds M0 B := by
  intro i M H s1 s2 s3
  refine ⟨fun d e => ?_, fun hl => ⟨xs, h M H s1 s2 s3, by rw [r.length]; exact hl⟩⟩
  obtain ⟨v, hv, rv⟩ := r.get e
  refine ⟨⟨xs, v, h M H s1 s2 s3, hv⟩, fun x H' y => ?_⟩
  obtain ⟨rfl, y⟩ := y
  have := y xs (h M H' s1 s2 s3)
  rw [hv] at this
  cases this
  exact ⟨M, Grow.refl s2, rv.up s1⟩
theorem itt_ok {K : PySem.W.Frag} {m : List Addr} {a' : Addr} {xs : List V} {ds : List D} {M0 B : Hp} (h : ∀ M H, Same M0 M → Same M H → Same B H → SqT K H a' xs) (r : DRs K m M0 xs ds) : ItOk K m (Itt K a') ds M0 B := by
  intro i M H s1 s2 s3
  refine ⟨fun d e => ?_, fun hl => ⟨xs, h M H s1 s2 s3, by rw [r.length]; exact hl⟩⟩
  obtain ⟨v, hv, rv⟩ := r.get e
  refine ⟨⟨xs, v, h M H s1 s2 s3, hv⟩, fun x H' y => ?_⟩
  obtain ⟨rfl, y⟩ := y
  have := y xs (h M H' s1 s2 s3)
  rw [hv] at this
  cases this
  exact ⟨M, Grow.refl s2, rv.up s1⟩
def pSeq (f : Sta → PR D) : Sta → PR (List D) := fun s => (f s).bind fun d => .of (seqOf d)
theorem iv_seq {f : Sta → PR D} (h : PDv X T W iter f) : PIv X T W tg iter (pSeq f) := by
  refine PI.wk (pi_seq h) ?_
  rintro σ H R ⟨s, m, M, G, Rl, q⟩
  refine ⟨s, m, M, G, Rl, ?_⟩
  revert q
  unfold pSeq PR.bind
  cases f s with
  | ok d =>
    intro q y H' M' g r
    dsimp only at q
    cases hs : seqOf d with
    | none => simp only [hs, PR.of] at q
    | some ds =>
      simp only [hs, PR.of] at q
      cases d <;> try (cases hs; done)
      · cases hs
        cases r with
        | list h1 h2 => exact ⟨_, rfl, .inl ⟨⟨_, SqL.of (g.mh _ _ h1)⟩, q _ H' M' g (itl_ok (fun M H a b _ => SqL.of (b _ _ (a _ _ h1))) h2)⟩⟩
      · cases hs
        cases r with
        | lk h1 h2 => exact ⟨_, rfl, .inl ⟨⟨_, g.mh.seq h1⟩, q _ H' M' g (itl_ok (fun M H a b _ => b.seq (a.seq h1)) h2)⟩⟩
      · cases hs
        cases r with
        | tup h1 h2 => exact ⟨_, rfl, .inr ⟨⟨_, Same.seqT g.mh h1⟩, q _ H' M' g (itt_ok (fun M H a b _ => Same.seqT b (Same.seqT a h1)) h2)⟩⟩
  | exc e => intro q; exact q
  | stuck => intro q; exact q
def pSeqR (f : Sta → PR RV) : Sta → PR (List D) := fun s => (f s).bind fun r => .of (seqOf r.d)
theorem ic_seq (h : PEv X T W iter fa) : PIc X T W tg iter (pSeqR fa) := by
  refine PI.wk (pi_seq h) ?_
  rintro σ H R ⟨s, m, M, G, Rl, q⟩
  refine ⟨s, m, M, G, Rl, ?_⟩
  revert q
  unfold pSeqR PR.bind
  cases fa s with
  | ok r =>
    intro q y H' M' g rr
    dsimp only at q
    cases hs : seqOf r.d with
    | none => simp only [hs, PR.of] at q
    | some ds =>
      simp only [hs, PR.of] at q
      obtain ⟨a, xs, rfl, h1, r1⟩ := rr.arg.seq hs g.mh
      rcases h1 with h1 | h1
      · exact ⟨a, rfl, .inl ⟨⟨_, h1⟩, q _ H' M' g (itl_ok (fun M H _ _ c => c.seq h1) r1)⟩⟩
      · exact ⟨a, rfl, .inr ⟨⟨_, h1⟩, q _ H' M' g (itt_ok (fun M H _ _ c => Same.seqT c h1) r1)⟩⟩
  | exc e => intro q; exact q
  | stuck => intro q; exact q
/-- range -/
def rng (i j : Int) : List D := (List.range (j - i).toNat).map fun k => D.int (i + (k : Nat))
theorem itr_ok {K : PySem.W.Frag} {m : List Addr} {i j : Int} {M0 B : Hp} : ItOk K m (Itr i (j - i).toNat) (rng i j) M0 B := by
  intro k M H s1 s2 s3
  have hl : (rng i j).length = (j - i).toNat := by simp [rng]
  refine ⟨fun d e => ?_, fun hk => by rw [hl] at hk; exact hk⟩
  have hk : k < (j - i).toNat := by rw [← hl]; exact (List.getElem?_eq_some_iff.mp e).1
  refine ⟨hk, fun x H' y => ?_⟩
  obtain ⟨rfl, rfl⟩ := y
  have : d = .int (i + (k : Nat)) := by
    rw [rng, List.getElem?_map, List.getElem?_range hk] at e
    exact (Option.some.inj e).symm
  subst this
  exact ⟨M, Grow.refl s2, .int _⟩
def big62 (i : Int) : Bool := decide (-(2 ^ 62) ≤ i ∧ i < 2 ^ 62)
def gRng1 : List D → Option (List D)
  | [.int j] => if big62 j then some (rng 0 j) else none
  | _ => none
def gRng2 : List D → Option (List D)
  | [.int i, .int j] => if big62 i && big62 j then some (rng i j) else none
  | _ => none
def pRng (g : List D → Option (List D)) (fs : Sta → PR (List RV)) : Sta → PR (List D) := fun s => (fs s).bind fun rs => .of (g (rs.map RV.d))
theorem iv_range1 {fs : Sta → PR (List RV)} (hg : Gl X "range") (hm : X.mg "range" = none) (ha : PAr X T W [a] fs) (hs : starEach [a] X.env = [(false, eval a X.env)] := by rfl) : PIv X T W tg (.Call (.Name "range" p) [a] [] pos) (pRng gRng1 fs) := by
  refine PI.wk (pi_range1 hg hm ha hs) ?_
  rintro σ H R ⟨s, m, M, G, Rl, q⟩
  refine ⟨s, m, M, G, Rl, ?_⟩
  revert q
  unfold pRng PR.bind
  cases fs s with
  | ok rs =>
    intro q ys H' M' g rr
    dsimp only at q
    cases hr : gRng1 (rs.map RV.d) with
    | none => simp only [hr, PR.of] at q
    | some ds =>
      simp only [hr, PR.of] at q
      have aa := args_of rr
      revert hr aa
      generalize rs.map RV.d = zs
      intro hr aa
      unfold gRng1 at hr
      split at hr
      · rename_i j
        cases aa with
        | cons a1 an =>
          cases an
          by_cases hb : big62 j = true
          · rw [if_pos hb] at hr
            cases hr
            have hb' := of_decide_eq_true hb
            refine ⟨j, by rw [a1.int], hb'.1, hb'.2, ?_⟩
            have := q (Itr 0 (j - 0).toNat) H' M' g itr_ok
            simpa using this
          · rw [if_neg hb] at hr
            cases hr
      · cases hr
  | exc e => intro q; exact q
  | stuck => intro q; exact q
theorem iv_range2 {fs : Sta → PR (List RV)} (hg : Gl X "range") (hm : X.mg "range" = none) (ha : PAr X T W [a, b] fs) (hs : starEach [a, b] X.env = [(false, eval a X.env), (false, eval b X.env)] := by rfl) (hs2 : starEach [b] X.env = [(false, eval b X.env)] := by rfl) :
    PIv X T W tg (.Call (.Name "range" p) [a, b] [] pos) (pRng gRng2 fs) := by
  refine PI.wk (pi_range2 hg hm ha hs hs2) ?_
  rintro σ H R ⟨s, m, M, G, Rl, q⟩
  refine ⟨s, m, M, G, Rl, ?_⟩
  revert q
  unfold pRng PR.bind
  cases fs s with
  | ok rs =>
    intro q ys H' M' g rr
    dsimp only at q
    cases hr : gRng2 (rs.map RV.d) with
    | none => simp only [hr, PR.of] at q
    | some ds =>
      simp only [hr, PR.of] at q
      have aa := args_of rr
      revert hr aa
      generalize rs.map RV.d = zs
      intro hr aa
      unfold gRng2 at hr
      split at hr
      · rename_i i j
        cases aa with
        | cons a1 an =>
          cases an with
          | cons a2 an =>
            cases an
            by_cases hb : (big62 i && big62 j) = true
            · rw [if_pos hb] at hr
              cases hr
              rw [Bool.and_eq_true] at hb
              have hb1 := of_decide_eq_true hb.1
              have hb2 := of_decide_eq_true hb.2
              exact ⟨i, j, by rw [a1.int, a2.int], ⟨hb1.1, hb1.2, hb2.1, hb2.2⟩, q (Itr i (j - i).toNat) H' M' g itr_ok⟩
            · rw [if_neg hb] at hr
              cases hr
      · cases hr
  | exc e => intro q; exact q
  | stuck => intro q; exact q
/-- enumerate(a list) -/
def enumD : Nat → List D → List D
  | _, [] => []
  | i, d :: ds => .tup [.int (i : Nat), d] :: enumD (i + 1) ds
theorem enumD_get : ∀ (ds : List D) (k i : Nat) (d : D), (enumD k ds)[i]? = some d → ∃ x, ds[i]? = some x ∧ d = .tup [.int ((k + i : Nat) : Int), x]
  | [], _, _, _, e => by simp [enumD] at e
  | x :: ds, k, 0, d, e => by
    simp [enumD] at e
    exact ⟨x, rfl, e.symm⟩
  | x :: ds, k, i + 1, d, e => by
    obtain ⟨y, h1, h2⟩ := enumD_get ds (k + 1) i d (by simpa [enumD] using e)
    exact ⟨y, by simpa using h1, by rw [h2]; have : k + 1 + i = k + (i + 1) := by omega
                                    rw [this]⟩
theorem enumD_length : ∀ (ds : List D) (k : Nat), (enumD k ds).length = ds.length
  | [], _ => rfl
  | _ :: ds, k => by simp [enumD, enumD_length ds]
theorem ite_ok {K : PySem.W.Frag} {m : List Addr} {a' : Addr} {xs : List V} {ds : List D} {M0 B : Hp} (h : ∀ M H, Same M0 M → Same M H → Same B H → SqL K H a' xs) (r : DRs K m M0 xs ds) : ItOk K m (Ite K a') (enumD 0 ds) M0 B := by
  intro i M H s1 s2 s3
  refine ⟨fun d e => ?_, fun hl => ⟨xs, h M H s1 s2 s3, by rw [r.length, ← enumD_length ds 0]; exact hl⟩⟩
  obtain ⟨x, hx, rfl⟩ := enumD_get ds 0 i d e
  obtain ⟨v, hv, rv⟩ := r.get hx
  refine ⟨⟨xs, v, h M H s1 s2 s3, hv⟩, fun y H' z => ?_⟩
  obtain ⟨T, x', rfl, hT, rfl, z⟩ := z
  have z := z xs (h M H s1 s2 s3)
  rw [hv] at z
  cases z
  have gs := Grow.share (o := .tup [.int (i : Nat), v]) s2 hT
  refine ⟨_, gs, .tup (SqT.of upd_same) (.cons ?_ (.cons ((rv.up s1).up gs.mm) .nil))⟩
  rw [Nat.zero_add]
  exact .int _
/-- a list alone -/
def lstOf : D → Option (List D)
  | .list ds => some ds
  | .lk ds => some ds
  | _ => none
theorem lstOf_seq {d : D} {ds : List D} (h : lstOf d = some ds) : seqOf d = some ds := by
  cases d <;> first | exact h | cases h
theorem Arg.lst {K : PySem.W.Frag} {m : List Addr} {M H : Hp} {y : V} {d : D} {ds : List D} (h : Arg K m M H y d) (e : lstOf d = some ds) (s : Same M H) : ∃ a xs, y = .ref a ∧ SqL K H a xs ∧ DRs K m M xs ds := by
  cases d with
  | list ds' =>
    cases e
    obtain ⟨a, xs, h1, h2, h3⟩ := h.list s
    exact ⟨a, xs, h1, SqL.of h2, h3⟩
  | lk ds' =>
    cases e
    exact h.lk s
  | _ => cases e
def gEnum : List D → Option (List D)
  | [d] => (lstOf d).map (enumD 0)
  | _ => none
def pEnum (fs : Sta → PR (List D)) : Sta → PR (List D) := fun s => (fs s).bind fun ds => .of (gEnum ds)
theorem iv_enum {elts : List Expr} {kk : Nat} {tpos : Pos} {fs : Sta → PR (List D)} (hg : Gl X "enumerate") (hm : X.mg "enumerate" = none) (ha : PAs X T W [e] fs) (hs : starEach [e] X.env = [(false, eval e X.env)] := by rfl) :
    PIv X T W (.Tuple elts kk tpos) (.Call (.Name "enumerate" p) [e] [] pos) (pEnum fs) := by
  refine PI.wk (pi_enum hg hm ha hs) ?_
  rintro σ H R ⟨s, m, M, G, Rl, q⟩
  refine ⟨s, m, M, G, Rl, ?_⟩
  revert q
  unfold pEnum PR.bind
  cases fs s with
  | ok ds =>
    intro q ys H' M' g rr
    dsimp only at q
    cases hr : gEnum ds with
    | none => simp only [hr, PR.of] at q
    | some es =>
      simp only [hr, PR.of] at q
      unfold gEnum at hr
      split at hr
      · rename_i d
        cases rr with
        | cons r1 rn =>
          cases rn
          cases d <;> try (cases hr; done)
          · cases hr
            cases r1 with
            | list h1 h2 => exact ⟨_, _, rfl, SqL.of (g.mh _ _ h1), q _ H' M' g (ite_ok (fun M H a b _ => SqL.of (b _ _ (a _ _ h1))) h2)⟩
          · cases hr
            cases r1 with
            | lk h1 h2 => exact ⟨_, _, rfl, g.mh.seq h1, q _ H' M' g (ite_ok (fun M H a b _ => b.seq (a.seq h1)) h2)⟩
      · cases hr
  | exc e => intro q; exact q
  | stuck => intro q; exact q
end
end MP

/-! MP 4: targets, comprehensions, in, isinstance. -/
namespace MP
open PySem PySem.Spec PyProof.Rows L2

/-! ### the relation: a slot stored -/
section
variable {K : PySem.W.Frag} {T : Tab} {m m' : List Addr} {M M' G H H' : Hp}
theorem Rel.setAny {s : Sta} {σ : L2.St} (R : Rel K T m M G H s σ) (i : Nat) {sl : Slot} {y : Option V} {f : List Addr} (h : SlotR K m M H sl y f) (nd : f.Nodup)
    (fresh : ∀ a ∈ f, (∀ f1 f2, SlotsR K m M H s.env σ f1 → StoreR K T m M H s.st m f2 → a ∉ f1 ++ f2) ∧ M a = Option.none ∧ G a = Option.none) : Rel K T m M G H { s with env := s.env.set i sl } (σ.set i y) := by
  obtain ⟨mh, gh, ⟨f1, f2, h1, h2, nd0, dj⟩⟩ := R
  cases hs : s.env[i]? with
  | none =>
    have hl : s.env.length ≤ i := List.getElem?_eq_none_iff.mp hs
    have e1 : s.env.set i sl = s.env := List.set_eq_of_length_le hl
    have e2 : σ.set i y = σ := List.set_eq_of_length_le (by rw [← h1.len]; exact hl)
    rw [e1, e2]
    exact ⟨mh, gh, ⟨f1, f2, h1, h2, nd0, dj⟩⟩
  | some sl0 =>
    obtain ⟨g0, g1, g2, y0, ef, ey, _, k⟩ := h1.split hs
    have k := k m M H sl y f (MLe.refl _) (Same.refl _) (fun _ _ => rfl) h
    have fr := fun a ha => (fresh a ha).1 f1 f2 h1 h2
    subst ef
    refine ⟨mh, gh, ⟨g0 ++ f ++ g2, f2, k, h2, ?_, fun a ha => ?_⟩⟩
    · have sub : ((g0 ++ g2) ++ f2).Sublist ((g0 ++ g1 ++ g2) ++ f2) := by
        refine List.Sublist.append ?_ (List.Sublist.refl _)
        rw [List.append_assoc]
        exact List.Sublist.append (List.Sublist.refl _) (List.sublist_append_right _ _)
      have nd1 := nd0.sublist sub
      have perm : List.Perm ((g0 ++ f ++ g2) ++ f2) (f ++ ((g0 ++ g2) ++ f2)) := by
        rw [List.append_assoc, List.append_assoc, List.append_assoc]
        exact List.perm_append_comm_assoc g0 f (g2 ++ f2)
      rw [perm.nodup_iff, List.nodup_append]
      refine ⟨nd, nd1, fun a ha b hb e => ?_⟩
      subst e
      exact fr a ha (sub.subset hb)
    · simp only [List.mem_append] at ha
      rcases ha with ((ha | ha) | ha) | ha
      · exact dj a (by simp [ha])
      · exact (fresh a ha).2
      · exact dj a (by simp [ha])
      · exact dj a (by simp [ha])
theorem Rel.setV {s : Sta} {σ : L2.St} (R : Rel K T m M G H s σ) (i : Nat) {d : D} {y : V} (h : DR K m M y d) : Rel K T m M G H { s with env := s.env.set i (.v d) } (σ.set i (some y)) :=
  R.setAny i (f := []) ⟨rfl, y, rfl, h⟩ List.nodup_nil fun a ha => nomatch ha
theorem Rel.setU {s : Sta} {σ : L2.St} (R : Rel K T m M G H s σ) (i : Nat) (y : Option V) : Rel K T m M G H { s with env := s.env.set i .un } (σ.set i y) :=
  R.setAny i (f := []) rfl List.nodup_nil fun a ha => nomatch ha
/-- an object of its own, new since H0 where the relation held already -/
theorem Rel.setOwn {H0 M0 : Hp} {s : Sta} {σ : L2.St} (R0 : Rel K T m M0 G H0 s σ) (g : Grow H0 M0 H M) (i : Nat) {d : D} {a : Addr} {o : HO} (ha : H a = some o) (h : ObD K m M o d) (hM : M a = Option.none) (h0 : H0 a = Option.none) :
    Rel K T m M G H { s with env := s.env.set i (.own d) } (σ.set i (some (.ref a))) := by
  refine (R0.grow g).setAny i (f := [a]) ⟨a, o, rfl, rfl, ha, h⟩ (by simp) fun b hb => ?_
  have e : b = a := by simpa using hb
  subst e
  refine ⟨fun f1 f2 h1 h2 hm => ?_, hM, R0.gh.free h0⟩
  obtain ⟨mh, gh, ⟨e1, e2, k1, k2, nd0, dj⟩⟩ := R0
  -- the footprint is the same at both times
  have fpS : ∀ {s : List Slot} {x : List (Option V)} {fa fb : List Addr}, SlotsR K m M H s x fa → SlotsR K m M0 H0 s x fb → fa = fb := by
    intro s
    induction s with
    | nil =>
      intro x fa fb p q
      cases x with
      | nil => rw [show fa = [] from p, show fb = [] from q]
      | cons _ _ => exact p.elim
    | cons s ss ih =>
      intro x fa fb p q
      cases x with
      | nil => exact p.elim
      | cons x xs =>
        obtain ⟨p1, p2, ep, p3, p4⟩ := p
        obtain ⟨q1, q2, eq, q3, q4⟩ := q
        have e1 := ih p4 q4
        have e2 : p1 = q1 := by
          cases s with
          | un => rw [show p1 = [] from p3, show q1 = [] from q3]
          | v d => rw [p3.1, q3.1]
          | own d =>
            obtain ⟨a, o, e, ex, _⟩ := p3
            obtain ⟨b, o', e', ex', _⟩ := q3
            rw [ex] at ex'
            cases ex'
            rw [e, e']
        rw [ep, eq, e1, e2]
  have fpF : ∀ {s : List (Nat × Slot)} {x x' : List (Str × V)} {fa fb : List Addr}, x = x' → FsR K T.nm m M H s x fa → FsR K T.nm m M0 H0 s x' fb → fa = fb := by
    intro s
    induction s with
    | nil =>
      intro x x' fa fb ex p q
      subst ex
      cases x with
      | nil => rw [show fa = [] from p, show fb = [] from q]
      | cons _ _ => exact p.elim
    | cons s ss ih =>
      intro x x' fa fb ex p q
      subst ex
      obtain ⟨i, s⟩ := s
      cases x with
      | nil => exact p.elim
      | cons x xs =>
        obtain ⟨x, v⟩ := x
        obtain ⟨p1, p2, ep, _, p3, p4⟩ := p
        obtain ⟨q1, q2, eq, _, q3, q4⟩ := q
        have e1 := ih rfl p4 q4
        have e2 : p1 = q1 := by
          cases s with
          | un => rw [show p1 = [] from p3, show q1 = [] from q3]
          | v d => rw [p3.1, q3.1]
          | own d =>
            obtain ⟨a, o, e, ex, _⟩ := p3
            obtain ⟨b, o', e', ex', _⟩ := q3
            rw [ex] at ex'
            cases ex'
            rw [e, e']
        rw [ep, eq, e1, e2]
  have fpT : ∀ {s : List Ob} {x : List Addr} {fa fb : List Addr}, StoreR K T m M H s x fa → StoreR K T m M0 H0 s x fb → fa = fb := by
    intro s
    induction s with
    | nil => intro x fa fb p q; rw [show fa = [] from p, show fb = [] from q]
    | cons s ss ih =>
      intro x fa fb p q
      cases x with
      | nil => exact p.elim
      | cons x xs =>
        obtain ⟨p1, p2, ep, ⟨dx, fs, f, e1, e2, e3⟩, p4⟩ := p
        obtain ⟨q1, q2, eq, ⟨dx', fs', f', e1', e2', e3'⟩, q4⟩ := q
        have e4 := ih p4 q4
        have e5 := g.same _ _ e2'
        rw [e2] at e5
        have e6 : fs = fs' := by
          injection e5 with e5
          injection e5
        have e7 := fpF e6 e3 e3'
        rw [ep, eq, e4, e1, e1', e7]
  have e1' := fpS h1 k1
  have e2' := fpT h2 k2
  subst e1' e2'
  have hh : ∃ o, H0 b = some o := by
    rcases List.mem_append.mp hm with q | q
    · exact k1.here b q
    · exact k2.here b q
  obtain ⟨o', q⟩ := hh
  rw [h0] at q
  cases q
end

/-! ### targets -/
inductive Tg where
  | nm (i : Nat) | tp (is : List Nat)
def gNames : List Nat → TGs
  | [] => gNil
  | i :: is => gCons (gName i) (gNames is)
def tgR (K : PySem.W.Frag) : Tg → TG
  | .nm i => gName i
  | .tp is => gTup K is.length (gNames is)
def setAll : List Nat → List D → List Slot → List Slot
  | i :: is, d :: ds, env => setAll is ds (env.set i (.v d))
  | _, _, env => env
def Tg.bind : Tg → D → List Slot → Option (List Slot)
  | .nm i, d, env => some (env.set i (.v d))
  | .tp is, .tup ds, env => if ds.length = is.length then some (setAll is ds env) else none
  | .tp _, _, _ => none
def Tg.ixs : Tg → List Nat
  | .nm i => [i]
  | .tp is => is
section
variable {X : Cx} {T : Tab} {m : List Addr} {M G H : Hp}
/-- what is outside of some places stays -/
def Off (vs : List Nat) (σ σ' : L2.St) : Prop := σ'.length = σ.length ∧ ∀ j, j ∉ vs → σ'[j]? = σ[j]?
theorem Off.refl (vs : List Nat) (σ : L2.St) : Off vs σ σ := ⟨rfl, fun _ _ => rfl⟩
theorem Off.set {vs : List Nat} {σ σ' : L2.St} (h : Off vs σ σ') {i : Nat} (hi : i ∈ vs) (y : Option V) : Off vs σ (σ'.set i y) :=
  ⟨by rw [List.length_set]; exact h.1, fun j hj => by rw [List.getElem?_set_ne (fun e => hj (by rw [← e]; exact hi))]; exact h.2 j hj⟩
theorem gNames_of {Q : L2.St → Hp → Prop} {vs : List Nat} {σ0 : L2.St} : ∀ (is : List Nat) (ds : List D) (ys : List V) (s : Sta) (σ : L2.St), DRs X.K m M ys ds → ds.length = is.length → Rel X.K T m M G H s σ → Off vs σ0 σ → (∀ i ∈ is, i ∈ vs) →
    (∀ σ', Rel X.K T m M G H { s with env := setAll is ds s.env } σ' → Off vs σ0 σ' → Q σ' H) → gNames is ys σ H Q
  | [], [], _, s, σ, r, _, R, o, _, k => by
    cases r
    exact ⟨rfl, k σ R o⟩
  | i :: is, d :: ds, _, s, σ, r, hl, R, o, hi, k => by
    cases r with
    | cons r1 r2 =>
      refine ⟨_, _, rfl, ?_⟩
      exact gNames_of is ds _ { s with env := s.env.set i (.v d) } _ r2 (by simpa using hl) (R.setV i r1) (o.set (hi i (by simp)) _) (fun j hj => hi j (by simp [hj])) k
  | [], _ :: _, _, _, _, _, hl, _, _, _, _ => by simp at hl
  | _ :: _, [], _, _, _, _, hl, _, _, _, _ => by simp at hl
theorem tgR_of {Q : L2.St → Hp → Prop} {vs : List Nat} {σ0 : L2.St} {t : Tg} {d : D} {y : V} {s : Sta} {σ : L2.St} {env : List Slot} (e : t.bind d s.env = some env) (r : DR X.K m M y d) (R : Rel X.K T m M G H s σ) (o : Off vs σ0 σ) (hi : ∀ i ∈ t.ixs, i ∈ vs)
    (k : ∀ σ', Rel X.K T m M G H { s with env := env } σ' → Off vs σ0 σ' → Q σ' H) : tgR X.K t y σ H Q := by
  cases t with
  | nm i =>
    cases e
    exact k _ (R.setV i r) (o.set (hi i (by simp [Tg.ixs])) _)
  | tp is =>
    cases d <;> try (cases e; done)
    rename_i ds
    dsimp only [Tg.bind] at e
    by_cases hl : ds.length = is.length
    · rw [if_pos hl] at e
      cases e
      cases r with
      | tup h1 h2 =>
        exact ⟨_, _, rfl, Same.seqT R.mh h1, by rw [h2.length]; exact hl, gNames_of is ds _ s σ h2 hl R o hi k⟩
    · rw [if_neg hl] at e
      cases e
theorem wipe_get (σ : L2.St) : ∀ (vs : List Nat) (j : Nat), (wipe σ vs)[j]? = if j ∈ vs then (if j < σ.length then some Option.none else Option.none) else σ[j]?
  | [], j => by simp [wipe]
  | v :: vs, j => by
    rw [wipe]
    by_cases hj : v = j
    · subst hj
      simp only [List.mem_cons, true_or, if_true]
      by_cases hl : v < σ.length
      · rw [List.getElem?_set_self (by rw [wipe_length]; exact hl), if_pos hl]
      · rw [List.getElem?_eq_none (by rw [List.length_set, wipe_length]; omega), if_neg hl]
    · rw [List.getElem?_set_ne hj, wipe_get σ vs j]
      have : (j ∈ v :: vs) ↔ j ∈ vs := by
        simp only [List.mem_cons]
        constructor
        · rintro (h | h)
          · exact absurd h.symm hj
          · exact h
        · exact .inr
      simp only [this]
theorem wipe_off {vs : List Nat} {σ σ' : L2.St} (h : Off vs σ σ') : wipe σ' vs = wipe σ vs := by
  apply List.ext_getElem?
  intro j
  rw [wipe_get, wipe_get, h.1]
  by_cases hj : j ∈ vs
  · rw [if_pos hj, if_pos hj]
  · rw [if_neg hj, if_neg hj]
    exact h.2 j hj
theorem Off.wipe (vs : List Nat) (σ : L2.St) : Off vs σ (L2.wipe σ vs) := ⟨wipe_length σ vs, fun j hj => by rw [wipe_get, if_neg hj]⟩
def wipeE (env : List Slot) : List Nat → List Slot
  | [] => env
  | v :: vs => (wipeE env vs).set v .un
theorem Rel.wipe {s : Sta} {σ : L2.St} (R : Rel X.K T m M G H s σ) : ∀ vs : List Nat, Rel X.K T m M G H { s with env := wipeE s.env vs } (L2.wipe σ vs)
  | [] => R
  | v :: vs => (Rel.wipe R vs).setU v Option.none
end

/-! ### comprehensions -/
def compL (t : Tg) (tt : Sta → PR Bool) (te : Sta → PR D) (s : Sta) : List D → PR (List D)
  | [] => .ok []
  | d :: ds => match t.bind d s.env with
    | none => .stuck
    | some env => match tt { s with env := env } with
      | .ok true => match te { s with env := env } with
        | .ok y => (compL t tt te s ds).bind fun r => .ok (y :: r)
        | _ => .stuck
      | .ok false => compL t tt te s ds
      | _ => .stuck
def pComp (f : Sta → PR (List D)) (t : Tg) (vs : List Nat) (tt : Sta → PR Bool) (te : Sta → PR D) : Sta → PR RV := fun s => (f s).bind fun ds =>
  if ds.length ≤ 16777216 then (compL t tt te { s with env := wipeE s.env vs } ds).bind fun r => .ok (fr (.list r)) else .stuck
abbrev W0 : WX := fun _ _ _ _ => False
abbrev PTsv (X : Cx) (T : Tab) (W : WX) (ifs : List Expr) (f : Sta → PR Bool) : Prop := PTs X ifs (tT X T W f)
def pYes : Sta → PR Bool := fun _ => .ok true
section
variable {X : Cx} {T : Tab} {W : WX}
theorem PTs.wk {X : Cx} {e : List Expr} {t t' : TT} (h : PTs X e t) (w : ∀ σ H Q, t' σ H Q → t σ H Q) : PTs X e t' := ⟨fun pins s σ H Q I q => h.run pins s σ H Q I (w _ _ _ q)⟩
theorem ets_nil : PTsv X T W [] pYes := PTs.wk pts_nil fun σ H Q ⟨s, m, M, G, R, q⟩ => q H M (Grow.refl R.mh)
theorem ets_one {c : Expr} {f : Sta → PR Bool} (h : PTv X T W c f) : PTsv X T W [c] f := pts_one h
/-- the reading of a comprehension -/
theorem tLc_of {f : Sta → PR (List D)} {t : Tg} {vs : List Nat} {tt : Sta → PR Bool} {te : Sta → PR D} (hv : ∀ i ∈ t.ixs, i ∈ vs) {σ : L2.St} {H : Hp} {Q : VK} (h : tP X T W (pComp f t vs tt te) σ H Q) :
    tLc (tIc X T W f) (tgR X.K t) (tT X T W0 tt) (tD X T W0 te) vs σ H Q := by
  obtain ⟨s, m, M, G, R, q⟩ := h
  refine ⟨s, m, M, G, R, ?_⟩
  revert q
  unfold pComp PR.bind
  cases f s with
  | ok ds =>
    intro q J H1 M1 g1 it
    dsimp only at q
    by_cases hl : ds.length ≤ 16777216
    · rw [if_pos hl] at q
      generalize hs0 : ({ s with env := wipeE s.env vs } : Sta) = s0 at q
      cases hc : compL t tt te s0 ds with
      | ok r =>
        simp only [hc] at q
        intro D hD
        have hM1D : M1 D = Option.none := g1.mh.free hD
        refine ⟨fun i μ Hc => μ = ds.length - i ∧ i ≤ ds.length ∧ ∃ Mi acc dacc rest, Grow H1 M1 Hc Mi ∧ Mi D = Option.none ∧ Hc D = some (.lst acc) ∧ DRs X.K m Mi acc dacc ∧ acc.length ≤ i ∧ compL t tt te s0 (ds.drop i) = .ok rest ∧ dacc ++ rest = r,
          ⟨ds.length, rfl, Nat.zero_le _, M1, [], [], r, Grow.fresh g1.mh hD, hM1D, upd_same, .nil, Nat.le_refl _, hc, rfl⟩, ?_⟩
        rintro i μ Hc ⟨rfl, hi, Mi, acc, dacc, rest, gc, hMD, hHD, rD, hal, hcr, he⟩
        have iti := it i Mi Hc gc.mm gc.mh gc.same
        by_cases hlt : i < ds.length
        · have hd : ds[i]? = some ds[i] := by simp [hlt]
          have hdrop : ds.drop i = ds[i] :: ds.drop (i + 1) := List.drop_eq_getElem_cons hlt
          generalize ds[i] = d at hd hdrop
          obtain ⟨go, yld⟩ := iti.1 d hd
          refine .inr ⟨go, fun H' => ∃ Mi acc dacc rest, Grow H1 M1 H' Mi ∧ Mi D = Option.none ∧ H' D = some (.lst acc) ∧ DRs X.K m Mi acc dacc ∧ acc.length ≤ i + 1 ∧ compL t tt te s0 (ds.drop (i + 1)) = .ok rest ∧ dacc ++ rest = r,
            fun H' hN => ⟨ds.length - (i + 1), by omega, rfl, hlt, hN⟩, fun x H' hy => ?_⟩
          obtain ⟨M', gy, rx⟩ := yld x H' hy
          rw [hdrop, compL] at hcr
          cases hb : t.bind d s0.env with
          | none => rw [hb] at hcr; cases hcr
          | some env =>
            simp only [hb] at hcr
            have R0 : Rel X.K T m M' G H' s0 (L2.wipe σ vs) := by
              rw [← hs0]
              exact ((R.wipe vs).grow g1).grow (gc.trans gy)
            refine tgR_of (T := T) (G := G) hb rx R0 (Off.refl vs _) hv fun σ2 R2 o2 => ?_
            refine ⟨by rw [wipe_off o2]; exact wipe_off (Off.wipe vs σ), ?_⟩
            refine ⟨_, m, M', G, R2, ?_⟩
            cases ht : tt { s0 with env := env } with
            | ok b =>
              simp only [ht] at hcr
              intro H3 M3 g3
              cases b with
              | false =>
                rw [if_neg Bool.false_ne_true]
                have gg := gc.trans (gy.trans g3)
                have h1 := (gy.trans g3).same _ _ hHD
                exact ⟨M3, acc, dacc, rest, gg, (gy.trans g3).keepNone hHD hMD, h1, rD.up (gy.trans g3).mm, Nat.le_succ_of_le hal, hcr, he⟩
              | true =>
                rw [if_pos rfl]
                refine ⟨_, m, M3, G, R2.grow g3, ?_⟩
                cases hte : te { s0 with env := env } with
                | ok y =>
                  simp only [hte, PR.bind] at hcr
                  intro yv H4 M4 g4 ry
                  have g34 := gy.trans (g3.trans g4)
                  have h4 := g34.same _ _ hHD
                  have hM4 := g34.keepNone hHD hMD
                  cases hr : compL t tt te s0 (ds.drop (i + 1)) with
                  | ok rest' =>
                    simp only [hr] at hcr
                    cases hcr
                    refine ⟨acc, h4, by rw [sizeLine_eq]; omega, M4, acc ++ [yv], dacc ++ [y], rest', ?_, hM4, upd_same, (rD.up g34.mm).append (.cons ry .nil), by simp; omega, rfl, by rw [← he]; simp⟩
                    have gg := gc.trans g34
                    refine ⟨fun b o e => ?_, gg.mm, fun b o e => ?_, gg.new⟩
                    · have hb : b ≠ D := fun z => by rw [z, hD] at e; cases e
                      rw [upd_ne hb]
                      exact gg.same _ _ e
                    · have hb : b ≠ D := fun z => by rw [z, hM4] at e; cases e
                      rw [upd_ne hb]
                      exact gg.mh _ _ e
                  | exc e => simp only [hr] at hcr; cases hcr
                  | stuck => simp only [hr] at hcr; cases hcr
                | exc e => simp only [hte] at hcr; cases hcr
                | stuck => simp only [hte] at hcr; cases hcr
            | exc e => simp only [ht] at hcr; cases hcr
            | stuck => simp only [ht] at hcr; cases hcr
        · have hie : i = ds.length := by omega
          subst hie
          refine .inl ⟨iti.2 (Nat.le_refl _), ?_⟩
          rw [List.drop_length, compL] at hcr
          cases hcr
          rw [List.append_nil] at he
          subst he
          exact q _ Hc Mi (g1.trans gc) ⟨D, _, rfl, hHD, .lst rD, hMD, g1.same.free hD⟩
      | exc e => simp only [hc] at q; exact absurd hc (by
          have : ∀ ds, compL t tt te s0 ds ≠ .exc e := by
            intro ds
            induction ds with
            | nil => intro z; cases z
            | cons d ds ih =>
              intro z
              rw [compL] at z
              split at z
              · cases z
              · split at z
                · split at z
                  · cases hq : compL t tt te s0 ds with
                    | ok _ => rw [hq] at z; cases z
                    | exc _ => rw [hq] at z; cases z; exact ih hq
                    | stuck => rw [hq] at z; cases z
                  · cases z
                · exact ih z
                · cases z
          exact this ds)
      | stuck => simp only [hc] at q
    · rw [if_neg hl] at q
      exact q.elim
  | exc e => intro q; exact q
  | stuck => intro q; exact q
variable {elt tg iter : Expr} {ifs : List Expr} {scope : Scope} {own : List (Str × Nat)} {pos : Pos} {f : Sta → PR (List D)} {t : Tg} {tt : Sta → PR Bool} {te : Sta → PR D}
theorem ev_lc (hc : X.calm = true) (hN : X.N.Nodup) (hi : PIc X T W tg iter f) (ok : BlkOk X.N X.env.scope scope own) (hv : ∀ i ∈ t.ixs, i ∈ own.map (·.2))
    (hg : ∀ (s : Shared) (H : Hp) (C : Addr) (cl : List (Str × Addr)) (fp : List Addr), PG (X.blk s H scope (compEnvC scope cl C X.env) fp) tg (tgR X.K t))
    (ht : ∀ (s : Shared) (H : Hp) (C : Addr) (cl : List (Str × Addr)) (fp : List Addr), PTsv (X.blk s H scope (compEnvC scope cl C X.env) fp) T W0 ifs tt)
    (he : ∀ (s : Shared) (H : Hp) (C : Addr) (cl : List (Str × Addr)) (fp : List Addr), PDv (X.blk s H scope (compEnvC scope cl C X.env) fp) T W0 elt te) (hs : ∀ x, foldedSetIterable iter X.env x = pure x := by intro _; rfl) :
    PEv X T W (.ListComp elt [⟨tg, iter, ifs, 0⟩] scope pos) (pComp f t (own.map (·.2)) tt te) :=
  PE.wk (pe_lc hc hN hi ok hg ht he hs) fun σ H Q h => tLc_of hv h
end

/-! ### in, not in -/
section
variable {X : Cx} {T : Tab} {W : WX}
def flatD : D → Bool
  | .none => true
  | .bool _ => true
  | .int _ => true
  | .str _ => true
  | _ => false
def eqF : D → D → Bool
  | .none, .none => true
  | .bool a, .bool b => a == b
  | .bool a, .int b => (if a then 1 else 0) == b
  | .int a, .bool b => a == (if b then 1 else 0)
  | .int a, .int b => a == b
  | .str a, .str b => a == b
  | _, _ => false
theorem DR.flat {K : PySem.W.Frag} {m : List Addr} {H : Hp} {v : V} {d : D} (h : DR K m H v d) (f : flatD d = true) : flatV v = true := by
  cases h <;> first | rfl | cases f
theorem DRs.flat {K : PySem.W.Frag} {m : List Addr} {H : Hp} : ∀ {vs : List V} {ds : List D}, DRs K m H vs ds → ds.all flatD = true → vs.all flatV = true
  | _, _, .nil, _ => rfl
  | _, _, .cons r t, f => by
    rw [List.all_cons, Bool.and_eq_true] at f ⊢
    exact ⟨r.flat f.1, DRs.flat t f.2⟩
theorem eqV_eqF {K : PySem.W.Frag} {m : List Addr} {H : Hp} {x y : V} {d e : D} (h : DR K m H x d) (h' : DR K m H y e) (f : flatD d = true) (f' : flatD e = true) : eqV x y = eqF d e := by
  cases h <;> first | exact absurd f Bool.false_ne_true | (cases h' <;> first | exact absurd f' Bool.false_ne_true | rfl)
theorem any_eqF {K : PySem.W.Frag} {m : List Addr} {H : Hp} {x : V} {d : D} (h : DR K m H x d) (f : flatD d = true) : ∀ {vs : List V} {ds : List D}, DRs K m H vs ds → ds.all flatD = true → vs.any (fun y => eqV y x) = ds.any fun z => eqF z d
  | _, _, .nil, _ => rfl
  | _, _, .cons r t, fs => by
    rw [List.all_cons, Bool.and_eq_true] at fs
    rw [List.any_cons, List.any_cons, any_eqF h f t fs.2, eqV_eqF r h fs.1 f]
def inB (d e : D) : Option Bool := match seqOf e with
  | some ds => if flatD d = true ∧ ds.all flatD = true then some (ds.any fun z => eqF z d)
    else if (lstOf e).isSome = true ∧ SeqAt.shaped d.py = true ∧ SeqAt.shaped (.list (pys ds)) = true then some ((pys ds).any fun z => PyData.eqv z d.py) else none
  | none => none
def gIn (d e : D) : Option RV := (inB d e).map fun b => sh (.bool b)
def gNin (d e : D) : Option RV := (inB d e).map fun b => sh (.bool (!b))
theorem inB_cases {K : PySem.W.Frag} {m : List Addr} {M H : Hp} {x y : V} {d e : D} {b : Bool} (s : Same M H) (a1 : Arg K m M H x d) (a2 : Arg K m M H y e) (h : inB d e = some b) :
    (∃ p xs, y = .ref p ∧ (SqL K H p xs ∨ SqT K H p xs) ∧ flatV x = true ∧ xs.all flatV = true ∧ inV x xs = b) ∨
    ∃ pd ds, Dp K H x pd ∧ Dp K H y (.list ds) ∧ SeqAt.shaped pd = true ∧ SeqAt.shaped (.list ds) = true ∧ (ds.any fun z => PyData.eqv z pd) = b := by
  unfold inB at h
  cases hs : seqOf e with
  | none => rw [hs] at h; cases h
  | some ds =>
    simp only [hs] at h
    by_cases hf : flatD d = true ∧ ds.all flatD = true
    · rw [if_pos hf] at h
      cases h
      obtain ⟨p, xs, rfl, h1, r1⟩ := a2.seq hs s
      have dr := a1.dr s
      exact .inl ⟨p, xs, rfl, h1, dr.flat hf.1, (r1.up s).flat hf.2, any_eqF dr hf.1 (r1.up s) hf.2⟩
    · rw [if_neg hf] at h
      by_cases hq : (lstOf e).isSome = true ∧ SeqAt.shaped d.py = true ∧ SeqAt.shaped (.list (pys ds)) = true
      · rw [if_pos hq] at h
        cases h
        obtain ⟨h1, h2, h3⟩ := hq
        refine .inr ⟨d.py, pys ds, DR.dp _ _ (a1.dr s) (SeqAt.canLay_of_shaped h2), ?_, h2, h3, rfl⟩
        have c := SeqAt.canLay_of_shaped h3
        have ee : e.py = .list (pys ds) := by
          cases e <;> try (cases h1; done)
          · cases hs; rw [D.py]
          · cases hs; rw [D.py]
        rw [← ee] at c ⊢
        exact DR.dp _ _ (a2.dr s) c
      · rw [if_neg hq] at h
        cases h
theorem ok_in (hu : X.A.units + 65 < cLine) : Op2Ok X (compareOp .In) gIn := by
  refine ⟨_, op_in_seq.or (op_inD hu), fun m M H x y d1 d2 res Q s a1 a2 e k => ?_⟩
  unfold gIn at e
  cases he : inB d1 d2 with
  | none => rw [he] at e; cases e
  | some b =>
    rw [he] at e
    cases e
    rcases inB_cases s a1 a2 he with ⟨p, xs, h1, h2, h3, h4, h5⟩ | ⟨pd, ds, h1, h2, h3, h4, h5⟩
    · exact .inl ⟨p, xs, h1, h2, h3, h4, by rw [h5]; exact k _ H M (Grow.refl s) (.bl _)⟩
    · exact .inr ⟨pd, ds, h1, h2, h3, h4, by rw [h5]; exact k _ H M (Grow.refl s) (.bl _)⟩
theorem ok_nin (hu : X.A.units + 65 < cLine) : Op2Ok X (compareOp .NotIn) gNin := by
  refine ⟨_, op_notIn_seq.or (op_notInD hu), fun m M H x y d1 d2 res Q s a1 a2 e k => ?_⟩
  unfold gNin at e
  cases he : inB d1 d2 with
  | none => rw [he] at e; cases e
  | some b =>
    rw [he] at e
    cases e
    rcases inB_cases s a1 a2 he with ⟨p, xs, h1, h2, h3, h4, h5⟩ | ⟨pd, ds, h1, h2, h3, h4, h5⟩
    · exact .inl ⟨p, xs, h1, h2, h3, h4, by simp only [h5, if_true]; exact k _ H M (Grow.refl s) (.bl _)⟩
    · exact .inr ⟨pd, ds, h1, h2, h3, h4, by rw [h5]; exact k _ H M (Grow.refl s) (.bl _)⟩

/-! ### isinstance of data -/
def tyN : D → Option String
  | .none => some "NoneType"
  | .bool _ => some "bool"
  | .int _ => some "int"
  | .str _ => some "str"
  | .list _ => some "list"
  | .lk _ => some "list"
  | .tup _ => some "tuple"
  | .dic _ => some "dict"
  | .obj _ => none
theorem Rd.tyL {K : PySem.W.Frag} {H : Hp} {a : Addr} {xs : List V} (h : SqL K H a xs) : TyX K H (.ref a) (.type "list") := by
  rcases h with (h | ⟨o, h⟩) | ⟨o, its, n, hk, hc, _⟩
  · exact .base (.lst h)
  · exact .base (.frz h)
  · exact .kList hk hc
theorem Rd.tyT {K : PySem.W.Frag} {H : Hp} {a : Addr} {xs : List V} (h : SqT K H a xs) : TyX K H (.ref a) (.type "tuple") := by
  rcases h with (h | ⟨o, h⟩) | ⟨o, its, n, hk, hc, _⟩
  · exact .base (.tup h)
  · exact .fTuple h
  · exact .kTuple hk hc
theorem DR.ty {K : PySem.W.Frag} {m : List Addr} {H : Hp} {v : V} {d : D} {n : String} (h : DR K m H v d) (e : tyN d = some n) : TyX K H v (.type n) := by
  cases h with
  | non => cases e; exact .base .non
  | bl b => cases e; exact .base (.bl b)
  | int b => cases e; exact .base (.int b)
  | str b => cases e; exact .base (.str b)
  | list h _ => cases e; exact .base (.lst h)
  | lk h _ => cases e; exact Rd.tyL h
  | tup h _ => cases e; exact Rd.tyT h
  | dic h _ => cases e; exact .base (.dK h)
  | obj h => cases e
def isiB (n : String) (d : D) : Option Bool := (tyN d).bind fun t =>
  if t = n then some true else if t = "bool" ∧ n = "int" then some true else
    if n ∈ ["int", "bool", "str", "list", "tuple"] ∧ t ∈ ["NoneType", "bool", "int", "str", "list", "tuple", "dict"] then some false else none
theorem isiB_ok {n t : String} {b : Bool} (hn : n ∈ ["int", "bool", "str", "list", "tuple"]) (ht : t ∈ ["NoneType", "bool", "int", "str", "list", "tuple", "dict"])
    (h : (if t = n then some true else if t = "bool" ∧ n = "int" then some true else
      if n ∈ ["int", "bool", "str", "list", "tuple"] ∧ t ∈ ["NoneType", "bool", "int", "str", "list", "tuple", "dict"] then some false else none) = some b) : kitB t n = some b := by
  have all : ∀ n ∈ ["int", "bool", "str", "list", "tuple"], ∀ t ∈ ["NoneType", "bool", "int", "str", "list", "tuple", "dict"],
      kitB t n = (if t = n then some true else if t = "bool" ∧ n = "int" then some true else
      if n ∈ ["int", "bool", "str", "list", "tuple"] ∧ t ∈ ["NoneType", "bool", "int", "str", "list", "tuple", "dict"] then some false else none) := by decide +kernel
  rw [all n hn t ht]
  exact h
theorem tyN_mem {d : D} {t : String} (h : tyN d = some t) : t ∈ ["NoneType", "bool", "int", "str", "list", "tuple", "dict"] := by
  cases d <;> first | (cases h; decide) | cases h
def pIsi (n : String) (f : Sta → PR RV) : Sta → PR RV := p1 (fun d => (isiB n d).map fun b => sh (.bool b)) f
theorem ev_isi {a : Expr} {x : Str} {n : String} {fa : Sta → PR RV} {p p' pos : Pos} (hn : n ∈ ["int", "bool", "str", "list", "tuple"]) (ha : PEv X T W a fa) (hg : Gl X "isinstance") (hm : X.mg "isinstance" = Option.none)
    (hgx : Gl X x) (hmx : X.mg x = Option.none) (hv : bootBuiltins x = some (.type n)) (hnx : x ≠ "__name__" := by decide) (hdx : (x == ("__debug__" : Str)) = false := by decide)
    (he1 : starEach [.Name x p'] X.env = (false, eval (.Name x p') X.env) :: starEach [] X.env := by rfl)
    (he : starEach [a, .Name x p'] X.env = (false, eval a X.env) :: starEach [.Name x p'] X.env := by rfl) (hpl : (backTo pos (starEach [.Name x p'] X.env)).any (·.1) = false := by rfl) :
    PEv X T W (.Call (.Name "isinstance" p) [a, .Name x p'] [] pos) (pIsi n fa) := by
  refine PE.wk (pe_callB call_isi hg hm (by decide +kernel) (pa_cons ha (pa_cons (pe_bltn (v := .ty n) hgx hmx hv rfl hnx hdx) pa_nil he1) he) (by decide) (by decide) he hpl) ?_
  rintro σ H Q ⟨s, m, M, G, R, q⟩
  refine ⟨s, m, M, G, R, ?_⟩
  revert q
  unfold pIsi p1 PR.bind
  cases fa s with
  | ok r =>
    intro q y H1 M1 g1 rr
    dsimp only at q
    cases hb : isiB n r.d with
    | none => simp only [hb, Option.map_none, PR.of] at q
    | some b =>
      simp only [hb, Option.map_some, PR.of] at q
      unfold isiB at hb
      cases ht : tyN r.d with
      | none => rw [ht] at hb; cases hb
      | some t =>
        rw [ht] at hb
        refine ⟨y, .ty n, .type t, .type n, b, rfl, .ty n, (rr.arg.dr g1.mh).ty ht, kit_ty (isiB_ok hn (tyN_mem ht) hb), q _ H1 M1 g1 (.bl b)⟩
  | exc e => intro q; exact q
  | stuck => intro q; exact q
end
end MP

/-! MP 5: statements. -/
namespace MP
open PySem PySem.Spec PyProof.Rows L2

/-- how a statement ends -/
inductive Fl where
  | nx (s : Sta) | ret (r : Slot) (s : Sta) | brk (s : Sta) | cont (s : Sta) | exc (e : Ex) (s : Sta) | stuck
/-- whether objects may be made: then the store and its places are as long -/
def AL (al : Bool) (m : List Addr) (s : Sta) : Prop := al = true → m.length = s.st.length
structure Ext (al : Bool) (G : Hp) (m : List Addr) (M : Hp) (m' : List Addr) (M' : Hp) : Prop where
  ml : MLe m m'
  nl : al = false → m' = m
  mm : Same M M'
  new : ∀ a o, M' a = some o → M a = some o ∨ G a = Option.none
theorem Ext.refl (al : Bool) (G : Hp) (m : List Addr) (M : Hp) : Ext al G m M m M := ⟨MLe.refl _, fun _ => rfl, Same.refl _, fun _ _ h => .inl h⟩
theorem Ext.trans {al : Bool} {G : Hp} {m m1 m2 : List Addr} {M M1 M2 : Hp} (a : Ext al G m M m1 M1) (b : Ext al G m1 M1 m2 M2) : Ext al G m M m2 M2 :=
  ⟨a.ml.trans b.ml, fun h => (b.nl h).trans (a.nl h), a.mm.trans b.mm, fun x o h => (b.new x o h).elim (fun h => a.new x o h) .inr⟩
theorem Ext.grow {al : Bool} {G : Hp} {m : List Addr} {H M H' M' : Hp} (g : Grow H M H' M') (gh : Same G H) : Ext al G m M m M' :=
  ⟨MLe.refl _, fun _ => rfl, g.mm, fun x o h => (g.new x o h).elim .inl fun h => .inr (gh.free h)⟩

section
variable (X : Cx) (T : Tab) (W : WX)
def FlP (al : Bool) (G : Hp) (m : List Addr) (M : Hp) (Dn : Ends) : Fl → Prop
  | .nx s' => ∀ σ' H' m' M', Ext al G m M m' M' → AL al m' s' → Rel X.K T m' M' G H' s' σ' → Dn.nx σ' H'
  | .brk s' => ∀ σ' H' m' M', Ext al G m M m' M' → AL al m' s' → Rel X.K T m' M' G H' s' σ' → Dn.bk σ' H'
  | .cont s' => ∀ σ' H' m' M', Ext al G m M m' M' → AL al m' s' → Rel X.K T m' M' G H' s' σ' → Dn.ct σ' H'
  | .ret r s' => ∀ y H' m' M', Ext al G m M m' M' → AL al m' s' → Rel X.K T m' M' G H' ⟨[r], s'.st⟩ [some y] → Dn.rt y H'
  | .exc e s' => ∀ cls d σ' H' m' M', Ext al G m M m' M' → AL al m' s' → Rel X.K T m' M' G H' s' σ' → ExR X.K T m' M' H' e cls d → W cls d σ' H'
  | .stuck => False
def tS (al : Bool) (g : Sta → Fl) : TS := fun Dn σ H => ∃ s m M G, Rel X.K T m M G H s σ ∧ AL al m s ∧ FlP X T W al G m M Dn (g s)
abbrev SEv (al : Bool) (st : List Stmt) (g : Sta → Fl) : Prop := PSs X st (tS X T W al g)
abbrev SE1 (al : Bool) (st : Stmt) (g : Sta → Fl) : Prop := PS X st (tS X T W al g)
end
theorem PS.wk {X : Cx} {e : Stmt} {t t' : TS} (h : PS X e t) (w : ∀ D σ H, t' D σ H → t D σ H) : PS X e t' := ⟨fun pins s σ H D I q => h.run pins s σ H D I (w _ _ _ q)⟩
theorem PSs.wk {X : Cx} {e : List Stmt} {t t' : TS} (h : PSs X e t) (w : ∀ D σ H, t' D σ H → t D σ H) : PSs X e t' := ⟨fun pins s σ H D I q => h.run pins s σ H D I (w _ _ _ q)⟩

section
variable {X : Cx} {T : Tab} {W : WX} {al : Bool} {G : Hp} {m m' : List Addr} {M M' : Hp} {Dn : Ends}
theorem FlP.ext {fl : Fl} (h : FlP X T W al G m M Dn fl) (e : Ext al G m M m' M') : FlP X T W al G m' M' Dn fl := by
  cases fl with
  | nx s => exact fun σ' H' m2 M2 e2 => h σ' H' m2 M2 (e.trans e2)
  | brk s => exact fun σ' H' m2 M2 e2 => h σ' H' m2 M2 (e.trans e2)
  | cont s => exact fun σ' H' m2 M2 e2 => h σ' H' m2 M2 (e.trans e2)
  | ret r s => exact fun y H' m2 M2 e2 => h y H' m2 M2 (e.trans e2)
  | exc x s => exact fun cls d σ' H' m2 M2 e2 => h cls d σ' H' m2 M2 (e.trans e2)
  | stuck => exact h
variable {st : Stmt} {rest : List Stmt} {e : Expr} {pos p : Pos} {g g1 g2 : Sta → Fl} {f : Sta → PR RV}
def sNil : Sta → Fl := .nx
def sSeq (g1 g2 : Sta → Fl) : Sta → Fl := fun s => match g1 s with
  | .nx s' => g2 s'
  | fl => fl
theorem ss_nil : SEv X T W al [] sNil := PSs.wk pss_nil fun D σ H ⟨s, m, M, G, R, a, q⟩ => q σ H m M (Ext.refl ..) a R
theorem ss_cons (h1 : SE1 X T W al st g1) (h2 : SEv X T W al rest g2) : SEv X T W al (st :: rest) (sSeq g1 g2) := by
  refine PSs.wk (pss_cons h1 h2) ?_
  rintro D σ H ⟨s, m, M, G, R, a, q⟩
  refine ⟨s, m, M, G, R, a, ?_⟩
  unfold sSeq at q
  cases hg : g1 s with
  | nx s' =>
    rw [hg] at q
    exact fun σ' H' m' M' e a' R' => ⟨s', m', M', G, R', a', FlP.ext q e⟩
  | brk s' => rw [hg] at q; exact q
  | cont s' => rw [hg] at q; exact q
  | ret r s' => rw [hg] at q; exact q
  | exc x s' => rw [hg] at q; exact q
  | stuck => rw [hg] at q; exact q
theorem ss_one (h1 : SE1 X T W al st g1) : SEv X T W al [st] g1 := PSs.wk (pss_one h1) fun D σ H h => h
theorem s_pass : SE1 X T W al (.Pass pos) sNil := PS.wk ps_pass fun D σ H ⟨s, m, M, G, R, a, q⟩ => q σ H m M (Ext.refl ..) a R
def sBrk : Sta → Fl := .brk
def sCont : Sta → Fl := .cont
theorem s_break : SE1 X T W al (.Break pos) sBrk := PS.wk ps_break fun D σ H ⟨s, m, M, G, R, a, q⟩ => q σ H m M (Ext.refl ..) a R
theorem s_cont : SE1 X T W al (.Continue pos) sCont := PS.wk ps_continue fun D σ H ⟨s, m, M, G, R, a, q⟩ => q σ H m M (Ext.refl ..) a R

/-- a result, then a statement's end -/
def PR.fl {α : Type} (x : PR α) (s : Sta) (k : α → Fl) : Fl := match x with
  | .ok a => k a
  | .exc e => .exc e s
  | .stuck => .stuck
theorem tD_fl {f : Sta → PR D} {k : Sta → D → Fl} {σ : L2.St} {H : Hp} {Q : VK} {s : Sta} (R : Rel X.K T m M G H s σ) (a : AL al m s) (q : FlP X T W al G m M Dn ((f s).fl s (k s)))
    (h : ∀ d y H' M', f s = .ok d → Grow H M H' M' → DR X.K m M' y d → FlP X T W al G m M' Dn (k s d) → Q y H') : tD X T W f σ H Q := by
  refine ⟨s, m, M, G, R, ?_⟩
  unfold PR.fl at q
  cases hf : f s with
  | ok d =>
    rw [hf] at q
    exact fun y H' M' g r => h d y H' M' hf g r (FlP.ext q (Ext.grow g R.gh))
  | exc x =>
    rw [hf] at q
    exact fun cls d H' M' g x => q cls d σ H' m M' (Ext.grow g R.gh) a (R.grow g) x
  | stuck => rw [hf] at q; exact q
theorem tP_fl {f : Sta → PR RV} {k : Sta → RV → Fl} {σ : L2.St} {H : Hp} {Q : VK} {s : Sta} (R : Rel X.K T m M G H s σ) (a : AL al m s) (q : FlP X T W al G m M Dn ((f s).fl s (k s)))
    (h : ∀ r y H' M', f s = .ok r → Grow H M H' M' → RR X.K m M' H H' y r → FlP X T W al G m M' Dn (k s r) → Q y H') : tP X T W f σ H Q := by
  refine ⟨s, m, M, G, R, ?_⟩
  unfold PR.fl at q
  cases hf : f s with
  | ok d =>
    rw [hf] at q
    exact fun y H' M' g r => h d y H' M' hf g r (FlP.ext q (Ext.grow g R.gh))
  | exc x =>
    rw [hf] at q
    exact fun cls d H' M' g x => q cls d σ H' m M' (Ext.grow g R.gh) a (R.grow g) x
  | stuck => rw [hf] at q; exact q
theorem tT_fl {f : Sta → PR Bool} {k : Sta → Bool → Fl} {σ : L2.St} {H : Hp} {Q : Bool → Hp → Prop} {s : Sta} (R : Rel X.K T m M G H s σ) (a : AL al m s) (q : FlP X T W al G m M Dn ((f s).fl s (k s)))
    (h : ∀ b H' M', f s = .ok b → Grow H M H' M' → FlP X T W al G m M' Dn (k s b) → Q b H') : tT X T W f σ H Q := by
  refine ⟨s, m, M, G, R, ?_⟩
  unfold PR.fl at q
  cases hf : f s with
  | ok d =>
    rw [hf] at q
    exact fun H' M' g => h d H' M' hf g (FlP.ext q (Ext.grow g R.gh))
  | exc x =>
    rw [hf] at q
    exact fun cls d H' M' g x => q cls d σ H' m M' (Ext.grow g R.gh) a (R.grow g) x
  | stuck => rw [hf] at q; exact q

/-- an expression whose value is dropped -/
def sExpr (f : Sta → PR RV) : Sta → Fl := fun s => (f s).fl s fun _ => .nx s
theorem s_expr (he : PEv X T W e f) (hs : swapsWith e none pos.line X.env = pure false := by rfl) : SE1 X T W al (.Expr e pos) (sExpr f) := by
  refine PS.wk (ps_expr he hs) ?_
  rintro D σ H ⟨s, m, M, G, R, a, q⟩
  refine tP_fl (k := fun s _ => .nx s) R a q fun r y H' M' _ g rr k => ?_
  exact k σ H' m M' (Ext.refl ..) a (R.grow g)
/-- name = value, shared -/
def sSetV (i : Nat) (f : Sta → PR D) : Sta → Fl := fun s => (f s).fl s fun d => .nx { s with env := s.env.set i (.v d) }
theorem s_setV {i : Nat} {x : Str} {f : Sta → PR D} {pos' : Pos} (hN : X.N.Nodup) (hi : X.N[i]? = some x) (hx : Loc X.env.scope x) (he : PDv X T W e f) (hs : swapsWith e (some (.Name x pos')) pos.line X.env = pure false := by rfl) (hf : X.fn x = true ∨ X.env.scope.names.lookup x = some .local := by first | exact .inl rfl | exact .inr rfl | assumption) :
    SE1 X T W al (.Assign [.Name x pos'] e pos) (sSetV i f) := by
  refine PS.wk (ps_set hN hi hx he hs hf) ?_
  rintro D σ H ⟨s, m, M, G, R, a, q⟩
  refine tD_fl (k := fun s d => .nx { s with env := s.env.set i (.v d) }) R a q fun d y H' M' _ g r k => ?_
  exact k _ H' m M' (Ext.refl ..) a ((R.grow g).setV i r)
/-- name = value, its own where it is new -/
def RV.slot (r : RV) : PR Slot := match r.k with
  | .sh => .ok (.v r.d)
  | .fr => .ok (.own r.d)
  | .pk => .stuck
def sSetO (i : Nat) (f : Sta → PR RV) : Sta → Fl := fun s => (f s).fl s fun r => (r.slot).fl s fun sl => .nx { s with env := s.env.set i sl }
theorem Rel.setRV {s : Sta} {σ : L2.St} {H H' : Hp} (R : Rel X.K T m M G H s σ) (g : Grow H M H' M') {y : V} {r : RV} (rr : RR X.K m M' H H' y r) {sl : Slot} (e : r.slot = .ok sl) (i : Nat) :
    Rel X.K T m M' G H' { s with env := s.env.set i sl } (σ.set i (some y)) := by
  obtain ⟨k, d⟩ := r
  cases k with
  | sh => cases e; exact (R.grow g).setV i rr
  | fr =>
    cases e
    obtain ⟨a, o, rfl, h2, h3, h4, h5⟩ := rr
    exact R.setOwn g i h2 h3 h4 h5
  | pk => cases e
theorem slot_ne {r : RV} {e : Ex} (h : r.slot = .exc e) : False := by obtain ⟨k, d⟩ := r; cases k <;> cases h
theorem setO_of {i : Nat} {D : Ends} {σ : L2.St} {H : Hp} (h : tS X T W al (sSetO i f) D σ H) : tAsg (tP X T W f) (gName i) D σ H := by
  obtain ⟨s, m, M, G, R, a, q⟩ := h
  refine tP_fl (k := fun s r => (r.slot).fl s fun sl => .nx { s with env := s.env.set i sl }) R a q fun r y H' M' _ g rr k => ?_
  unfold PR.fl at k
  cases hs : r.slot with
  | ok sl =>
    rw [hs] at k
    exact k _ H' m M' (Ext.refl ..) a (R.setRV g rr hs i)
  | exc e => exact (slot_ne hs).elim
  | stuck => rw [hs] at k; exact k.elim
theorem s_setO {i : Nat} {x : Str} {pos' : Pos} (hN : X.N.Nodup) (hi : X.N[i]? = some x) (hx : Loc X.env.scope x) (he : PEv X T W e f) (hs : swapsWith e (some (.Name x pos')) pos.line X.env = pure false := by rfl) (hf : X.fn x = true ∨ X.env.scope.names.lookup x = some .local := by first | exact .inl rfl | exact .inr rfl | assumption) :
    SE1 X T W al (.Assign [.Name x pos'] e pos) (sSetO i f) := PS.wk (ps_set hN hi hx he hs hf) fun D σ H h => setO_of h
/-- name = [..] -/
theorem s_setLc {i : Nat} {y : Str} {py spos : Pos} {elt tg iter : Expr} {ifs : List Expr} {scope : Scope} {own : List (Str × Nat)} {ff : Sta → PR (List D)} {t : Tg} {tt : Sta → PR Bool} {te : Sta → PR D} (hc : X.calm = true) (hN : X.N.Nodup) (hy : X.N[i]? = some y) (hyl : X.env.scope.names.lookup y = some .local)
    (hsw : swapsWith (.ListComp elt [⟨tg, iter, ifs, 0⟩] scope pos) (some (.Name y py)) spos.line X.env = pure true) (hi : PIc X T W tg iter ff) (ok : BlkOk X.N X.env.scope scope own) (hv : ∀ i ∈ t.ixs, i ∈ own.map (·.2))
    (hg : ∀ (s : Shared) (H : Hp) (C : Addr) (cl : List (Str × Addr)) (fp : List Addr), PG (X.blk s H scope (compEnvC scope cl C X.env) fp) tg (tgR X.K t))
    (ht : ∀ (s : Shared) (H : Hp) (C : Addr) (cl : List (Str × Addr)) (fp : List Addr), PTsv (X.blk s H scope (compEnvC scope cl C X.env) fp) T W0 ifs tt)
    (he : ∀ (s : Shared) (H : Hp) (C : Addr) (cl : List (Str × Addr)) (fp : List Addr), PDv (X.blk s H scope (compEnvC scope cl C X.env) fp) T W0 elt te) (hs : ∀ x, foldedSetIterable iter X.env x = pure x := by intro _; rfl) :
    SE1 X T W al (.Assign [.Name y py] (.ListComp elt [⟨tg, iter, ifs, 0⟩] scope pos) spos) (sSetO i (pComp ff t (own.map (·.2)) tt te)) := by
  refine PS.wk (ps_setLc (tt := tT X T W0 tt) (te := tD X T W0 te) hc hN hy hyl hsw hi ok hg ht he hs) fun D σ H h => ?_
  have h2 := setO_of h
  exact tLc_of hv h2
/-- a name's own list is shared from now on (nothing runs) -/
def frz (i : Nat) (s : Sta) : Sta := match s.env[i]? with
  | some (.own d) => { s with env := s.env.set i (.v d) }
  | _ => s
def sFrz (i : Nat) (g : Sta → Fl) : Sta → Fl := fun s => g (frz i s)
theorem Rel.frz {s : Sta} {σ : L2.St} {H : Hp} (R : Rel X.K T m M G H s σ) (i : Nat) : ∃ M', Ext al G m M m M' ∧ Rel X.K T m M' G H (MP.frz i s) σ := by
  unfold MP.frz
  obtain ⟨mh, gh, ⟨f1, f2, h1, h2, nd, dj⟩⟩ := R
  have same : ∃ M', Ext al G m M m M' ∧ Rel X.K T m M' G H s σ := ⟨M, Ext.refl .., mh, gh, f1, f2, h1, h2, nd, dj⟩
  split
  · rename_i d hs
    obtain ⟨g0, g1, g2, y, ef, ey, hy, k⟩ := h1.split hs
    obtain ⟨a, o, ef1, rfl, ha, hd⟩ := hy
    subst ef ef1
    have dja := dj a (by simp)
    have mm : Same M (upd M a o) := Same.upd dja.1
    refine ⟨upd M a o, ⟨MLe.refl _, fun _ => rfl, mm, fun b u e => ?_⟩, fun b u e => ?_, gh, ?_⟩
    · by_cases hb : b = a
      · subst hb; exact .inr dja.2
      · rw [upd_ne hb] at e; exact .inl e
    · by_cases hb : b = a
      · subst hb; rw [upd_same] at e; rw [← e]; exact ha
      · rw [upd_ne hb] at e; exact mh _ _ e
    · have eσ : σ = σ.set i (some (.ref a)) := by
        apply List.ext_getElem?
        intro j
        by_cases hj : i = j
        · subst hj
          rw [List.getElem?_set_self (by rw [← h1.len]; exact (List.getElem?_eq_some_iff.mp hs).1)]
          exact ey
        · rw [List.getElem?_set_ne hj]
      have k2 := k m (upd M a o) H (.v d) (some (.ref a)) [] (MLe.refl _) mm (fun _ _ => rfl) ⟨rfl, _, rfl, (hd.mono (MLe.refl _) mm).dr (Same.refl _) upd_same⟩
      rw [← eσ] at k2
      have sub : ((g0 ++ [] ++ g2) ++ f2).Sublist ((g0 ++ [a] ++ g2) ++ f2) := by simp
      refine ⟨g0 ++ [] ++ g2, f2, k2, h2.mono (MLe.refl _) (MLe.refl _) mm fun _ _ => rfl, nd.sublist sub, fun b hb => ?_⟩
      have hb' : b ∈ (g0 ++ [a] ++ g2) ++ f2 := sub.subset hb
      have hne : b ≠ a := by
        rintro rfl
        have perm : List.Perm ((g0 ++ [b] ++ g2) ++ f2) (b :: ((g0 ++ [] ++ g2) ++ f2)) := by
          simp only [List.append_nil, List.append_assoc, List.singleton_append]
          exact List.perm_middle
        have := perm.nodup_iff.mp nd
        exact (List.nodup_cons.mp this).1 hb
      rw [upd_ne hne]
      exact dj b hb'
  · exact same
theorem s_frz {i : Nat} (h : SE1 X T W al st g) : SE1 X T W al st (sFrz i g) := by
  refine PS.wk h ?_
  rintro D σ H ⟨s, m, M, G, R, a, q⟩
  obtain ⟨M', e, R'⟩ := R.frz (al := al) i
  refine ⟨_, m, M', G, R', fun h => ?_, FlP.ext q e⟩
  rw [a h]
  unfold frz
  split <;> rfl
/-- return -/
def sRet (f : Sta → PR RV) : Sta → Fl := fun s => (f s).fl s fun r => (r.slot).fl s fun sl => .ret sl s
def sRetN : Sta → Fl := fun s => .ret (.v .none) s
theorem Rel.only {s : Sta} {σ : L2.St} {H : Hp} (R : Rel X.K T m M G H s σ) {d : D} {y : V} (r : DR X.K m M y d) : Rel X.K T m M G H ⟨[.v d], s.st⟩ [some y] := by
  obtain ⟨mh, gh, ⟨f1, f2, h1, h2, nd, dj⟩⟩ := R
  exact ⟨mh, gh, [], f2, ⟨[], [], rfl, ⟨rfl, y, rfl, r⟩, rfl⟩, h2, (List.nodup_append.mp nd).2.1, fun a ha => dj a (by simpa using .inr ha)⟩
theorem Rel.onlyS {s : Sta} {σ : L2.St} {H : Hp} {i : Nat} {sl : Slot} {y : Option V} (R : Rel X.K T m M G H s σ) (hs : s.env[i]? = some sl) (hy : σ[i]? = some y) : Rel X.K T m M G H ⟨[sl], s.st⟩ [y] := by
  obtain ⟨mh, gh, ⟨f1, f2, h1, h2, nd, dj⟩⟩ := R
  obtain ⟨g0, g1, g2, y0, ef, ey, hy', k⟩ := h1.split hs
  rw [hy] at ey
  cases ey
  subst ef
  have sub : (g1 ++ f2).Sublist ((g0 ++ g1 ++ g2) ++ f2) := by
    refine List.Sublist.append ?_ (List.Sublist.refl _)
    exact (List.sublist_append_right g0 g1).trans (List.sublist_append_left _ _)
  exact ⟨mh, gh, g1, f2, ⟨g1, [], by simp, hy', rfl⟩, h2, nd.sublist sub, fun a ha => dj a (sub.subset ha)⟩
theorem s_ret (he : PEv X T W e f) : SE1 X T W al (.Return (some e) pos) (sRet f) := by
  refine PS.wk (ps_ret he) ?_
  rintro D σ H ⟨s, m, M, G, R, a, q⟩
  refine tP_fl (k := fun s r => (r.slot).fl s fun sl => .ret sl s) R a q fun r y H' M' _ g rr k => ?_
  unfold PR.fl at k
  cases hs : r.slot with
  | ok sl =>
    rw [hs] at k
    refine k y H' m M' (Ext.refl ..) a ?_
    have R1 : Rel X.K T m M G H ⟨[.un], s.st⟩ [Option.none] := by
      obtain ⟨mh, gh, ⟨f1, f2, h1, h2, nd, dj⟩⟩ := R
      exact ⟨mh, gh, [], f2, ⟨[], [], rfl, rfl, rfl⟩, h2, (List.nodup_append.mp nd).2.1, fun a ha => dj a (by simpa using .inr ha)⟩
    exact R1.setRV g rr hs 0
  | exc e => exact (slot_ne hs).elim
  | stuck => rw [hs] at k; exact k.elim
/-- return of a name's own list -/
def sRetS (i : Nat) : Sta → Fl := fun s => match s.env[i]? with
  | some (.own d) => .ret (.own d) s
  | some (.v d) => .ret (.v d) s
  | _ => .stuck
theorem s_retS {i : Nat} {x : Str} (h : PE X (.Name x p) (tVar i)) : SE1 X T W al (.Return (some (.Name x p)) pos) (sRetS i) := by
  refine PS.wk (ps_ret h) ?_
  rintro D σ H ⟨s, m, M, G, R, a, q⟩
  unfold sRetS at q
  have R0 := R
  obtain ⟨mh, gh, ⟨f1, f2, h1, h2, nd, dj⟩⟩ := R
  split at q
  · rename_i d hs
    obtain ⟨y, fy, ey, ⟨b, o, _, rfl, hb, hd⟩, _⟩ := h1.at hs
    exact ⟨_, ey, q _ H m M (Ext.refl ..) a (R0.onlyS hs ey)⟩
  · rename_i d hs
    obtain ⟨y, fy, ey, ⟨_, y', rfl, hd⟩, _⟩ := h1.at hs
    exact ⟨_, ey, q _ H m M (Ext.refl ..) a (R0.onlyS hs ey)⟩
  · exact q.elim
theorem s_retN : SE1 X T W al (.Return none pos) sRetN := by
  refine PS.wk ps_retN ?_
  rintro D σ H ⟨s, m, M, G, R, a, q⟩
  exact q .non H m M (Ext.refl ..) a (R.only .non)
/-- if -/
def sIf (t : Sta → PR Bool) (g1 g2 : Sta → Fl) : Sta → Fl := fun s => (t s).fl s fun b => if b then g1 s else g2 s
theorem s_if {c : Expr} {A B : List Stmt} {t : Sta → PR Bool} (hc : PTv X T W c t) (ha : SEv X T W al A g1) (hb : SEv X T W al B g2) : SE1 X T W al (.If c A B pos) (sIf t g1 g2) := by
  refine PS.wk (ps_if hc ha hb) ?_
  rintro D σ H ⟨s, m, M, G, R, a, q⟩
  refine tT_fl (k := fun s b => if b then g1 s else g2 s) R a q fun b H' M' _ g k => ?_
  cases b with
  | true => exact ⟨s, m, M', G, R.grow g, a, k⟩
  | false => exact ⟨s, m, M', G, R.grow g, a, k⟩
/-- several targets -/
def sTup (t : Tg) (f : Sta → PR D) : Sta → Fl := fun s => (f s).fl s fun d => match t.bind d s.env with
  | some env => .nx { s with env := env }
  | none => .stuck
theorem s_tup {tg : Expr} {t : Tg} {f : Sta → PR D} (he : PDv X T W e f) (hg : PG X tg (tgR X.K t)) (hs : swapsWithSole [tg] e pos.line X.env = pure false := by rfl) (hw : swappedStores [tg] e X.env = pure none := by rfl)
    (h1 : (assignEach [tg] X.env).map (·.2) = [assign tg X.env] := by rfl) : SE1 X T W al (.Assign [tg] e pos) (sTup t f) := by
  refine PS.wk (ps_asg he hg hs hw h1) ?_
  rintro D σ H ⟨s, m, M, G, R, a, q⟩
  refine tD_fl (k := fun s d => match t.bind d s.env with | some env => .nx { s with env := env } | none => .stuck) R a q fun d y H' M' _ g r k => ?_
  cases hb : t.bind d s.env with
  | none => rw [hb] at k; exact k.elim
  | some env =>
    rw [hb] at k
    exact tgR_of (T := T) (G := G) hb r (R.grow g) (Off.refl t.ixs σ) (fun _ h => h) fun σ' R' _ => k σ' H' m M' (Ext.refl ..) a R'

/-! ### loops -/
def loopL (t : Tg) (g : Sta → Fl) : List D → Sta → Fl
  | [], s => .nx s
  | d :: ds, s => match t.bind d s.env with
    | none => .stuck
    | some env => match g { s with env := env } with
      | .nx s' => loopL t g ds s'
      | .cont s' => loopL t g ds s'
      | .brk s' => .nx s'
      | fl => fl
def sFor (f : Sta → PR (List D)) (t : Tg) (g : Sta → Fl) : Sta → Fl := fun s => (f s).fl s fun ds => loopL t g ds s
theorem s_for {tg iter : Expr} {body : List Stmt} {ff : Sta → PR (List D)} {t : Tg} (hp : PassesOwn (model X.prog X.w) X.A X.env X.xe) (hc : X.calm = true) (hi : PIv X T W tg iter ff) (hg : PG X tg (tgR X.K t)) (hb : SEv X T W al body g)
    (hs : ∀ x, foldedSetIterable iter X.env x = pure x := by intro _; rfl) : SE1 X T W al (.For tg iter body [] pos) (sFor ff t g) := by
  refine PS.wk (ps_for hp hc hi hg hb hs) ?_
  rintro D σ H ⟨s, m, M, G, R, a, q⟩
  refine ⟨s, m, M, G, R, ?_⟩
  unfold sFor PR.fl at q
  cases hf : ff s with
  | ok ds =>
    rw [hf] at q
    intro J H1 M1 g1 it
    refine ⟨fun i μ σ' H' => μ = ds.length - i ∧ i ≤ ds.length ∧ ∃ s' m' M', Ext al G m M1 m' M' ∧ AL al m' s' ∧ Rel X.K T m' M' G H' s' σ' ∧ FlP X T W al G m' M' D (loopL t g (ds.drop i) s'),
      ⟨ds.length, rfl, Nat.zero_le _, s, m, M1, Ext.refl .., a, R.grow g1, FlP.ext q (Ext.grow g1 R.gh)⟩, ?_⟩
    rintro i μ σ' H' ⟨rfl, hi', s', m', M', e', a', R', q'⟩
    have iti := fun d => (it i M' H' e'.mm R'.mh (Same.none _)).1 d
    by_cases hlt : i < ds.length
    · have hd : ds[i]? = some ds[i] := by simp [hlt]
      have hdrop : ds.drop i = ds[i] :: ds.drop (i + 1) := List.drop_eq_getElem_cons hlt
      generalize ds[i] = d at hd hdrop
      obtain ⟨go, yld⟩ := iti d hd
      rw [hdrop, loopL] at q'
      cases hb' : t.bind d s'.env with
      | none => rw [hb'] at q'; exact q'.elim
      | some env =>
        simp only [hb'] at q'
        refine .inr ⟨go, fun σ' H' => ∃ s' m' M', Ext al G m M1 m' M' ∧ AL al m' s' ∧ Rel X.K T m' M' G H' s' σ' ∧ FlP X T W al G m' M' D (loopL t g (ds.drop (i + 1)) s'),
          fun σ2 H2 hN => ⟨ds.length - (i + 1), by omega, rfl, hlt, hN⟩, fun x H2 hy => ?_⟩
        obtain ⟨M2, gy, rx⟩ := yld x H2 hy
        -- the iterator yields data at m: it is data at m' too
        have rx' : DR X.K m' M2 x d := DR.mono e'.ml (Same.refl _) _ _ rx
        refine tgR_of (T := T) (G := G) hb' rx' (R'.grow gy) (Off.refl t.ixs σ') (fun _ h => h) fun σ3 R3 _ => ?_
        refine ⟨_, m', M2, G, R3, a', ?_⟩
        have ey : Ext al G m' M' m' M2 := Ext.grow gy R'.gh
        cases hgo : g { s' with env := env } with
        | nx s4 =>
          simp only [hgo] at q'
          exact fun σ5 H5 m5 M5 e5 a5 R5 => ⟨s4, m5, M5, e'.trans (ey.trans e5), a5, R5, FlP.ext q' (ey.trans e5)⟩
        | cont s4 =>
          simp only [hgo] at q'
          exact fun σ5 H5 m5 M5 e5 a5 R5 => ⟨s4, m5, M5, e'.trans (ey.trans e5), a5, R5, FlP.ext q' (ey.trans e5)⟩
        | brk s4 =>
          simp only [hgo] at q'
          exact fun σ5 H5 m5 M5 e5 a5 R5 => q' σ5 H5 m5 M5 (ey.trans e5) a5 R5
        | ret r s4 =>
          simp only [hgo] at q'
          exact fun y H5 m5 M5 e5 a5 R5 => q' y H5 m5 M5 (ey.trans e5) a5 R5
        | exc x s4 =>
          simp only [hgo] at q'
          exact fun cls dd σ5 H5 m5 M5 e5 a5 R5 => q' cls dd σ5 H5 m5 M5 (ey.trans e5) a5 R5
        | stuck => simp only [hgo] at q'; exact q'
    · have hie : i = ds.length := by omega
      subst hie
      rw [List.drop_length, loopL] at q'
      exact .inl ⟨(it ds.length M' H' e'.mm R'.mh (Same.none _)).2 (Nat.le_refl _), q' σ' H' m' M' (Ext.refl ..) a' R'⟩
  | exc x =>
    rw [hf] at q
    exact fun cls d H' M' g x => q cls d σ H' m M' (Ext.grow g R.gh) a (R.grow g) x
  | stuck => rw [hf] at q; exact q
def whL (c : Sta → PR Bool) (g : Sta → Fl) : Nat → Sta → Fl
  | 0, _ => .stuck
  | n + 1, s => (c s).fl s fun b => if b then (match g s with
      | .nx s' => whL c g n s'
      | .cont s' => whL c g n s'
      | .brk s' => .nx s'
      | fl => fl) else .nx s
def sWhile (n : Nat) (c : Sta → PR Bool) (g : Sta → Fl) : Sta → Fl := whL c g n
theorem s_while {c : Expr} {body : List Stmt} {t : Sta → PR Bool} (n : Nat) (hp : PassesOwn (model X.prog X.w) X.A X.env X.xe) (hc : PTv X T W c t) (hb : SEv X T W al body g) : SE1 X T W al (.While c body [] pos) (sWhile n t g) := by
  refine PS.wk (ps_while hp hc hb) ?_
  rintro D σ H ⟨s, m, M, G, R, a, q⟩
  refine ⟨fun k σ' H' => ∃ s' m' M', Ext al G m M m' M' ∧ AL al m' s' ∧ Rel X.K T m' M' G H' s' σ' ∧ FlP X T W al G m' M' D (whL t g k s'), ⟨n, s, m, M, Ext.refl .., a, R, q⟩, ?_⟩
  rintro k σ' H' ⟨s', m', M', e', a', R', q'⟩
  cases k with
  | zero => exact q'.elim
  | succ k =>
    rw [whL] at q'
    refine tT_fl (k := fun s b => if b then (match g s with | .nx s' => whL t g k s' | .cont s' => whL t g k s' | .brk s' => .nx s' | fl => fl) else .nx s) R' a' q' fun b H2 M2 _ gg kk => ?_
    have ey : Ext al G m' M' m' M2 := Ext.grow gg R'.gh
    cases b with
    | false =>
      rw [if_neg Bool.false_ne_true]
      exact kk σ' H2 m' M2 (Ext.refl ..) a' (R'.grow gg)
    | true =>
      rw [if_pos rfl]
      simp only [if_true] at kk
      refine ⟨fun σ3 H3 => ∃ s' m' M', Ext al G m M m' M' ∧ AL al m' s' ∧ Rel X.K T m' M' G H3 s' σ3 ∧ FlP X T W al G m' M' D (whL t g k s'), fun σ3 H3 hN => ⟨k, Nat.lt_succ_self _, hN⟩, ?_⟩
      refine ⟨s', m', M2, G, R'.grow gg, a', ?_⟩
      cases hgo : g s' with
      | nx s4 =>
        simp only [hgo] at kk
        exact fun σ5 H5 m5 M5 e5 a5 R5 => ⟨s4, m5, M5, e'.trans (ey.trans e5), a5, R5, FlP.ext kk e5⟩
      | cont s4 =>
        simp only [hgo] at kk
        exact fun σ5 H5 m5 M5 e5 a5 R5 => ⟨s4, m5, M5, e'.trans (ey.trans e5), a5, R5, FlP.ext kk e5⟩
      | brk s4 =>
        simp only [hgo] at kk
        exact kk
      | ret r s4 =>
        simp only [hgo] at kk
        exact kk
      | exc x s4 =>
        simp only [hgo] at kk
        exact kk
      | stuck => simp only [hgo] at kk; exact kk

/-! ### a name's own list is changed -/
/-- the object of a slot rewritten -/
theorem Rel.mut {s : Sta} {σ : L2.St} {H : Hp} {i : Nat} {d d' : D} {b : Addr} {o' : HO} (R : Rel X.K T m M G H s σ) (hs : s.env[i]? = some (.own d)) (hσ : σ[i]? = some (some (.ref b))) (ho : ObD X.K m M o' d') :
    Rel X.K T m M G (upd H b o') { s with env := s.env.set i (.own d') } σ := by
  obtain ⟨mh, gh, ⟨f1, f2, h1, h2, nd, dj⟩⟩ := R
  obtain ⟨g0, g1, g2, y, ef, ey, ⟨a, o, ef1, rfl, ha, hd⟩, k⟩ := h1.split hs
  rw [hσ] at ey
  cases ey
  subst ef ef1
  have dja := dj b (by simp)
  have eσ : σ = σ.set i (some (.ref b)) := by
    apply List.ext_getElem?
    intro j
    by_cases hj : i = j
    · subst hj
      rw [List.getElem?_set_self (by rw [← h1.len]; exact (List.getElem?_eq_some_iff.mp hs).1)]
      exact hσ
    · rw [List.getElem?_set_ne hj]
  have perm : List.Perm ((g0 ++ [b] ++ g2) ++ f2) (b :: ((g0 ++ g2) ++ f2)) := by
    simp only [List.append_assoc, List.singleton_append]
    exact List.perm_middle
  have nd' := List.nodup_cons.mp (perm.nodup_iff.mp nd)
  have off : ∀ c ∈ (g0 ++ g2) ++ f2, upd H b o' c = H c := fun c hc => upd_ne fun z => nd'.1 (by rw [← z]; exact hc)
  have k2 := k m M (upd H b o') (.own d') (some (.ref b)) [b] (MLe.refl _) (Same.refl _) (fun c hc => off c (List.mem_append_left _ hc)) ⟨b, o', rfl, rfl, upd_same, ho⟩
  rw [← eσ] at k2
  refine ⟨fun c u e => ?_, fun c u e => ?_, g0 ++ [b] ++ g2, f2, k2, h2.mono (MLe.refl _) (MLe.refl _) (Same.refl _) fun c hc => off c (List.mem_append_right _ hc), nd, dj⟩
  · rw [upd_ne (fun z => by rw [z, dja.1] at e; cases e)]
    exact mh _ _ e
  · rw [upd_ne (fun z => by rw [z, dja.2] at e; cases e)]
    exact gh _ _ e
/-- x.append(e) -/
def sApp (i : Nat) (f : Sta → PR D) : Sta → Fl := fun s => match s.env[i]? with
  | some (.own (.list ds)) => (f s).fl s fun d => if ds.length < 16777216 then .nx { s with env := s.env.set i (.own (.list (ds ++ [d]))) } else .stuck
  | _ => .stuck
theorem Rel.own {s : Sta} {σ : L2.St} {H : Hp} {i : Nat} {d : D} (R : Rel X.K T m M G H s σ) (hs : s.env[i]? = some (.own d)) : ∃ b o, σ[i]? = some (some (.ref b)) ∧ H b = some o ∧ ObD X.K m M o d := by
  obtain ⟨mh, gh, ⟨f1, f2, h1, h2, nd, dj⟩⟩ := R
  obtain ⟨yy, fy, ey, ⟨b, o, _, rfl, hb, hd⟩, _⟩ := h1.at hs
  exact ⟨b, o, ey, hb, hd⟩
theorem Rel.ownL {s : Sta} {σ : L2.St} {H : Hp} {i : Nat} {ds : List D} (R : Rel X.K T m M G H s σ) (hs : s.env[i]? = some (.own (.list ds))) : ∃ b xs, σ[i]? = some (some (.ref b)) ∧ H b = some (.lst xs) ∧ DRs X.K m M xs ds := by
  obtain ⟨b, o, h1, h2, h3⟩ := R.own hs
  cases h3 with
  | lst h3 => exact ⟨b, _, h1, h2, h3⟩
theorem app_of {i : Nat} {f : Sta → PR D} {D : Ends} {σ : L2.St} {H : Hp} (h : tS X T W al (sApp i f) D σ H) :
    tDrop (tBM X.K "list" rAppend (tVar i) (tCons (tD X T W f) tNil)) D σ H := by
  obtain ⟨s, m, M, G, R, a, q⟩ := h
  unfold sApp at q
  split at q
  · rename_i ds hs
    obtain ⟨b, xs, hσ, hb, hd⟩ := R.ownL hs
    refine ⟨_, hσ, .inl ⟨rfl, xs, SqL.of hb⟩, ?_⟩
    refine tD_fl (k := fun s d => if ds.length < 16777216 then .nx { s with env := s.env.set i (.own (.list (ds ++ [d]))) } else .stuck) R a q fun d y H' M' _ g r k => ?_
    by_cases hl : ds.length < 16777216
    · rw [if_pos hl] at k
      refine ⟨b, xs, y, rfl, rfl, g.same _ _ hb, by rw [hd.length, sizeLine_eq]; exact hl, ?_⟩
      exact k σ _ m M' (Ext.refl ..) a ((R.grow g).mut hs hσ (.lst ((hd.up g.mm).append (.cons r .nil))))
    · rw [if_neg hl] at k
      exact k.elim
  · exact q.elim
theorem s_app {i : Nat} {x : Str} {e : Expr} {f : Sta → PR D} {px apos cpos : Pos} (hx : PE X (.Name x px) (tVar i)) (he : PDv X T W e f)
    (hbase : attributeBase (.Name x px) "append" X.env (eval (.Name x px) X.env) = eval (.Name x px) X.env := by rfl)
    (hfew : ((backTo cpos (starEach [e] X.env)).all (fun x => !x.1) && (backToKw cpos (keywordEach [] X.env)).all (fun x => x.1.isSome)
      && decide ([e].length + ([] : List Keyword).length + (if ([] : List Keyword).isEmpty then 0 else 1) < 30)) = true := by rfl)
    (hline : (apos.endLine == cpos.line) = true := by rfl) (hs : starEach [e] X.env = (false, eval e X.env) :: starEach [] X.env := by rfl) (hplain : (backTo cpos (starEach [] X.env)).any (·.1) = false := by rfl)
    (hsw : swapsWith (.Call (.Attribute (.Name x px) "append" apos) [e] [] cpos) none pos.line X.env = pure false := by rfl) :
    SE1 X T W al (.Expr (.Call (.Attribute (.Name x px) "append" apos) [e] [] cpos) pos) (sApp i f) :=
  PS.wk (ps_expr (pe_bm PySem.F.plainAttrs_list PySem.F.slot_list_append PySem.F.type_list_append mt_append hx (pa_cons he pa_nil hs) hbase hfew hline hs hplain) hsw) fun D σ H h => app_of h
end
end MP

/-! MP 6: defs, calls, objects. -/
namespace MP
open PySem PySem.Spec PyProof.Rows L2

inductive Fr where
  | ok (r : Slot) (st : List Ob) | exc (e : Ex) (st : List Ob) | stuck
/-- what a def does: its arguments, the objects ahead; its result, the objects behind -/
abbrev Sem := List D → List Ob → Fr
def spF (K : PySem.W.Frag) (T : Tab) (al : Bool) (n : Nat) (sem : Sem) : Sp := fun vs H Q E => ∃ ds st m M G, vs.length = n ∧ DRs K m M vs ds ∧ Rel K T m M G H ⟨[], st⟩ [] ∧ AL al m ⟨[], st⟩ ∧ match sem ds st with
  | .ok r st' => ∀ y H' m' M', Ext al G m M m' M' → AL al m' ⟨[], st'⟩ → Rel K T m' M' G H' ⟨[r], st'⟩ [some y] → Q y H'
  | .exc e st' => ∀ cls d H' m' M', Ext al G m M m' M' → AL al m' ⟨[], st'⟩ → Rel K T m' M' G H' ⟨[], st'⟩ [] → ExR K T m' M' H' e cls d → E cls d H'
  | .stuck => False
def runB (N : Nat) (g : Sta → Fl) : Sem := fun ds st => match g ⟨ds.map Slot.v ++ List.replicate (N - ds.length) .un, st⟩ with
  | .nx s => .ok (.v .none) s.st
  | .ret r s => .ok r s.st
  | .exc e s => .exc e s.st
  | _ => .stuck

section
variable {K : PySem.W.Frag} {T : Tab} {m : List Addr} {M G H : Hp}
theorem slots_start : ∀ {vs : List V} {ds : List D}, DRs K m M vs ds → ∀ n : Nat, SlotsR K m M H (ds.map Slot.v ++ List.replicate n .un) (vs.map some ++ List.replicate n Option.none) []
  | _, _, .nil, 0 => rfl
  | _, _, .nil, n + 1 => ⟨[], [], rfl, rfl, slots_start .nil n⟩
  | _, _, .cons r t, n => ⟨[], [], rfl, ⟨rfl, _, rfl, r⟩, slots_start t n⟩
theorem Rel.start {st : List Ob} {vs : List V} {ds : List D} (R : Rel K T m M G H ⟨[], st⟩ []) (r : DRs K m M vs ds) (n : Nat) : Rel K T m M G H ⟨ds.map Slot.v ++ List.replicate n .un, st⟩ (vs.map some ++ List.replicate n Option.none) := by
  obtain ⟨mh, gh, ⟨f1, f2, h1, h2, nd, dj⟩⟩ := R
  have e : f1 = [] := h1
  subst e
  exact ⟨mh, gh, [], f2, slots_start r n, h2, nd, dj⟩
theorem Rel.store {s : Sta} {σ : L2.St} (R : Rel K T m M G H s σ) : Rel K T m M G H ⟨[], s.st⟩ [] := by
  obtain ⟨mh, gh, ⟨f1, f2, h1, h2, nd, dj⟩⟩ := R
  exact ⟨mh, gh, [], f2, rfl, h2, (List.nodup_append.mp nd).2.1, fun a ha => dj a (by simpa using .inr ha)⟩
end

section
variable {P : Program} {w : World} {K : PySem.W.Frag} {mg : Str → Option Value} {base : Heap} {T : Tab}
/-- THE RULE of a def: its body evaluated -/
theorem fn_ok {x qual : Str} {st : Stmt} {f : Addr} {fd : FuncData} {N ps : List Str} {k : Nat} {al : Bool} {g : Sta → Fl} (F : Fun K x qual st f fd) (S : FnScope N ps (defScope st))
    (hb : ∀ (cdv : Value) (A : Around) (outer : List Env) (s : Shared) (H : Hp) (E : XK), Room k (A.deeper (envOfC qual (defScope st) s.heap.objs.size f cdv)) →
      SEv (cxOf (L2.CX P w) P w K mg base N qual (defScope st) f cdv A outer s H E) T (fun cls d _ H => E cls d H) al (defBody st) g) :
    FnOk P w K mg base (L2.CX P w) (k + 1) f fd ps (spF K T al ps.length (runB N.length g)) := by
  refine F.okX S (fun vs H Q E h => ?_) fun cdv A outer s H vs Q E hr h => ?_
  · obtain ⟨ds, sto, m, M, G, hl, _⟩ := h
    exact hl
  · obtain ⟨ds, sto, m, M, G, hl, r, R, a, q⟩ := h
    refine ⟨_, hb cdv A outer s H E hr, ?_⟩
    have e : start N vs = vs.map some ++ List.replicate (N.length - ds.length) Option.none := by
      unfold L2.start
      rw [r.length]
    rw [e]
    refine ⟨⟨ds.map Slot.v ++ List.replicate (N.length - ds.length) Slot.un, sto⟩, m, M, G, R.start r (N.length - ds.length), a, ?_⟩
    unfold runB at q
    cases hg : g ⟨ds.map Slot.v ++ List.replicate (N.length - ds.length) .un, sto⟩ with
    | nx s' =>
      rw [hg] at q
      intro σ' H' m' M' e' a' R'
      exact q .non H' m' M' e' a' (R'.only (X := cxOf (L2.CX P w) P w K mg base N qual (defScope st) f cdv A outer s H E) .non)
    | ret r s' =>
      rw [hg] at q
      exact fun y H' m' M' e' a' R' => q y H' m' M' e' a' R'
    | exc x s' =>
      rw [hg] at q
      exact fun cls d σ' H' m' M' e' a' R' xr => q cls d H' m' M' e' a' R'.store xr
    | brk s' => rw [hg] at q; exact q.elim
    | cont s' => rw [hg] at q; exact q.elim
    | stuck => rw [hg] at q; exact q.elim
/-- a def to be called by its name -/
def Callee (P : Program) (w : World) (K : PySem.W.Frag) (mg : Str → Option Value) (base : Heap) (T : Tab) (x : Str) (al : Bool) (k n : Nat) (sem : Sem) : Prop :=
  ∃ f fd ps, FnOk P w K mg base (L2.CX P w) k f fd ps (spF K T al n sem) ∧ mg x = some (.ref f) ∧ PySem.W.keepIn K (.ref f) = true ∧ Binds K fd ps []
end

/-! ### a def called that does not touch the objects -/
section
variable {X : Cx} {T : Tab} {W : WX} {e o : Expr} {es : List Expr} {pos p : Pos} {fs : Sta → PR (List D)} {k n : Nat} {sem : Sem} {x : Str}
def Slot.rv : Slot → PR RV
  | .v d => .ok (sh d)
  | .own d => .ok (fr d)
  | .un => .stuck
def pUser (n : Nat) (sem : Sem) (fs : Sta → PR (List D)) : Sta → PR RV := fun s => (fs s).bind fun ds => if ds.length = n then (match sem ds [] with
  | .ok r _ => r.rv
  | .exc e _ => .exc e
  | .stuck => .stuck) else .stuck
theorem rel_pure {K : PySem.W.Frag} {m : List Addr} {M H : Hp} (mh : Same M H) : Rel K T m M H H ⟨[], []⟩ [] := ⟨mh, Same.refl _, [], [], rfl, rfl, List.nodup_nil, fun a ha => nomatch ha⟩
theorem ev_user (c : Callee X.prog X.w X.K X.mg X.base T x false k n sem) (hr : Room k X.A) (hg : Gl X x) (tk : Takes X W) (ha : PAs X T W (e :: es) fs)
    (hdb : (x == ("__debug__" : Str)) = false := by decide) (he : starEach (e :: es) X.env = (false, eval e X.env) :: starEach es X.env := by rfl) (hpl : (backTo pos (starEach es X.env)).any (·.1) = false := by rfl) :
    PEv X T W (.Call (.Name x p) (e :: es) [] pos) (pUser n sem fs) := by
  obtain ⟨f, fd, ps, F, hm, hk, hb⟩ := c
  refine PE.wk (pe_callS F hr hg hm hk hb (fun σ => passAt tk σ) ha hdb he hpl) ?_
  rintro σ H Q ⟨s, m, M, G, R, q⟩
  refine ⟨s, m, M, G, R, ?_⟩
  revert q
  unfold pUser PR.bind
  cases fs s with
  | ok ds =>
    intro q ys H1 M1 g1 r1
    dsimp only at q
    by_cases hl : ds.length = n
    · rw [if_pos hl] at q
      refine ⟨ds, [], m, M1, H1, by rw [r1.length]; exact hl, r1, rel_pure g1.mh, (fun h => nomatch h), ?_⟩
      have grow : ∀ {m' : List Addr} {M' H' : Hp} {r : Slot} {st' : List Ob} {σ' : L2.St}, Ext false H1 m M1 m' M' → Rel X.K T m' M' H1 H' ⟨[r], st'⟩ σ' → m' = m ∧ Grow H1 M1 H' M' := fun e' R' => ⟨e'.nl rfl, R'.gh, e'.mm, R'.mh, e'.new⟩
      cases hs : sem ds [] with
      | ok r st' =>
        rw [hs] at q
        intro y H' m' M' e' a' R'
        obtain ⟨em, g2⟩ := grow e' R'
        subst em
        obtain ⟨mh, gh, ⟨f1, f2, h1, h2, nd, dj⟩⟩ := R'
        obtain ⟨f3, f4, ef, h3, h4⟩ := h1
        cases r with
        | un => exact q.elim
        | v d =>
          obtain ⟨_, y', ey, hd⟩ := h3
          cases ey
          exact q y H' M' (g1.trans g2) hd
        | own d =>
          obtain ⟨b, ob, ef3, ey, hb', hd⟩ := h3
          cases ey
          have dja := dj b (by simp [ef, ef3])
          refine q (.ref b) H' M' (g1.trans g2) ⟨b, ob, rfl, hb', hd, dja.1, ?_⟩
          exact g1.same.free dja.2
      | exc x st' =>
        rw [hs] at q
        intro cls d H' m' M' e' a' R' xr
        have em := e'.nl rfl
        subst em
        have g2 : Grow H1 M1 H' M' := ⟨R'.gh, e'.mm, R'.mh, e'.new⟩
        exact q cls d H' M' (g1.trans g2) xr
      | stuck => rw [hs] at q; exact q
    · rw [if_neg hl] at q
      exact q.elim
  | exc e => intro q; exact q
  | stuck => intro q; exact q
end

/-! ### expressions that may change objects: the result stands ahead of the slots -/
inductive Fe where
  | ok (r : Slot) (s : Sta) | exc (e : Ex) (s : Sta) | stuck
section
variable (X : Cx) (T : Tab) (W : WX)
def FeP (al : Bool) (G : Hp) (m : List Addr) (M : Hp) (σ : L2.St) (Q : VK) : Fe → Prop
  | .ok r s' => ∀ y H' m' M', Ext al G m M m' M' → AL al m' s' → Rel X.K T m' M' G H' ⟨r :: s'.env, s'.st⟩ (some y :: σ) → Q y H'
  | .exc e s' => ∀ cls d H' m' M', Ext al G m M m' M' → AL al m' s' → Rel X.K T m' M' G H' s' σ → ExR X.K T m' M' H' e cls d → W cls d σ H'
  | .stuck => False
def tF (al : Bool) (g : Sta → Fe) : TE := fun σ H Q => ∃ s m M G, Rel X.K T m M G H s σ ∧ AL al m s ∧ FeP X T W al G m M σ Q (g s)
abbrev FEv (al : Bool) (e : Expr) (g : Sta → Fe) : Prop := PE X e (tF X T W al g)
end
section
variable {X : Cx} {T : Tab} {W : WX} {al : Bool} {G : Hp} {m m' : List Addr} {M M' H H' : Hp}
theorem Rel.consU {s : Sta} {σ : L2.St} (R : Rel X.K T m M G H s σ) : Rel X.K T m M G H ⟨.un :: s.env, s.st⟩ (Option.none :: σ) := by
  obtain ⟨mh, gh, ⟨f1, f2, h1, h2, nd, dj⟩⟩ := R
  exact ⟨mh, gh, f1, f2, ⟨[], f1, rfl, rfl, h1⟩, h2, nd, dj⟩
theorem Rel.tail {r : Slot} {env : List Slot} {st : List Ob} {y : Option V} {σ : L2.St} (R : Rel X.K T m M G H ⟨r :: env, st⟩ (y :: σ)) : Rel X.K T m M G H ⟨env, st⟩ σ := by
  obtain ⟨mh, gh, ⟨f1, f2, h1, h2, nd, dj⟩⟩ := R
  obtain ⟨g1, g2, e, h3, h4⟩ := h1
  subst e
  have sub : (g2 ++ f2).Sublist ((g1 ++ g2) ++ f2) := List.Sublist.append (List.sublist_append_right _ _) (List.Sublist.refl _)
  exact ⟨mh, gh, g2, f2, h4, h2, nd.sublist sub, fun a ha => dj a (sub.subset ha)⟩
theorem SlotR.fpu {K : PySem.W.Frag} {sl : Slot} {y : Option V} {fa fb : List Addr} (p : SlotR K m M H sl y fa) (q : SlotR K m M H sl y fb) : fa = fb := by
  cases sl with
  | un => rw [show fa = [] from p, show fb = [] from q]
  | v d => rw [p.1, q.1]
  | own d =>
    obtain ⟨a, o, e, ex, _⟩ := p
    obtain ⟨b, o', e', ex', _⟩ := q
    rw [ex] at ex'
    cases ex'
    rw [e, e']
theorem SlotsR.fpu {K : PySem.W.Frag} : ∀ {s : List Slot} {x : List (Option V)} {fa fb : List Addr}, SlotsR K m M H s x fa → SlotsR K m M H s x fb → fa = fb
  | [], [], _, _, p, q => by rw [show _ = [] from p, show _ = [] from q]
  | s :: ss, x :: xs, fa, fb, p, q => by
    obtain ⟨p1, p2, ep, p3, p4⟩ := p
    obtain ⟨q1, q2, eq, q3, q4⟩ := q
    rw [ep, eq, SlotR.fpu p3 q3, SlotsR.fpu p4 q4]
  | [], _ :: _, _, _, p, _ => p.elim
  | _ :: _, [], _, _, p, _ => p.elim
theorem FsR.fpu {K : PySem.W.Frag} {nm : Nat → Str} : ∀ {s : List (Nat × Slot)} {x : List (Str × V)} {fa fb : List Addr}, FsR K nm m M H s x fa → FsR K nm m M H s x fb → fa = fb
  | [], [], _, _, p, q => by rw [show _ = [] from p, show _ = [] from q]
  | (i, s) :: ss, (x, v) :: xs, fa, fb, p, q => by
    obtain ⟨p1, p2, ep, _, p3, p4⟩ := p
    obtain ⟨q1, q2, eq, _, q3, q4⟩ := q
    rw [ep, eq, SlotR.fpu p3 q3, FsR.fpu p4 q4]
  | [], _ :: _, _, _, p, _ => p.elim
  | _ :: _, [], _, _, p, _ => p.elim
theorem StoreR.fpu {K : PySem.W.Frag} : ∀ {s : List Ob} {as : List Addr} {fa fb : List Addr}, StoreR K T m M H s as fa → StoreR K T m M H s as fb → fa = fb
  | [], _, _, _, p, q => by rw [show _ = [] from p, show _ = [] from q]
  | ob :: obs, a :: as, fa, fb, p, q => by
    obtain ⟨p1, p2, ep, ⟨dx, fs, f, e1, e2, e3⟩, p4⟩ := p
    obtain ⟨q1, q2, eq, ⟨dx', fs', f', e1', e2', e3'⟩, q4⟩ := q
    rw [e2] at e2'
    have e6 : fs = fs' := by
      injection e2' with e2'
      injection e2'
    subst e6
    rw [ep, eq, e1, e1', FsR.fpu e3 e3', StoreR.fpu p4 q4]
  | _ :: _, [], _, _, p, _ => p.elim
/-- the result goes to a name -/
theorem Rel.move {r : Slot} {env : List Slot} {st : List Ob} {y : Option V} {σ : L2.St} (R : Rel X.K T m M G H ⟨r :: env, st⟩ (y :: σ)) (i : Nat) : Rel X.K T m M G H ⟨env.set i r, st⟩ (σ.set i y) := by
  have R2 := R.tail
  obtain ⟨mh, gh, ⟨f1, f2, h1, h2, nd, dj⟩⟩ := R
  obtain ⟨g1, g2, e, h3, h4⟩ := h1
  subst e
  have nd' := List.nodup_append.mp (show (g1 ++ (g2 ++ f2)).Nodup by rw [← List.append_assoc]; exact nd)
  refine R2.setAny i h3 nd'.1 fun a ha => ⟨fun k1 k2 p1 p2 hm => ?_, dj a (by simp [ha])⟩
  rw [SlotsR.fpu p1 h4, StoreR.fpu p2 h2] at hm
  exact nd'.2.2 a ha a hm rfl
/-- .. or is returned -/
theorem Rel.ret {r : Slot} {env : List Slot} {st : List Ob} {y : Option V} {σ : L2.St} (R : Rel X.K T m M G H ⟨r :: env, st⟩ (y :: σ)) : Rel X.K T m M G H ⟨[r], st⟩ [y] := by
  obtain ⟨mh, gh, ⟨f1, f2, h1, h2, nd, dj⟩⟩ := R
  obtain ⟨g1, g2, e, h3, h4⟩ := h1
  subst e
  have sub : (g1 ++ f2).Sublist ((g1 ++ g2) ++ f2) := List.Sublist.append (List.sublist_append_left _ _) (List.Sublist.refl _)
  exact ⟨mh, gh, g1, f2, ⟨g1, [], by simp, h3, rfl⟩, h2, nd.sublist sub, fun a ha => dj a (sub.subset ha)⟩

variable {e o : Expr} {es : List Expr} {pos p : Pos} {f : Sta → PR RV} {g : Sta → Fe} {g1 g2 : Sta → Fl}
def Fe.fl (x : Fe) (k : Slot → Sta → Fl) : Fl := match x with
  | .ok r s => k r s
  | .exc e s => .exc e s
  | .stuck => .stuck
theorem tF_fl {k : Slot → Sta → Fl} {Dn : Ends} {σ : L2.St} {Q : VK} {s : Sta} (R : Rel X.K T m M G H s σ) (a : AL al m s) (q : FlP X T W al G m M Dn ((g s).fl k))
    (h : ∀ r s' y H' m' M', Ext al G m M m' M' → AL al m' s' → Rel X.K T m' M' G H' ⟨r :: s'.env, s'.st⟩ (some y :: σ) → FlP X T W al G m' M' Dn (k r s') → Q y H') : tF X T W al g σ H Q := by
  refine ⟨s, m, M, G, R, a, ?_⟩
  unfold Fe.fl at q
  cases hg : g s with
  | ok r s' => rw [hg] at q; exact fun y H' m' M' e' a' R' => h r s' y H' m' M' e' a' R' (FlP.ext q e')
  | exc x s' => rw [hg] at q; exact fun cls d H' m' M' e' a' R' xr => q cls d σ H' m' M' e' a' R' xr
  | stuck => rw [hg] at q; exact q
def sExprF (g : Sta → Fe) : Sta → Fl := fun s => (g s).fl fun _ s' => .nx s'
theorem s_exprF (he : FEv X T W al e g) (hs : swapsWith e none pos.line X.env = pure false := by rfl) : SE1 X T W al (.Expr e pos) (sExprF g) := by
  refine PS.wk (ps_expr he hs) ?_
  rintro D σ H ⟨s, m, M, G, R, a, q⟩
  exact tF_fl (k := fun _ s' => .nx s') R a q fun r s' y H' m' M' e' a' R' k => k σ H' m' M' (Ext.refl ..) a' R'.tail
def sSetF (i : Nat) (g : Sta → Fe) : Sta → Fl := fun s => (g s).fl fun r s' => .nx { s' with env := s'.env.set i r }
theorem s_setF {i : Nat} {x : Str} {pos' : Pos} (hN : X.N.Nodup) (hi : X.N[i]? = some x) (hx : Loc X.env.scope x) (he : FEv X T W al e g) (hs : swapsWith e (some (.Name x pos')) pos.line X.env = pure false := by rfl) (hf : X.fn x = true ∨ X.env.scope.names.lookup x = some .local := by first | exact .inl rfl | exact .inr rfl | assumption) :
    SE1 X T W al (.Assign [.Name x pos'] e pos) (sSetF i g) := by
  refine PS.wk (ps_set hN hi hx he hs hf) ?_
  rintro D σ H ⟨s, m, M, G, R, a, q⟩
  exact tF_fl (k := fun r s' => .nx { s' with env := s'.env.set i r }) R a q fun r s' y H' m' M' e' a' R' k => k _ H' m' M' (Ext.refl ..) a' (R'.move i)
def sRetF (g : Sta → Fe) : Sta → Fl := fun s => (g s).fl fun r s' => .ret r s'
theorem s_retF (he : FEv X T W al e g) : SE1 X T W al (.Return (some e) pos) (sRetF g) := by
  refine PS.wk (ps_ret he) ?_
  rintro D σ H ⟨s, m, M, G, R, a, q⟩
  exact tF_fl (k := fun r s' => .ret r s') R a q fun r s' y H' m' M' e' a' R' k => k y H' m' M' (Ext.refl ..) a' R'.ret
def sIfF (g : Sta → Fe) (g1 g2 : Sta → Fl) : Sta → Fl := fun s => (g s).fl fun r s' => match r with
  | .v (.bool b) => if b then g1 s' else g2 s'
  | _ => .stuck
theorem Rel.head {K : PySem.W.Frag} {d : D} {env : List Slot} {st : List Ob} {y : V} {σ : L2.St} (R : Rel K T m M G H ⟨.v d :: env, st⟩ (some y :: σ)) : DR K m M y d := by
  obtain ⟨mh, gh, ⟨f1, f2, h1, h2, nd, dj⟩⟩ := R
  obtain ⟨g1, g2, e, ⟨_, y', ey, hd⟩, h4⟩ := h1
  cases ey
  exact hd
theorem s_ifF {A B : List Stmt} (he : FEv X T W al e g) (ha : SEv X T W al A g1) (hb : SEv X T W al B g2) (hw : ∀ whole, isTrue e X.env whole = (do let v ← whole; standAt e.pos; holding [v] (truthy v)) := by intro _; rfl) :
    SE1 X T W al (.If e A B pos) (sIfF g g1 g2) := by
  refine PS.wk (ps_if (pt_val he hw) ha hb) ?_
  rintro D σ H ⟨s, m, M, G, R, a, q⟩
  refine tF_fl (k := fun r s' => match r with | .v (.bool b) => if b then g1 s' else g2 s' | _ => .stuck) R a q fun r s' y H' m' M' e' a' R' k => ?_
  split at k
  · rename_i b
    have hd := R'.head
    cases hd
    refine ⟨b, rfl, ?_⟩
    cases b with
    | true => exact ⟨s', m', M', G, R'.tail, a', k⟩
    | false => exact ⟨s', m', M', G, R'.tail, a', k⟩
  · exact k.elim
/-- an expression that changes nothing, as one that may -/
def fP (f : Sta → PR RV) : Sta → Fe := fun s => match f s with
  | .ok r => match r.slot with
    | .ok sl => .ok sl s
    | _ => .stuck
  | .exc e => .exc e s
  | .stuck => .stuck
theorem fe_of (h : PEv X T W e f) : FEv X T W al e (fP f) := by
  refine PE.wk h ?_
  rintro σ H Q ⟨s, m, M, G, R, a, q⟩
  refine ⟨s, m, M, G, R, ?_⟩
  unfold fP at q
  cases hf : f s with
  | ok r =>
    rw [hf] at q
    intro y H' M' g rr
    cases hs : r.slot with
    | ok sl =>
      simp only [hs] at q
      exact q y H' m M' (Ext.grow g R.gh) a (R.consU.setRV g rr hs 0)
    | exc e => exact (slot_ne hs).elim
    | stuck => simp only [hs] at q; exact q.elim
  | exc x => rw [hf] at q; exact fun cls d H' M' g xr => q cls d H' m M' (Ext.grow g R.gh) a (R.grow g) xr
  | stuck => rw [hf] at q; exact q

/-! ### the caller's state around a call -/
/-- what a callee must leave: all but the objects of the store -/
def guard (H : Hp) (f : List Addr) : Hp := fun b => if b ∈ f then Option.none else H b
theorem guard_off {H : Hp} {f : List Addr} {b : Addr} (h : b ∉ f) : guard H f b = H b := if_neg h
theorem guard_in {H : Hp} {f : List Addr} {b : Addr} (h : b ∈ f) : guard H f b = Option.none := if_pos h
/-- into a callee and back -/
theorem Rel.enter {s : Sta} {σ : L2.St} (R : Rel X.K T m M G H s σ) : ∃ Gc, Rel X.K T m M Gc H ⟨[], s.st⟩ [] ∧
    (∀ {m' : List Addr} {M' H' : Hp} {env' : List Slot} {st' : List Ob} {σ' : L2.St}, Ext al Gc m M m' M' → Rel X.K T m' M' Gc H' ⟨env', st'⟩ σ' → Ext al G m M m' M' ∧ Rel X.K T m' M' G H' ⟨env' ++ s.env, st'⟩ (σ' ++ σ)) := by
  obtain ⟨mh, gh, ⟨f1, f2, h1, h2, nd, dj⟩⟩ := R
  have nd' := List.nodup_append.mp nd
  refine ⟨guard H f2, ⟨mh, fun b o e => ?_, [], f2, rfl, h2, nd'.2.1, fun a ha => ⟨(dj a (by simpa using .inr ha)).1, guard_in (by simpa using ha)⟩⟩, fun {m' M' H' env' st' σ'} e' R' => ?_⟩
  · by_cases hb : b ∈ f2
    · rw [guard_in hb] at e; cases e
    · rw [guard_off hb] at e; exact e
  · obtain ⟨mh', gh', ⟨k1, k2, p1, p2, nd2, dj2⟩⟩ := R'
    have gG : ∀ b, guard H f2 b = Option.none → G b = Option.none := fun b hb => by
      by_cases hm : b ∈ f2
      · exact (dj b (by simp [hm])).2
      · rw [guard_off hm] at hb
        exact gh.free hb
    have gGH : Same G H' := fun b o e => gh' b o (by
      by_cases hm : b ∈ f2
      · rw [(dj b (by simp [hm])).2] at e; cases e
      · rw [guard_off hm]; exact gh _ _ e)
    have same1 : ∀ a ∈ f1, H' a = H a := fun a ha => by
      obtain ⟨o, ho⟩ := h1.here a ha
      have hn : a ∉ f2 := fun z => nd'.2.2 a ha a z rfl
      rw [ho]
      exact gh' a o (by rw [guard_off hn]; exact ho)
    have off1 : ∀ a ∈ f1, a ∉ k1 ++ k2 := fun a ha hm => by
      obtain ⟨o, ho⟩ := h1.here a ha
      have hn : a ∉ f2 := fun z => nd'.2.2 a ha a z rfl
      have := (dj2 a hm).2
      rw [guard_off hn, ho] at this
      cases this
    refine ⟨⟨e'.ml, e'.nl, e'.mm, fun b o hb => (e'.new b o hb).imp_right (gG b)⟩, mh', gGH, k1 ++ f1, k2, ?_, p2, ?_, fun a ha => ?_⟩
    · have sl : ∀ {s1 : List Slot} {x1 : List (Option V)} {q1 : List Addr}, SlotsR X.K m' M' H' s1 x1 q1 → SlotsR X.K m' M' H' (s1 ++ s.env) (x1 ++ σ) (q1 ++ f1) := by
        intro s1
        induction s1 with
        | nil =>
          intro x1 q1 hq
          cases x1 with
          | nil =>
            have : q1 = [] := hq
            subst this
            exact h1.mono e'.ml e'.mm same1
          | cons _ _ => exact hq.elim
        | cons s1 ss ih =>
          intro x1 q1 hq
          cases x1 with
          | nil => exact hq.elim
          | cons x xs =>
            obtain ⟨a1, a2, ea, b1, b2⟩ := hq
            exact ⟨a1, a2 ++ f1, by rw [ea, List.append_assoc], b1, ih b2⟩
      exact sl p1
    · have perm : List.Perm ((k1 ++ f1) ++ k2) (f1 ++ (k1 ++ k2)) := by
        rw [List.append_assoc]
        exact List.perm_append_comm_assoc k1 f1 k2
      rw [perm.nodup_iff, List.nodup_append]
      exact ⟨nd'.1, nd2, fun a ha b hb e => off1 a ha (by rw [e]; exact hb)⟩
    · simp only [List.mem_append] at ha
      have inner : a ∈ k1 ++ k2 → M' a = Option.none ∧ G a = Option.none := fun h => ⟨(dj2 a h).1, gG a (dj2 a h).2⟩
      rcases ha with (ha | ha) | ha
      · exact inner (by simp [ha])
      · refine ⟨?_, (dj a (by simp [ha])).2⟩
        cases hM : M' a with
        | none => rfl
        | some o =>
          rcases e'.new a o hM with z | z
          · rw [(dj a (by simp [ha])).1] at z; cases z
          · obtain ⟨o', ho⟩ := h1.here a ha
            have hn : a ∉ f2 := fun z => nd'.2.2 a ha a z rfl
            rw [guard_off hn, ho] at z
            cases z
      · exact inner (by simp [ha])
def Fr.fe (x : Fr) (s : Sta) : Fe := match x with
  | .ok r st => .ok r { s with st := st }
  | .exc e st => .exc e { s with st := st }
  | .stuck => .stuck
/-- the promise of a callee, from the caller's state -/
theorem spF_of {K : PySem.W.Frag} (hK : X.K = K) {n : Nat} {sem : Sem} {s : Sta} {σ : L2.St} {vs : List V} {ds : List D} {Q : VK} (R : Rel X.K T m M G H s σ) (a : AL al m s) (hl : vs.length = n) (r : DRs X.K m M vs ds) (q : FeP X T W al G m M σ Q ((sem ds s.st).fe s)) :
    spF K T al n sem vs H Q (WE W σ) := by
  subst hK
  obtain ⟨Gc, Rc, back⟩ := R.enter (al := al)
  refine ⟨ds, s.st, m, M, Gc, hl, r, Rc, a, ?_⟩
  unfold Fr.fe at q
  cases hs : sem ds s.st with
  | ok r st' =>
    rw [hs] at q
    intro y H' m' M' e' a' R'
    obtain ⟨e2, R2⟩ := back e' R'
    exact q y H' m' M' e2 a' R2
  | exc x st' =>
    rw [hs] at q
    intro cls d H' m' M' e' a' R' xr
    obtain ⟨e2, R2⟩ := back e' R'
    exact q cls d H' m' M' e2 a' R2 xr
  | stuck => rw [hs] at q; exact q
variable {fs : Sta → PR (List D)} {k n : Nat} {sem : Sem} {x : Str}
theorem tAs_fe {kk : Sta → List D → Fe} {σ : L2.St} {Q : VK} {R2 : List V → Hp → Prop} {s : Sta} (R : Rel X.K T m M G H s σ) (a : AL al m s) (q : FeP X T W al G m M σ Q (match fs s with | .ok ds => kk s ds | .exc e => .exc e s | .stuck => .stuck))
    (h : ∀ ds ys H' M', Grow H M H' M' → DRs X.K m M' ys ds → FeP X T W al G m M' σ Q (kk s ds) → R2 ys H') : tAs X T W fs σ H R2 := by
  refine ⟨s, m, M, G, R, ?_⟩
  cases hf : fs s with
  | ok ds =>
    rw [hf] at q
    intro ys H' M' g r
    refine h ds ys H' M' g r ?_
    have e0 := Ext.grow (al := al) (m := m) g R.gh
    revert q
    dsimp only
    cases kk s ds with
    | ok r s' => intro q y H2 m2 M2 e2; exact q y H2 m2 M2 (e0.trans e2)
    | exc x s' => intro q cls d H2 m2 M2 e2; exact q cls d H2 m2 M2 (e0.trans e2)
    | stuck => intro q; exact q
  | exc x => rw [hf] at q; exact fun cls d H' M' g xr => q cls d H' m M' (Ext.grow g R.gh) a (R.grow g) xr
  | stuck => rw [hf] at q; exact q
/-- f(..), with the objects -/
def fUser (n : Nat) (sem : Sem) (fs : Sta → PR (List D)) : Sta → Fe := fun s => match fs s with
  | .ok ds => if ds.length = n then (sem ds s.st).fe s else .stuck
  | .exc e => .exc e s
  | .stuck => .stuck
theorem fe_user (c : Callee X.prog X.w X.K X.mg X.base T x al k n sem) (hr : Room k X.A) (hg : Gl X x) (tk : Takes X W) (ha : PAs X T W (e :: es) fs)
    (hdb : (x == ("__debug__" : Str)) = false := by decide) (he : starEach (e :: es) X.env = (false, eval e X.env) :: starEach es X.env := by rfl) (hpl : (backTo pos (starEach es X.env)).any (·.1) = false := by rfl) :
    FEv X T W al (.Call (.Name x p) (e :: es) [] pos) (fUser n sem fs) := by
  obtain ⟨f, fd, ps, F, hm, hk, hb⟩ := c
  refine PE.wk (pe_callS F hr hg hm hk hb (fun σ => passAt tk σ) ha hdb he hpl) ?_
  rintro σ H Q ⟨s, m, M, G, R, a, q⟩
  refine tAs_fe (kk := fun s ds => if ds.length = n then (sem ds s.st).fe s else .stuck) R a q fun ds ys H' M' g r k => ?_
  by_cases hl : ds.length = n
  · rw [if_pos hl] at k
    exact spF_of rfl (R.grow g) a (by rw [r.length]; exact hl) r k
  · rw [if_neg hl] at k
    exact k.elim
end
end MP

/-! MP 7: objects with attributes. -/
namespace MP
open PySem PySem.Spec PyProof.Rows L2

/-- names by a table -/
def nmOf (l : List Str) (i : Nat) : Str := match l[i]? with
  | some x => x
  | none => ⟨Array.replicate (i + 1000) 97⟩
theorem nmOf_inj {l : List Str} (h : l.Nodup) (hs : ∀ x ∈ l, x.cps.size < 1000) : ∀ i j, nmOf l i = nmOf l j → i = j := by
  intro i j e
  unfold nmOf at e
  cases hi : l[i]? with
  | none =>
    cases hj : l[j]? with
    | none =>
      simp only [hi, hj] at e
      have := congrArg (fun x : Str => x.cps.size) e
      simp at this
      exact this
    | some y =>
      simp only [hi, hj] at e
      have := hs y (List.mem_of_getElem? hj)
      rw [← e] at this
      simp at this
      omega
  | some x =>
    cases hj : l[j]? with
    | none =>
      simp only [hi, hj] at e
      have := hs x (List.mem_of_getElem? hi)
      rw [e] at this
      simp at this
      omega
    | some y =>
      simp only [hi, hj] at e
      subst e
      exact nodup_ix h hi hj
theorem nmOf_ne {l : List Str} {x : Str} (h : x ∉ l) (hs : x.cps.size < 1000) : ∀ i, nmOf l i ≠ x := by
  intro i e
  unfold nmOf at e
  cases hi : l[i]? with
  | none =>
    simp only [hi] at e
    rw [← e] at hs
    simp at hs
    omega
  | some y =>
    simp only [hi] at e
    subst e
    exact h (List.mem_of_getElem? hi)

def putO (f : Nat) (s : Slot) : List (Nat × Slot) → List (Nat × Slot)
  | [] => [(f, s)]
  | (g, x) :: r => if g = f then (g, s) :: r else (g, x) :: putO f s r

section
variable {K : PySem.W.Frag} {T : Tab} {m m' : List Addr} {M M' G H H' : Hp}
theorem FsR.look : ∀ {s : List (Nat × Slot)} {x : List (Str × V)} {fp : List Addr} {f : Nat} {sl : Slot}, FsR K T.nm m M H s x fp → s.lookup f = some sl → ∃ v g, x.lookup (T.nm f) = some v ∧ SlotR K m M H sl (some v) g ∧ ∀ a ∈ g, a ∈ fp
  | [], [], _, _, _, _, e => by cases e
  | (i, s) :: ss, (x, v) :: xs, fp, f, sl, h, e => by
    obtain ⟨f1, f2, ef, ex, h1, h2⟩ := h
    by_cases hf : f = i
    · subst hf
      have e' : s = sl := by simpa [List.lookup] using e
      subst e'
      subst ex
      exact ⟨v, f1, by simp [List.lookup], h1, fun a ha => by rw [ef]; exact List.mem_append_left _ ha⟩
    · have hb : (f == i) = false := beq_eq_false_iff_ne.mpr hf
      have e' : ss.lookup f = some sl := by simpa only [List.lookup, hb] using e
      obtain ⟨v', g, e1, e2, e3⟩ := FsR.look h2 e'
      refine ⟨v', g, ?_, e2, fun a ha => by rw [ef]; exact List.mem_append_right _ (e3 a ha)⟩
      have hb2 : (T.nm f == x) = false := beq_eq_false_iff_ne.mpr fun z => hf (T.inj _ _ (z.trans ex))
      simp only [List.lookup, hb2]
      exact e1
  | [], _ :: _, _, _, _, h, _ => h.elim
  | _ :: _, [], _, _, _, h, _ => h.elim
theorem FsR.noName {x0 : Str} (hx : ∀ i, T.nm i ≠ x0) : ∀ {s : List (Nat × Slot)} {x : List (Str × V)} {fp : List Addr}, FsR K T.nm m M H s x fp → x.lookup x0 = Option.none
  | [], [], _, _ => rfl
  | (i, s) :: ss, (x, v) :: xs, fp, h => by
    obtain ⟨f1, f2, ef, ex, h1, h2⟩ := h
    have hb : (x0 == x) = false := beq_eq_false_iff_ne.mpr fun z => hx i (by rw [z, ex])
    simp only [List.lookup, hb]
    exact FsR.noName hx h2
  | [], _ :: _, _, h => h.elim
  | _ :: _, [], _, h => h.elim
theorem FsR.length : ∀ {s : List (Nat × Slot)} {x : List (Str × V)} {fp : List Addr}, FsR K T.nm m M H s x fp → x.length = s.length
  | [], [], _, _ => rfl
  | (i, s) :: ss, (x, v) :: xs, fp, h => by
    obtain ⟨f1, f2, ef, ex, h1, h2⟩ := h
    simp [FsR.length h2]
  | [], _ :: _, _, h => h.elim
  | _ :: _, [], _, h => h.elim
/-- an attribute stored -/
theorem FsR.put {f : Nat} {sl : Slot} {v : V} {g : List Addr} (hm : MLe m m') (mm : Same M M') (hs : SlotR K m' M' H' sl (some v) g) : ∀ {s : List (Nat × Slot)} {x : List (Str × V)} {fp : List Addr}, FsR K T.nm m M H s x fp → (∀ a ∈ fp, H' a = H a) →
    ∃ k1 k2, List.Perm fp (k1 ++ k2) ∧ ∃ fp', List.Perm fp' (g ++ k2) ∧ FsR K T.nm m' M' H' (putO f sl s) (putF (T.nm f) v x) fp'
  | [], [], _, h, _ => by
    have : _ = [] := h
    subst this
    exact ⟨[], [], List.Perm.refl _, g, by simp, g, [], by simp, rfl, hs, rfl⟩
  | (i, s) :: ss, (x, v0) :: xs, fp, h, hh => by
    obtain ⟨f1, f2, ef, ex, h1, h2⟩ := h
    subst ef
    by_cases hf : i = f
    · subst hf
      refine ⟨f1, f2, List.Perm.refl _, g ++ f2, List.Perm.refl _, ?_⟩
      rw [putO, if_pos rfl, putF, if_pos ex]
      exact ⟨g, f2, rfl, ex, hs, h2.mono hm mm fun a ha => hh a (List.mem_append_right _ ha)⟩
    · obtain ⟨k1, k2, p1, fp', p2, q⟩ := FsR.put hm mm hs h2 fun a ha => hh a (List.mem_append_right _ ha)
      refine ⟨k1, f1 ++ k2, ?_, f1 ++ fp', ?_, ?_⟩
      · refine (List.Perm.append_left f1 p1).trans ?_
        exact List.perm_append_comm_assoc f1 k1 k2
      · refine (List.Perm.append_left f1 p2).trans ?_
        exact List.perm_append_comm_assoc f1 g k2
      · rw [putO, if_neg hf, putF, if_neg (fun z => hf (T.inj _ _ (by rw [← ex]; exact z)))]
        exact ⟨f1, fp', rfl, ex, h1.mono hm mm fun a ha => hh a (List.mem_append_left _ ha), q⟩
  | [], _ :: _, _, h, _ => h.elim
  | _ :: _, [], _, h, _ => h.elim
/-- one object of the store, cut out -/
theorem StoreR.split : ∀ {s : List Ob} {as : List Addr} {fp : List Addr} {j : Nat} {ob : Ob}, StoreR K T m M H s as fp → s[j]? = some ob →
    ∃ f0 f1 f2 a, fp = f0 ++ f1 ++ f2 ∧ as[j]? = some a ∧ ObR K T m M H ob a f1 ∧
      ∀ (m' : List Addr) (M' H' : Hp) (ob' : Ob) (f1' : List Addr), MLe m m' → Same M M' → (∀ b ∈ f0 ++ f2, H' b = H b) → ObR K T m' M' H' ob' a f1' → StoreR K T m' M' H' (s.set j ob') as (f0 ++ f1' ++ f2)
  | [], _, _, _, _, _, e => by simp at e
  | s :: ss, [], _, _, _, h, _ => h.elim
  | s :: ss, a :: as, fp, 0, ob, h, e => by
    obtain ⟨f1, f2, ef, h1, h2⟩ := h
    have e' : s = ob := by simpa using e
    subst e'
    refine ⟨[], f1, f2, a, by simp [ef], rfl, h1, fun m' M' H' ob' f1' hm hM hh hs => ?_⟩
    exact ⟨f1', f2, by simp, hs, h2.mono hm (MLe.refl _) hM fun a ha => hh a (by simp [ha])⟩
  | s :: ss, a :: as, fp, j + 1, ob, h, e => by
    obtain ⟨f1, f2, ef, h1, h2⟩ := h
    obtain ⟨g0, g1, g2, y, eg, ey, hy, k⟩ := StoreR.split h2 (j := j) (ob := ob) (by simpa using e)
    refine ⟨f1 ++ g0, g1, g2, y, by simp [ef, eg, List.append_assoc], by simpa using ey, hy, fun m' M' H' ob' f1' hm hM hh hs => ?_⟩
    refine ⟨f1, g0 ++ f1' ++ g2, by simp [List.append_assoc], h1.mono hm hM fun a ha => hh a (by simp [ha]), ?_⟩
    exact k m' M' H' ob' f1' hm hM (fun b hb => hh b (by
      rcases List.mem_append.mp hb with hb | hb
      · simp [hb]
      · simp [hb])) hs
/-- an object of the store -/
theorem Rel.ob {s : Sta} {σ : L2.St} {j : Nat} {ob : Ob} (R : Rel K T m M G H s σ) (e : s.st[j]? = some ob) : ∃ a dx fs f, m[j]? = some a ∧ H a = some (.ins (T.ca ob.cls) dx fs) ∧ FsR K T.nm m M H ob.fs fs f := by
  obtain ⟨mh, gh, ⟨f1, f2, h1, h2, nd, dj⟩⟩ := R
  obtain ⟨g0, g1, g2, a, eg, ea, ⟨dx, fs, f, ef, h3, h4⟩, k⟩ := h2.split e
  exact ⟨a, dx, fs, f, ea, h3, h4⟩
/-- what the class of objects must have -/
structure ClsF (K : PySem.W.Frag) (T : Tab) (c : Nat) (fs : List Nat) : Prop where
  cl : Cls K (T.ca c)
  no : ∀ f ∈ fs, NoAttr K (T.ca c) (T.nm f)
end

section
variable {X : Cx} {T : Tab} {W : WX} {al : Bool} {G : Hp} {m m' : List Addr} {M M' H H' : Hp} {e o : Expr} {es : List Expr} {pos p : Pos} {fo : Sta → PR RV}
/-- o.f -/
def RV.ob (c : Nat) (st : List Ob) (r : RV) : PR (Nat × Ob) := match r.d with
  | .obj j => match st[j]? with
    | some ob => if ob.cls = c then .ok (j, ob) else .stuck
    | none => .stuck
  | _ => .stuck
def pFld (c f : Nat) (fo : Sta → PR RV) : Sta → PR RV := fun s => (fo s).bind fun r => (r.ob c s.st).bind fun jo => PR.of ((jo.2.fs.lookup f).bind Slot.look)
theorem RV.ob_ok {c : Nat} {st : List Ob} {r : RV} {j : Nat} {ob : Ob} (h : r.ob c st = .ok (j, ob)) : r.d = .obj j ∧ st[j]? = some ob ∧ ob.cls = c := by
  unfold RV.ob at h
  split at h
  · rename_i j' hd
    split at h
    · rename_i ob' ho
      by_cases hc : ob'.cls = c
      · rw [if_pos hc] at h
        cases h
        exact ⟨hd, ho, hc⟩
      · rw [if_neg hc] at h
        cases h
    · cases h
  · cases h
theorem RV.ob_ne {c : Nat} {st : List Ob} {r : RV} {e : Ex} (h : r.ob c st = .exc e) : False := by
  unfold RV.ob at h
  split at h
  · split at h
    · split at h <;> cases h
    · cases h
  · cases h
theorem Arg.obj {K : PySem.W.Frag} {y : V} {j : Nat} (h : Arg K m M H y (.obj j)) : ∃ a, y = .ref a ∧ m[j]? = some a := by
  rcases h with h | ⟨a, o, rfl, h2, h3⟩
  · cases h with
    | obj h => exact ⟨_, rfl, h⟩
  · cases h3
theorem SlotR.rr {K : PySem.W.Frag} {sl : Slot} {v : V} {g : List Addr} {r : RV} (h : SlotR K m M H sl (some v) g) (e : sl.look = some r) : RR K m M H H v r := by
  cases sl with
  | un => cases e
  | v d =>
    cases e
    obtain ⟨_, y, ey, hd⟩ := h
    cases ey
    exact hd
  | own d =>
    cases e
    obtain ⟨a, o, _, ey, hb, hd⟩ := h
    cases ey
    exact ⟨a, o, rfl, hb, hd⟩
theorem ev_fld {c f : Nat} {fs : List Nat} {x : Str} (C : ClsF X.K T c fs) (hf : f ∈ fs) (hx : T.nm f = x) (ho : PEv X T W o fo) (hb : attributeBase o x X.env (eval o X.env) = eval o X.env := by rfl) : PEv X T W (.Attribute o x pos) (pFld c f fo) := by
  subst hx
  refine PE.wk (pe_fld ho hb) ?_
  rintro σ H Q ⟨s, m, M, G, R, q⟩
  refine ⟨s, m, M, G, R, ?_⟩
  revert q
  unfold pFld PR.bind
  cases fo s with
  | ok r =>
    intro q y H1 M1 g1 rr
    dsimp only at q
    cases hr : r.ob c s.st with
    | ok jo =>
      obtain ⟨j, ob⟩ := jo
      simp only [hr] at q
      obtain ⟨h1, h2, h3⟩ := RV.ob_ok hr
      subst h3
      cases hl : (ob.fs.lookup f).bind Slot.look with
      | none => rw [hl] at q; exact q.elim
      | some r2 =>
        rw [hl] at q
        have R1 := R.grow g1
        obtain ⟨a, dx, fs', ff, e1, e2, e3⟩ := R1.ob h2
        have aa := rr.arg
        rw [h1] at aa
        obtain ⟨a', rfl, e4⟩ := aa.obj
        rw [e1] at e4
        cases e4
        cases hs : ob.fs.lookup f with
        | none => rw [hs] at hl; cases hl
        | some sl =>
          rw [hs] at hl
          obtain ⟨v, g, e5, e6, _⟩ := e3.look hs
          exact ⟨a, _, dx, fs', v, rfl, e2, C.cl, C.no f hf, e5, q v H1 M1 g1 ((e6.rr hl).since g1.same)⟩
    | exc e => exact (RV.ob_ne hr).elim
    | stuck => simp only [hr] at q
  | exc e => intro q; exact q
  | stuck => intro q; exact q

/-- the store with one attribute changed -/
def setF (st : List Ob) (j : Nat) (ob : Ob) (f : Nat) (sl : Slot) : List Ob := st.set j { ob with fs := putO f sl ob.fs }
theorem Rel.putF {s : Sta} {σ : L2.St} {j f : Nat} {ob : Ob} {a dx : Addr} {fs : List (Str × V)} {r : Slot} {y : V} (R : Rel X.K T m M G H ⟨r :: s.env, s.st⟩ (some y :: σ)) (e : s.st[j]? = some ob) (ea : m[j]? = some a) (eh : H a = some (.ins (T.ca ob.cls) dx fs)) :
    Rel X.K T m M G (upd H a (.ins (T.ca ob.cls) dx (L2.putF (T.nm f) y fs))) { s with st := setF s.st j ob f r } σ := by
  obtain ⟨mh, gh, ⟨f1, f2, h1, h2, nd, dj⟩⟩ := R
  obtain ⟨u1, u2, eu, hr, h1⟩ := h1
  obtain ⟨g0, g1, g2, a', eg, ea', ⟨dx', fs', ff, ef, h3, h4⟩, k⟩ := h2.split e
  rw [ea] at ea'
  cases ea'
  rw [eh] at h3
  cases h3
  subst eu eg ef
  have dja := dj a (by simp)
  -- a stands once in the footprint
  have nd1 : (a :: ((u1 ++ u2) ++ (g0 ++ (ff ++ g2)))).Nodup := by
    refine (List.Perm.nodup_iff ?_).mp nd
    have : ((u1 ++ u2) ++ (g0 ++ a :: ff ++ g2)) = (u1 ++ u2 ++ g0) ++ a :: (ff ++ g2) := by simp
    rw [this]
    refine List.perm_middle.trans ?_
    simp
  have na : ∀ b ∈ (u1 ++ u2) ++ (g0 ++ (ff ++ g2)), b ≠ a := fun b hb z => (List.nodup_cons.mp nd1).1 (by rw [← z]; exact hb)
  have off : ∀ b ∈ (u1 ++ u2) ++ (g0 ++ (ff ++ g2)), upd H a (.ins (T.ca ob.cls) dx (L2.putF (T.nm f) y fs)) b = H b := fun b hb => upd_ne (na b hb)
  have hr' : SlotR X.K m M (upd H a (.ins (T.ca ob.cls) dx (L2.putF (T.nm f) y fs))) r (some y) u1 := hr.mono (MLe.refl _) (Same.refl _) fun b hb => off b (by simp [hb])
  obtain ⟨k1, k2, p1, fp', p2, hput⟩ := FsR.put (f := f) (MLe.refl m) (Same.refl M) hr' h4 fun b hb => off b (by simp [hb])
  have hst := k m M (upd H a (.ins (T.ca ob.cls) dx (L2.putF (T.nm f) y fs))) { ob with fs := putO f r ob.fs } (a :: fp') (MLe.refl _) (Same.refl _) (fun b hb => off b (by
    rcases List.mem_append.mp hb with hb | hb <;> simp [hb])) ⟨dx, _, fp', rfl, upd_same, hput⟩
  have hMa : M a = Option.none := dja.1
  have hGa : G a = Option.none := dja.2
  have pm : List.Perm (u2 ++ (g0 ++ a :: fp' ++ g2)) (a :: (u1 ++ u2 ++ (g0 ++ (k2 ++ g2)))) := by
    have q1 : List.Perm (u2 ++ (g0 ++ a :: fp' ++ g2)) (u2 ++ (g0 ++ a :: (u1 ++ k2) ++ g2)) := List.Perm.append_left _ (List.Perm.append_right _ (List.Perm.append_left _ (List.Perm.cons _ p2)))
    refine q1.trans ?_
    have e1 : (u2 ++ (g0 ++ a :: (u1 ++ k2) ++ g2)) = (u2 ++ g0) ++ a :: (u1 ++ (k2 ++ g2)) := by simp
    rw [e1]
    refine List.perm_middle.trans (List.Perm.cons _ ?_)
    have e2 : (u1 ++ u2 ++ (g0 ++ (k2 ++ g2))) = u1 ++ ((u2 ++ g0) ++ (k2 ++ g2)) := by simp
    rw [e2]
    exact List.perm_append_comm_assoc (u2 ++ g0) u1 (k2 ++ g2)
  have sub : List.Sublist (u1 ++ u2 ++ (g0 ++ (k2 ++ g2))) (u1 ++ u2 ++ (g0 ++ ((k1 ++ k2) ++ g2))) :=
    List.Sublist.append (List.Sublist.refl _) (List.Sublist.append (List.Sublist.refl _) (List.Sublist.append (List.sublist_append_right _ _) (List.Sublist.refl _)))
  have pm2 : List.Perm (u1 ++ u2 ++ (g0 ++ (ff ++ g2))) (u1 ++ u2 ++ (g0 ++ ((k1 ++ k2) ++ g2))) := List.Perm.append_left _ (List.Perm.append_left _ (List.Perm.append_right _ p1))
  have mem : ∀ b ∈ u2 ++ (g0 ++ a :: fp' ++ g2), b = a ∨ b ∈ (u1 ++ u2) ++ (g0 ++ (ff ++ g2)) := fun b hb => by
    rcases List.mem_cons.mp (pm.mem_iff.mp hb) with z | z
    · exact .inl z
    · exact .inr (pm2.mem_iff.mpr (sub.subset z))
  refine ⟨fun b u e => ?_, fun b u e => ?_, u2, g0 ++ a :: fp' ++ g2, ?_, hst, ?_, fun b hb => ?_⟩
  · rw [upd_ne (fun z => by rw [z, hMa] at e; cases e)]
    exact mh _ _ e
  · rw [upd_ne (fun z => by rw [z, hGa] at e; cases e)]
    exact gh _ _ e
  · exact h1.mono (MLe.refl _) (Same.refl _) fun b hb => off b (by simp [hb])
  · rw [pm.nodup_iff, List.nodup_cons]
    have nd2 := pm2.nodup_iff.mp (List.nodup_cons.mp nd1).2
    exact ⟨fun z => (List.nodup_cons.mp nd1).1 (pm2.mem_iff.mpr (sub.subset z)), nd2.sublist sub⟩
  · rcases mem b hb with rfl | z
    · exact dja
    · refine dj b ?_
      simp only [List.mem_append, List.mem_cons] at z ⊢
      rcases z with z | z | z | z
      · exact .inl z
      · exact .inr (.inl (.inl z))
      · exact .inr (.inl (.inr (.inr z)))
      · exact .inr (.inr z)
/-- o.f = e, o a name or another expression that changes nothing -/
def sFld (c f : Nat) (fo : Sta → PR RV) (g : Sta → Fe) : Sta → Fl := fun s => (g s).fl fun r s' => (fo ⟨r :: s'.env, s'.st⟩).fl s' fun ro => (ro.ob c s'.st).fl s' fun jo =>
  if jo.2.fs.length < 900 then .nx { s' with st := setF s'.st jo.1 jo.2 f r } else .stuck
/-- as above, o the name in slot i -/
def sFldN (c f i : Nat) (g : Sta → Fe) : Sta → Fl := fun s => (g s).fl fun r s' => (pVar i s').fl s' fun ro => (ro.ob c s'.st).fl s' fun jo =>
  if jo.2.fs.length < 900 then .nx { s' with st := setF s'.st jo.1 jo.2 f r } else .stuck
theorem s_fldN {c f i : Nat} {fs : List Nat} {x n : Str} {g : Sta → Fe} {pn pos' : Pos} (C : ClsF X.K T c fs) (hf : f ∈ fs) (hx : T.nm f = x) (ho : PE X (.Name n pn) (tVar i)) (hv : FEv X T W al e g)
    (hs : swapsWith e (some (.Attribute (.Name n pn) x pos')) pos.line X.env = pure false := by rfl) : SE1 X T W al (.Assign [.Attribute (.Name n pn) x pos'] e pos) (sFldN c f i g) := by
  subst hx
  refine PS.wk (ps_fld ho hv hs) ?_
  rintro D σ H ⟨s, m, M, G, R, a, q⟩
  refine tF_fl (k := fun r s' => (pVar i s').fl s' fun ro => (ro.ob c s'.st).fl s' fun jo => if jo.2.fs.length < 900 then .nx { s' with st := setF s'.st jo.1 jo.2 f r } else .stuck) R a q fun r s' y H' m' M' e' a' R' k => ?_
  unfold PR.fl pVar at k
  cases hl : s'.env[i]?.bind Slot.look with
  | none => rw [hl] at k; exact k.elim
  | some ro =>
    rw [hl] at k
    simp only [PR.of] at k
    obtain ⟨yo, ey, rr⟩ := R'.tail.look hl
    cases hr : ro.ob c s'.st with
    | ok jo =>
      obtain ⟨j, ob⟩ := jo
      simp only [hr] at k
      obtain ⟨h1, h2, h3⟩ := RV.ob_ok hr
      subst h3
      have aa := rr.arg
      rw [h1] at aa
      obtain ⟨b, rfl, e4⟩ := aa.obj
      obtain ⟨b', dx, fs', ff, e1, e2, e3⟩ := R'.tail.ob h2
      rw [e4] at e1
      cases e1
      by_cases hlen : ob.fs.length < 900
      · rw [if_pos hlen] at k
        refine ⟨_, ey, b, _, dx, fs', rfl, e2, C.cl, C.no f hf, by rw [e3.length]; omega, ?_⟩
        refine k σ _ m' M' (Ext.refl ..) (fun h => ?_) (R'.putF h2 e4 e2)
        show m'.length = (setF s'.st j ob f r).length
        unfold setF
        rw [List.length_set]
        exact a' h
      · rw [if_neg hlen] at k
        exact k.elim
    | exc e => exact (RV.ob_ne hr).elim
    | stuck => simp only [hr] at k; exact k.elim

/-! ### methods -/
section
variable {k n : Nat} {f C : Addr} {fd : FuncData} {ps : List Str} {sp : Sp} {E : L2.St → XK} {x mn : Str} {apos : Pos} {ta : TE} {t : TA} {sem : Sem} {c : Nat} {fs : List Nat} {fa : Sta → PR (List D)}
def tMethS (C : Addr) (mn : Str) (sp : Sp) (E : L2.St → XK) (ta : TE) (t : TA) : TE := fun σ H Q => ta σ H fun x H1 => ∃ a dx fs, x = .ref a ∧ H1 a = some (.ins C dx fs) ∧ fs.lookup mn = Option.none ∧
  t σ H1 fun vs H2 => sp (x :: vs) H2 Q (E σ)
theorem pe_methS {pl : PySem.Sem Bool} (he : PE X o ta) (cl : Cls X.K C) (hm : Meth X.K C mn f) (F : FnOk X.prog X.w X.K X.mg X.base (L2.CX X.prog X.w) k f fd ps sp) (hr : Room k X.A) (hb : Binds X.K fd ps []) (hx : ∀ σ, PassesAt (L2.CX X.prog X.w) X σ (E σ)) (ha : PA X (e :: es) t)
    (hst : starEach (e :: es) X.env = (false, eval e X.env) :: starEach es X.env := by rfl) (hpl : (backTo pos (starEach es X.env)).any (·.1) = false := by rfl)
    (ht : eval (.Call (.Attribute o mn apos) (e :: es) [] pos) X.env = (do
      let ov ← eval o X.env
      standAt apos.atName
      let (f, first) ← holding [ov] (getMethod ov mn pl)
      callWith pos f first (backTo pos (starEach (e :: es) X.env)) (backToKw pos (keywordEach [] X.env))) := by rfl) :
    PE X (.Call (.Attribute o mn apos) (e :: es) [] pos) (tMethS C mn sp E ta t) := by
  refine ⟨fun pins s σ H Q I h => ?_⟩
  refine PySem.W.methodCall_KW (pl := pl) (thn (he.run pins s σ H _ I h) fun u s1 ⟨x, H1, I1, rx, a, dx, fs, ex, ea, l, q⟩ => ?_) ht
  subst ex
  obtain rfl : u = Value.ref a := rx
  refine getmeth_ok I1 ea cl hm l ?_
  refine PySem.W.callWith_K (first := [.ref a]) (h₀ := X.base) I.ok.mod.kin hm.kp (thn (ha.run pos pins s1 σ H1 _ I1 q) fun us s2 ⟨vs, H2, I2, r, q2⟩ => ⟨I2.kIn, ?_⟩) hst hpl
  exact run_fnS (us := .ref a :: us) (vs := .ref a :: vs) F hr hb (hx σ) I2 (.cons rfl r) q2
theorem pe_methS0 {pl : PySem.Sem Bool} (he : PE X o ta) (cl : Cls X.K C) (hm : Meth X.K C mn f) (F : FnOk X.prog X.w X.K X.mg X.base (L2.CX X.prog X.w) k f fd ps sp) (hr : Room k X.A) (hb : Binds X.K fd ps []) (hx : ∀ σ, PassesAt (L2.CX X.prog X.w) X σ (E σ))
    (ht : eval (.Call (.Attribute o mn apos) [] [] pos) X.env = (do
      let ov ← eval o X.env
      standAt apos.atName
      let (f, first) ← holding [ov] (getMethod ov mn pl)
      callWith pos f first (backTo pos (starEach [] X.env)) (backToKw pos (keywordEach [] X.env))) := by rfl) :
    PE X (.Call (.Attribute o mn apos) [] [] pos) (tMethS C mn sp E ta tNil) := by
  refine ⟨fun pins s σ H Q I h => ?_⟩
  refine PySem.W.methodCall_KW (pl := pl) (thn (he.run pins s σ H _ I h) fun u s1 ⟨x, H1, I1, rx, a, dx, fs, ex, ea, l, q⟩ => ?_) ht
  subst ex
  obtain rfl : u = Value.ref a := rx
  refine getmeth_ok I1 ea cl hm l ?_
  exact PySem.W.callWith_K0 (first := [.ref a]) I1.kIn hm.kp (run_fnS (us := [.ref a]) (vs := [.ref a]) F hr hb (hx σ) I1 (.cons rfl .nil) q)
/-- a method to be called -/
def Method (P : Program) (w : World) (K : PySem.W.Frag) (mg : Str → Option Value) (base : Heap) (T : Tab) (c : Nat) (mn : Str) (al : Bool) (k n : Nat) (sem : Sem) : Prop :=
  ∃ f fd ps, FnOk P w K mg base (L2.CX P w) k f fd ps (spF K T al n sem) ∧ Meth K (T.ca c) mn f ∧ Binds K fd ps []
/-- o.m(..) : the object, then the arguments -/
def fMeth (c n : Nat) (sem : Sem) (fo : Sta → PR RV) (fa : Sta → PR (List D)) : Sta → Fe := fun s => match fo s with
  | .ok r => match r.ob c s.st with
    | .ok jo => match fa s with
      | .ok ds => if ds.length + 1 = n then (sem (.obj jo.1 :: ds) s.st).fe s else .stuck
      | .exc e => .exc e s
      | .stuck => .stuck
    | _ => .stuck
  | .exc e => .exc e s
  | .stuck => .stuck
theorem FeP.ext {σ : L2.St} {Q : VK} {fe : Fe} (h : FeP X T W al G m M σ Q fe) (e : Ext al G m M m' M') : FeP X T W al G m' M' σ Q fe := by
  cases fe with
  | ok r s => exact fun y H' m2 M2 e2 => h y H' m2 M2 (e.trans e2)
  | exc x s => exact fun cls d H' m2 M2 e2 => h cls d H' m2 M2 (e.trans e2)
  | stuck => exact h
theorem meth_of (hno : ∀ i, T.nm i ≠ mn) {σ : L2.St} {H : Hp} {Q : VK} (h : tF X T W al (fMeth c n sem fo fa) σ H Q) : tMethS (T.ca c) mn (spF X.K T al n sem) (WE W) (tP X T W fo) (tAs X T W fa) σ H Q := by
  obtain ⟨s, m, M, G, R, a, q⟩ := h
  refine ⟨s, m, M, G, R, ?_⟩
  unfold fMeth at q
  cases hf : fo s with
  | ok r =>
    rw [hf] at q
    intro y H1 M1 g1 rr
    dsimp only at q
    cases hr : r.ob c s.st with
    | ok jo =>
      obtain ⟨j, ob⟩ := jo
      simp only [hr] at q
      obtain ⟨h1, h2, h3⟩ := RV.ob_ok hr
      subst h3
      have R1 := R.grow g1
      have aa := rr.arg
      rw [h1] at aa
      obtain ⟨b, rfl, e4⟩ := aa.obj
      obtain ⟨b', dx, fs', ff, e1, e2, e3⟩ := R1.ob h2
      rw [e4] at e1
      cases e1
      refine ⟨b, dx, fs', rfl, e2, e3.noName hno, ?_⟩
      have q1 := FeP.ext q (Ext.grow g1 R.gh)
      refine tAs_fe (Q := Q) (kk := fun s ds => if ds.length + 1 = n then (sem (.obj j :: ds) s.st).fe s else .stuck) R1 a ?_ fun ds ys H' M' g r k => ?_
      · exact q1
      · by_cases hl : ds.length + 1 = n
        · rw [if_pos hl] at k
          exact spF_of rfl (R1.grow g) a (by simp [r.length]; exact hl) (.cons (.obj e4) r) k
        · rw [if_neg hl] at k
          exact k.elim
    | exc e => exact (RV.ob_ne hr).elim
    | stuck => simp only [hr] at q; exact q.elim
  | exc x => rw [hf] at q; exact fun cls d H' M' g xr => q cls d H' m M' (Ext.grow g R.gh) a (R.grow g) xr
  | stuck => rw [hf] at q; exact q
theorem fe_meth {pl : PySem.Sem Bool} (cm : Method X.prog X.w X.K X.mg X.base T c mn al k n sem) (C : ClsF X.K T c fs) (hno : ∀ i, T.nm i ≠ mn) (hr : Room k X.A) (tk : Takes X W) (ho : PEv X T W o fo) (ha : PAs X T W (e :: es) fa)
    (hst : starEach (e :: es) X.env = (false, eval e X.env) :: starEach es X.env := by rfl) (hpl : (backTo pos (starEach es X.env)).any (·.1) = false := by rfl)
    (ht : eval (.Call (.Attribute o mn apos) (e :: es) [] pos) X.env = (do
      let ov ← eval o X.env
      standAt apos.atName
      let (f, first) ← holding [ov] (getMethod ov mn pl)
      callWith pos f first (backTo pos (starEach (e :: es) X.env)) (backToKw pos (keywordEach [] X.env))) := by rfl) :
    FEv X T W al (.Call (.Attribute o mn apos) (e :: es) [] pos) (fMeth c n sem fo fa) := by
  obtain ⟨f, fd, ps, F, hm, hb⟩ := cm
  exact PE.wk (pe_methS (pl := pl) ho C.cl hm F hr hb (fun σ => passAt tk σ) ha hst hpl ht) fun σ H Q h => meth_of hno h
theorem fe_meth0 {pl : PySem.Sem Bool} (cm : Method X.prog X.w X.K X.mg X.base T c mn al k n sem) (C : ClsF X.K T c fs) (hno : ∀ i, T.nm i ≠ mn) (hr : Room k X.A) (tk : Takes X W) (ho : PEv X T W o fo)
    (ht : eval (.Call (.Attribute o mn apos) [] [] pos) X.env = (do
      let ov ← eval o X.env
      standAt apos.atName
      let (f, first) ← holding [ov] (getMethod ov mn pl)
      callWith pos f first (backTo pos (starEach [] X.env)) (backToKw pos (keywordEach [] X.env))) := by rfl) :
    FEv X T W al (.Call (.Attribute o mn apos) [] [] pos) (fMeth c n sem fo pNil) := by
  obtain ⟨f, fd, ps, F, hm, hb⟩ := cm
  refine PE.wk (pe_methS0 (pl := pl) ho C.cl hm F hr hb (fun σ => passAt tk σ) ht) fun σ H Q h => ?_
  have h2 := meth_of (mn := mn) hno h
  -- no argument
  revert h2
  unfold tMethS
  intro h2
  obtain ⟨s, m, M, G, R, q⟩ := h2
  refine ⟨s, m, M, G, R, ?_⟩
  revert q
  cases fo s with
  | ok r =>
    intro q y H1 M1 g1 rr
    obtain ⟨b, dx, fs', e1, e2, e3, q⟩ := q y H1 M1 g1 rr
    refine ⟨b, dx, fs', e1, e2, e3, ?_⟩
    obtain ⟨s2, m2, M2, G2, R2, q⟩ := q
    exact q [] H1 M2 (Grow.refl R2.mh) .nil
  | exc x => intro q; exact q
  | stuck => intro q; exact q

/-! ### objects made -/
theorem run_makeS {pins : List (Addr × Obj)} {σ : L2.St} {H : Hp} {s : Shared} {Q : VK} {us : List Value} {vs : List V} (M : Mk X.K C f) (F : FnOk X.prog X.w X.K X.mg X.base (L2.CX X.prog X.w) k f fd ps sp) (hr : Room (k + 1) X.A) (hb : Binds X.K fd ps [])
    (hx : PassesAt (L2.CX X.prog X.w) X σ (E σ)) (I : Inv X pins σ H s) (r : Vals vs us)
    (h : ∀ x dx, H x = Option.none → H dx = Option.none → dx ≠ x → sp (.ref x :: vs) (upd (upd H dx (.own x)) x (.ins C dx [])) (fun v H2 => v = .non ∧ Q (.ref x) H2) (E σ)) :
    wpAny (model X.prog X.w) X.A (call (.ref C) us) (EP X pins σ Q) X.xe s := by
  have hq := h (s.heap.objs.size + 1) s.heap.objs.size (I.hok.fresh (Nat.le_succ _)) (I.hok.fresh (Nat.le_refl _)) (Nat.ne_of_lt (Nat.lt_succ_self _))
  have I2 := Inv.made (C := C) I
  have r2 : Vals (V.ref (s.heap.objs.size + 1) :: vs) (Value.ref (s.heap.objs.size + 1) :: us) := .cons rfl r
  have hl : (Value.ref (s.heap.objs.size + 1) :: us).length = ps.length := by
    have e := r2.length
    rw [F.len _ _ _ _ hq] at e
    exact e.symm
  have b := hb _ (Value.ref (s.heap.objs.size + 1) :: us) I2.kIn (by rw [List.append_nil]; exact hl)
  rw [List.append_nil] at b
  refine wpAny_call (make_map (f := f) I.kIn M.makes M.init (beq_iff_eq.mp M.fn) (codeAny_mono (F.run _ X.stack _ _ ⟨Value.ref (s.heap.objs.size + 1) :: us, []⟩ (Value.ref (s.heap.objs.size + 1) :: us) _ _ (E σ) (hr.make C us [])
    (I2.env0.make C us []) b r2 hq) fun r s' hq' => ?_))
  cases r with
  | error e => exact hx pins _ _ e s' I2 hq'
  | ok fl =>
    cases fl with
    | ret u =>
      obtain ⟨v, H', I3, rv, ev, q3⟩ := I2.after hq'
      subst ev
      exact ⟨rv, ⟨V.ref (s.heap.objs.size + 1), H', I3, rfl, q3⟩⟩
    | next => exact False.elim hq'
    | brk => exact False.elim hq'
    | cont => exact False.elim hq'
def tMakeS (C : Addr) (sp : Sp) (E : L2.St → XK) (t : TA) : TE := fun σ H Q => t σ H fun vs H1 => ∀ x dx, H1 x = Option.none → H1 dx = Option.none → dx ≠ x →
  sp (.ref x :: vs) (upd (upd H1 dx (.own x)) x (.ins C dx [])) (fun v H2 => v = .non ∧ Q (.ref x) H2) (E σ)
theorem pe_makeS (M : Mk X.K C f) (F : FnOk X.prog X.w X.K X.mg X.base (L2.CX X.prog X.w) k f fd ps sp) (hr : Room (k + 1) X.A) (hg : Gl X x) (hm : X.mg x = some (.ref C)) (hb : Binds X.K fd ps []) (hx : ∀ σ, PassesAt (L2.CX X.prog X.w) X σ (E σ))
    (ha : PA X (e :: es) t) (hdb : (x == ("__debug__" : Str)) = false := by decide) (he : starEach (e :: es) X.env = (false, eval e X.env) :: starEach es X.env := by rfl) (hpl : (backTo pos (starEach es X.env)).any (·.1) = false := by rfl) :
    PE X (.Call (.Name x p) (e :: es) [] pos) (tMakeS C sp E t) := by
  refine ⟨fun pins s σ H Q I h => ?_⟩
  refine wpAny_Call_Name_kw (ld_glob I hg hm ?_ hdb)
  refine PySem.W.callWith_K (h₀ := X.base) I.ok.mod.kin M.kp (thn (ha.run pos pins s σ H _ I h) fun us s1 ⟨vs, H1, I1, r, q⟩ => ⟨I1.kIn, ?_⟩) he hpl
  exact run_makeS M F hr hb (hx σ) I1 r q
theorem pe_makeS0 (M : Mk X.K C f) (F : FnOk X.prog X.w X.K X.mg X.base (L2.CX X.prog X.w) k f fd ps sp) (hr : Room (k + 1) X.A) (hg : Gl X x) (hm : X.mg x = some (.ref C)) (hb : Binds X.K fd ps []) (hx : ∀ σ, PassesAt (L2.CX X.prog X.w) X σ (E σ))
    (hdb : (x == ("__debug__" : Str)) = false := by decide) : PE X (.Call (.Name x p) [] [] pos) (tMakeS C sp E tNil) := by
  refine ⟨fun pins s σ H Q I h => ?_⟩
  refine wpAny_Call_Name_kw (ld_glob I hg hm ?_ hdb)
  exact PySem.W.callWith_K0 I.kIn M.kp (run_makeS (us := []) M F hr hb (hx σ) I .nil h)
/-- a class to be made by its name, with its __init__ -/
def Maker (P : Program) (w : World) (K : PySem.W.Frag) (mg : Str → Option Value) (base : Heap) (T : Tab) (c : Nat) (x : Str) (k n : Nat) (sem : Sem) : Prop :=
  ∃ f fd ps, Mk K (T.ca c) f ∧ FnOk P w K mg base (L2.CX P w) k f fd ps (spF K T true n sem) ∧ mg x = some (.ref (T.ca c)) ∧ Binds K fd ps []
/-- C(..): the new object is the store's last -/
def fMake (c n : Nat) (sem : Sem) (fa : Sta → PR (List D)) : Sta → Fe := fun s => match fa s with
  | .ok ds => if ds.length + 1 = n then (match sem (.obj s.st.length :: ds) (s.st ++ [⟨c, []⟩]) with
    | .ok (.v .none) st => .ok (.v (.obj s.st.length)) { s with st := st }
    | .ok _ _ => .stuck
    | .exc e st => .exc e { s with st := st }
    | .stuck => .stuck) else .stuck
  | .exc e => .exc e s
  | .stuck => .stuck
theorem StoreR.snoc {K : PySem.W.Frag} {ob : Ob} {a : Addr} {f2 : List Addr} : ∀ {st : List Ob} {as : List Addr} {f1 : List Addr}, StoreR K T m M H st as f1 → as.length = st.length → ObR K T m M H ob a f2 → StoreR K T m M H (st ++ [ob]) (as ++ [a]) (f1 ++ f2)
  | [], [], f1, h, _, ho => by
    have : f1 = [] := h
    subst this
    exact ⟨f2, [], by simp, ho, rfl⟩
  | ob' :: st, a' :: as, f1, h, hl, ho => by
    obtain ⟨g1, g2, e, h1, h2⟩ := h
    subst e
    exact ⟨g1, g2 ++ f2, by simp, h1, StoreR.snoc h2 (by simpa using hl) ho⟩
  | [], _ :: _, _, _, hl, _ => by simp at hl
  | _ :: _, [], _, h, _, _ => h.elim
theorem Rel.made {s : Sta} {σ : L2.St} (R : Rel X.K T m M G H s σ) (al : m.length = s.st.length) {a dx : Addr} (ha : H a = Option.none) (hd : H dx = Option.none) (hne : dx ≠ a) (c : Nat) :
    Rel X.K T (m ++ [a]) M G (upd (upd H dx (.own a)) a (.ins (T.ca c) dx [])) { s with st := s.st ++ [⟨c, []⟩] } σ := by
  have same : Same H (upd (upd H dx (.own a)) a (.ins (T.ca c) dx [])) := fun b o e => by
    rw [upd_ne (ne_of_none e ha), upd_ne (ne_of_none e hd)]
    exact e
  obtain ⟨mh, gh, ⟨f1, f2, h1, h2, nd, dj⟩⟩ := R
  have here : ∀ b ∈ f1 ++ f2, ∃ o, H b = some o := fun b hb => by
    rcases List.mem_append.mp hb with hb | hb
    · exact h1.here b hb
    · exact h2.here b hb
  have hh : ∀ b ∈ f1 ++ f2, (upd (upd H dx (.own a)) a (.ins (T.ca c) dx [])) b = H b := fun b hb => by
    obtain ⟨o, ho⟩ := here b hb
    rw [ho]
    exact same _ _ ho
  have ml : MLe m (m ++ [a]) := MLe.snoc m a
  refine ⟨mh.trans same, gh.trans same, f1, f2 ++ [a], h1.mono ml (Same.refl _) fun b hb => hh b (by simp [hb]), ?_, ?_, fun b hb => ?_⟩
  · refine StoreR.snoc (h2.mono ml (MLe.refl _) (Same.refl _) fun b hb => hh b (by simp [hb])) al ⟨dx, [], [], rfl, upd_same, rfl⟩
  · rw [← List.append_assoc, List.nodup_append]
    refine ⟨nd, by simp, fun b hb d hd e => ?_⟩
    have : d = a := by simpa using hd
    subst this
    obtain ⟨o, ho⟩ := here b hb
    rw [e, ha] at ho
    cases ho
  · rw [← List.append_assoc] at hb
    rcases List.mem_append.mp hb with hb | hb
    · exact dj b hb
    · have : b = a := by simpa using hb
      subst this
      exact ⟨mh.free ha, gh.free ha⟩
theorem fe_make_of {σ : L2.St} {H : Hp} {Q : VK} (h : tF X T W true (fMake c n sem fa) σ H Q) : tMakeS (T.ca c) (spF X.K T true n sem) (WE W) (tAs X T W fa) σ H Q := by
  obtain ⟨s, m, M, G, R, a, q⟩ := h
  refine tAs_fe (fs := fa) (kk := fun s ds => if ds.length + 1 = n then (match sem (.obj s.st.length :: ds) (s.st ++ [⟨c, []⟩]) with
    | .ok (.v .none) st => .ok (.v (.obj s.st.length)) { s with st := st }
    | .ok _ _ => .stuck
    | .exc e st => .exc e { s with st := st }
    | .stuck => .stuck) else .stuck) R a q fun ds ys H' M' g r k => ?_
  by_cases hl : ds.length + 1 = n
  · rw [if_pos hl] at k
    intro x dx hx hd hne
    have R1 := R.grow g
    have al := a rfl
    have R2 := R1.made al hx hd hne c
    have ml : MLe m (m ++ [x]) := MLe.snoc m x
    have e0 : Ext true G m M' (m ++ [x]) M' := ⟨ml, (fun h => nomatch h), Same.refl _, fun _ _ h => .inl h⟩
    have mx : (m ++ [x])[s.st.length]? = some x := by rw [← al]; simp
    refine spF_of (s := { s with st := s.st ++ [⟨c, []⟩] }) rfl R2 (fun _ => by simp [al]) (by simp [r.length]; exact hl) (.cons (.obj mx) (DRs.mono ml (Same.refl _) _ _ r)) ?_
    unfold Fr.fe
    dsimp only
    cases hs : sem (.obj s.st.length :: ds) (s.st ++ [⟨c, []⟩]) with
    | ok r st' =>
      rw [hs] at k
      cases r with
      | v d =>
        cases d <;> try (exact k.elim)
        intro y H2 m2 M2 e2 a2 R3
        have hd := R3.head
        cases hd
        refine ⟨rfl, k _ H2 m2 M2 (e0.trans e2) a2 ?_⟩
        have R4 := R3.tail.consU.setV 0 (d := .obj s.st.length) (.obj (e2.ml _ _ mx))
        exact R4
      | un => exact k.elim
      | own d => exact k.elim
    | exc e st' =>
      rw [hs] at k
      exact fun cls d H2 m2 M2 e2 a2 R3 xr => k cls d H2 m2 M2 (e0.trans e2) a2 R3 xr
    | stuck => rw [hs] at k; exact k
  · rw [if_neg hl] at k
    exact k.elim
theorem fe_make (cm : Maker X.prog X.w X.K X.mg X.base T c x k n sem) (hr : Room (k + 1) X.A) (hg : Gl X x) (tk : Takes X W) (ha : PAs X T W (e :: es) fa)
    (hdb : (x == ("__debug__" : Str)) = false := by decide) (he : starEach (e :: es) X.env = (false, eval e X.env) :: starEach es X.env := by rfl) (hpl : (backTo pos (starEach es X.env)).any (·.1) = false := by rfl) :
    FEv X T W true (.Call (.Name x p) (e :: es) [] pos) (fMake c n sem fa) := by
  obtain ⟨f, fd, ps, M, F, hm, hb⟩ := cm
  exact PE.wk (pe_makeS M F hr hg hm hb (fun σ => passAt tk σ) ha hdb he hpl) fun σ H Q h => fe_make_of h
end
end
end MP

/-! MP 8: calls of defs with objects of their own, calls that only look. -/
namespace MP
open PySem PySem.Spec PyProof.Rows L2
mutual
def D.noObj : D → Bool
  | .list xs => noObjs xs
  | .lk xs => noObjs xs
  | .tup xs => noObjs xs
  | .dic kvs => noObjk kvs
  | .obj _ => false
  | _ => true
def noObjs : List D → Bool
  | [] => true
  | x :: xs => x.noObj && noObjs xs
def noObjk : List (Key × D) → Bool
  | [] => true
  | (_, x) :: xs => x.noObj && noObjk xs
end
section
variable {K : PySem.W.Frag} {m m' : List Addr} {H : Hp}
mutual
theorem DR.noObj : ∀ (d : D) (v : V), DR K m H v d → d.noObj = true → DR K m' H v d
  | .none, _, h, _ => by cases h; exact .non
  | .bool b, _, h, _ => by cases h; exact .bl b
  | .int i, _, h, _ => by cases h; exact .int i
  | .str x, _, h, _ => by cases h; exact .str x
  | .list ds, _, h, c => by
    cases h with
    | list h1 h2 => rw [D.noObj] at c; exact .list h1 (DRs.noObj ds _ h2 c)
  | .lk ds, _, h, c => by
    cases h with
    | lk h1 h2 => rw [D.noObj] at c; exact .lk h1 (DRs.noObj ds _ h2 c)
  | .tup ds, _, h, c => by
    cases h with
    | tup h1 h2 => rw [D.noObj] at c; exact .tup h1 (DRs.noObj ds _ h2 c)
  | .dic kvs, _, h, c => by
    cases h with
    | dic h1 h2 => rw [D.noObj] at c; exact .dic h1 (DRk.noObj kvs _ h2 c)
  | .obj n, _, h, c => by rw [D.noObj] at c; cases c
theorem DRs.noObj : ∀ (ds : List D) (vs : List V), DRs K m H vs ds → noObjs ds = true → DRs K m' H vs ds
  | [], _, h, _ => by cases h; exact .nil
  | d :: ds, _, h, c => by
    cases h with
    | cons h1 h2 =>
      rw [noObjs, Bool.and_eq_true] at c
      exact .cons (DR.noObj d _ h1 c.1) (DRs.noObj ds _ h2 c.2)
theorem DRk.noObj : ∀ (ds : List (Key × D)) (vs : List (Key × V)), DRk K m H vs ds → noObjk ds = true → DRk K m' H vs ds
  | [], _, h, _ => by cases h; exact .nil
  | (k, d) :: ds, _, h, c => by
    cases h with
    | cons h1 h2 =>
      rw [noObjk, Bool.and_eq_true] at c
      exact .cons (DR.noObj d _ h1 c.1) (DRk.noObj ds _ h2 c.2)
end
theorem ObD.noObj {o : HO} {d : D} (h : ObD K m H o d) (c : d.noObj = true) : ObD K m' H o d := by
  cases h with
  | lst h => rw [D.noObj] at c; exact .lst (DRs.noObj _ _ h c)
  | dic h => rw [D.noObj] at c; exact .dic (DRk.noObj _ _ h c)
theorem noObjs_map {α : Type} {f : α → D} (h : ∀ a, (f a).noObj = true) : ∀ l : List α, noObjs (l.map f) = true
  | [] => by simp [noObjs]
  | a :: l => by simp [noObjs, h a, noObjs_map h l]
end
section
variable {X : Cx} {T : Tab} {W : WX} {e o : Expr} {es : List Expr} {pos p : Pos} {k n : Nat} {sem : Sem} {x : Str}
/-- a def that makes objects of its own, which nobody sees -/
def pSeal (n : Nat) (sem : Sem) (fs : Sta → PR (List D)) : Sta → PR RV := fun s => (fs s).bind fun ds => if ds.length = n ∧ noObjs ds = true then (match sem ds [] with
  | .ok (.v d) _ => if d.noObj = true then .ok (sh d) else .stuck
  | .ok (.own d) _ => if d.noObj = true then .ok (fr d) else .stuck
  | _ => .stuck) else .stuck
theorem ev_seal {fs : Sta → PR (List D)} (c : Callee X.prog X.w X.K X.mg X.base T x true k n sem) (hr : Room k X.A) (hg : Gl X x) (tk : Takes X W) (ha : PAs X T W (e :: es) fs)
    (hdb : (x == ("__debug__" : Str)) = false := by decide) (he : starEach (e :: es) X.env = (false, eval e X.env) :: starEach es X.env := by rfl) (hpl : (backTo pos (starEach es X.env)).any (·.1) = false := by rfl) :
    PEv X T W (.Call (.Name x p) (e :: es) [] pos) (pSeal n sem fs) := by
  obtain ⟨f, fd, ps, F, hm, hk, hb⟩ := c
  refine PE.wk (pe_callS F hr hg hm hk hb (fun σ => passAt tk σ) ha hdb he hpl) ?_
  rintro σ H Q ⟨s, m, M, G, R, q⟩
  refine ⟨s, m, M, G, R, ?_⟩
  revert q
  unfold pSeal PR.bind
  cases fs s with
  | ok ds =>
    intro q ys H1 M1 g1 r1
    dsimp only at q
    by_cases hl : ds.length = n ∧ noObjs ds = true
    · rw [if_pos hl] at q
      refine ⟨ds, [], [], M1, H1, by rw [r1.length]; exact hl.1, DRs.noObj _ _ r1 hl.2, rel_pure g1.mh, (fun _ => rfl), ?_⟩
      cases hs : sem ds [] with
      | ok r st' =>
        rw [hs] at q
        intro y H' m' M' e' a' R'
        have g2 : Grow H1 M1 H' M' := ⟨R'.gh, e'.mm, R'.mh, e'.new⟩
        obtain ⟨mh, gh, ⟨f1, f2, h1, h2, nd, dj⟩⟩ := R'
        obtain ⟨f3, f4, ef, h3, h4⟩ := h1
        cases r with
        | un => exact q.elim
        | v d =>
          obtain ⟨_, y', ey, hd⟩ := h3
          cases ey
          dsimp only at q
          by_cases hn : d.noObj = true
          · rw [if_pos hn] at q
            exact q y H' M' (g1.trans g2) (DR.noObj _ _ hd hn)
          · rw [if_neg hn] at q
            exact q.elim
        | own d =>
          obtain ⟨b, ob, ef3, ey, hb', hd⟩ := h3
          cases ey
          have dja := dj b (by simp [ef, ef3])
          dsimp only at q
          by_cases hn : d.noObj = true
          · rw [if_pos hn] at q
            exact q (.ref b) H' M' (g1.trans g2) ⟨b, ob, rfl, hb', hd.noObj hn, dja.1, g1.same.free dja.2⟩
          · rw [if_neg hn] at q
            exact q.elim
      | exc x st' => rw [hs] at q; exact q.elim
      | stuck => rw [hs] at q; exact q
    · rw [if_neg hl] at q
      exact q.elim
  | exc e => intro q; exact q
  | stuck => intro q; exact q
/-- a def that only looks at its arguments and hands back a flat value -/
def pLook (n : Nat) (sem : Sem) (fs : Sta → PR (List RV)) : Sta → PR RV := fun s => (fs s).bind fun rs => if rs.length = n then (match sem (rs.map RV.d) [] with
  | .ok (.v d) _ => if flatD d = true then .ok (sh d) else .stuck
  | _ => .stuck) else .stuck
theorem args_dr {K : PySem.W.Frag} {m : List Addr} {M H0 H : Hp} (s : Same M H) : ∀ {ys : List V} {rs : List RV}, Paired (RR K m M H0 H) ys rs → DRs K m H ys (rs.map RV.d)
  | _, _, .nil => .nil
  | _, _, .cons r t => .cons (r.arg.dr s) (args_dr s t)
theorem DR.flatAny {K : PySem.W.Frag} {m m' : List Addr} {H H' : Hp} {v : V} {d : D} (h : DR K m H v d) (f : flatD d = true) : DR K m' H' v d := by
  cases h with
  | non => exact .non
  | bl b => exact .bl b
  | int i => exact .int i
  | str x => exact .str x
  | _ => cases f
theorem ev_look {fs : Sta → PR (List RV)} (c : Callee X.prog X.w X.K X.mg X.base T x false k n sem) (hr : Room k X.A) (hg : Gl X x) (tk : Takes X W) (ha : PAr X T W (e :: es) fs)
    (hdb : (x == ("__debug__" : Str)) = false := by decide) (he : starEach (e :: es) X.env = (false, eval e X.env) :: starEach es X.env := by rfl) (hpl : (backTo pos (starEach es X.env)).any (·.1) = false := by rfl) :
    PEv X T W (.Call (.Name x p) (e :: es) [] pos) (pLook n sem fs) := by
  obtain ⟨f, fd, ps, F, hm, hk, hb⟩ := c
  refine PE.wk (pe_callS F hr hg hm hk hb (fun σ => passAt tk σ) ha hdb he hpl) ?_
  rintro σ H Q ⟨s, m, M, G, R, q⟩
  refine ⟨s, m, M, G, R, ?_⟩
  revert q
  unfold pLook PR.bind
  cases fs s with
  | ok rs =>
    intro q ys H1 M1 g1 r1
    dsimp only at q
    by_cases hl : rs.length = n
    · rw [if_pos hl] at q
      have rd := args_dr g1.mh r1
      refine ⟨rs.map RV.d, [], m, H1, H1, by rw [rd.length]; simpa using hl, rd, rel_pure (Same.refl _), (fun h => nomatch h), ?_⟩
      cases hs : sem (rs.map RV.d) [] with
      | ok r st' =>
        rw [hs] at q
        intro y H' m' M' e' a' R'
        cases r with
        | un => exact q.elim
        | v d =>
          dsimp only at q
          by_cases hn : flatD d = true
          · rw [if_pos hn] at q
            have g2 : Grow H1 M1 H' M1 := ⟨R'.gh, Same.refl _, g1.mh.trans R'.gh, fun _ _ h => .inl h⟩
            exact q y H' M1 (g1.trans g2) (R'.head.flatAny hn)
          · rw [if_neg hn] at q
            exact q.elim
        | own d => exact q.elim
      | exc x st' => rw [hs] at q; exact q.elim
      | stuck => rw [hs] at q; exact q
    · rw [if_neg hl] at q
      exact q.elim
  | exc e => intro q; exact q
  | stuck => intro q; exact q
section
variable {a b c : Expr} {fa fb fc : Sta → PR RV}
theorem ev_chain {op op' : CmpOp} {g g' : D → D → Option RV} (ho : Op2Ok X (compareOp op) g) (ho' : Op2Ok X (compareOp op') g') (ha : PEv X T W a fa) (hb : PEv X T W b fb) (hc : PEv X T W c fc)
    (hm : lastMarks [op, op'] [b, c] = false := by with_unfolding_all rfl) : PEv X T W (.Compare a [op, op'] [b, c] pos) (p3 g g' fa fb fc) := by
  obtain ⟨r, h1, h2⟩ := ho
  obtain ⟨r', h1', h2'⟩ := ho'
  exact PE.wk (pe_chain h1 h1' ha hb hc hm) fun σ H Q h => ev_chain_r h2 h2' h
theorem et_chain {op op' : CmpOp} {g g' : D → D → Option RV} (ho : Op2Ok X (compareOp op) g) (ho' : Op2Ok X (compareOp op') g') (ha : PEv X T W a fa) (hb : PEv X T W b fb) (hc : PEv X T W c fc)
    (hm : lastMarks [op, op'] [b, c] = false := by with_unfolding_all rfl) : PTv X T W (.Compare a [op, op'] [b, c] pos) (pB (p3 g g' fa fb fc)) := by
  obtain ⟨r, h1, h2⟩ := ho
  obtain ⟨r', h1', h2'⟩ := ho'
  exact PT.wk (pt_chain h1 h1' ha hb hc hm) fun σ H Q h => ev_chain_r h2 h2' (tB_of h)
end
theorem hu64 {k : Nat} {A : Around} (hr : Room k A) : A.units + 64 < cLine := hr.units
theorem hu65 {k : Nat} {A : Around} (hr : Room k A) : A.units + 65 < cLine := by have := hr.un; omega
/-- a name's new list is shared at once -/
def sThaw (i : Nat) (g : Sta → Fl) : Sta → Fl := fun s => match g s with
  | .nx s' => .nx (frz i s')
  | fl => fl
theorem s_thaw {al : Bool} {st : Stmt} {g : Sta → Fl} {i : Nat} (h : SE1 X T W al st g) : SE1 X T W al st (sThaw i g) := by
  refine PS.wk h ?_
  rintro D σ H ⟨s, m, M, G, R, a, q⟩
  refine ⟨s, m, M, G, R, a, ?_⟩
  unfold sThaw at q
  cases hg : g s with
  | nx s' =>
    rw [hg] at q
    intro σ' H' m' M' e' a' R'
    obtain ⟨M2, e2, R2⟩ := R'.frz (al := al) i
    refine q σ' H' m' M2 (e'.trans e2) (fun h => ?_) R2
    rw [a' h]
    unfold frz
    split <;> rfl
  | brk s' => rw [hg] at q; exact q
  | cont s' => rw [hg] at q; exact q
  | ret r s' => rw [hg] at q; exact q
  | exc x s' => rw [hg] at q; exact q
  | stuck => rw [hg] at q; exact q
/-- a constant of the module's top -/
theorem ev_glob {v : V} {u : Value} {d : D} (hg : Gl X x) (hm : X.mg x = some u) (r : RelV v u) (hd : ∀ m M, DR X.K m M v d) (hdb : (x == ("__debug__" : Str)) = false := by decide) : PEv X T W (.Name x pos) (pC d) :=
  ev_const (pe_glob hg hm r hdb) hd
end
end MP

/-! MP 9: the evaluator's steps as equations, loops by an invariant. -/
namespace MP
open PySem PySem.Spec PyProof.Rows L2


/-! ### the steps of the evaluator, as functions of results -/
variable {env : List Slot} {st : List Ob}
def xD : PR RV → PR D
  | .ok ⟨.sh, d⟩ => .ok d
  | .ok ⟨.fr, d⟩ => .ok d
  | .ok ⟨.pk, _⟩ => .stuck
  | .exc e => .exc e
  | .stuck => .stuck
def x1 (g : D → Option RV) : PR RV → PR RV
  | .ok x => .of (g x.d)
  | .exc e => .exc e
  | .stuck => .stuck
def x2 (g : D → D → Option RV) : PR RV → PR RV → PR RV
  | .ok x, .ok y => .of (g x.d y.d)
  | .ok _, .exc e => .exc e
  | .ok _, .stuck => .stuck
  | .exc e, _ => .exc e
  | .stuck, _ => .stuck
def xB : PR RV → PR Bool
  | .ok ⟨_, .bool b⟩ => .ok b
  | .ok _ => .stuck
  | .exc e => .exc e
  | .stuck => .stuck
def xNot : PR Bool → PR Bool
  | .ok b => .ok (!b)
  | .exc e => .exc e
  | .stuck => .stuck
def xAnd (g : Sta → PR Bool) (s : Sta) : PR Bool → PR Bool
  | .ok true => g s
  | .ok false => .ok false
  | .exc e => .exc e
  | .stuck => .stuck
def xOr (g : Sta → PR Bool) (s : Sta) : PR Bool → PR Bool
  | .ok true => .ok true
  | .ok false => g s
  | .exc e => .exc e
  | .stuck => .stuck
def xAndV (g : Sta → PR RV) (s : Sta) : PR Bool → PR RV
  | .ok true => g s
  | .ok false => .ok ⟨.sh, .bool false⟩
  | .exc e => .exc e
  | .stuck => .stuck
def xOrV (g : Sta → PR RV) (s : Sta) : PR Bool → PR RV
  | .ok true => .ok ⟨.sh, .bool true⟩
  | .ok false => g s
  | .exc e => .exc e
  | .stuck => .stuck
def xNotV : PR Bool → PR RV
  | .ok b => .ok ⟨.sh, .bool (!b)⟩
  | .exc e => .exc e
  | .stuck => .stuck
def xIfV (f g : Sta → PR RV) (s : Sta) : PR Bool → PR RV
  | .ok true => f s
  | .ok false => g s
  | .exc e => .exc e
  | .stuck => .stuck
def x3b (g' : D → D → Option RV) (y : D) (fc : Sta → PR RV) (s : Sta) : PR Bool → PR RV
  | .ok true => x1 (g' y) (fc s)
  | .ok false => .ok ⟨.sh, .bool false⟩
  | .exc e => .exc e
  | .stuck => .stuck
def x3 (g g' : D → D → Option RV) (fc : Sta → PR RV) (s : Sta) : PR RV → PR RV → PR RV
  | .ok x, .ok y => x3b g' y.d fc s (xB (.of (g x.d y.d)))
  | .ok _, .exc e => .exc e
  | .ok _, .stuck => .stuck
  | .exc e, _ => .exc e
  | .stuck, _ => .stuck
def xCons {α : Type} : PR α → PR (List α) → PR (List α)
  | .ok x, .ok y => .ok (x :: y)
  | .ok _, .exc e => .exc e
  | .ok _, .stuck => .stuck
  | .exc e, _ => .exc e
  | .stuck, _ => .stuck
def xTp : PR (List D) → PR RV
  | .ok ds => if ds.length ≤ 1000 then .ok ⟨.sh, .tup ds⟩ else .stuck
  | .exc e => .exc e
  | .stuck => .stuck
def xLs : PR (List D) → PR RV
  | .ok ds => if ds.length ≤ 1000 then .ok ⟨.fr, .list ds⟩ else .stuck
  | .exc e => .exc e
  | .stuck => .stuck
def xSo : PR RV → PR (Option Int)
  | .ok ⟨_, .int i⟩ => .ok (some i)
  | .ok _ => .stuck
  | .exc e => .exc e
  | .stuck => .stuck
def xSl : PR RV → PR (Option Int) → PR (Option Int) → PR RV
  | .ok x, .ok l, .ok u => .of (gSl x.d l u)
  | .exc e, _, _ => .exc e
  | .stuck, _, _ => .stuck
  | .ok _, .exc e, _ => .exc e
  | .ok _, .stuck, _ => .stuck
  | .ok _, .ok _, .exc e => .exc e
  | .ok _, .ok _, .stuck => .stuck
def xG {α : Type} (g : List D → Option α) : PR (List RV) → PR α
  | .ok rs => .of (g (rs.map RV.d))
  | .exc e => .exc e
  | .stuck => .stuck
def xSq : PR D → PR (List D)
  | .ok d => .of (seqOf d)
  | .exc e => .exc e
  | .stuck => .stuck
def xSqR : PR RV → PR (List D)
  | .ok d => .of (seqOf d.d)
  | .exc e => .exc e
  | .stuck => .stuck
def xEn : PR (List D) → PR (List D)
  | .ok d => .of (gEnum d)
  | .exc e => .exc e
  | .stuck => .stuck
def xC2 : PR (List D) → PR RV
  | .ok r => .ok ⟨.fr, .list r⟩
  | .exc e => .exc e
  | .stuck => .stuck
def xC (t : Tg) (tt : Sta → PR Bool) (te : Sta → PR D) (s : Sta) : PR (List D) → PR RV
  | .ok ds => if ds.length ≤ 16777216 then xC2 (compL t tt te s ds) else .stuck
  | .exc e => .exc e
  | .stuck => .stuck
def xF : Fr → PR RV
  | .ok (.v d) _ => .ok ⟨.sh, d⟩
  | .ok (.own d) _ => .ok ⟨.fr, d⟩
  | .ok .un _ => .stuck
  | .exc e _ => .exc e
  | .stuck => .stuck
def xU (n : Nat) (sem : Sem) : PR (List D) → PR RV
  | .ok ds => if ds.length = n then xF (sem ds []) else .stuck
  | .exc e => .exc e
  | .stuck => .stuck
def xSeF : Fr → PR RV
  | .ok (.v d) _ => if d.noObj = true then .ok ⟨.sh, d⟩ else .stuck
  | .ok (.own d) _ => if d.noObj = true then .ok ⟨.fr, d⟩ else .stuck
  | _ => .stuck
def xSe (n : Nat) (sem : Sem) : PR (List D) → PR RV
  | .ok ds => if ds.length = n ∧ noObjs ds = true then xSeF (sem ds []) else .stuck
  | .exc e => .exc e
  | .stuck => .stuck
def xLoF : Fr → PR RV
  | .ok (.v d) _ => if flatD d = true then .ok ⟨.sh, d⟩ else .stuck
  | _ => .stuck
def xLo (n : Nat) (sem : Sem) : PR (List RV) → PR RV
  | .ok rs => if rs.length = n then xLoF (sem (rs.map RV.d) []) else .stuck
  | .exc e => .exc e
  | .stuck => .stuck
def xLk (f : Nat) : List (Nat × Slot) → PR RV
  | [] => .stuck
  | (g, s) :: r => if f = g then PR.of s.look else xLk f r
def xOb (c f : Nat) : Option Ob → PR RV
  | some ob => if ob.cls = c then xLk f ob.fs else .stuck
  | none => .stuck
def xFd (c f : Nat) (st : List Ob) : PR RV → PR RV
  | .ok ⟨_, .obj j⟩ => xOb c f st[j]?
  | .ok _ => .stuck
  | .exc e => .exc e
  | .stuck => .stuck

theorem of_some {α : Type} (a : α) : PR.of (some a) = .ok a := Eq.trans rfl rfl
theorem map_some {α β : Type} (a : α) (f : α → β) : (some a).map f = some (f a) := Eq.trans rfl rfl
theorem e_lv (d : D) : Slot.look (.v d) = some ⟨.sh, d⟩ := Eq.trans rfl rfl
theorem e_lo (d : D) : Slot.look (.own d) = some ⟨.pk, d⟩ := Eq.trans rfl rfl
theorem e_pD (f : Sta → PR RV) : pD f ⟨env, st⟩ = xD (f ⟨env, st⟩) := by
  unfold pD PR.bind xD RV.shr
  cases f ⟨env, st⟩ with
  | ok r => obtain ⟨k, d⟩ := r; cases k <;> rfl
  | exc e => rfl
  | stuck => rfl
theorem e_xDs (d : D) : xD (.ok ⟨.sh, d⟩) = .ok d := Eq.trans rfl rfl
theorem e_xDf (d : D) : xD (.ok ⟨.fr, d⟩) = .ok d := Eq.trans rfl rfl
theorem e_pC (d : D) : pC d ⟨env, st⟩ = .ok ⟨.sh, d⟩ := Eq.trans rfl rfl
theorem e_pYes : pYes ⟨env, st⟩ = .ok true := Eq.trans rfl rfl
theorem e_pVar (i : Nat) : pVar i ⟨env, st⟩ = PR.of (env[i]?.bind Slot.look) := Eq.trans rfl rfl
theorem e_p2 (g : D → D → Option RV) (fa fb : Sta → PR RV) : p2 g fa fb ⟨env, st⟩ = x2 g (fa ⟨env, st⟩) (fb ⟨env, st⟩) := by
  unfold p2 PR.bind x2
  cases fa ⟨env, st⟩ <;> cases fb ⟨env, st⟩ <;> rfl
theorem e_x2 (g : D → D → Option RV) (k k' : RK) (x y : D) : x2 g (.ok ⟨k, x⟩) (.ok ⟨k', y⟩) = PR.of (g x y) := Eq.trans rfl rfl
theorem e_p1 (g : D → Option RV) (fa : Sta → PR RV) : p1 g fa ⟨env, st⟩ = x1 g (fa ⟨env, st⟩) := by
  unfold p1 PR.bind x1
  cases fa ⟨env, st⟩ <;> rfl
theorem e_x1 (g : D → Option RV) (k : RK) (x : D) : x1 g (.ok ⟨k, x⟩) = PR.of (g x) := Eq.trans rfl rfl
theorem e_pB (f : Sta → PR RV) : pB f ⟨env, st⟩ = xB (f ⟨env, st⟩) := by
  unfold pB PR.bind xB RV.bool
  cases f ⟨env, st⟩ with
  | ok r => obtain ⟨k, d⟩ := r; cases d <;> rfl
  | exc e => rfl
  | stuck => rfl
theorem e_xB (k : RK) (b : Bool) : xB (.ok ⟨k, .bool b⟩) = .ok b := Eq.trans rfl rfl
theorem e_pNot (f : Sta → PR Bool) : pNot f ⟨env, st⟩ = xNot (f ⟨env, st⟩) := by
  unfold pNot PR.bind xNot
  cases f ⟨env, st⟩ <;> rfl
theorem e_xNot (b : Bool) : xNot (.ok b) = .ok (!b) := Eq.trans rfl rfl
theorem e_pAnd (f g : Sta → PR Bool) : pAnd f g ⟨env, st⟩ = xAnd g ⟨env, st⟩ (f ⟨env, st⟩) := by
  unfold pAnd PR.bind xAnd
  rcases f ⟨env, st⟩ with (_ | _) | e | _ <;> rfl
theorem e_xAndT (g : Sta → PR Bool) (s : Sta) : xAnd g s (.ok true) = g s := Eq.trans rfl rfl
theorem e_xAndF (g : Sta → PR Bool) (s : Sta) : xAnd g s (.ok false) = .ok false := Eq.trans rfl rfl
theorem e_pOr (f g : Sta → PR Bool) : pOr f g ⟨env, st⟩ = xOr g ⟨env, st⟩ (f ⟨env, st⟩) := by
  unfold pOr PR.bind xOr
  rcases f ⟨env, st⟩ with (_ | _) | e | _ <;> rfl
theorem e_xOrT (g : Sta → PR Bool) (s : Sta) : xOr g s (.ok true) = .ok true := Eq.trans rfl rfl
theorem e_xOrF (g : Sta → PR Bool) (s : Sta) : xOr g s (.ok false) = g s := Eq.trans rfl rfl
theorem e_pAndV (f g : Sta → PR RV) : pAndV f g ⟨env, st⟩ = xAndV g ⟨env, st⟩ (xB (f ⟨env, st⟩)) := by
  rw [← e_pB]
  unfold pAndV PR.bind xAndV
  rcases pB f ⟨env, st⟩ with (_ | _) | e | _ <;> rfl
theorem e_xAndVT (g : Sta → PR RV) (s : Sta) : xAndV g s (.ok true) = g s := Eq.trans rfl rfl
theorem e_xAndVF (g : Sta → PR RV) (s : Sta) : xAndV g s (.ok false) = .ok ⟨.sh, .bool false⟩ := Eq.trans rfl rfl
theorem e_pOrV (f g : Sta → PR RV) : pOrV f g ⟨env, st⟩ = xOrV g ⟨env, st⟩ (xB (f ⟨env, st⟩)) := by
  rw [← e_pB]
  unfold pOrV PR.bind xOrV
  rcases pB f ⟨env, st⟩ with (_ | _) | e | _ <;> rfl
theorem e_xOrVT (g : Sta → PR RV) (s : Sta) : xOrV g s (.ok true) = .ok ⟨.sh, .bool true⟩ := Eq.trans rfl rfl
theorem e_xOrVF (g : Sta → PR RV) (s : Sta) : xOrV g s (.ok false) = g s := Eq.trans rfl rfl
theorem e_pNotV (f : Sta → PR RV) : pNotV f ⟨env, st⟩ = xNotV (xB (f ⟨env, st⟩)) := by
  rw [← e_pB]
  unfold pNotV PR.bind xNotV
  cases pB f ⟨env, st⟩ <;> rfl
theorem e_xNotV (b : Bool) : xNotV (.ok b) = .ok ⟨.sh, .bool (!b)⟩ := Eq.trans rfl rfl
theorem e_pIf (t : Sta → PR Bool) (f g : Sta → PR RV) : pIf t f g ⟨env, st⟩ = xIfV f g ⟨env, st⟩ (t ⟨env, st⟩) := by
  unfold pIf PR.bind xIfV
  rcases t ⟨env, st⟩ with (_ | _) | e | _ <;> rfl
theorem e_xIfT (f g : Sta → PR RV) (s : Sta) : xIfV f g s (.ok true) = f s := Eq.trans rfl rfl
theorem e_xIfF (f g : Sta → PR RV) (s : Sta) : xIfV f g s (.ok false) = g s := Eq.trans rfl rfl
theorem e_p3 (g g' : D → D → Option RV) (fa fb fc : Sta → PR RV) : p3 g g' fa fb fc ⟨env, st⟩ = x3 g g' fc ⟨env, st⟩ (fa ⟨env, st⟩) (fb ⟨env, st⟩) := by
  unfold p3 PR.bind x3
  cases fa ⟨env, st⟩ with
  | ok x =>
    cases fb ⟨env, st⟩ with
    | ok y =>
      simp only []
      cases PR.of (g x.d y.d) with
      | ok r =>
        obtain ⟨k, d⟩ := r
        cases d <;> try rfl
        rename_i b
        cases b with
        | true => show _ = x1 (g' y.d) (fc ⟨env, st⟩); unfold x1; cases fc ⟨env, st⟩ <;> rfl
        | false => rfl
      | exc e => rfl
      | stuck => rfl
    | exc e => rfl
    | stuck => rfl
  | exc e => rfl
  | stuck => rfl
theorem e_x3 (g g' : D → D → Option RV) (fc : Sta → PR RV) (s : Sta) (k k' : RK) (x y : D) : x3 g g' fc s (.ok ⟨k, x⟩) (.ok ⟨k', y⟩) = x3b g' y fc s (xB (.of (g x y))) := Eq.trans rfl rfl
theorem e_x3bT (g' : D → D → Option RV) (y : D) (fc : Sta → PR RV) (s : Sta) : x3b g' y fc s (.ok true) = x1 (g' y) (fc s) := Eq.trans rfl rfl
theorem e_x3bF (g' : D → D → Option RV) (y : D) (fc : Sta → PR RV) (s : Sta) : x3b g' y fc s (.ok false) = .ok ⟨.sh, .bool false⟩ := Eq.trans rfl rfl
theorem e_pNil {α : Type} : (pNil : Sta → PR (List α)) ⟨env, st⟩ = .ok [] := Eq.trans rfl rfl
theorem e_pCons {α : Type} (f : Sta → PR α) (fs : Sta → PR (List α)) : pCons f fs ⟨env, st⟩ = xCons (f ⟨env, st⟩) (fs ⟨env, st⟩) := by
  unfold pCons PR.bind xCons
  cases f ⟨env, st⟩ <;> cases fs ⟨env, st⟩ <;> rfl
theorem e_xCons {α : Type} (x : α) (xs : List α) : xCons (.ok x) (.ok xs) = .ok (x :: xs) := Eq.trans rfl rfl
theorem e_pTup (fs : Sta → PR (List D)) : pTup fs ⟨env, st⟩ = xTp (fs ⟨env, st⟩) := by
  unfold pTup PR.bind xTp
  cases fs ⟨env, st⟩ <;> rfl
theorem e_xTp {ds : List D} (h : ds.length ≤ 1000) : xTp (.ok ds) = .ok ⟨.sh, .tup ds⟩ := if_pos h
theorem e_pLst (fs : Sta → PR (List D)) : pLst fs ⟨env, st⟩ = xLs (fs ⟨env, st⟩) := by
  unfold pLst PR.bind xLs
  cases fs ⟨env, st⟩ <;> rfl
theorem e_xLs {ds : List D} (h : ds.length ≤ 1000) : xLs (.ok ds) = .ok ⟨.fr, .list ds⟩ := if_pos h
theorem e_pNo : pNo ⟨env, st⟩ = .ok none := Eq.trans rfl rfl
theorem e_pSome (f : Sta → PR RV) : pSome f ⟨env, st⟩ = xSo (f ⟨env, st⟩) := by
  unfold pSome PR.bind xSo RV.int
  cases f ⟨env, st⟩ with
  | ok r => obtain ⟨k, d⟩ := r; cases d <;> rfl
  | exc e => rfl
  | stuck => rfl
theorem e_xSo (k : RK) (i : Int) : xSo (.ok ⟨k, .int i⟩) = .ok (some i) := Eq.trans rfl rfl
theorem e_pSl (fa : Sta → PR RV) (lo hi : Sta → PR (Option Int)) : pSl fa lo hi ⟨env, st⟩ = xSl (fa ⟨env, st⟩) (lo ⟨env, st⟩) (hi ⟨env, st⟩) := by
  unfold pSl PR.bind xSl
  cases fa ⟨env, st⟩ <;> cases lo ⟨env, st⟩ <;> cases hi ⟨env, st⟩ <;> rfl
theorem e_xSl (k : RK) (x : D) (l u : Option Int) : xSl (.ok ⟨k, x⟩) (.ok l) (.ok u) = PR.of (gSl x l u) := Eq.trans rfl rfl
theorem e_pCall (g : List D → Option RV) (fs : Sta → PR (List RV)) : pCall g fs ⟨env, st⟩ = xG g (fs ⟨env, st⟩) := by
  unfold pCall PR.bind xG
  cases fs ⟨env, st⟩ <;> rfl
theorem e_xG {α : Type} (g : List D → Option α) (rs : List RV) : xG g (.ok rs) = PR.of (g (rs.map RV.d)) := Eq.trans rfl rfl
theorem e_pSeq (f : Sta → PR D) : pSeq f ⟨env, st⟩ = xSq (f ⟨env, st⟩) := by
  unfold pSeq PR.bind xSq
  cases f ⟨env, st⟩ <;> rfl
theorem e_xSq (d : D) : xSq (.ok d) = PR.of (seqOf d) := Eq.trans rfl rfl
theorem e_pSeqR (f : Sta → PR RV) : pSeqR f ⟨env, st⟩ = xSqR (f ⟨env, st⟩) := by
  unfold pSeqR PR.bind xSqR
  cases f ⟨env, st⟩ <;> rfl
theorem e_xSqR (k : RK) (d : D) : xSqR (.ok ⟨k, d⟩) = PR.of (seqOf d) := Eq.trans rfl rfl
theorem e_pRng (g : List D → Option (List D)) (fs : Sta → PR (List RV)) : pRng g fs ⟨env, st⟩ = xG g (fs ⟨env, st⟩) := by
  unfold pRng PR.bind xG
  cases fs ⟨env, st⟩ <;> rfl
theorem e_pEnum (fs : Sta → PR (List D)) : pEnum fs ⟨env, st⟩ = xEn (fs ⟨env, st⟩) := by
  unfold pEnum PR.bind xEn
  cases fs ⟨env, st⟩ <;> rfl
theorem e_xEn (d : List D) : xEn (.ok d) = PR.of (gEnum d) := Eq.trans rfl rfl
theorem e_pComp (f : Sta → PR (List D)) (t : Tg) (vs : List Nat) (tt : Sta → PR Bool) (te : Sta → PR D) : pComp f t vs tt te ⟨env, st⟩ = xC t tt te ⟨wipeE env vs, st⟩ (f ⟨env, st⟩) := by
  unfold pComp PR.bind xC xC2
  cases f ⟨env, st⟩ with
  | ok ds =>
    simp only []
    split
    · cases compL t tt te ⟨wipeE env vs, st⟩ ds <;> rfl
    · rfl
  | exc e => rfl
  | stuck => rfl
theorem e_xC {t : Tg} {tt : Sta → PR Bool} {te : Sta → PR D} {s : Sta} {ds : List D} (h : ds.length ≤ 16777216) : xC t tt te s (.ok ds) = xC2 (compL t tt te s ds) := if_pos h
theorem e_xC2 (r : List D) : xC2 (.ok r) = .ok ⟨.fr, .list r⟩ := Eq.trans rfl rfl
theorem e_pUser (n : Nat) (sem : Sem) (fs : Sta → PR (List D)) : pUser n sem fs ⟨env, st⟩ = xU n sem (fs ⟨env, st⟩) := by
  unfold pUser PR.bind xU xF
  cases fs ⟨env, st⟩ with
  | ok ds =>
    simp only []
    split
    · cases sem ds [] with
      | ok r st' => cases r <;> rfl
      | exc e st' => rfl
      | stuck => rfl
    · rfl
  | exc e => rfl
  | stuck => rfl
theorem e_xU {n : Nat} {sem : Sem} {ds : List D} (h : ds.length = n) : xU n sem (.ok ds) = xF (sem ds []) := if_pos h
theorem e_xFv (d : D) (st : List Ob) : xF (.ok (.v d) st) = .ok ⟨.sh, d⟩ := Eq.trans rfl rfl
theorem e_xFo (d : D) (st : List Ob) : xF (.ok (.own d) st) = .ok ⟨.fr, d⟩ := Eq.trans rfl rfl
theorem e_xFe (e : Ex) (st : List Ob) : xF (.exc e st) = .exc e := Eq.trans rfl rfl
theorem e_pSeal (n : Nat) (sem : Sem) (fs : Sta → PR (List D)) : pSeal n sem fs ⟨env, st⟩ = xSe n sem (fs ⟨env, st⟩) := by
  unfold pSeal PR.bind xSe xSeF
  cases fs ⟨env, st⟩ <;> rfl
theorem e_xSe {n : Nat} {sem : Sem} {ds : List D} (h : ds.length = n) (h2 : noObjs ds = true) : xSe n sem (.ok ds) = xSeF (sem ds []) := if_pos ⟨h, h2⟩
theorem e_xSeFv {d : D} {st : List Ob} (h : d.noObj = true) : xSeF (.ok (.v d) st) = .ok ⟨.sh, d⟩ := if_pos h
theorem e_xSeFo {d : D} {st : List Ob} (h : d.noObj = true) : xSeF (.ok (.own d) st) = .ok ⟨.fr, d⟩ := if_pos h
theorem e_pLook (n : Nat) (sem : Sem) (fs : Sta → PR (List RV)) : pLook n sem fs ⟨env, st⟩ = xLo n sem (fs ⟨env, st⟩) := by
  unfold pLook PR.bind xLo xLoF
  cases fs ⟨env, st⟩ <;> rfl
theorem e_xLo {n : Nat} {sem : Sem} {rs : List RV} (h : rs.length = n) : xLo n sem (.ok rs) = xLoF (sem (rs.map RV.d) []) := if_pos h
theorem e_xLoF {d : D} {st : List Ob} (h : flatD d = true) : xLoF (.ok (.v d) st) = .ok ⟨.sh, d⟩ := if_pos h
theorem xLk_eq (f : Nat) : ∀ fs : List (Nat × Slot), PR.of ((fs.lookup f).bind Slot.look) = xLk f fs
  | [] => rfl
  | (g, s) :: r => by
    rw [List.lookup, xLk]
    by_cases h : f = g
    · rw [if_pos h, beq_iff_eq.mpr h]; rfl
    · rw [if_neg h, beq_eq_false_iff_ne.mpr h]; exact xLk_eq f r
theorem e_pFld (c f : Nat) (fo : Sta → PR RV) : pFld c f fo ⟨env, st⟩ = xFd c f st (fo ⟨env, st⟩) := by
  unfold pFld PR.bind xFd xOb RV.ob
  cases fo ⟨env, st⟩ with
  | ok r =>
    obtain ⟨k, d⟩ := r
    cases d <;> try rfl
    rename_i j
    simp only []
    cases st[j]? with
    | none => rfl
    | some ob =>
      simp only []
      by_cases h : ob.cls = c
      · rw [if_pos h, if_pos h]; exact xLk_eq f ob.fs
      · rw [if_neg h, if_neg h]
  | exc e => rfl
  | stuck => rfl
theorem e_xFd (c f j : Nat) (k : RK) : xFd c f st (.ok ⟨k, .obj j⟩) = xOb c f st[j]? := Eq.trans rfl rfl
theorem e_xOb {c f : Nat} {ob : Ob} (h : ob.cls = c) : xOb c f (some ob) = xLk f ob.fs := if_pos h
theorem e_xLk0 (f : Nat) (s : Slot) (r : List (Nat × Slot)) : xLk f ((f, s) :: r) = PR.of s.look := if_pos rfl
theorem e_xLk1 {f g : Nat} {s : Slot} {r : List (Nat × Slot)} (h : f ≠ g) : xLk f ((g, s) :: r) = xLk f r := if_neg h
theorem e_c0 : ((0 : Nat) : Int) = 0 := Eq.trans rfl rfl
theorem e_c1 : ((1 : Nat) : Int) = 1 := Eq.trans rfl rfl

/-! ### operations -/
theorem g_add (i j : Int) : gPlus (.int i) (.int j) = some ⟨.sh, .int (i + j)⟩ := Eq.trans rfl rfl
theorem g_catS {x y : Str} (h : x.length + y.length ≤ 16777216) : gPlus (.str x) (.str y) = some ⟨.sh, .str (x ++ y)⟩ := by
  show (gAdd _ _).or ((gCatS _ _).or _) = _
  unfold gCatS
  simp only [if_pos h]
  rfl
theorem g_catL {x y : List D} (h : x.length + y.length ≤ 16777216) : gPlus (.list x) (.list y) = some ⟨.fr, .list (x ++ y)⟩ := by
  show (gAdd _ _).or ((gCatS _ _).or ((gCatL _ _).or _)) = _
  unfold gCatL
  simp only [if_pos h]
  rfl
theorem g_catT {x y : List D} (h : x.length + y.length ≤ 16777216) : gPlus (.tup x) (.tup y) = some ⟨.sh, .tup (x ++ y)⟩ := by
  show (gAdd _ _).or ((gCatS _ _).or ((gCatL _ _).or (gCatT _ _))) = _
  unfold gCatT
  simp only [if_pos h]
  rfl
theorem g_sub (i j : Int) : gSub (.int i) (.int j) = some ⟨.sh, .int (i - j)⟩ := Eq.trans rfl rfl
theorem g_mul {i j : Int} (h : (-(18446744073709551616) < i ∧ i < 18446744073709551616) ∨ (-(18446744073709551616) < j ∧ j < 18446744073709551616)) : gTimes (.int i) (.int j) = some ⟨.sh, .int (i * j)⟩ := by
  have : (small64b i || small64b j) = true := by
    unfold small64b
    rw [Bool.or_eq_true, decide_eq_true_eq, decide_eq_true_eq]
    omega
  show (if (small64b i || small64b j) = true then _ else _ : Option RV).or _ = _
  rw [if_pos this]
  rfl
theorem g_rep {x : D} {n : Int} (h : n ≤ 16000000 ∧ -16000000 < n) : gTimes (.list [x]) (.int n) = some ⟨.fr, .list (List.replicate n.toNat x)⟩ := by
  have : n < 16777216 ∧ [x].length * n.toNat ≤ 16777216 ∧ -16777216 < n := by simp only [List.length_singleton]; omega
  show (gMul _ _).or (if _ then _ else _) = _
  rw [if_pos this]
  show some _ = _
  rw [List.flatten_replicate_singleton]
theorem g_div {i j : Int} (h : 0 < j ∧ j < 1606938044258990275541962092341162602522202993782792835301376) : gDiv (.int i) (.int j) = some ⟨.sh, .int (i / j)⟩ := by
  show (if decide _ = true then _ else _ : Option RV) = _
  rw [if_pos (decide_eq_true ⟨h.1, Int.lt_of_lt_of_le h.2 (by decide +kernel)⟩)]
theorem g_mod {i j : Int} (h : 0 < j) : gMod (.int i) (.int j) = some ⟨.sh, .int (i % j)⟩ := by
  show (if decide _ = true then _ else _ : Option RV) = _
  rw [if_pos (decide_eq_true h)]
theorem g_pow {i j : Int} (h : 0 ≤ j ∧ j ≤ 1000000 ∧ -(18446744073709551616) < i ∧ i < 18446744073709551616) : gPow (.int i) (.int j) = some ⟨.sh, .int (i ^ j.toNat)⟩ := by
  show (if decide _ = true then _ else _ : Option RV) = _
  rw [if_pos (decide_eq_true ⟨h.1, h.2.1, by omega⟩)]
theorem g_shl {i j : Int} (h : 0 ≤ j ∧ j ≤ 1000000 ∧ -(18446744073709551616) < i ∧ i < 18446744073709551616) : gShl (.int i) (.int j) = some ⟨.sh, .int (i * 2 ^ j.toNat)⟩ := by
  show (if decide _ = true then _ else _ : Option RV) = _
  rw [if_pos (decide_eq_true ⟨h.1, h.2.1, by omega⟩)]
theorem g_shr {i j : Int} (h : 0 ≤ j) : gShr (.int i) (.int j) = some ⟨.sh, .int (i / 2 ^ j.toNat)⟩ := by
  show (if decide _ = true then _ else _ : Option RV) = _
  rw [if_pos (decide_eq_true h)]
theorem g_and (i j : Int) : gAnd (.int i) (.int j) = some ⟨.sh, .int (Builtin.bitAnd i j)⟩ := Eq.trans rfl rfl
theorem g_orI (i j : Int) : gOr (.int i) (.int j) = some ⟨.sh, .int (Builtin.bitOr i j)⟩ := Eq.trans rfl rfl
theorem g_neg (i : Int) : gNeg (.int i) = some ⟨.sh, .int (-i)⟩ := Eq.trans rfl rfl
theorem g_lt (i j : Int) : gLt (.int i) (.int j) = some ⟨.sh, .bool (decide (i < j))⟩ := Eq.trans rfl rfl
theorem g_le (i j : Int) : gLe (.int i) (.int j) = some ⟨.sh, .bool (decide (i ≤ j))⟩ := Eq.trans rfl rfl
theorem g_gt (i j : Int) : gGt (.int i) (.int j) = some ⟨.sh, .bool (decide (j < i))⟩ := Eq.trans rfl rfl
theorem g_ge (i j : Int) : gGe (.int i) (.int j) = some ⟨.sh, .bool (decide (j ≤ i))⟩ := Eq.trans rfl rfl
theorem g_eqI (i j : Int) : gEq (.int i) (.int j) = some ⟨.sh, .bool (decide (i = j))⟩ := Eq.trans rfl rfl
theorem g_eqS (i j : Str) : gEq (.str i) (.str j) = some ⟨.sh, .bool (i == j)⟩ := Eq.trans rfl rfl
theorem g_eqBo (i j : Bool) : gEq (.bool i) (.bool j) = some ⟨.sh, .bool (i == j)⟩ := Eq.trans rfl rfl
theorem g_neI (i j : Int) : gNe (.int i) (.int j) = some ⟨.sh, .bool (!decide (i = j))⟩ := Eq.trans rfl rfl
theorem g_neS (i j : Str) : gNe (.str i) (.str j) = some ⟨.sh, .bool (!(i == j))⟩ := Eq.trans rfl rfl
theorem g_neBo (i j : Bool) : gNe (.bool i) (.bool j) = some ⟨.sh, .bool (!(i == j))⟩ := Eq.trans rfl rfl
theorem g_is (d : D) : gIs d .none = some ⟨.sh, .bool d.isNone⟩ := Eq.trans rfl rfl
theorem g_isNot (d : D) : gIsNot d .none = some ⟨.sh, .bool (!d.isNone)⟩ := Eq.trans rfl rfl
theorem n_none : D.isNone .none = true := Eq.trans rfl rfl
theorem n_int (i : Int) : D.isNone (.int i) = false := Eq.trans rfl rfl
theorem n_str (i : Str) : D.isNone (.str i) = false := Eq.trans rfl rfl
theorem n_tup (i : List D) : D.isNone (.tup i) = false := Eq.trans rfl rfl
theorem n_list (i : List D) : D.isNone (.list i) = false := Eq.trans rfl rfl
theorem n_bool (i : Bool) : D.isNone (.bool i) = false := Eq.trans rfl rfl
theorem g_max (i j : Int) : gMax [.int i, .int j] = some ⟨.sh, .int (if j > i then j else i)⟩ := Eq.trans rfl rfl
theorem g_min (i j : Int) : gMin [.int i, .int j] = some ⟨.sh, .int (if j < i then j else i)⟩ := Eq.trans rfl rfl
theorem g_lenL (x : List D) : gLen [.list x] = some ⟨.sh, .int x.length⟩ := Eq.trans rfl rfl
theorem g_lenK (x : List D) : gLen [.lk x] = some ⟨.sh, .int x.length⟩ := Eq.trans rfl rfl
theorem g_lenT (x : List D) : gLen [.tup x] = some ⟨.sh, .int x.length⟩ := Eq.trans rfl rfl
theorem g_listL (x : List D) : gList [.list x] = some ⟨.fr, .list x⟩ := Eq.trans rfl rfl
theorem g_listK (x : List D) : gList [.lk x] = some ⟨.fr, .list x⟩ := Eq.trans rfl rfl
theorem g_listT (x : List D) : gList [.tup x] = some ⟨.fr, .list x⟩ := Eq.trans rfl rfl
theorem g_tupL (x : List D) : gTuple [.list x] = some ⟨.sh, .tup x⟩ := Eq.trans rfl rfl
theorem g_tupT (x : List D) : gTuple [.tup x] = some ⟨.sh, .tup x⟩ := Eq.trans rfl rfl
theorem q_list (x : List D) : seqOf (.list x) = some x := Eq.trans rfl rfl
theorem q_lk (x : List D) : seqOf (.lk x) = some x := Eq.trans rfl rfl
theorem q_tup (x : List D) : seqOf (.tup x) = some x := Eq.trans rfl rfl
theorem g_rng1 {j : Int} (h : -4611686018427387904 ≤ j ∧ j < 4611686018427387904) : gRng1 [.int j] = some (rng 0 j) := by
  show (if big62 j = true then _ else _ : Option (List D)) = _
  rw [if_pos (by unfold big62; exact decide_eq_true h)]
theorem g_rng2 {i j : Int} (h : -4611686018427387904 ≤ i ∧ i < 4611686018427387904 ∧ -4611686018427387904 ≤ j ∧ j < 4611686018427387904) : gRng2 [.int i, .int j] = some (rng i j) := by
  show (if (big62 i && big62 j) = true then _ else _ : Option (List D)) = _
  rw [if_pos (by unfold big62; rw [Bool.and_eq_true]; exact ⟨decide_eq_true ⟨h.1, h.2.1⟩, decide_eq_true h.2.2⟩)]
theorem g_enumL (x : List D) : gEnum [.list x] = some (enumD 0 x) := Eq.trans rfl rfl
theorem g_enumK (x : List D) : gEnum [.lk x] = some (enumD 0 x) := Eq.trans rfl rfl
theorem g_ixL (x : List D) (i : Int) : gIx (.list x) (.int i) = (atI x i).map (RV.mk .sh) := Eq.trans rfl rfl
theorem g_ixK (x : List D) (i : Int) : gIx (.lk x) (.int i) = (atI x i).map (RV.mk .sh) := Eq.trans rfl rfl
theorem g_ixT (x : List D) (i : Int) : gIx (.tup x) (.int i) = (atI x i).map (RV.mk .sh) := Eq.trans rfl rfl
theorem atN {α : Type} (x : List α) (i : Nat) : atI x (i : Int) = x[i]? := by
  unfold atI ixN
  rw [if_pos (by omega)]
  by_cases h : (i : Int) < x.length
  · rw [if_pos h, Option.bind_some, Int.toNat_natCast]
  · rw [if_neg h, Option.bind_none, List.getElem?_eq_none (by omega)]
theorem atPos {α : Type} (x : List α) {i : Int} (h : 0 ≤ i) : atI x i = x[i.toNat]? := by
  conv => lhs; rw [← Int.toNat_of_nonneg h]
  exact atN x _
theorem at0 {α : Type} (x : List α) : atI x 0 = x[0]? := atN x 0
theorem at1 {α : Type} (x : List α) : atI x 1 = x[1]? := atN x 1
theorem at2 {α : Type} (x : List α) : atI x 2 = x[2]? := atN x 2
theorem atLit {α : Type} (x : List α) (n : Nat) : atI x (no_index (OfNat.ofNat (n + 2))) = x[n + 2]? := atN x (n + 2)
theorem atLast {α : Type} (x : List α) : atI x (-1) = x.getLast? := by
  unfold atI ixN
  rw [if_neg (by omega)]
  cases x with
  | nil => rfl
  | cons a l =>
    rw [if_pos (by simp only [List.length_cons]; omega), Option.bind_some, List.getLast?_eq_getElem?]
    congr 1
    simp only [List.length_cons]
    omega
theorem g_slL (x : List D) (l h : Option Int) : gSl (.list x) l h = some ⟨.fr, .list (cutD x l h)⟩ := Eq.trans rfl rfl
theorem g_slK (x : List D) (l h : Option Int) : gSl (.lk x) l h = some ⟨.fr, .list (cutD x l h)⟩ := Eq.trans rfl rfl
theorem g_slT (x : List D) (l h : Option Int) : gSl (.tup x) l h = some ⟨.sh, .tup (cutD x l h)⟩ := Eq.trans rfl rfl
theorem cut_eq {α : Type} (x : List α) {l h : Int} (hl : 0 ≤ l) (hh : 0 ≤ h) : cutD x (some l) (some h) = (x.drop l.toNat).take (h.toNat - l.toNat) := by
  unfold cutD HT.sIx
  simp only []
  rw [if_neg (by omega), if_neg (by omega)]
  by_cases h1 : l.toNat ≤ x.length
  · rw [Nat.min_eq_left h1]
    by_cases h2 : h.toNat ≤ x.length
    · rw [Nat.min_eq_left h2]
    · rw [Nat.min_eq_right (by omega), List.take_of_length_le (by simp), List.take_of_length_le (by simp; omega)]
  · have e : min l.toNat x.length = x.length := Nat.min_eq_right (by omega)
    rw [e, List.drop_eq_nil_of_le (Nat.le_refl _), List.drop_eq_nil_of_le (by omega)]
    simp
theorem cut_lo {α : Type} (x : List α) {l : Int} (hl : 0 ≤ l) : cutD x (some l) none = x.drop l.toNat := by
  unfold cutD HT.sIx
  simp only []
  rw [if_neg (by omega)]
  by_cases h1 : l.toNat ≤ x.length
  · rw [Nat.min_eq_left h1, List.take_of_length_le (by simp)]
  · rw [Nat.min_eq_right (by omega), List.drop_eq_nil_of_le (Nat.le_refl _), List.drop_eq_nil_of_le (by omega)]
    simp
theorem cut_hi {α : Type} (x : List α) {h : Int} (hh : 0 ≤ h) : cutD x none (some h) = x.take h.toNat := by
  unfold cutD HT.sIx
  simp only []
  rw [if_neg (by omega), List.drop_zero, Nat.sub_zero]
  by_cases h1 : h.toNat ≤ x.length
  · rw [Nat.min_eq_left h1]
  · rw [Nat.min_eq_right (by omega), List.take_of_length_le (Nat.le_refl _), List.take_of_length_le (by omega)]
theorem rng_0 (n : Nat) : rng 0 (n : Int) = (List.range n).map fun k => D.int (k : Nat) := by
  unfold rng
  rw [Int.sub_zero, Int.toNat_natCast]
  congr 1
  funext k
  rw [Int.zero_add]

theorem rngAt {n : Int} {i : Nat} {d : D} (h : (rng 0 n)[i]? = some d) : d = .int (i : Int) ∧ (i : Int) < n := by
  unfold rng at h
  rw [List.getElem?_map] at h
  have hi : i < (n - 0).toNat := by
    by_cases c : i < (n - 0).toNat
    · exact c
    · rw [List.getElem?_eq_none (by simp; omega)] at h
      cases h
  rw [List.getElem?_range hi] at h
  refine ⟨?_, by omega⟩
  rw [← Option.some.inj h]
  show D.int (0 + (i : Int)) = _
  rw [Int.zero_add]
theorem rngLen (n : Int) : (rng 0 n).length = n.toNat := by unfold rng; simp
theorem rngLenN (n : Nat) : (rng 0 (n : Int)).length = n := by rw [rngLen]; simp

/-! ### statements -/
def xSeq (g2 : Sta → Fl) : Fl → Fl
  | .nx s' => g2 s'
  | .ret r s => .ret r s
  | .brk s => .brk s
  | .cont s => .cont s
  | .exc e s => .exc e s
  | .stuck => .stuck
def xEx (s : Sta) : PR RV → Fl
  | .ok _ => .nx s
  | .exc e => .exc e s
  | .stuck => .stuck
def xSV (i : Nat) (env : List Slot) (st : List Ob) : PR D → Fl
  | .ok d => .nx ⟨env.set i (.v d), st⟩
  | .exc e => .exc e ⟨env, st⟩
  | .stuck => .stuck
def xSO (i : Nat) (env : List Slot) (st : List Ob) : PR RV → Fl
  | .ok ⟨.sh, d⟩ => .nx ⟨env.set i (.v d), st⟩
  | .ok ⟨.fr, d⟩ => .nx ⟨env.set i (.own d), st⟩
  | .ok ⟨.pk, _⟩ => .stuck
  | .exc e => .exc e ⟨env, st⟩
  | .stuck => .stuck
def xRt (s : Sta) : PR RV → Fl
  | .ok ⟨.sh, d⟩ => .ret (.v d) s
  | .ok ⟨.fr, d⟩ => .ret (.own d) s
  | .ok ⟨.pk, _⟩ => .stuck
  | .exc e => .exc e s
  | .stuck => .stuck
def xRS (s : Sta) : Option Slot → Fl
  | some (.own d) => .ret (.own d) s
  | some (.v d) => .ret (.v d) s
  | some .un => .stuck
  | none => .stuck
def xIf (g1 g2 : Sta → Fl) (s : Sta) : PR Bool → Fl
  | .ok true => g1 s
  | .ok false => g2 s
  | .exc e => .exc e s
  | .stuck => .stuck
def xTb (st : List Ob) : Option (List Slot) → Fl
  | some env => .nx ⟨env, st⟩
  | none => .stuck
def xTu (t : Tg) (env : List Slot) (st : List Ob) : PR D → Fl
  | .ok d => xTb st (t.bind d env)
  | .exc e => .exc e ⟨env, st⟩
  | .stuck => .stuck
def xFor (t : Tg) (g : Sta → Fl) (s : Sta) : PR (List D) → Fl
  | .ok ds => loopL t g ds s
  | .exc e => .exc e s
  | .stuck => .stuck
def xAp (i : Nat) (env : List Slot) (st : List Ob) : Option Slot → PR D → Fl
  | some (.own (.list ds)), .ok d => if ds.length < 16777216 then .nx ⟨env.set i (.own (.list (ds ++ [d]))), st⟩ else .stuck
  | some (.own (.list _)), .exc e => .exc e ⟨env, st⟩
  | some (.own (.list _)), .stuck => .stuck
  | _, _ => .stuck
def xFz (i : Nat) (env : List Slot) (st : List Ob) : Option Slot → Sta
  | some (.own d) => ⟨env.set i (.v d), st⟩
  | some (.v _) => ⟨env, st⟩
  | some .un => ⟨env, st⟩
  | none => ⟨env, st⟩
def xTh (i : Nat) : Fl → Fl
  | .nx s => .nx (frz i s)
  | .ret r s => .ret r s
  | .brk s => .brk s
  | .cont s => .cont s
  | .exc e s => .exc e s
  | .stuck => .stuck
def xEF : Fe → Fl
  | .ok _ s => .nx s
  | .exc e s => .exc e s
  | .stuck => .stuck
def xSF (i : Nat) : Fe → Fl
  | .ok r s => .nx ⟨s.env.set i r, s.st⟩
  | .exc e s => .exc e s
  | .stuck => .stuck
def xRF : Fe → Fl
  | .ok r s => .ret r s
  | .exc e s => .exc e s
  | .stuck => .stuck
def xIF (g1 g2 : Sta → Fl) : Fe → Fl
  | .ok (.v (.bool true)) s => g1 s
  | .ok (.v (.bool false)) s => g2 s
  | .ok _ _ => .stuck
  | .exc e s => .exc e s
  | .stuck => .stuck
def xN3 (c f : Nat) (r : Slot) (j : Nat) (env : List Slot) (st : List Ob) : Option Ob → Fl
  | some ob => if ob.cls = c then (if ob.fs.length < 900 then .nx ⟨env, st.set j ⟨ob.cls, putO f r ob.fs⟩⟩ else .stuck) else .stuck
  | none => .stuck
def xN2 (c f : Nat) (r : Slot) (env : List Slot) (st : List Ob) : PR RV → Fl
  | .ok ⟨_, .obj j⟩ => xN3 c f r j env st st[j]?
  | .ok _ => .stuck
  | .exc e => .exc e ⟨env, st⟩
  | .stuck => .stuck
def xN (c f i : Nat) : Fe → Fl
  | .ok r ⟨env, st⟩ => xN2 c f r env st (PR.of (env[i]?.bind Slot.look))
  | .exc e s => .exc e s
  | .stuck => .stuck
def xP (s : Sta) : PR RV → Fe
  | .ok ⟨.sh, d⟩ => .ok (.v d) s
  | .ok ⟨.fr, d⟩ => .ok (.own d) s
  | .ok ⟨.pk, _⟩ => .stuck
  | .exc e => .exc e s
  | .stuck => .stuck
def xFU (n : Nat) (sem : Sem) (env : List Slot) (st : List Ob) : PR (List D) → Fe
  | .ok ds => if ds.length = n then (sem ds st).fe ⟨env, st⟩ else .stuck
  | .exc e => .exc e ⟨env, st⟩
  | .stuck => .stuck
def xM2 (c n : Nat) (sem : Sem) (env : List Slot) (st : List Ob) (j : Nat) (r : PR (List D)) : Option Ob → Fe
  | some ob => if ob.cls = c then (match r with
      | .ok ds => if ds.length + 1 = n then (sem (.obj j :: ds) st).fe ⟨env, st⟩ else .stuck
      | .exc e => .exc e ⟨env, st⟩
      | .stuck => .stuck) else .stuck
  | none => .stuck
def xM (c n : Nat) (sem : Sem) (env : List Slot) (st : List Ob) : PR RV → PR (List D) → Fe
  | .ok ⟨_, .obj j⟩, r => xM2 c n sem env st j r st[j]?
  | .ok _, _ => .stuck
  | .exc e, _ => .exc e ⟨env, st⟩
  | .stuck, _ => .stuck
def xMkF (j : Nat) (env : List Slot) : Fr → Fe
  | .ok (.v .none) st' => .ok (.v (.obj j)) ⟨env, st'⟩
  | .ok _ _ => .stuck
  | .exc e st' => .exc e ⟨env, st'⟩
  | .stuck => .stuck
def xMk (c n : Nat) (sem : Sem) (env : List Slot) (st : List Ob) : PR (List D) → Fe
  | .ok ds => if ds.length + 1 = n then xMkF st.length env (sem (.obj st.length :: ds) (st ++ [⟨c, []⟩])) else .stuck
  | .exc e => .exc e ⟨env, st⟩
  | .stuck => .stuck
theorem s_Nil : sNil ⟨env, st⟩ = .nx ⟨env, st⟩ := Eq.trans rfl rfl
theorem s_Brk : sBrk ⟨env, st⟩ = .brk ⟨env, st⟩ := Eq.trans rfl rfl
theorem s_Cont : sCont ⟨env, st⟩ = .cont ⟨env, st⟩ := Eq.trans rfl rfl
theorem s_Seq (g1 g2 : Sta → Fl) : sSeq g1 g2 ⟨env, st⟩ = xSeq g2 (g1 ⟨env, st⟩) := by
  unfold sSeq xSeq
  cases g1 ⟨env, st⟩ <;> rfl
theorem s_xSn (g2 : Sta → Fl) (s : Sta) : xSeq g2 (.nx s) = g2 s := Eq.trans rfl rfl
theorem s_xSr (g2 : Sta → Fl) (r : Slot) (s : Sta) : xSeq g2 (.ret r s) = .ret r s := Eq.trans rfl rfl
theorem s_xSb (g2 : Sta → Fl) (s : Sta) : xSeq g2 (.brk s) = .brk s := Eq.trans rfl rfl
theorem s_xSc (g2 : Sta → Fl) (s : Sta) : xSeq g2 (.cont s) = .cont s := Eq.trans rfl rfl
theorem s_xSe (g2 : Sta → Fl) (e : Ex) (s : Sta) : xSeq g2 (.exc e s) = .exc e s := Eq.trans rfl rfl
theorem s_Expr (f : Sta → PR RV) : sExpr f ⟨env, st⟩ = xEx ⟨env, st⟩ (f ⟨env, st⟩) := by
  unfold sExpr PR.fl xEx
  cases f ⟨env, st⟩ <;> rfl
theorem s_xEx (r : RV) (s : Sta) : xEx s (.ok r) = .nx s := Eq.trans rfl rfl
theorem s_SetV (i : Nat) (f : Sta → PR D) : sSetV i f ⟨env, st⟩ = xSV i env st (f ⟨env, st⟩) := by
  unfold sSetV PR.fl xSV
  cases f ⟨env, st⟩ <;> rfl
theorem s_xSV (i : Nat) (d : D) : xSV i env st (.ok d) = .nx ⟨env.set i (.v d), st⟩ := Eq.trans rfl rfl
theorem s_SetO (i : Nat) (f : Sta → PR RV) : sSetO i f ⟨env, st⟩ = xSO i env st (f ⟨env, st⟩) := by
  unfold sSetO PR.fl xSO RV.slot
  cases f ⟨env, st⟩ with
  | ok r => obtain ⟨k, d⟩ := r; cases k <;> rfl
  | exc e => rfl
  | stuck => rfl
theorem s_xSOs (i : Nat) (d : D) : xSO i env st (.ok ⟨.sh, d⟩) = .nx ⟨env.set i (.v d), st⟩ := Eq.trans rfl rfl
theorem s_xSOf (i : Nat) (d : D) : xSO i env st (.ok ⟨.fr, d⟩) = .nx ⟨env.set i (.own d), st⟩ := Eq.trans rfl rfl
theorem s_Ret (f : Sta → PR RV) : sRet f ⟨env, st⟩ = xRt ⟨env, st⟩ (f ⟨env, st⟩) := by
  unfold sRet PR.fl xRt RV.slot
  cases f ⟨env, st⟩ with
  | ok r => obtain ⟨k, d⟩ := r; cases k <;> rfl
  | exc e => rfl
  | stuck => rfl
theorem s_xRts (s : Sta) (d : D) : xRt s (.ok ⟨.sh, d⟩) = .ret (.v d) s := Eq.trans rfl rfl
theorem s_xRtf (s : Sta) (d : D) : xRt s (.ok ⟨.fr, d⟩) = .ret (.own d) s := Eq.trans rfl rfl
theorem s_RetN : sRetN ⟨env, st⟩ = .ret (.v .none) ⟨env, st⟩ := Eq.trans rfl rfl
theorem s_RetS (i : Nat) : sRetS i ⟨env, st⟩ = xRS ⟨env, st⟩ env[i]? := by
  unfold sRetS xRS
  cases env[i]? with
  | none => rfl
  | some s => cases s <;> rfl
theorem s_xRSo (s : Sta) (d : D) : xRS s (some (.own d)) = .ret (.own d) s := Eq.trans rfl rfl
theorem s_xRSv (s : Sta) (d : D) : xRS s (some (.v d)) = .ret (.v d) s := Eq.trans rfl rfl
theorem s_If (t : Sta → PR Bool) (g1 g2 : Sta → Fl) : sIf t g1 g2 ⟨env, st⟩ = xIf g1 g2 ⟨env, st⟩ (t ⟨env, st⟩) := by
  unfold sIf PR.fl xIf
  rcases t ⟨env, st⟩ with (_ | _) | e | _ <;> rfl
theorem s_xIfT (g1 g2 : Sta → Fl) (s : Sta) : xIf g1 g2 s (.ok true) = g1 s := Eq.trans rfl rfl
theorem s_xIfF (g1 g2 : Sta → Fl) (s : Sta) : xIf g1 g2 s (.ok false) = g2 s := Eq.trans rfl rfl
theorem s_Tup (t : Tg) (f : Sta → PR D) : sTup t f ⟨env, st⟩ = xTu t env st (f ⟨env, st⟩) := by
  unfold sTup PR.fl xTu xTb
  cases f ⟨env, st⟩ <;> rfl
theorem s_xTu (t : Tg) (d : D) : xTu t env st (.ok d) = xTb st (t.bind d env) := Eq.trans rfl rfl
theorem s_xTb : xTb st (some env) = .nx ⟨env, st⟩ := Eq.trans rfl rfl
theorem s_For (f : Sta → PR (List D)) (t : Tg) (g : Sta → Fl) : sFor f t g ⟨env, st⟩ = xFor t g ⟨env, st⟩ (f ⟨env, st⟩) := by
  unfold sFor PR.fl xFor
  cases f ⟨env, st⟩ <;> rfl
theorem s_xFor (t : Tg) (g : Sta → Fl) (s : Sta) (ds : List D) : xFor t g s (.ok ds) = loopL t g ds s := Eq.trans rfl rfl
theorem s_App (i : Nat) (f : Sta → PR D) : sApp i f ⟨env, st⟩ = xAp i env st env[i]? (f ⟨env, st⟩) := by
  unfold sApp PR.fl xAp
  rcases env[i]? with _ | (_ | d | d) <;> try rfl
  cases d <;> try rfl
  cases f ⟨env, st⟩ <;> rfl
theorem s_xAp {i : Nat} {ds : List D} {d : D} (h : ds.length < 16777216) : xAp i env st (some (.own (.list ds))) (.ok d) = .nx ⟨env.set i (.own (.list (ds ++ [d]))), st⟩ := if_pos h
theorem s_Thaw (i : Nat) (g : Sta → Fl) : sThaw i g ⟨env, st⟩ = xTh i (g ⟨env, st⟩) := by
  unfold sThaw xTh
  cases g ⟨env, st⟩ <;> rfl
theorem s_xTh (i : Nat) : xTh i (.nx ⟨env, st⟩) = .nx (xFz i env st env[i]?) := by
  unfold xTh frz xFz
  simp only []
  rcases env[i]? with _ | (_ | d | d) <;> rfl
theorem s_Frz (i : Nat) (g : Sta → Fl) : sFrz i g ⟨env, st⟩ = g (xFz i env st env[i]?) := by
  unfold sFrz frz xFz
  simp only []
  rcases env[i]? with _ | (_ | d | d) <;> rfl
theorem s_xFzo (i : Nat) (d : D) : xFz i env st (some (.own d)) = ⟨env.set i (.v d), st⟩ := Eq.trans rfl rfl
theorem s_xFzv (i : Nat) (d : D) : xFz i env st (some (.v d)) = ⟨env, st⟩ := Eq.trans rfl rfl
theorem s_ExprF (g : Sta → Fe) : sExprF g ⟨env, st⟩ = xEF (g ⟨env, st⟩) := by
  unfold sExprF Fe.fl xEF
  cases g ⟨env, st⟩ <;> rfl
theorem s_xEF (r : Slot) (s : Sta) : xEF (.ok r s) = .nx s := Eq.trans rfl rfl
theorem s_SetF (i : Nat) (g : Sta → Fe) : sSetF i g ⟨env, st⟩ = xSF i (g ⟨env, st⟩) := by
  unfold sSetF Fe.fl xSF
  cases g ⟨env, st⟩ <;> rfl
theorem s_xSF (i : Nat) (r : Slot) : xSF i (.ok r ⟨env, st⟩) = .nx ⟨env.set i r, st⟩ := Eq.trans rfl rfl
theorem s_RetF (g : Sta → Fe) : sRetF g ⟨env, st⟩ = xRF (g ⟨env, st⟩) := by
  unfold sRetF Fe.fl xRF
  cases g ⟨env, st⟩ <;> rfl
theorem s_xRF (r : Slot) (s : Sta) : xRF (.ok r s) = .ret r s := Eq.trans rfl rfl
theorem s_IfF (g : Sta → Fe) (g1 g2 : Sta → Fl) : sIfF g g1 g2 ⟨env, st⟩ = xIF g1 g2 (g ⟨env, st⟩) := by
  unfold sIfF Fe.fl xIF
  rcases g ⟨env, st⟩ with ⟨(_ | d | d), s⟩ | ⟨e, s⟩ | _ <;> try rfl
  cases d <;> try rfl
  rename_i b
  cases b <;> rfl
theorem s_xIFT (g1 g2 : Sta → Fl) (s : Sta) : xIF g1 g2 (.ok (.v (.bool true)) s) = g1 s := Eq.trans rfl rfl
theorem s_xIFF (g1 g2 : Sta → Fl) (s : Sta) : xIF g1 g2 (.ok (.v (.bool false)) s) = g2 s := Eq.trans rfl rfl
theorem s_FldN (c f i : Nat) (g : Sta → Fe) : sFldN c f i g ⟨env, st⟩ = xN c f i (g ⟨env, st⟩) := by
  unfold sFldN Fe.fl xN
  cases g ⟨env, st⟩ with
  | ok r s =>
    obtain ⟨env', st'⟩ := s
    simp only [pVar]
    cases PR.of (env'[i]?.bind Slot.look) with
    | ok q =>
      obtain ⟨k, d⟩ := q
      cases d <;> try rfl
      rename_i j
      simp only [PR.fl, RV.ob, xN2]
      cases st'[j]? with
      | none => rfl
      | some ob =>
        simp only [xN3]
        by_cases h : ob.cls = c
        · rw [if_pos h, if_pos h]; rfl
        · rw [if_neg h, if_neg h]
    | exc e => rfl
    | stuck => rfl
  | exc e s => rfl
  | stuck => rfl
theorem s_xN (c f i : Nat) (r : Slot) : xN c f i (.ok r ⟨env, st⟩) = xN2 c f r env st (PR.of (env[i]?.bind Slot.look)) := Eq.trans rfl rfl
theorem s_xN2 (c f j : Nat) (r : Slot) (k : RK) : xN2 c f r env st (.ok ⟨k, .obj j⟩) = xN3 c f r j env st st[j]? := Eq.trans rfl rfl
theorem s_xN3 {c f j : Nat} {r : Slot} {ob : Ob} (h : ob.cls = c) (h2 : ob.fs.length < 900) : xN3 c f r j env st (some ob) = .nx ⟨env, st.set j ⟨ob.cls, putO f r ob.fs⟩⟩ := (if_pos h).trans (if_pos h2)
theorem s_put0 (f : Nat) (s x : Slot) (r : List (Nat × Slot)) : putO f s ((f, x) :: r) = (f, s) :: r := by unfold putO; rw [if_pos rfl]
theorem s_put1 {f g : Nat} {s x : Slot} {r : List (Nat × Slot)} (h : g ≠ f) : putO f s ((g, x) :: r) = (g, x) :: putO f s r := by conv => lhs; unfold putO
                                                                                                                                  rw [if_neg h]
theorem s_putN (f : Nat) (s : Slot) : putO f s [] = [(f, s)] := Eq.trans rfl rfl
theorem f_P (f : Sta → PR RV) : fP f ⟨env, st⟩ = xP ⟨env, st⟩ (f ⟨env, st⟩) := by
  unfold fP xP RV.slot
  cases f ⟨env, st⟩ with
  | ok r => obtain ⟨k, d⟩ := r; cases k <;> rfl
  | exc e => rfl
  | stuck => rfl
theorem f_xPs (s : Sta) (d : D) : xP s (.ok ⟨.sh, d⟩) = .ok (.v d) s := Eq.trans rfl rfl
theorem f_xPf (s : Sta) (d : D) : xP s (.ok ⟨.fr, d⟩) = .ok (.own d) s := Eq.trans rfl rfl
theorem f_User (n : Nat) (sem : Sem) (fs : Sta → PR (List D)) : fUser n sem fs ⟨env, st⟩ = xFU n sem env st (fs ⟨env, st⟩) := by
  unfold fUser xFU
  cases fs ⟨env, st⟩ <;> rfl
theorem f_xFU {n : Nat} {sem : Sem} {ds : List D} (h : ds.length = n) : xFU n sem env st (.ok ds) = (sem ds st).fe ⟨env, st⟩ := if_pos h
theorem f_Meth (c n : Nat) (sem : Sem) (fo : Sta → PR RV) (fa : Sta → PR (List D)) : fMeth c n sem fo fa ⟨env, st⟩ = xM c n sem env st (fo ⟨env, st⟩) (fa ⟨env, st⟩) := by
  unfold fMeth xM
  cases fo ⟨env, st⟩ with
  | ok r =>
    obtain ⟨k, d⟩ := r
    cases d <;> try rfl
    rename_i j
    simp only [RV.ob, xM2]
    cases st[j]? with
    | none => rfl
    | some ob =>
      simp only []
      by_cases h : ob.cls = c
      · rw [if_pos h, if_pos h] <;> cases fa ⟨env, st⟩ <;> rfl
      · rw [if_neg h, if_neg h]
  | exc e => rfl
  | stuck => rfl
theorem f_xM (c n j : Nat) (sem : Sem) (k : RK) (r : PR (List D)) : xM c n sem env st (.ok ⟨k, .obj j⟩) r = xM2 c n sem env st j r st[j]? := Eq.trans rfl rfl
theorem f_xM2 {c n j : Nat} {sem : Sem} {ds : List D} {ob : Ob} (h : ob.cls = c) (h2 : ds.length + 1 = n) : xM2 c n sem env st j (.ok ds) (some ob) = (sem (.obj j :: ds) st).fe ⟨env, st⟩ := (if_pos h).trans (if_pos h2)
theorem f_Make (c n : Nat) (sem : Sem) (fa : Sta → PR (List D)) : fMake c n sem fa ⟨env, st⟩ = xMk c n sem env st (fa ⟨env, st⟩) := by
  unfold fMake xMk
  cases fa ⟨env, st⟩ with
  | ok ds =>
    simp only []
    split
    · cases sem (.obj st.length :: ds) (st ++ [⟨c, []⟩]) with
      | ok r st' =>
        rcases r with _ | d | d <;> rfl
      | exc e st' => rfl
      | stuck => rfl
    · rfl
  | exc e => rfl
  | stuck => rfl
theorem f_xMk {c n : Nat} {sem : Sem} {ds : List D} (h : ds.length + 1 = n) : xMk c n sem env st (.ok ds) = xMkF st.length env (sem (.obj st.length :: ds) (st ++ [⟨c, []⟩])) := if_pos h
theorem f_xMkF (j : Nat) (st' : List Ob) : xMkF j env (.ok (.v .none) st') = .ok (.v (.obj j)) ⟨env, st'⟩ := Eq.trans rfl rfl
theorem fe_ok (r : Slot) (st' : List Ob) : (Fr.ok r st').fe ⟨env, st⟩ = .ok r ⟨env, st'⟩ := Eq.trans rfl rfl
def Fl.fr : Fl → Fr
  | .nx s => .ok (.v .none) s.st
  | .ret r s => .ok r s.st
  | .exc e s => .exc e s.st
  | _ => .stuck
theorem r_run {N : Nat} {g : Sta → Fl} {ds : List D} : runB N g ds st = (g ⟨ds.map Slot.v ++ List.replicate (N - ds.length) .un, st⟩).fr := by
  unfold runB Fl.fr
  cases g ⟨ds.map Slot.v ++ List.replicate (N - ds.length) .un, st⟩ <;> rfl
theorem r_un (n : Nat) : List.replicate (n + 1) Slot.un = .un :: List.replicate n .un := Eq.trans rfl rfl
theorem r_un0 : List.replicate 0 Slot.un = [] := Eq.trans rfl rfl
theorem r_nx : (Fl.nx ⟨env, st⟩).fr = .ok (.v .none) st := Eq.trans rfl rfl
theorem r_ret (r : Slot) : (Fl.ret r ⟨env, st⟩).fr = .ok r st := Eq.trans rfl rfl
theorem r_exc (e : Ex) : (Fl.exc e ⟨env, st⟩).fr = .exc e st := Eq.trans rfl rfl
/-- one statement after the other -/
theorem sq {P : Fl → Prop} {g1 g2 : Sta → Fl} {s s' : Sta} (h : g1 s = .nx s') (k : P (g2 s')) : P (sSeq g1 g2 s) := by
  unfold sSeq; rw [h]; exact k
/-- a def by its body -/
theorem run_ex {N : Nat} {g : Sta → Fl} {ds : List D} {Q : Fr → Prop} (env : List Slot) (he : ds.map Slot.v ++ List.replicate (N - ds.length) .un = env) (h : Q (g ⟨env, st⟩).fr) : Q (runB N g ds st) := by
  subst he; exact h
theorem sqR {r : Fr} {g1 g2 : Sta → Fl} {s s' : Sta} (h : g1 s = .nx s') (k : (g2 s').fr = r) : (sSeq g1 g2 s).fr = r := by
  unfold sSeq; rw [h]; exact k
theorem sqX {r : Fl} {g1 g2 : Sta → Fl} {s s' : Sta} (h : g1 s = .nx s') (k : g2 s' = r) : sSeq g1 g2 s = r := by
  unfold sSeq; rw [h]; exact k
/-! ### loops -/
/-- what a turn of a loop must bring -/
def Turn (I : Sta → Prop) (P : Fl → Prop) : Fl → Prop
  | .nx s => I s
  | .cont s => I s
  | .brk s => P (.nx s)
  | .ret r s => P (.ret r s)
  | .exc e s => P (.exc e s)
  | .stuck => False
theorem t_nx (I : Sta → Prop) (P : Fl → Prop) (s : Sta) : Turn I P (.nx s) = I s := Eq.trans rfl rfl
theorem t_cont (I : Sta → Prop) (P : Fl → Prop) (s : Sta) : Turn I P (.cont s) = I s := Eq.trans rfl rfl
theorem t_brk (I : Sta → Prop) (P : Fl → Prop) (s : Sta) : Turn I P (.brk s) = P (.nx s) := Eq.trans rfl rfl
theorem t_ret (I : Sta → Prop) (P : Fl → Prop) (r : Slot) (s : Sta) : Turn I P (.ret r s) = P (.ret r s) := Eq.trans rfl rfl
theorem tq {I : Sta → Prop} {P : Fl → Prop} {g1 g2 : Sta → Fl} {s s' : Sta} (h : g1 s = .nx s') (k : Turn I P (g2 s')) : Turn I P (sSeq g1 g2 s) := by
  unfold sSeq; rw [h]; exact k
theorem Turn.wk {I : Sta → Prop} {P : Fl → Prop} {x : Fl} (h : Turn I (fun _ => False) x) : Turn I P x := by
  cases x <;> first | exact h | exact h.elim
theorem loop_inv {t : Tg} {g : Sta → Fl} {P : Fl → Prop} : ∀ (ds : List D) (I : Nat → Sta → Prop) (s : Sta), I 0 s →
    (∀ i d s, ds[i]? = some d → I i s → ∃ env, t.bind d s.env = some env ∧ Turn (I (i + 1)) P (g { s with env := env })) →
    (∀ s, I ds.length s → P (.nx s)) → P (loopL t g ds s)
  | [], I, s, h0, _, he => he s h0
  | d :: ds, I, s, h0, hs, he => by
    obtain ⟨env, h1, h2⟩ := hs 0 d s rfl h0
    rw [loopL, h1]
    simp only []
    have next : ∀ s', I 1 s' → P (loopL t g ds s') := fun s' h => loop_inv ds (fun i => I (i + 1)) s' h (fun i d s e hi => hs (i + 1) d s (by simpa using e) hi) fun s h => he s (by simpa using h)
    cases hg : g { s with env := env } with
    | nx s' => rw [hg] at h2; exact next s' h2
    | cont s' => rw [hg] at h2; exact next s' h2
    | brk s' => rw [hg] at h2; exact h2
    | ret r s' => rw [hg] at h2; exact h2
    | exc e s' => rw [hg] at h2; exact h2
    | stuck => rw [hg] at h2; exact h2.elim
theorem sq_for {P : Fl → Prop} {f : Sta → PR (List D)} {t : Tg} {g g2 : Sta → Fl} {s : Sta} (ds : List D) (I : Nat → Sta → Prop) (hf : f s = .ok ds) (h0 : I 0 s)
    (hs : ∀ i d s, ds[i]? = some d → I i s → ∃ env, t.bind d s.env = some env ∧ Turn (I (i + 1)) (fun fl => P (match fl with
      | .nx s => g2 s
      | fl => fl)) (g { s with env := env })) (he : ∀ s, I ds.length s → P (g2 s)) : P (sSeq (sFor f t g) g2 s) := by
  unfold sSeq sFor
  rw [hf]
  exact loop_inv (P := fun fl => P (match fl with
      | .nx s => g2 s
      | fl => fl)) ds I s h0 hs he
theorem forP {P : Fl → Prop} {f : Sta → PR (List D)} {t : Tg} {g g2 : Sta → Fl} {s : Sta} (ds : List D) (I : Nat → Sta → Prop) (hf : f s = .ok ds) (h0 : I 0 s)
    (hs : ∀ i d s, ds[i]? = some d → I i s → ∃ env, t.bind d s.env = some env ∧ Turn (I (i + 1)) (fun _ => False) (g { s with env := env })) (he : ∀ s, I ds.length s → P (g2 s)) : P (sSeq (sFor f t g) g2 s) :=
  sq_for (P := P) ds I hf h0 (fun i d s e h => by
    obtain ⟨env, h1, h2⟩ := hs i d s e h
    exact ⟨env, h1, Turn.wk h2⟩) he
/-- the same at a def's end -/
theorem forR {r : Fr} {f : Sta → PR (List D)} {t : Tg} {g g2 : Sta → Fl} {s : Sta} (ds : List D) (I : Nat → Sta → Prop) (hf : f s = .ok ds) (h0 : I 0 s)
    (hs : ∀ i d s, ds[i]? = some d → I i s → ∃ env, t.bind d s.env = some env ∧ Turn (I (i + 1)) (fun _ => False) (g { s with env := env })) (he : ∀ s, I ds.length s → (g2 s).fr = r) : (sSeq (sFor f t g) g2 s).fr = r :=
  sq_for (P := fun fl => fl.fr = r) ds I hf h0 (fun i d s e h => by
    obtain ⟨env, h1, h2⟩ := hs i d s e h
    exact ⟨env, h1, Turn.wk h2⟩) he
theorem forX {r : Fl} {f : Sta → PR (List D)} {t : Tg} {g g2 : Sta → Fl} {s : Sta} (ds : List D) (I : Nat → Sta → Prop) (hf : f s = .ok ds) (h0 : I 0 s)
    (hs : ∀ i d s, ds[i]? = some d → I i s → ∃ env, t.bind d s.env = some env ∧ Turn (I (i + 1)) (fun _ => False) (g { s with env := env })) (he : ∀ s, I ds.length s → g2 s = r) : sSeq (sFor f t g) g2 s = r :=
  sq_for (P := fun fl => fl = r) ds I hf h0 (fun i d s e h => by
    obtain ⟨env, h1, h2⟩ := hs i d s e h
    exact ⟨env, h1, Turn.wk h2⟩) he
/-- a loop that is the last of its row -/
theorem forE {f : Sta → PR (List D)} {t : Tg} {g : Sta → Fl} {s : Sta} (ds : List D) (I : Nat → Sta → Prop) (hf : f s = .ok ds) (h0 : I 0 s)
    (hs : ∀ i d s, ds[i]? = some d → I i s → ∃ env, t.bind d s.env = some env ∧ Turn (I (i + 1)) (fun _ => False) (g { s with env := env })) : ∃ s', sFor f t g s = .nx s' ∧ I ds.length s' := by
  unfold sFor
  rw [hf]
  exact loop_inv (P := fun fl => ∃ s', fl = .nx s' ∧ I ds.length s') ds I s h0 (fun i d s e h => by
    obtain ⟨env, h1, h2⟩ := hs i d s e h
    exact ⟨env, h1, Turn.wk h2⟩) fun s h => ⟨s, rfl, h⟩
theorem loopE {t : Tg} {g : Sta → Fl} {s : Sta} (ds : List D) (I : Nat → Sta → Prop) (h0 : I 0 s)
    (hs : ∀ i d s, ds[i]? = some d → I i s → ∃ env, t.bind d s.env = some env ∧ Turn (I (i + 1)) (fun _ => False) (g { s with env := env })) : ∃ s', loopL t g ds s = .nx s' ∧ I ds.length s' :=
  loop_inv (P := fun fl => ∃ s', fl = .nx s' ∧ I ds.length s') ds I s h0 (fun i d s e h => by
    obtain ⟨env, h1, h2⟩ := hs i d s e h
    exact ⟨env, h1, Turn.wk h2⟩) fun s h => ⟨s, rfl, h⟩
theorem comp_eq {t : Tg} {te : Sta → PR D} {s : Sta} (f : D → D) : ∀ (ds : List D), (∀ d ∈ ds, ∃ env, t.bind d s.env = some env ∧ te { s with env := env } = .ok (f d)) → compL t pYes te s ds = .ok (ds.map f)
  | [], _ => rfl
  | d :: ds, h => by
    obtain ⟨env, h1, h2⟩ := h d (by simp)
    rw [compL, h1]
    simp only [pYes, h2]
    rw [comp_eq f ds fun d hd => h d (by simp [hd])]
    rfl
theorem comp_if {t : Tg} {tt : Sta → PR Bool} {te : Sta → PR D} {s : Sta} (p : D → Bool) (f : D → D) : ∀ (ds : List D), (∀ d ∈ ds, ∃ env, t.bind d s.env = some env ∧ tt { s with env := env } = .ok (p d) ∧ (p d = true → te { s with env := env } = .ok (f d))) → compL t tt te s ds = .ok ((ds.filter p).map f)
  | [], _ => rfl
  | d :: ds, h => by
    obtain ⟨env, h1, h2, h3⟩ := h d (by simp)
    rw [compL, h1]
    simp only [h2]
    have ih := comp_if (t := t) (tt := tt) (te := te) (s := s) p f ds fun d hd => h d (by simp [hd])
    cases hp : p d with
    | true =>
      simp only [h3 hp]
      rw [ih, List.filter_cons, hp]
      rfl
    | false =>
      simp only []
      rw [ih, List.filter_cons, hp]
      rfl
theorem b_nm (i : Nat) (d : D) : (Tg.nm i).bind d env = some (env.set i (.v d)) := Eq.trans rfl rfl
theorem b_tp2 (i j : Nat) (a b : D) : (Tg.tp [i, j]).bind (.tup [a, b]) env = some ((env.set i (.v a)).set j (.v b)) := Eq.trans rfl rfl
theorem b_tp3 (i j k : Nat) (a b c : D) : (Tg.tp [i, j, k]).bind (.tup [a, b, c]) env = some (((env.set i (.v a)).set j (.v b)).set k (.v c)) := Eq.trans rfl rfl

/-! ### equality of data -/
def D.plain : Nat → D → Bool
  | _, .none => true
  | _, .bool _ => true
  | _, .int _ => true
  | _, .str x => PyData.strOk x
  | 0, .list _ => false
  | n + 1, .list xs => xs.all (D.plain n)
  | 0, .lk _ => false
  | n + 1, .lk xs => xs.all (D.plain n)
  | 0, .tup _ => false
  | n + 1, .tup xs => xs.all (D.plain n)
  | _, _ => false
theorem pys_lay {n : Nat} (ih : ∀ d : D, d.plain n = true → d.py.canLay0 = true ∧ d.py.depth ≤ n) : ∀ xs : List D, xs.all (D.plain n) = true → PyData.canLayAll0 (pys xs) = true ∧ PyData.depthAll (pys xs) ≤ n
  | [], _ => ⟨rfl, Nat.zero_le _⟩
  | x :: xs, h => by
    rw [List.all_cons, Bool.and_eq_true] at h
    have h1 := ih x h.1
    have h2 := pys_lay ih xs h.2
    refine ⟨?_, ?_⟩
    · show (x.py.canLay0 && PyData.canLayAll0 (pys xs)) = true
      rw [h1.1, h2.1]; rfl
    · show max x.py.depth (PyData.depthAll (pys xs)) ≤ n
      exact Nat.max_le.mpr ⟨h1.2, h2.2⟩
theorem plain_lay : ∀ (n : Nat) (d : D), d.plain n = true → d.py.canLay0 = true ∧ d.py.depth ≤ n := by
  intro n
  induction n with
  | zero =>
    intro d h
    cases d <;> first | exact ⟨rfl, Nat.zero_le _⟩ | exact ⟨h, Nat.zero_le _⟩ | exact absurd h Bool.false_ne_true
  | succ n ih =>
    intro d h
    cases d with
    | none => exact ⟨rfl, Nat.zero_le _⟩
    | bool b => exact ⟨rfl, Nat.zero_le _⟩
    | int b => exact ⟨rfl, Nat.zero_le _⟩
    | str b => exact ⟨h, Nat.zero_le _⟩
    | list xs => exact ⟨(pys_lay ih xs h).1, Nat.succ_le_succ (pys_lay ih xs h).2⟩
    | lk xs => exact ⟨(pys_lay ih xs h).1, Nat.succ_le_succ (pys_lay ih xs h).2⟩
    | tup xs => exact ⟨(pys_lay ih xs h).1, Nat.succ_le_succ (pys_lay ih xs h).2⟩
    | dic xs => exact absurd h Bool.false_ne_true
    | obj n => exact absurd h Bool.false_ne_true
theorem plain_shaped {d : D} (h : d.plain 9 = true) : SeqAt.shaped d.py = true := by
  unfold SeqAt.shaped
  rw [Bool.and_eq_true]
  exact ⟨(plain_lay 9 d h).1, decide_eq_true (Nat.le_trans (plain_lay 9 d h).2 (by decide))⟩
theorem eqB_gen {a b : D} (ha : a.plain 9 = true) (hb : b.plain 9 = true) : eqB a b = some (PyData.eqv a.py b.py) := by
  have k := plain_shaped ha
  have l := plain_shaped hb
  unfold eqB
  split
  · rfl
  · rfl
  · rfl
  · rw [if_pos ⟨k, l⟩]
theorem g_eqR {a b : D} (ha : a.plain 9 = true) (e : a.py = b.py) : gEq a b = some ⟨.sh, .bool true⟩ := by
  have k := plain_shaped ha
  have q : eqB a b = some true := by
    have r := SeqAt.eqv_refl a.py (plain_lay 9 a ha).1
    unfold eqB
    split
    · simp only [D.py] at e; cases e; simp
    · simp only [D.py] at e; cases e; simp
    · simp only [D.py] at e; cases e; simp
    · rw [if_pos ⟨k, e ▸ k⟩, ← e, r]
  unfold gEq
  rw [q]
  rfl
theorem g_neR {a b : D} (ha : a.plain 9 = true) (e : a.py = b.py) : gNe a b = some ⟨.sh, .bool false⟩ := by
  have h := g_eqR ha e
  unfold gEq at h
  unfold gNe
  cases q : eqB a b with
  | none => rw [q] at h; cases h
  | some r =>
    rw [q] at h
    have : r = true := by
      have := Option.some.inj h
      cases this
      rfl
    rw [this]
    rfl

/-- a loop that may break off -/
def Bk (J : Sta → Prop) : Fl → Prop
  | .nx s => J s
  | _ => False
theorem t_bk (J : Sta → Prop) (s : Sta) : Bk J (.nx s) = J s := Eq.trans rfl rfl
theorem forB {P : Fl → Prop} {f : Sta → PR (List D)} {t : Tg} {g g2 : Sta → Fl} {s : Sta} (ds : List D) (J : Sta → Prop) (hf : f s = .ok ds) (h0 : J s)
    (hs : ∀ (i : Nat) (d : D) (s : Sta), ds[i]? = some d → J s → ∃ env, t.bind d s.env = some env ∧ Turn J (Bk J) (g { s with env := env })) (he : ∀ s, J s → P (g2 s)) : P (sSeq (sFor f t g) g2 s) :=
  sq_for (P := P) ds (fun _ => J) hf h0 (fun i d s e h => by
    obtain ⟨env, h1, h2⟩ := hs i d s e h
    refine ⟨env, h1, ?_⟩
    revert h2
    cases g { s with env := env } with
    | nx s => exact fun h => h
    | cont s => exact fun h => h
    | brk s => exact fun h => he s h
    | ret r s => exact fun h => h.elim
    | exc e s => exact fun h => h.elim
    | stuck => exact fun h => h.elim) fun s h => he s h

/-! ### a law, from its plain proof -/
def spLaw (K : PySem.W.Frag) : Sp := fun vs H Q E => ∃ (a : Addr) (ns : List Int), vs = [.ref a] ∧ SqL K H a (ns.map V.int) ∧ ns.length ≤ 63 ∧ ∀ H', Q (.bl true) H'
theorem law_imp {K : PySem.W.Frag} {T : Tab} {al : Bool} {sem : Sem} (h : ∀ ns : List Int, ns.length ≤ 63 → ∃ st, sem [.lk (ns.map D.int)] [] = .ok (.v (.bool true)) st) : ∀ vs H Q E, spLaw K vs H Q E → spF K T al 1 sem vs H Q E := by
  rintro vs H Q E ⟨a, ns, rfl, hS, hl, hQ⟩
  obtain ⟨st, hs⟩ := h ns hl
  refine ⟨[.lk (ns.map D.int)], [], [], H, H, rfl, .cons (.lk hS DRs.ints) .nil, rel_pure (Same.refl H), fun _ => rfl, ?_⟩
  rw [hs]
  intro y H' m' M' _ _ R
  have q := R.head
  cases q
  exact hQ _
theorem law_end {l : PySem.W.OpenLaw} {k : Nat} {x : Str} {q : Program} {loose : List Str} {XP : (Str → Option Value) → Heap → Prop} {YP : World → Heap → Prop} {d : DefRec} {K : Params → PySem.W.Frag} (hn : l.most = some 63) (hdf : d.params.defaults = [])
    (hr : Room k callerA) (hY : ∀ (w : World) (h : Heap), YP w h → (K w.params).In h)
    (F : ∀ (w : World) (mg : Str → Option Value) (fa : Addr) (h : Heap), (K w.params).In h → h.Ns mainGlobals mg → mg d.name = some (.ref fa) →
      ∃ fd : FuncData, (∀ (s : Shared) (u : Value), BindsTo s fd ⟨[u], []⟩ [(x, u)]) ∧ ∀ base : Heap, (K w.params).In base → base.Ns mainGlobals mg → FnOk l.prog w (K w.params) mg base (L2.CX l.prog w) k fa fd [x] (spLaw (K w.params))) :
    PySem.W.WalkO q loose XP YP l.row.toRowW d [] (fun f vs => PySem.call f vs) :=
  L2.walk_of (n := 63) (k := k) (x := x) (CX := fun w => L2.CX l.prog w) (sp := fun w => spLaw (K w.params)) hn (by decide) hdf hr hY F (fun _ _ a ns hl _ hS => ⟨a, ns, rfl, hS, hl, fun _ => rfl⟩)
    fun _ _ _ _ _ ⟨_, _, _, _, _, _, _, _, _, _, _, _, z⟩ => z
end MP

/-! MP 10: divmod, sorted, all, any, sum, abs, int, tuple * int, list(range), pop. -/
namespace MP
open PySem PySem.Spec PyProof.Rows L2
section
variable {X : Cx} {T : Tab} {W : WX} {a b c e : Expr} {es : List Expr} {pos p : Pos} {fa fb fc : Sta → PR RV}

def gDivmod : List D → Option RV
  | [.int i, .int j] => if 0 < j ∧ j < 1073741824 then some (sh (.tup [.int (i / j), .int (i % j)])) else none
  | _ => none
theorem ok_divmod : CallOk X (.builtin "divmod") gDivmod := by
  refine ⟨_, call_divmod, fun m M H ys ds res Q s a e k => ?_⟩
  unfold gDivmod at e
  split at e
  · rename_i i j
    by_cases hj : 0 < j ∧ j < 1073741824
    · rw [if_pos hj] at e
      cases e
      cases a with
      | cons a1 an => cases an with
        | cons a2 an =>
          cases an
          refine ⟨i, j, by rw [a1.int, a2.int], hj, fun p hp => ?_⟩
          have gs := Grow.share (o := .tup [.int (i / j), .int (i % j)]) s hp
          exact k _ _ _ gs (.tup (SqT.of upd_same) (.cons (.int _) (.cons (.int _) .nil)))
    · rw [if_neg hj] at e; cases e
  · cases e
/-! ### lists of ints, of bools -/
def intsOf : List D → Option (List Int)
  | [] => some []
  | .int i :: ds => (intsOf ds).map (i :: ·)
  | _ => none
theorem intsOf_eq : ∀ {ds : List D} {ns : List Int}, intsOf ds = some ns → ds = ns.map D.int
  | [], ns, h => by cases h; rfl
  | d :: ds, ns, h => by
    cases d <;> try (cases h; done)
    rename_i i
    unfold intsOf at h
    cases hi : intsOf ds with
    | none => rw [hi] at h; cases h
    | some ms =>
      rw [hi] at h
      cases h
      rw [intsOf_eq hi]
      rfl
theorem intsOf_map : ∀ ns : List Int, intsOf (ns.map D.int) = some ns
  | [] => rfl
  | n :: ns => by show (intsOf (ns.map D.int)).map (n :: ·) = _; rw [intsOf_map ns]; rfl
def boolsOf : List D → Option (List Bool)
  | [] => some []
  | .bool i :: ds => (boolsOf ds).map (i :: ·)
  | _ => none
theorem boolsOf_eq : ∀ {ds : List D} {ns : List Bool}, boolsOf ds = some ns → ds = ns.map D.bool
  | [], ns, h => by cases h; rfl
  | d :: ds, ns, h => by
    cases d <;> try (cases h; done)
    rename_i i
    unfold boolsOf at h
    cases hi : boolsOf ds with
    | none => rw [hi] at h; cases h
    | some ms =>
      rw [hi] at h
      cases h
      rw [boolsOf_eq hi]
      rfl
theorem boolsOf_map : ∀ ns : List Bool, boolsOf (ns.map D.bool) = some ns
  | [] => rfl
  | n :: ns => by show (boolsOf (ns.map D.bool)).map (n :: ·) = _; rw [boolsOf_map ns]; rfl
theorem DRs.bools_of {K : PySem.W.Frag} {m : List Addr} {H : Hp} : ∀ {vs : List V} {ns : List Bool}, DRs K m H vs (ns.map D.bool) → vs = ns.map V.bl
  | _, [], h => by cases h; rfl
  | _, n :: ns, h => by
    cases h with
    | cons h1 h2 =>
      cases h1
      rw [DRs.bools_of h2]
      rfl
/-- the one rising row of the same ints -/
def insI (x : Int) : List Int → List Int
  | [] => [x]
  | y :: ys => if x ≤ y then x :: y :: ys else y :: insI x ys
def sortI : List Int → List Int
  | [] => []
  | x :: xs => insI x (sortI xs)
theorem insI_perm (x : Int) : ∀ ys : List Int, (insI x ys).Perm (x :: ys)
  | [] => List.Perm.refl _
  | y :: ys => by
    unfold insI
    split
    · exact List.Perm.refl _
    · exact ((insI_perm x ys).cons y).trans (List.Perm.swap x y ys)
theorem sortI_perm : ∀ xs : List Int, (sortI xs).Perm xs
  | [] => List.Perm.refl _
  | x :: xs => (insI_perm x _).trans ((sortI_perm xs).cons x)
theorem insI_rise (x : Int) : ∀ ys : List Int, ys.Pairwise (· ≤ ·) → (insI x ys).Pairwise (· ≤ ·)
  | [], _ => List.pairwise_singleton _ _
  | y :: ys, h => by
    unfold insI
    have h1 := List.pairwise_cons.mp h
    split
    · rename_i hx
      refine List.pairwise_cons.mpr ⟨fun z hz => ?_, h⟩
      rcases List.mem_cons.mp hz with rfl | hz
      · exact hx
      · exact Int.le_trans hx (h1.1 z hz)
    · rename_i hx
      refine List.pairwise_cons.mpr ⟨fun z hz => ?_, insI_rise x ys h1.2⟩
      rcases List.mem_cons.mp ((insI_perm x ys).subset hz) with rfl | hz
      · omega
      · exact h1.1 z hz
theorem sortI_rise : ∀ xs : List Int, (sortI xs).Pairwise (· ≤ ·)
  | [] => List.Pairwise.nil
  | x :: xs => insI_rise x _ (sortI_rise xs)
theorem rise_eq : ∀ {xs ys : List Int}, xs.Perm ys → xs.Pairwise (· ≤ ·) → ys.Pairwise (· ≤ ·) → xs = ys
  | [], ys, p, _, _ => (List.nil_perm.mp p).symm
  | x :: xs, [], p, _, _ => by have := p.length_eq; simp at this
  | x :: xs, y :: ys, p, h1, h2 => by
    have a := List.pairwise_cons.mp h1
    have b := List.pairwise_cons.mp h2
    have e : x = y := by
      have hx : x ∈ y :: ys := p.subset (List.mem_cons_self ..)
      have hy : y ∈ x :: xs := p.symm.subset (List.mem_cons_self ..)
      rcases List.mem_cons.mp hx with h | h
      · exact h
      · rcases List.mem_cons.mp hy with h' | h'
        · exact h'.symm
        · have := a.1 y h'
          have := b.1 x h
          omega
    subst e
    rw [rise_eq (List.perm_cons x |>.mp p) a.2 b.2]
theorem sortI_eq {xs ys : List Int} (p : ys.Perm xs) (h : ys.Pairwise (· ≤ ·)) : ys = sortI xs := rise_eq (p.trans (sortI_perm xs).symm) h (sortI_rise xs)
def gSorted : List D → Option RV
  | [d] => (lstOf d).bind fun ds => (intsOf ds).map fun ns => fr (.list ((sortI ns).map D.int))
  | _ => none
theorem ok_sorted : CallOk X (.builtin "sorted") gSorted := by
  refine ⟨_, cr_sortedI, fun m M H ys ds res Q s a e k => ?_⟩
  unfold gSorted at e
  split at e
  · rename_i d
    cases a with
    | cons a1 an =>
      cases an
      cases hl : lstOf d with
      | none => rw [hl] at e; cases e
      | some ds =>
        rw [hl] at e
        cases hi : intsOf ds with
        | none => simp only [Option.bind_some, hi] at e; cases e
        | some ns =>
          simp only [Option.bind_some, hi, Option.map_some] at e
          cases e
          obtain ⟨p, xs, rfl, h1, r1⟩ := a1.lst hl s
          rw [intsOf_eq hi] at r1
          rw [DRs.ints_of r1] at h1
          refine ⟨p, ns, rfl, h1, fun ns' q hp hr hq => ?_⟩
          rw [sortI_eq hp hr]
          exact k _ _ M (Grow.fresh s hq) ⟨q, _, rfl, upd_same, .lst DRs.ints, s.free hq, hq⟩
  · cases e
def gAll : List D → Option RV
  | [d] => (lstOf d).bind fun ds => (boolsOf ds).map fun bs => sh (.bool (bs.all id))
  | _ => none
def gAny : List D → Option RV
  | [d] => (lstOf d).bind fun ds => (boolsOf ds).map fun bs => sh (.bool (bs.any id))
  | _ => none
def gSum : List D → Option RV
  | [d] => (lstOf d).bind fun ds => (intsOf ds).map fun bs => sh (.int bs.sum)
  | _ => none
theorem bools_at {m : List Addr} {M H : Hp} {y : V} {d : D} {ds : List D} {bs : List Bool} (s : Same M H) (a : Arg X.K m M H y d) (hl : lstOf d = some ds) (hb : boolsOf ds = some bs) : ∃ p, y = .ref p ∧ SqL X.K H p (bs.map V.bl) := by
  obtain ⟨p, xs, rfl, h1, r1⟩ := a.lst hl s
  rw [boolsOf_eq hb] at r1
  rw [DRs.bools_of r1] at h1
  exact ⟨p, rfl, h1⟩
theorem ints_at {m : List Addr} {M H : Hp} {y : V} {d : D} {ds : List D} {bs : List Int} (s : Same M H) (a : Arg X.K m M H y d) (hl : lstOf d = some ds) (hb : intsOf ds = some bs) : ∃ p, y = .ref p ∧ SqL X.K H p (bs.map V.int) := by
  obtain ⟨p, xs, rfl, h1, r1⟩ := a.lst hl s
  rw [intsOf_eq hb] at r1
  rw [DRs.ints_of r1] at h1
  exact ⟨p, rfl, h1⟩
theorem ok_all (hc : X.calm = true) : CallOk X (.builtin "all") gAll := by
  refine ⟨_, cr_all hc, fun m M H ys ds res Q s a e k => ?_⟩
  unfold gAll at e
  split at e
  · rename_i d
    cases a with
    | cons a1 an =>
      cases an
      cases hl : lstOf d with
      | none => rw [hl] at e; cases e
      | some ds =>
        rw [hl] at e
        cases hi : boolsOf ds with
        | none => simp only [Option.bind_some, hi] at e; cases e
        | some ns =>
          simp only [Option.bind_some, hi, Option.map_some] at e
          cases e
          obtain ⟨p, rfl, h1⟩ := bools_at s a1 hl hi
          exact ⟨p, ns, rfl, h1, k _ H M (Grow.refl s) (.bl _)⟩
  · cases e
theorem ok_any (hc : X.calm = true) : CallOk X (.builtin "any") gAny := by
  refine ⟨_, cr_any hc, fun m M H ys ds res Q s a e k => ?_⟩
  unfold gAny at e
  split at e
  · rename_i d
    cases a with
    | cons a1 an =>
      cases an
      cases hl : lstOf d with
      | none => rw [hl] at e; cases e
      | some ds =>
        rw [hl] at e
        cases hi : boolsOf ds with
        | none => simp only [Option.bind_some, hi] at e; cases e
        | some ns =>
          simp only [Option.bind_some, hi, Option.map_some] at e
          cases e
          obtain ⟨p, rfl, h1⟩ := bools_at s a1 hl hi
          exact ⟨p, ns, rfl, h1, k _ H M (Grow.refl s) (.bl _)⟩
  · cases e
theorem ok_sum (hc : X.calm = true) : CallOk X (.builtin "sum") gSum := by
  refine ⟨_, cr_sum hc, fun m M H ys ds res Q s a e k => ?_⟩
  unfold gSum at e
  split at e
  · rename_i d
    cases a with
    | cons a1 an =>
      cases an
      cases hl : lstOf d with
      | none => rw [hl] at e; cases e
      | some ds =>
        rw [hl] at e
        cases hi : intsOf ds with
        | none => simp only [Option.bind_some, hi] at e; cases e
        | some ns =>
          simp only [Option.bind_some, hi, Option.map_some] at e
          cases e
          obtain ⟨p, rfl, h1⟩ := ints_at s a1 hl hi
          exact ⟨p, ns, rfl, h1, k _ H M (Grow.refl s) (.int _)⟩
  · cases e
def gAbs : List D → Option RV
  | [.int i] => some (sh (.int (if i < 0 then -i else i)))
  | _ => none
theorem ok_abs : CallOk X (.builtin "abs") gAbs := by
  refine ⟨_, call_abs, fun m M H ys ds res Q s a e k => ?_⟩
  unfold gAbs at e
  split at e
  · cases e
    cases a with
    | cons a1 an =>
      cases an
      exact ⟨_, by rw [a1.int], k _ H M (Grow.refl s) (.int _)⟩
  · cases e
def gInt : List D → Option RV
  | [.int i] => some (sh (.int i))
  | [.bool b] => some (sh (.int (if b then 1 else 0)))
  | _ => none
theorem ok_int : CallOk X (.type "int") gInt := by
  refine ⟨_, call_int1, fun m M H ys ds res Q s a e k => ?_⟩
  unfold gInt at e
  split at e
  · cases e
    cases a with
    | cons a1 an =>
      cases an
      exact .inl ⟨_, by rw [a1.int], k _ H M (Grow.refl s) (.int _)⟩
  · cases e
    cases a with
    | cons a1 an =>
      cases an
      exact .inr ⟨_, by rw [a1.bl], k _ H M (Grow.refl s) (.int _)⟩
  · cases e
/-! ### list(range(n)), list(range(a, b)) -/
def pLRng (g : List D → Option (List D)) (fs : Sta → PR (List RV)) : Sta → PR RV := fun s => (fs s).bind fun rs => (PR.of (g (rs.map RV.d))).bind fun ds => if ds.length ≤ 16777216 then .ok (fr (.list ds)) else .stuck
theorem rgV_rng {K : PySem.W.Frag} {m : List Addr} {H : Hp} (i j : Int) : DRs K m H (rgV i j) (rng i j) := by
  unfold rgV rng
  generalize (j - i).toNat = n
  have : ∀ l : List Nat, DRs K m H (l.map fun (k : Nat) => V.int (i + k)) (l.map fun (k : Nat) => D.int (i + k)) := by
    intro l
    induction l with
    | nil => exact .nil
    | cons x l ih => exact .cons (.int _) ih
  exact this _
theorem ev_lrng1 {x : Expr} {pr q pos' : Pos} (hc : X.calm = true) (hg : Gl X "list") (hm : X.mg "list" = none) (hg2 : Gl X "range") (hm2 : X.mg "range" = none) (ha : PEv X T W x fa)
    (na2 : starEach [x] X.env = (false, eval x X.env) :: starEach [] X.env := by rfl)
    (na : starEach [Expr.Call (.Name "range" pr) [x] [] pos] X.env = (false, eval (Expr.Call (.Name "range" pr) [x] [] pos) X.env) :: starEach [] X.env := by rfl) :
    PEv X T W (.Call (.Name "list" q) [.Call (.Name "range" pr) [x] [] pos] [] pos') (pLRng gRng1 (pCons fa pNil)) := by
  refine PE.wk (pe_listRg hc hg hm (prg_1 hg2 hm2 ha na2) na) fun σ H Q h => ?_
  obtain ⟨s, m, M, G, R, q⟩ := h
  refine ⟨s, m, M, G, R, ?_⟩
  cases hf : fa s with
  | ok r =>
    obtain ⟨k, d⟩ := r
    have e1 : pLRng gRng1 (pCons fa pNil) s = (PR.of (gRng1 [d])).bind fun ds => if ds.length ≤ 16777216 then .ok (fr (.list ds)) else .stuck := by
      unfold pLRng pCons pNil PR.bind
      rw [hf]
      rfl
    rw [e1] at q
    intro y H1 M1 g1 rr
    cases d <;> try (exact q.elim)
    rename_i j
    by_cases hb : big62 j = true
    · have e2 : gRng1 [.int j] = some (rng 0 j) := if_pos hb
      rw [e2] at q
      by_cases hlen : (rng 0 j).length ≤ 16777216
      · have e3 : ((PR.of (some (rng 0 j))).bind fun ds => if ds.length ≤ 16777216 then PR.ok (fr (.list ds)) else .stuck) = .ok (fr (.list (rng 0 j))) := if_pos hlen
        rw [e3] at q
        refine ⟨j, rr.arg.int, ?_, fun p hp => ?_⟩
        · have hb2 := of_decide_eq_true hb
          unfold rng at hlen
          rw [List.length_map, List.length_range] at hlen
          exact ⟨by omega, by omega, hb2.1, hb2.2, hlen⟩
        · exact q _ _ M1 (g1.trans (Grow.fresh g1.mh hp)) ⟨p, _, rfl, upd_same, .lst (rgV_rng 0 j), g1.mh.free hp, g1.same.free hp⟩
      · have e3 : ((PR.of (some (rng 0 j))).bind fun ds => if ds.length ≤ 16777216 then PR.ok (fr (.list ds)) else .stuck) = .stuck := if_neg hlen
        rw [e3] at q
        exact q.elim
    · have e2 : gRng1 [.int j] = none := if_neg hb
      rw [e2] at q
      exact q.elim
  | exc e =>
    have e1 : pLRng gRng1 (pCons fa pNil) s = .exc e := by unfold pLRng pCons pNil PR.bind; rw [hf]
    rw [e1] at q
    exact q
  | stuck =>
    have e1 : pLRng gRng1 (pCons fa pNil) s = .stuck := by unfold pLRng pCons pNil PR.bind; rw [hf]
    rw [e1] at q
    exact q
/-! ### tuple * int -/
theorem tuple_mul1 (l : Addr) (items : Array Value) (n : Nat) (dd : Option Addr) (sl : Array (Option Value)) (u : Tok) :
    Meets (Builtin.«tuple.__mul__» ⟨[.ref l, .int 1 u], []⟩) (fun _ R s => s.heap.get? l = some { cls := .type "tuple", dict := dd, data := .seq items n, slots := sl } ∧ R (.ok (.ret (Value.ref l))) s) :=
  .of_wp fun prog w A R s h => by
    obtain ⟨hp, g, d, tk, os⟩ := s
    obtain ⟨hl, h⟩ := h
    have f1 := AutoSeq1.idx_int
    wp_walk using wpAny_loadPart' hl
    exact ⟨_, rfl, h⟩
def rRepT1 (K : PySem.W.Frag) : R2 := fun x y H Q => ∃ l xs, x = .ref l ∧ y = .int 1 ∧ SqT K H l xs ∧ Q (.ref l) H
theorem op_repT1 : OpR X (binaryOp .Mult) (rRepT1 X.K) := by
  intro pins s σ H x y v u Q I rx ry h
  obtain ⟨l, xs, rfl, rfl, hT, q⟩ := h
  cases rx
  obtain ⟨t, rfl⟩ := ry
  obtain ⟨its, r, ⟨⟨cls, dd, data, sl⟩, ho, hc, n, hd⟩, hs⟩ := I.tuple hT
  simp only at hc hd
  subst hc hd
  exact wpAny_binaryOp_repeat_ref (T := "tuple") (U := "int") (by decide) ⟨_, ho, rfl⟩ (fun s' => typeIs_int s' 1 t) noFill_tuple_mul PySem.F.fills_int_mul PySem.F.slot_int_rmul repeat_tuple PySem.F.slot_int_index.lookup
    (call_meets PySem.F.slot_int_rmul (typeIs_int s 1 t) PySem.F.entry_int_rmul (PySem.F.args_int_rmul_2 _ _) (int_rmul_tuple 1 t l its.toArray n dd sl)
      ⟨ho, rfl, ⟨_, ho, rfl⟩, call_meets PySem.F.slot_tuple_mul ⟨_, ho, rfl⟩ PySem.F.entry_tuple_mul (PySem.F.args_tuple_mul_2 _ _) (tuple_mul1 l its.toArray n dd sl t) ⟨ho, ⟨.ref l, H, I, rfl, q⟩⟩⟩)
def gRepT : D → D → Option RV
  | .tup xs, .int n => if 1 ≤ n ∧ n ≤ 1000 ∧ xs.length ≤ 1000 ∧ xs.length ≠ 0 then some (sh (.tup (List.replicate n.toNat xs).flatten)) else none
  | _, _ => none
theorem ok_repT : Op2Ok X (binaryOp .Mult) gRepT := by
  refine ⟨_, op_repT.or op_repT1, fun m M H x y d1 d2 res Q s a1 a2 e k => ?_⟩
  cases d1 <;> try (cases e; done)
  cases d2 <;> try (cases e; done)
  rename_i xs n
  dsimp only [gRepT] at e
  by_cases hc : 1 ≤ n ∧ n ≤ 1000 ∧ xs.length ≤ 1000 ∧ xs.length ≠ 0
  · rw [if_pos hc] at e
    cases e
    obtain ⟨p, us, rfl, h1, r1, rt⟩ := a1.tup s
    have hl := r1.length
    by_cases h2 : n = 1
    · subst h2
      refine .inr ⟨p, us, rfl, a2.int, h1, k _ H M (Grow.refl s) ?_⟩
      rw [show (List.replicate (1 : Int).toNat xs).flatten = xs by simp]
      exact rt
    · refine .inl ⟨p, n, us, rfl, a2.int, h1, fun h => ?_, by omega, by omega, by omega, fun q hq => ?_⟩
      · rw [h] at hl; simp at hl; omega
      · have gs := Grow.share (o := .tup (List.replicate n.toNat us).flatten) s hq
        exact k _ _ _ gs (.tup (SqT.of upd_same) ((r1.rep n.toNat).up gs.mm))
  · rw [if_neg hc] at e
    cases e
def gMulT : D → D → Option RV := fun a b => (gTimes a b).or (gRepT a b)
theorem ok_mulT : Op2Ok X (binaryOp .Mult) gMulT := ok_times.or ok_repT

/-! ### xs.pop(i), within an expression -/
def fPop (i : Nat) (f : Sta → PR RV) : Sta → Fe := fun s => match s.env[i]? with
  | some (.own (.list ds)) => match f s with
    | .ok r => match r.d with
      | .int j => if ds.length ≤ 16777216 then (match ixN ds.length j with
          | some k => match ds[k]? with
            | some d => .ok (.v d) { s with env := s.env.set i (.own (.list (ds.eraseIdx k))) }
            | none => .stuck
          | none => .stuck) else .stuck
      | _ => .stuck
    | .exc e => .exc e s
    | .stuck => .stuck
  | _ => .stuck
theorem fe_pop {al : Bool} {i : Nat} {x : Str} {f : Sta → PR RV} {px apos cpos : Pos} (hx : PE X (.Name x px) (tVar i)) (he : PEv X T W e f)
    (hbase : attributeBase (.Name x px) "pop" X.env (eval (.Name x px) X.env) = eval (.Name x px) X.env := by rfl)
    (hfew : ((backTo cpos (starEach [e] X.env)).all (fun x => !x.1) && (backToKw cpos (keywordEach [] X.env)).all (fun x => x.1.isSome)
      && decide ([e].length + ([] : List Keyword).length + (if ([] : List Keyword).isEmpty then 0 else 1) < 30)) = true := by rfl)
    (hline : (apos.endLine == cpos.line) = true := by rfl) (hs : starEach [e] X.env = (false, eval e X.env) :: starEach [] X.env := by rfl) (hplain : (backTo cpos (starEach [] X.env)).any (·.1) = false := by rfl) :
    FEv X T W al (.Call (.Attribute (.Name x px) "pop" apos) [e] [] cpos) (fPop i f) := by
  refine PE.wk (pe_bm PySem.F.plainAttrs_list PySem.F.slot_list_pop PySem.F.type_list_pop mt_popAt hx (pa_cons he pa_nil hs) hbase hfew hline hs hplain) fun σ H Q h => ?_
  obtain ⟨s, m, M, G, R, a, q⟩ := h
  unfold fPop at q
  split at q
  · rename_i ds hds
    obtain ⟨b, xs, hσ, hb, hd⟩ := R.ownL hds
    refine ⟨_, hσ, .inl ⟨rfl, xs, SqL.of hb⟩, s, m, M, G, R, ?_⟩
    cases hf : f s with
    | ok r =>
      rw [hf] at q
      obtain ⟨kk, d⟩ := r
      cases d <;> try (exact q.elim)
      rename_i j
      simp only [] at q
      by_cases hl : ds.length ≤ 16777216
      · rw [if_pos hl] at q
        cases hk : ixN ds.length j with
        | none => simp only [hk] at q; exact q.elim
        | some k =>
          simp only [hk] at q
          cases hy : ds[k]? with
          | none => simp only [hy] at q; exact q.elim
          | some y =>
            simp only [hy] at q
            obtain ⟨v, hv, rv⟩ := hd.get hy
            intro z H1 M1 g1 rr
            obtain ⟨hk1, hk2, hk3, hk4⟩ := ixN_seq hk
            have hxl := hd.length
            refine ⟨b, xs, j, k, v, rfl, by rw [rr.arg.int], g1.same _ _ hb, by omega, by omega, by rw [hxl]; exact hk1, hv, ?_⟩
            have R1 := (R.grow g1).mut hds hσ (.lst ((hd.up g1.mm).eraseIdx k))
            exact q v _ m M1 (Ext.grow g1 R.gh) a (R1.consU.setV 0 (rv.up g1.mm))
      · rw [if_neg hl] at q; exact q.elim
    | exc ex => rw [hf] at q; exact fun cls d H' M' g xr => q cls d H' m M' (Ext.grow g R.gh) a (R.grow g) xr
    | stuck => rw [hf] at q; exact q.elim
  · exact q.elim

/-! ### x.append(e), e an expression that may change objects -/
def sAppF (i : Nat) (g : Sta → Fe) : Sta → Fl := fun s => match s.env[i]? with
  | some (.own (.list _)) => (g s).fl fun r s' => match r, s'.env[i]? with
    | .v d, some (.own (.list ds)) => if ds.length < 16777216 then .nx { s' with env := s'.env.set i (.own (.list (ds ++ [d]))) } else .stuck
    | _, _ => .stuck
  | _ => .stuck
theorem s_appF {al : Bool} {i : Nat} {x : Str} {g : Sta → Fe} {px apos cpos : Pos} (hx : PE X (.Name x px) (tVar i)) (he : FEv X T W al e g)
    (hbase : attributeBase (.Name x px) "append" X.env (eval (.Name x px) X.env) = eval (.Name x px) X.env := by rfl)
    (hfew : ((backTo cpos (starEach [e] X.env)).all (fun x => !x.1) && (backToKw cpos (keywordEach [] X.env)).all (fun x => x.1.isSome)
      && decide ([e].length + ([] : List Keyword).length + (if ([] : List Keyword).isEmpty then 0 else 1) < 30)) = true := by rfl)
    (hline : (apos.endLine == cpos.line) = true := by rfl) (hs : starEach [e] X.env = (false, eval e X.env) :: starEach [] X.env := by rfl) (hplain : (backTo cpos (starEach [] X.env)).any (·.1) = false := by rfl)
    (hsw : swapsWith (.Call (.Attribute (.Name x px) "append" apos) [e] [] cpos) none pos.line X.env = pure false := by rfl) :
    SE1 X T W al (.Expr (.Call (.Attribute (.Name x px) "append" apos) [e] [] cpos) pos) (sAppF i g) := by
  refine PS.wk (ps_expr (pe_bm PySem.F.plainAttrs_list PySem.F.slot_list_append PySem.F.type_list_append mt_append hx (pa_cons he pa_nil hs) hbase hfew hline hs hplain) hsw) fun D σ H h => ?_
  obtain ⟨s, m, M, G, R, a, q⟩ := h
  unfold sAppF at q
  split at q
  · rename_i ds0 hds
    obtain ⟨b, xs, hσ, hb, hd⟩ := R.ownL hds
    refine ⟨_, hσ, .inl ⟨rfl, xs, SqL.of hb⟩, ?_⟩
    refine tF_fl (k := fun r s' => match r, s'.env[i]? with
      | .v d, some (.own (.list ds)) => if ds.length < 16777216 then .nx { s' with env := s'.env.set i (.own (.list (ds ++ [d]))) } else .stuck
      | _, _ => .stuck) R a q fun r s' y H' m' M' e' a' R' k => ?_
    split at k
    · rename_i d ds hds2
      by_cases hl : ds.length < 16777216
      · rw [if_pos hl] at k
        obtain ⟨b2, xs2, hσ2, hb2, hd2⟩ := R'.tail.ownL hds2
        rw [hσ] at hσ2
        cases hσ2
        refine ⟨b, xs2, y, rfl, rfl, hb2, by rw [hd2.length, sizeLine_eq]; exact hl, ?_⟩
        exact k σ _ m' M' (Ext.refl ..) a' (R'.tail.mut hds2 hσ (.lst (hd2.append (.cons R'.head .nil))))
      · rw [if_neg hl] at k; exact k.elim
    · exact k.elim
  · exact q.elim
end

/-! ### zip -/
def zipD : List D → List D → List D
  | x :: xs, y :: ys => .tup [x, y] :: zipD xs ys
  | _, _ => []
theorem zipD_get : ∀ (xs ys : List D) (i : Nat) (d : D), (zipD xs ys)[i]? = some d → ∃ x y, xs[i]? = some x ∧ ys[i]? = some y ∧ d = .tup [x, y]
  | [], _, _, _, e => by simp [zipD] at e
  | _ :: _, [], _, _, e => by simp [zipD] at e
  | x :: xs, y :: ys, 0, d, e => by
    simp [zipD] at e
    exact ⟨x, y, rfl, rfl, e.symm⟩
  | x :: xs, y :: ys, i + 1, d, e => by
    obtain ⟨a, b, h1, h2, h3⟩ := zipD_get xs ys i d (by simpa [zipD] using e)
    exact ⟨a, b, by simpa using h1, by simpa using h2, h3⟩
theorem zipD_len : ∀ (xs ys : List D), (zipD xs ys).length = min xs.length ys.length
  | [], ys => by simp [zipD]
  | _ :: _, [] => by simp [zipD]
  | x :: xs, y :: ys => by simp [zipD, zipD_len xs ys, Nat.succ_min_succ]
section
variable {X : Cx} {T : Tab} {W : WX} {e e2 : Expr} {pos p : Pos}
theorem itz_ok {K : PySem.W.Frag} {m : List Addr} {a b : Addr} {xs ys : List V} {ds es : List D} {M0 B : Hp} (h : ∀ M H, Same M0 M → Same M H → Same B H → SqL K H a xs ∧ SqL K H b ys) (r : DRs K m M0 xs ds) (r2 : DRs K m M0 ys es) : ItOk K m (Itz K a b) (zipD ds es) M0 B := by
  intro i M H s1 s2 s3
  have hh := h M H s1 s2 s3
  refine ⟨fun d e => ?_, fun hl => ⟨xs, ys, hh.1, hh.2, by rw [zipD_len] at hl; rw [r.length, r2.length]; omega⟩⟩
  obtain ⟨x, y, hx, hy, rfl⟩ := zipD_get ds es i d e
  obtain ⟨v, hv, rv⟩ := r.get hx
  obtain ⟨u, hu, ru⟩ := r2.get hy
  refine ⟨⟨xs, ys, v, u, hh.1, hh.2, hv, hu⟩, fun q H' z => ?_⟩
  obtain ⟨T, x', y', rfl, hT, rfl, z1, z2⟩ := z
  have z1 := z1 xs hh.1
  have z2 := z2 ys hh.2
  rw [hv] at z1
  rw [hu] at z2
  cases z1
  cases z2
  have gs := Grow.share (o := .tup [v, u]) s2 hT
  exact ⟨_, gs, .tup (SqT.of upd_same) (.cons ((rv.up s1).up gs.mm) (.cons ((ru.up s1).up gs.mm) .nil))⟩
theorem itzT_ok {K : PySem.W.Frag} {m : List Addr} {a b : Addr} {xs ys : List V} {ds es : List D} {M0 B : Hp} (h : ∀ M H, Same M0 M → Same M H → Same B H → SqT K H a xs ∧ SqT K H b ys) (r : DRs K m M0 xs ds) (r2 : DRs K m M0 ys es) : ItOk K m (RZ.ItzT K a b) (zipD ds es) M0 B := by
  intro i M H s1 s2 s3
  have hh := h M H s1 s2 s3
  refine ⟨fun d e => ?_, fun hl => ⟨xs, ys, hh.1, hh.2, by rw [zipD_len] at hl; rw [r.length, r2.length]; omega⟩⟩
  obtain ⟨x, y, hx, hy, rfl⟩ := zipD_get ds es i d e
  obtain ⟨v, hv, rv⟩ := r.get hx
  obtain ⟨u, hu, ru⟩ := r2.get hy
  refine ⟨⟨xs, ys, v, u, hh.1, hh.2, hv, hu⟩, fun q H' z => ?_⟩
  obtain ⟨T, x', y', rfl, hT, rfl, z1, z2⟩ := z
  have z1 := z1 xs hh.1
  have z2 := z2 ys hh.2
  rw [hv] at z1
  rw [hu] at z2
  cases z1
  cases z2
  have gs := Grow.share (o := .tup [v, u]) s2 hT
  exact ⟨_, gs, .tup (SqT.of upd_same) (.cons ((rv.up s1).up gs.mm) (.cons ((ru.up s1).up gs.mm) .nil))⟩
def gZip : List D → Option (List D)
  | [.list xs, .list ys] => some (zipD xs ys)
  | [.tup xs, .tup ys] => some (zipD xs ys)
  | _ => none
def pZip (fs : Sta → PR (List D)) : Sta → PR (List D) := fun s => (fs s).bind fun ds => .of (gZip ds)
theorem iv_zip {elts : List Expr} {kk : Nat} {tpos : Pos} {fs : Sta → PR (List D)} (hg : Gl X "zip") (hm : X.mg "zip" = none) (ha : PAs X T W [e, e2] fs)
    (hs : starEach [e, e2] X.env = (false, eval e X.env) :: starEach [e2] X.env := by rfl) (hpl : (backTo pos (starEach [e2] X.env)).any (·.1) = false := by rfl) :
    PIv X T W (.Tuple elts kk tpos) (.Call (.Name "zip" p) [e, e2] [] pos) (pZip fs) := by
  refine PI.wk (RZ.pi_zipA hg hm ha hs hpl) ?_
  rintro σ H R ⟨s, m, M, G, Rl, q⟩
  refine ⟨s, m, M, G, Rl, ?_⟩
  revert q
  unfold pZip PR.bind
  cases fs s with
  | ok ds =>
    intro q ys H' M' g rr
    dsimp only at q
    cases hr : gZip ds with
    | none => simp only [hr, PR.of] at q
    | some es =>
      simp only [hr, PR.of] at q
      unfold gZip at hr
      split at hr
      · cases hr
        cases rr with
        | cons r1 rn => cases rn with
          | cons r2 rn =>
            cases rn
            cases r1 with
            | list h1 h2 => cases r2 with
              | list h3 h4 => exact ⟨_, _, _, _, rfl, .inl ⟨SqL.of (g.mh _ _ h1), SqL.of (g.mh _ _ h3), q _ H' M' g (itz_ok (fun M H a b _ => ⟨SqL.of (b _ _ (a _ _ h1)), SqL.of (b _ _ (a _ _ h3))⟩) h2 h4)⟩⟩
      · cases hr
        cases rr with
        | cons r1 rn => cases rn with
          | cons r2 rn =>
            cases rn
            cases r1 with
            | tup h1 h2 => cases r2 with
              | tup h3 h4 => exact ⟨_, _, _, _, rfl, .inr ⟨Same.seqT g.mh h1, Same.seqT g.mh h3, q _ H' M' g (itzT_ok (fun M H a b _ => ⟨Same.seqT b (Same.seqT a h1), Same.seqT b (Same.seqT a h3)⟩) h2 h4)⟩⟩
      · cases hr
  | exc e => intro q; exact q
  | stuck => intro q; exact q
/-! ### a sign within a text -/
def gInS : D → D → Option RV
  | .str x, .str z => match x.cps.toList with
    | [c] => some (sh (.bool (decide (c ∈ z.cps.toList))))
    | _ => none
  | _, _ => none
theorem ok_inS : Op2Ok X (compareOp .In) gInS := by
  refine ⟨_, op_in_sign, fun m M H x y d1 d2 res Q s a1 a2 e k => ?_⟩
  cases d1 <;> try (cases e; done)
  cases d2 <;> try (cases e; done)
  rename_i u z
  dsimp only [gInS] at e
  split at e
  · rename_i c hl
    cases e
    have hx : u = ⟨#[c]⟩ := by
      obtain ⟨a⟩ := u
      exact congrArg Str.mk (Array.toList_inj.mp hl)
    exact ⟨c, z, by rw [a1.str, hx], a2.str, k _ H M (Grow.refl s) (.bl _)⟩
  · cases e
/-! ### a def that calls itself: what is never reached -/
theorem fn_stuck {P : Program} {w : World} {K : PySem.W.Frag} {mg : Str → Option Value} {base : Heap} {T : Tab} {al : Bool} {k n : Nat} {f : Addr} {fd : FuncData} {ps : List Str} (h : ps.length = n) :
    FnOk P w K mg base (L2.CX P w) k f fd ps (spF K T al n fun _ _ => .stuck) := by
  refine ⟨fun vs H Q E hs => ?_, fun A outer s H args us vs Q E _ _ _ _ hs => ?_⟩
  · obtain ⟨_, _, _, _, _, hl, _⟩ := hs
    rw [hl, h]
  · obtain ⟨_, _, _, _, _, _, _, _, _, z⟩ := hs
    exact z.elim
end
/-! ### a statement that is never come to -/
section
variable {X : Cx} {T : Tab} {W : WX} {al : Bool} {st : Stmt}
def sDead : Sta → Fl := fun _ => .stuck
theorem s_dead : SE1 X T W al st sDead := ⟨fun pins s σ H D I h => by
  obtain ⟨s', m, M, G, R, a, q⟩ := h
  exact q.elim⟩
end
/-! ### as equations -/
section
variable {env : List Slot} {st : List Ob}
theorem g_divmod {i j : Int} (h : 0 < j ∧ j < 1073741824) : gDivmod [.int i, .int j] = some ⟨.sh, .tup [.int (i / j), .int (i % j)]⟩ := if_pos h
theorem g_sorted (ns : List Int) : gSorted [.list (ns.map D.int)] = some ⟨.fr, .list ((sortI ns).map D.int)⟩ := by
  show (intsOf (ns.map D.int)).map _ = _
  rw [intsOf_map]
  rfl
theorem g_allB (bs : List Bool) : gAll [.list (bs.map D.bool)] = some ⟨.sh, .bool (bs.all id)⟩ := by
  show (boolsOf (bs.map D.bool)).map _ = _
  rw [boolsOf_map]
  rfl
theorem g_anyB (bs : List Bool) : gAny [.list (bs.map D.bool)] = some ⟨.sh, .bool (bs.any id)⟩ := by
  show (boolsOf (bs.map D.bool)).map _ = _
  rw [boolsOf_map]
  rfl
theorem g_sumI (bs : List Int) : gSum [.list (bs.map D.int)] = some ⟨.sh, .int bs.sum⟩ := by
  show (intsOf (bs.map D.int)).map _ = _
  rw [intsOf_map]
  rfl
theorem g_zipT (x y : List D) : gZip [.tup x, .tup y] = some (zipD x y) := Eq.trans rfl rfl
theorem g_zipL (x y : List D) : gZip [.list x, .list y] = some (zipD x y) := Eq.trans rfl rfl
def xZp : PR (List D) → PR (List D)
  | .ok d => .of (gZip d)
  | .exc e => .exc e
  | .stuck => .stuck
theorem e_pZip (fs : Sta → PR (List D)) : pZip fs ⟨env, st⟩ = xZp (fs ⟨env, st⟩) := by
  unfold pZip PR.bind xZp
  cases fs ⟨env, st⟩ <;> rfl
theorem e_xZp (d : List D) : xZp (.ok d) = PR.of (gZip d) := Eq.trans rfl rfl
theorem g_abs (i : Int) : gAbs [.int i] = some ⟨.sh, .int (if i < 0 then -i else i)⟩ := Eq.trans rfl rfl
theorem g_intI (i : Int) : gInt [.int i] = some ⟨.sh, .int i⟩ := Eq.trans rfl rfl
theorem g_intB (b : Bool) : gInt [.bool b] = some ⟨.sh, .int (if b then 1 else 0)⟩ := Eq.trans rfl rfl
theorem g_repT {d : D} {n : Int} (h : 1 ≤ n ∧ n ≤ 1000) : gRepT (.tup [d]) (.int n) = some ⟨.sh, .tup (List.replicate n.toNat d)⟩ := by
  show (if _ then _ else _) = _
  rw [if_pos ⟨h.1, h.2, by simp, by simp⟩, List.flatten_replicate_singleton]
def xLR : PR (List D) → PR RV
  | .ok ds => if ds.length ≤ 16777216 then .ok ⟨.fr, .list ds⟩ else .stuck
  | .exc e => .exc e
  | .stuck => .stuck
theorem e_pLRng (g : List D → Option (List D)) (fs : Sta → PR (List RV)) : pLRng g fs ⟨env, st⟩ = xLR (xG g (fs ⟨env, st⟩)) := by
  unfold pLRng PR.bind xG xLR
  cases fs ⟨env, st⟩ with
  | ok rs => simp only []; cases PR.of (g (rs.map RV.d)) <;> rfl
  | exc e => rfl
  | stuck => rfl
theorem e_xLR {ds : List D} (h : ds.length ≤ 16777216) : xLR (.ok ds) = .ok ⟨.fr, .list ds⟩ := if_pos h
def xPop (i : Nat) (env : List Slot) (st : List Ob) : Option Slot → PR RV → Fe
  | some (.own (.list ds)), .ok ⟨_, .int j⟩ => if ds.length ≤ 16777216 then (match ixN ds.length j with
      | some k => match ds[k]? with
        | some d => .ok (.v d) ⟨env.set i (.own (.list (ds.eraseIdx k))), st⟩
        | none => .stuck
      | none => .stuck) else .stuck
  | some (.own (.list _)), .ok _ => .stuck
  | some (.own (.list _)), .exc e => .exc e ⟨env, st⟩
  | some (.own (.list _)), .stuck => .stuck
  | _, _ => .stuck
theorem f_Pop (i : Nat) (f : Sta → PR RV) : fPop i f ⟨env, st⟩ = xPop i env st env[i]? (f ⟨env, st⟩) := by
  unfold fPop xPop
  rcases env[i]? with _ | (_ | d | d) <;> try rfl
  cases d <;> try rfl
  cases f ⟨env, st⟩ with
  | ok r => obtain ⟨k, d⟩ := r; cases d <;> rfl
  | exc e => rfl
  | stuck => rfl
theorem f_xPop {i : Nat} {ds : List D} {j : Int} {k : RK} (h : 0 ≤ j ∧ j < ds.length) (hl : ds.length ≤ 16777216) : xPop i env st (some (.own (.list ds))) (.ok ⟨k, .int j⟩) = .ok (.v (ds.getD j.toNat .none)) ⟨env.set i (.own (.list (ds.eraseIdx j.toNat))), st⟩ := by
  have e1 : ixN ds.length j = some j.toNat := by unfold ixN; rw [if_pos h.1, if_pos h.2]
  have e2 : ds[j.toNat]? = some (ds.getD j.toNat .none) := by
    have : j.toNat < ds.length := by omega
    rw [List.getD_eq_getElem?_getD, List.getElem?_eq_getElem this]
    rfl
  show (if _ then _ else _) = _
  rw [if_pos hl]
  simp only [e1, e2]
def xAF2 (i : Nat) (d : D) (env : List Slot) (st : List Ob) : Option Slot → Fl
  | some (.own (.list ds)) => if ds.length < 16777216 then .nx ⟨env.set i (.own (.list (ds ++ [d]))), st⟩ else .stuck
  | _ => .stuck
def xAF (i : Nat) : Fe → Fl
  | .ok (.v d) ⟨env, st⟩ => xAF2 i d env st env[i]?
  | .ok _ _ => .stuck
  | .exc e s => .exc e s
  | .stuck => .stuck
def xAF0 (i : Nat) : Option Slot → Fe → Fl
  | some (.own (.list _)), x => xAF i x
  | _, _ => .stuck
theorem s_AppF (i : Nat) (g : Sta → Fe) : sAppF i g ⟨env, st⟩ = xAF0 i env[i]? (g ⟨env, st⟩) := by
  unfold sAppF xAF0
  rcases env[i]? with _ | (_ | d | d) <;> try rfl
  cases d <;> try rfl
  unfold Fe.fl xAF
  rcases g ⟨env, st⟩ with ⟨r, ⟨env', st'⟩⟩ | ⟨e, s⟩ | _ <;> try rfl
  rcases r with _ | d | d
  · rfl
  · simp only [xAF2]
    rcases env'[i]? with _ | (_ | d | d) <;> try rfl
    cases d <;> rfl
  · rfl
theorem s_xAF0 (i : Nat) (ds : List D) (x : Fe) : xAF0 i (some (.own (.list ds))) x = xAF i x := Eq.trans rfl rfl
theorem s_xAF (i : Nat) (d : D) : xAF i (.ok (.v d) ⟨env, st⟩) = xAF2 i d env st env[i]? := Eq.trans rfl rfl
theorem s_xAF2 {i : Nat} {d : D} {ds : List D} (h : ds.length < 16777216) : xAF2 i d env st (some (.own (.list ds))) = .nx ⟨env.set i (.own (.list (ds ++ [d]))), st⟩ := if_pos h
theorem inB_int (i : Int) (ns : List Int) : (ns.map D.int).any (fun z => eqF z (.int i)) = decide (i ∈ ns) := by
  induction ns with
  | nil => simp
  | cons n ns ih =>
    rw [List.map_cons, List.any_cons, ih]
    show (n == i || _) = _
    by_cases h : n = i
    · subst h; simp
    · have h' : ¬ i = n := fun e => h e.symm
      simp [h, h']
theorem flat_ints (ns : List Int) : (ns.map D.int).all flatD = true := by
  rw [List.all_map]
  exact List.all_eq_true.mpr fun _ _ => rfl
theorem g_inI (i : Int) (ns : List Int) : gIn (.int i) (.list (ns.map D.int)) = some ⟨.sh, .bool (decide (i ∈ ns))⟩ := by
  unfold gIn inB
  simp only [seqOf]
  rw [if_pos ⟨rfl, flat_ints ns⟩, inB_int]
  rfl
theorem g_ninI (i : Int) (ns : List Int) : gNin (.int i) (.list (ns.map D.int)) = some ⟨.sh, .bool (!decide (i ∈ ns))⟩ := by
  unfold gNin inB
  simp only [seqOf]
  rw [if_pos ⟨rfl, flat_ints ns⟩, inB_int]
  rfl
theorem g_inT (i : Int) (ns : List Int) : gIn (.int i) (.tup (ns.map D.int)) = some ⟨.sh, .bool (decide (i ∈ ns))⟩ := by
  unfold gIn inB
  simp only [seqOf]
  rw [if_pos ⟨rfl, flat_ints ns⟩, inB_int]
  rfl
theorem g_ninT (i : Int) (ns : List Int) : gNin (.int i) (.tup (ns.map D.int)) = some ⟨.sh, .bool (!decide (i ∈ ns))⟩ := by
  unfold gNin inB
  simp only [seqOf]
  rw [if_pos ⟨rfl, flat_ints ns⟩, inB_int]
  rfl
/-- a comprehension over numbers -/
theorem compN {t : Tg} {tt : Sta → PR Bool} {te : Sta → PR D} {s : Sta} (q : Nat → Bool) : ∀ (ms : List Nat), (∀ m ∈ ms, ∃ env, t.bind (.int (m : Int)) s.env = some env ∧ tt { s with env := env } = .ok (q m) ∧ (q m = true → te { s with env := env } = .ok (.int (m : Int)))) →
    compL t tt te s (ms.map fun m : Nat => D.int (m : Int)) = .ok ((ms.filter q).map fun m : Nat => D.int (m : Int))
  | [], _ => rfl
  | m :: ms, h => by
    obtain ⟨env, h1, h2, h3⟩ := h m (by simp)
    have ih := compN q ms fun m hm => h m (by simp [hm])
    rw [List.map_cons, compL, h1]
    simp only [h2]
    cases hq : q m with
    | true =>
      simp only [h3 hq]
      rw [ih, List.filter_cons, hq]
      rfl
    | false =>
      simp only []
      rw [ih, List.filter_cons, hq]
      rfl
theorem compM {t : Tg} {te : Sta → PR D} {s : Sta} (f : Nat → D) : ∀ (ms : List Nat), (∀ m ∈ ms, ∃ env, t.bind (.int (m : Int)) s.env = some env ∧ te { s with env := env } = .ok (f m)) →
    compL t pYes te s (ms.map fun m : Nat => D.int (m : Int)) = .ok (ms.map f)
  | [], _ => rfl
  | m :: ms, h => by
    obtain ⟨env, h1, h2⟩ := h m (by simp)
    rw [List.map_cons, compL, h1]
    simp only [pYes, h2]
    rw [compM f ms fun m hm => h m (by simp [hm])]
    rfl
theorem compG {α : Type} {t : Tg} {tt : Sta → PR Bool} {te : Sta → PR D} {s : Sta} (mk f : α → D) (q : α → Bool) : ∀ (l : List α), (∀ a ∈ l, ∃ env, t.bind (mk a) s.env = some env ∧ tt { s with env := env } = .ok (q a) ∧ (q a = true → te { s with env := env } = .ok (f a))) →
    compL t tt te s (l.map mk) = .ok ((l.filter q).map f)
  | [], _ => rfl
  | a :: l, h => by
    obtain ⟨env, h1, h2, h3⟩ := h a (by simp)
    have ih := compG mk f q l fun m hm => h m (by simp [hm])
    rw [List.map_cons, compL, h1]
    simp only [h2]
    cases hq : q a with
    | true =>
      simp only [h3 hq]
      rw [ih, List.filter_cons, hq]
      rfl
    | false =>
      simp only []
      rw [ih, List.filter_cons, hq]
      rfl
theorem compA {α : Type} {t : Tg} {te : Sta → PR D} {s : Sta} (mk f : α → D) : ∀ (l : List α), (∀ a ∈ l, ∃ env, t.bind (mk a) s.env = some env ∧ te { s with env := env } = .ok (f a)) →
    compL t pYes te s (l.map mk) = .ok (l.map f)
  | [], _ => rfl
  | a :: l, h => by
    obtain ⟨env, h1, h2⟩ := h a (by simp)
    rw [List.map_cons, compL, h1]
    simp only [pYes, h2]
    rw [compA mk f l fun m hm => h m (by simp [hm])]
    rfl
theorem compE {α : Type} {t : Tg} {te : Sta → PR D} {s : Sta} (P : α → Prop) (mk : α → D) : ∀ (ds : List D), (∀ d ∈ ds, ∃ a, P a ∧ ∃ env, t.bind d s.env = some env ∧ te { s with env := env } = .ok (mk a)) →
    ∃ l : List α, l.length = ds.length ∧ (∀ a ∈ l, P a) ∧ compL t pYes te s ds = .ok (l.map mk)
  | [], _ => ⟨[], rfl, (fun a h => by cases h), rfl⟩
  | d :: ds, h => by
    obtain ⟨a, ha, env, h1, h2⟩ := h d (by simp)
    obtain ⟨l, hl, hp, hc⟩ := compE P mk ds fun m hm => h m (by simp [hm])
    refine ⟨a :: l, by simp [hl], fun b hb => ?_, ?_⟩
    · rcases List.mem_cons.mp hb with rfl | hb
      · exact ha
      · exact hp b hb
    · rw [compL, h1]
      simp only [pYes, h2]
      rw [hc]
      rfl
theorem eqvAll_ints : ∀ a b : List Nat, PyData.eqvAll (pys (a.map fun m : Nat => D.int (m : Int))) (pys (b.map fun m : Nat => D.int (m : Int))) = decide (a = b)
  | [], [] => rfl
  | [], b :: bs => rfl
  | a :: as, [] => rfl
  | a :: as, b :: bs => by
    show ((a : Int) == (b : Int) && PyData.eqvAll _ _) = _
    rw [eqvAll_ints as bs]
    by_cases h1 : a = b
    · subst h1; simp
    · have : ¬ (a : Int) = b := by omega
      simp [h1, this]
theorem plain_ints (a : List Nat) : (D.tup (a.map fun m : Nat => D.int (m : Int))).plain 9 = true := by
  show (a.map fun m : Nat => D.int (m : Int)).all (D.plain 8) = true
  rw [List.all_map]
  exact List.all_eq_true.mpr fun _ _ => rfl
theorem eqB_ints (a b : List Nat) : eqB (.tup (a.map fun m : Nat => D.int (m : Int))) (.tup (b.map fun m : Nat => D.int (m : Int))) = some (decide (a = b)) := by
  rw [eqB_gen (plain_ints a) (plain_ints b)]
  show some (PyData.eqvAll (pys _) (pys _)) = _
  rw [eqvAll_ints]
theorem gEq_ints (a b : List Nat) : gEq (.tup (a.map fun m : Nat => D.int (m : Int))) (.tup (b.map fun m : Nat => D.int (m : Int))) = some ⟨.sh, .bool (decide (a = b))⟩ := by unfold gEq; rw [eqB_ints]; rfl
theorem gNe_ints (a b : List Nat) : gNe (.tup (a.map fun m : Nat => D.int (m : Int))) (.tup (b.map fun m : Nat => D.int (m : Int))) = some ⟨.sh, .bool (!decide (a = b))⟩ := by unfold gNe; rw [eqB_ints]; rfl
/-- a tuple of numbers among such -/
theorem shaped_ints (a : List Nat) : SeqAt.shaped (D.tup (a.map fun m : Nat => D.int (m : Int))).py = true := plain_shaped (plain_ints a)
theorem shaped_many (as : List (List Nat)) : SeqAt.shaped (.list (pys (as.map fun a => D.tup (a.map fun m : Nat => D.int (m : Int))))) = true := by
  have h : (D.list (as.map fun a => D.tup (a.map fun m : Nat => D.int (m : Int)))).plain 9 = true := by
    show (as.map fun a => D.tup (a.map fun m : Nat => D.int (m : Int))).all (D.plain 8) = true
    rw [List.all_map]
    refine List.all_eq_true.mpr fun a _ => ?_
    show (a.map fun m : Nat => D.int (m : Int)).all (D.plain 7) = true
    rw [List.all_map]
    exact List.all_eq_true.mpr fun _ _ => rfl
  exact plain_shaped h
theorem any_many (k : List Nat) : ∀ as : List (List Nat), ((pys (as.map fun a => D.tup (a.map fun m : Nat => D.int (m : Int)))).any fun z => PyData.eqv z (D.tup (k.map fun m : Nat => D.int (m : Int))).py) = decide (k ∈ as)
  | [] => by simp [pys]
  | a :: as => by
    show (PyData.eqv (D.tup (a.map fun m : Nat => D.int (m : Int))).py (D.tup (k.map fun m : Nat => D.int (m : Int))).py || _) = _
    rw [any_many k as]
    show (PyData.eqvAll (pys _) (pys _) || _) = _
    rw [eqvAll_ints]
    by_cases h1 : a = k
    · subst h1; simp
    · have : ¬ k = a := fun e => h1 e.symm
      simp [h1, this]
theorem inB_many (k : List Nat) (as : List (List Nat)) : inB (.tup (k.map fun m : Nat => D.int (m : Int))) (.list (as.map fun a => D.tup (a.map fun m : Nat => D.int (m : Int)))) = some (decide (k ∈ as)) := by
  unfold inB
  simp only [seqOf]
  rw [if_neg (fun h => Bool.false_ne_true h.1), if_pos ⟨rfl, shaped_ints k, shaped_many as⟩, any_many]
theorem gIn_many (k : List Nat) (as : List (List Nat)) : gIn (.tup (k.map fun m : Nat => D.int (m : Int))) (.list (as.map fun a => D.tup (a.map fun m : Nat => D.int (m : Int)))) = some ⟨.sh, .bool (decide (k ∈ as))⟩ := by unfold gIn; rw [inB_many]; rfl
theorem gNin_many (k : List Nat) (as : List (List Nat)) : gNin (.tup (k.map fun m : Nat => D.int (m : Int))) (.list (as.map fun a => D.tup (a.map fun m : Nat => D.int (m : Int)))) = some ⟨.sh, .bool (!decide (k ∈ as))⟩ := by unfold gNin; rw [inB_many]; rfl
/-- tuples of texts -/
theorem flat_strs (ss : List Str) : (ss.map D.str).all flatD = true := by
  rw [List.all_map]
  exact List.all_eq_true.mpr fun _ _ => rfl
theorem inB_str (x : Str) (ss : List Str) : (ss.map D.str).any (fun z => eqF z (.str x)) = decide (x ∈ ss) := by
  induction ss with
  | nil => simp
  | cons n ns ih =>
    rw [List.map_cons, List.any_cons, ih]
    show (n == x || _) = _
    by_cases h : n = x
    · subst h; simp
    · have h' : ¬ x = n := fun e => h e.symm
      have h2 : (n == x) = false := beq_eq_false_iff_ne.mpr h
      simp [h', h2]
theorem g_ninST (x : Str) (ss : List Str) : gNin (.str x) (.tup (ss.map D.str)) = some ⟨.sh, .bool (!decide (x ∈ ss))⟩ := by
  unfold gNin inB
  simp only [seqOf]
  rw [if_pos ⟨rfl, flat_strs ss⟩, inB_str]
  rfl
theorem e_c2 : ((2 : Nat) : Int) = 2 := Eq.trans rfl rfl
theorem e_c3 : ((3 : Nat) : Int) = 3 := Eq.trans rfl rfl
theorem e_c4 : ((4 : Nat) : Int) = 4 := Eq.trans rfl rfl
theorem e_c5 : ((5 : Nat) : Int) = 5 := Eq.trans rfl rfl
theorem e_pIsi (n : String) (f : Sta → PR RV) : pIsi n f ⟨env, st⟩ = x1 (fun d => (isiB n d).map fun b => sh (.bool b)) (f ⟨env, st⟩) := by
  unfold pIsi
  exact e_p1 _ _
end
end MP

namespace L_k21
open PySem L2 MP
/-! ## what the printer has written: the text by places, the names of each def, its body by content -/
def top (i : Nat) : Stmt := PySem.Challenge.pw_chordbed_k21_beds_let_by.main.body.getD i (.Pass ⟨0, 0, 0, 0⟩)
abbrev s_l_cell : Stmt := top 12
abbrev s_l_stirred : Stmt := top 13
abbrev s_l_wide : Stmt := top 14
abbrev s_l_letter : Stmt := top 17
abbrev s_l_meaning_of : Stmt := top 19
abbrev s_l_read_bed : Stmt := top 20
abbrev s_l_stream : Stmt := top 15
abbrev s_l_meaning : Stmt := top 18
abbrev s_l_bed : Stmt := top 21
abbrev s_l_whole : Stmt := top 16
abbrev s_l_like_0 : Stmt := top 22
abbrev s_l_like_1 : Stmt := top 22
abbrev s_l_like_2 : Stmt := top 22
abbrev s_l_like_3 : Stmt := top 22
abbrev s_l_like_4 : Stmt := top 22
abbrev s_l_like_5 : Stmt := top 22
abbrev s_is_letter : Stmt := top 6
abbrev s_is_meaning : Stmt := top 7
abbrev s_check_layers : Stmt := top 8
abbrev s_is_set : Stmt := top 9
abbrev s_checked : Stmt := top 10
abbrev s_law : Stmt := top 23
def k_LETTERS : D := .str "abcdefghijklmnopqrstuvwxyz"
def b_l_cell : Sta → Fl :=
  sRet (p2 gIx (p2 gPlus (pSl (pVar 0) (pSome (pVar 1)) (pSome (p2 gPlus (pVar 1) (pC (.int 1))))) (pLst (pCons (pD (pC (.int 0))) (pNil)))) (pC (.int 0)))
def sem_l_cell : MP.Sem := runB 2 b_l_cell
def b_l_stirred : Sta → Fl :=
  sSeq (sSetV 2 (pD (p2 gPlus (p2 gMod (pVar 0) (pC (.int 1000000007))) (p2 gTimes (pC (.int 13)) (pVar 1))))) (sSeq (sSetV 2 (pD (p2 gMod (p2 gPlus (p2 gPlus (p2 gTimes (pVar 2) (p2 gPlus (p2 gPlus (pVar 2) (p2 gTimes (pVar 1) (pVar 1))) (pC (.int 11)))) (p2 gTimes (pC (.int 40487)) (pVar 1))) (pC (.int 7))) (pC (.int 1000000033))))) (sRet (p2 gDiv (p2 gMod (p2 gPlus (p2 gTimes (pVar 2) (p2 gPlus (p2 gDiv (pVar 2) (pC (.int 7))) (pC (.int 31)))) (pC (.int 90001))) (pC (.int 999999937))) (pC (.int 3)))))
def sem_l_stirred : MP.Sem := runB 3 b_l_stirred
def b_l_wide : Sta → Fl :=
  sSeq (sIf (pOr (pB (p2 gLt (pVar 0) (pC (.int 0)))) (pB (p2 gGe (pVar 0) (p2 gPow (pC (.int 10)) (pC (.int 18)))))) (sRet (pCall gMax (pCons (pVar 0) (pCons (p2 gSub (pC (.int 0)) (pVar 0)) (pNil))))) (sNil)) (sRet (pUser 2 sem_l_stirred (pCons (pD (pUser 2 sem_l_stirred (pCons (pD (pVar 0)) (pCons (pD (pVar 1)) (pNil))))) (pCons (pD (pC (.int 3))) (pNil)))))
def sem_l_wide : MP.Sem := runB 2 b_l_wide
def b_l_letter : Sta → Fl :=
  sRet (p2 gIx (pC (.str "abcdefghijklmnopqrstuvwxyz")) (p2 gMod (pVar 0) (pC (.int 26))))
def sem_l_letter : MP.Sem := runB 1 b_l_letter
def b_l_meaning_of : Sta → Fl :=
  sSeq (sSetV 3 (pD (p2 gMod (pVar 0) (pC (.int 6))))) (sSeq (sSetV 4 (pD (pUser 1 sem_l_letter (pCons (pD (p2 gDiv (pVar 0) (pC (.int 6)))) (pNil))))) (sSeq (sSetV 5 (pD (p2 gPlus (pC (.int 1)) (p2 gMod (p2 gDiv (pVar 0) (pC (.int 156))) (pCall gMax (pCons (pC (.int 1)) (pCons (p2 gSub (pVar 2) (pC (.int 1))) (pNil)))))))) (sSeq (sSetV 6 (pD (pTup (pCons (pD (pC (.str "letter"))) (pCons (pD (pVar 4)) (pNil)))))) (sSeq (sIf (pOr (pB (p2 gEq (pVar 3) (pC (.int 1)))) (pAnd (pB (p2 gEq (pVar 3) (pC (.int 2)))) (pB (p2 gEq (pVar 1) (pC (.int 0)))))) (sSetV 6 (pD (pTup (pCons (pD (pC (.str "none"))) (pNil))))) (sIf (pB (p2 gEq (pVar 3) (pC (.int 2)))) (sSetV 6 (pD (pTup (pCons (pD (pC (.str "below"))) (pNil))))) (sIf (pAnd (pB (p2 gGt (pVar 3) (pC (.int 2)))) (pB (p2 gGt (pVar 2) (pC (.int 1))))) (sSetV 6 (pD (p2 gIx (pLst (pCons (pD (pTup (pCons (pD (pC (.str "layer"))) (pCons (pD (pVar 5)) (pNil))))) (pCons (pD (pTup (pCons (pD (pC (.str "tap"))) (pCons (pD (pVar 4)) (pCons (pD (pVar 5)) (pNil)))))) (pCons (pD (pTup (pCons (pD (pC (.str "once"))) (pCons (pD (pVar 5)) (pNil))))) (pNil))))) (p2 gSub (pVar 3) (pC (.int 3)))))) (sNil)))) (sRet (pVar 6))))))
def sem_l_meaning_of : MP.Sem := runB 7 b_l_meaning_of
def lp_l_read_bed_1 : Sta → Fl :=
  sApp 3 (pD (pCall gTuple (pCons (pComp (pRng gRng1 (pCons (pVar 1) (pNil))) (.nm 9) [9] (pYes) (pD (pUser 3 sem_l_meaning_of (pCons (pD (p2 gIx (pVar 0) (p2 gPlus (p2 gPlus (pC (.int 1)) (p2 gTimes (pC (.int 5)) (pVar 4))) (pVar 9)))) (pCons (pD (pVar 4)) (pCons (pD (pVar 2)) (pNil))))))) (pNil))))
def lp_l_read_bed_2 : Sta → Fl :=
  sSeq (sSetV 8 (pD (pCall gTuple (pCons (pComp (pSeqR (pVar 5)) (.nm 9) [9] (pB (p2 gEq (p2 gMod (p2 gDiv (pVar 7) (p2 gIx (pLst (pCons (pD (pC (.int 1))) (pCons (pD (pC (.int 2))) (pCons (pD (pC (.int 4))) (pCons (pD (pC (.int 8))) (pCons (pD (pC (.int 16))) (pNil))))))) (pVar 9))) (pC (.int 2))) (pC (.int 1)))) (pD (pVar 9))) (pNil))))) (sIf (pAnd (pB (p2 gGt (pCall gLen (pCons (pVar 8) (pNil))) (pC (.int 1)))) (pB (p2 gNin (pVar 8) (pComp (pSeqR (pVar 6)) (.nm 10) [10] (pYes) (pD (p2 gIx (pVar 10) (pC (.int 0)))))))) (sApp 6 (pD (pTup (pCons (pD (pVar 8)) (pCons (pD (pUser 1 sem_l_letter (pCons (pD (p2 gDiv (pVar 7) (pC (.int 32)))) (pNil)))) (pNil)))))) (sNil))
def st_l_read_bed_1 : Sta → Fl :=
  sSetV 1 (pD (p2 gPlus (pC (.int 1)) (p2 gMod (p2 gIx (pVar 0) (pC (.int 0))) (pC (.int 5)))))
def st_l_read_bed_2 : Sta → Fl :=
  sSetV 2 (pD (p2 gPlus (pC (.int 1)) (p2 gMod (p2 gDiv (p2 gIx (pVar 0) (pC (.int 0))) (pC (.int 5))) (pC (.int 3)))))
def st_l_read_bed_3 : Sta → Fl :=
  sSetO 3 (pLst (pNil))
def st_l_read_bed_4 : Sta → Fl :=
  sFor (pRng gRng1 (pCons (pVar 2) (pNil))) (.nm 4) (lp_l_read_bed_1)
def st_l_read_bed_5 : Sta → Fl :=
  sThaw 5 (sSetO 5 (pComp (pRng gRng1 (pCons (pVar 1) (pNil))) (.nm 9) [9] (pB (p2 gEq (p2 gIx (p2 gIx (p2 gIx (pVar 3) (pC (.int 0))) (pVar 9)) (pC (.int 0))) (pC (.str "letter")))) (pD (pVar 9))))
def st_l_read_bed_6 : Sta → Fl :=
  sSetO 6 (pLst (pNil))
def st_l_read_bed_7 : Sta → Fl :=
  sFor (pSeq (pD (pSl (pVar 0) (pSome (pC (.int 16))) (pSome (p2 gPlus (pC (.int 16)) (p2 gMod (p2 gDiv (p2 gIx (pVar 0) (pC (.int 0))) (pC (.int 60))) (pC (.int 5)))))))) (.nm 7) (lp_l_read_bed_2)
def st_l_read_bed_8 : Sta → Fl :=
  sRet (pTup (pCons (pD (pVar 1)) (pCons (pD (pCall gTuple (pCons (pVar 3) (pNil)))) (pCons (pD (pCall gTuple (pCons (pVar 6) (pNil)))) (pCons (pD (p2 gPlus (pC (.int 1)) (p2 gMod (p2 gDiv (p2 gIx (pVar 0) (pC (.int 0))) (pC (.int 15))) (pC (.int 4))))) (pNil))))))
def b_l_read_bed : Sta → Fl :=
  sSeq st_l_read_bed_1 (sSeq st_l_read_bed_2 (sSeq st_l_read_bed_3 (sSeq st_l_read_bed_4 (sSeq st_l_read_bed_5 (sSeq st_l_read_bed_6 (sSeq st_l_read_bed_7 (st_l_read_bed_8)))))))
def sem_l_read_bed : MP.Sem := runB 11 b_l_read_bed
def lp_l_stream_1 : Sta → Fl :=
  sSetV 5 (pD (p2 gPlus (p2 gTimes (pVar 5) (p2 gPow (pC (.int 10)) (pC (.int 8)))) (p2 gMod (pUser 2 sem_l_stirred (pCons (pD (pVar 0)) (pCons (pD (p2 gPlus (p2 gTimes (pC (.int 3)) (pVar 4)) (pVar 6))) (pNil)))) (p2 gPow (pC (.int 10)) (pC (.int 8))))))
def lp_l_stream_2 : Sta → Fl :=
  sSeq (sSetV 5 (pD (pC (.int 0)))) (sSeq (sFor (pRng gRng1 (pCons (pC (.int 3)) (pNil))) (.nm 6) (lp_l_stream_1)) (sSeq (sIf (pAnd (pB (p2 gGt (pVar 3) (pC (.int 0)))) (pOr (pB (p2 gLt (pVar 0) (pC (.int 0)))) (pB (p2 gGe (pVar 0) (p2 gPow (pC (.int 10)) (pC (.int 18))))))) (sSeq (sSetV 5 (pD (p2 gMod (pVar 3) (p2 gPow (pC (.int 10)) (pC (.int 24)))))) (sSetV 3 (pD (p2 gDiv (pVar 3) (p2 gPow (pC (.int 10)) (pC (.int 24))))))) (sNil)) (sApp 2 (pD (pVar 5)))))
def b_l_stream : Sta → Fl :=
  sSeq (sSetO 2 (pLst (pNil))) (sSeq (sSetV 3 (pD (pCall gMax (pCons (pVar 0) (pCons (p2 gSub (pC (.int 0)) (pVar 0)) (pNil)))))) (sSeq (sFor (pRng gRng1 (pCons (pVar 1) (pNil))) (.nm 4) (lp_l_stream_2)) (sRetS 2)))
def sem_l_stream : MP.Sem := runB 7 b_l_stream
def b_l_meaning : Sta → Fl :=
  sSeq (sSetV 3 (pD (p2 gMod (pVar 0) (pC (.int 8))))) (sSeq (sSetV 4 (pD (pUser 1 sem_l_letter (pCons (pD (p2 gDiv (pVar 0) (pC (.int 8)))) (pNil))))) (sSeq (sIf (pOr (pB (p2 gLt (pVar 3) (pC (.int 3)))) (pAnd (pB (p2 gEq (pVar 2) (pC (.int 1)))) (pB (p2 gLt (pVar 3) (pC (.int 7)))))) (sRet (pTup (pCons (pD (pC (.str "letter"))) (pCons (pD (pVar 4)) (pNil))))) (sNil)) (sSeq (sSetV 5 (pD (p2 gPlus (pC (.int 1)) (p2 gMod (p2 gDiv (pVar 0) (pC (.int 208))) (pCall gMax (pCons (pC (.int 1)) (pCons (p2 gSub (pVar 2) (pC (.int 1))) (pNil)))))))) (sSeq (sIf (pB (p2 gEq (pVar 3) (pC (.int 3)))) (sRet (pTup (pCons (pD (pC (.str "layer"))) (pCons (pD (pVar 5)) (pNil))))) (sNil)) (sSeq (sIf (pB (p2 gEq (pVar 3) (pC (.int 4)))) (sRet (pTup (pCons (pD (pC (.str "tap"))) (pCons (pD (pVar 4)) (pCons (pD (pVar 5)) (pNil)))))) (sNil)) (sSeq (sIf (pB (p2 gEq (pVar 3) (pC (.int 5)))) (sRet (pTup (pCons (pD (pC (.str "once"))) (pCons (pD (pVar 5)) (pNil))))) (sNil)) (sSeq (sIf (pAnd (pB (p2 gEq (pVar 3) (pC (.int 6)))) (pB (p2 gGt (pVar 1) (pC (.int 0))))) (sRet (pTup (pCons (pD (pC (.str "below"))) (pNil)))) (sNil)) (sRet (pTup (pCons (pD (pC (.str "none"))) (pNil)))))))))))
def sem_l_meaning : MP.Sem := runB 6 b_l_meaning
def lp_l_bed_1 : Sta → Fl :=
  sSeq (sThaw 10 (sSetO 10 (pComp (pRng gRng1 (pCons (pVar 4) (pNil))) (.nm 13) [13] (pYes) (pD (pUser 2 sem_l_wide (pCons (pD (pUser 2 sem_l_cell (pCons (pD (pVar 0)) (pCons (pD (p2 gPlus (p2 gPlus (p2 gPlus (pVar 1) (pC (.int 1))) (p2 gTimes (pC (.int 5)) (pVar 6))) (pVar 13))) (pNil))))) (pCons (pD (p2 gPlus (p2 gTimes (pC (.int 5)) (pVar 6)) (pVar 13))) (pNil)))))))) (sSeq (sApp 5 (pD (pCall gTuple (pCons (pComp (pSeqR (pVar 10)) (.nm 11) [11] (pYes) (pD (pUser 3 sem_l_meaning (pCons (pD (pVar 11)) (pCons (pD (pVar 6)) (pCons (pD (p2 gPlus (pC (.int 1)) (p2 gMod (p2 gDiv (pVar 2) (pC (.int 5))) (pC (.int 3))))) (pNil))))))) (pNil))))) (sIf (pAnd (pB (pVar 3)) (pB (p2 gEq (pVar 6) (pC (.int 0))))) (sSetO 5 (pLst (pCons (pD (pCall gTuple (pCons (pComp (pSeqR (pVar 10)) (.nm 11) [11] (pYes) (pD (pTup (pCons (pD (pC (.str "letter"))) (pCons (pD (pUser 1 sem_l_letter (pCons (pD (p2 gDiv (pVar 11) (pC (.int 8)))) (pNil)))) (pNil)))))) (pNil)))) (pNil)))) (sNil)))
def lp_l_bed_2 : Sta → Fl :=
  sSeq (sSetV 11 (pD (pUser 2 sem_l_wide (pCons (pD (pUser 2 sem_l_cell (pCons (pD (pVar 0)) (pCons (pD (p2 gPlus (p2 gPlus (pVar 1) (pC (.int 17))) (pVar 9))) (pNil))))) (pCons (pD (p2 gPlus (pC (.int 17)) (pVar 9))) (pNil)))))) (sSeq (sSetV 12 (pD (pCall gTuple (pCons (pComp (pSeqR (pVar 7)) (.nm 13) [13] (pB (p2 gEq (p2 gMod (p2 gDiv (pVar 11) (p2 gIx (pLst (pCons (pD (pC (.int 1))) (pCons (pD (pC (.int 2))) (pCons (pD (pC (.int 4))) (pCons (pD (pC (.int 8))) (pCons (pD (pC (.int 16))) (pNil))))))) (pVar 13))) (pC (.int 2))) (pC (.int 1)))) (pD (pVar 13))) (pNil))))) (sSeq (sIf (pB (pVar 3)) (sSetV 12 (pD (p2 gIx (pLst (pCons (pD (pTup (pCons (pD (pC (.int 0))) (pCons (pD (pC (.int 1))) (pNil))))) (pCons (pD (pTup (pCons (pD (pC (.int 1))) (pCons (pD (pC (.int 2))) (pNil))))) (pCons (pD (pTup (pCons (pD (pC (.int 0))) (pCons (pD (pC (.int 1))) (pCons (pD (pC (.int 2))) (pNil)))))) (pCons (pD (pTup (pCons (pD (pC (.int 0))) (pCons (pD (p2 gSub (pVar 4) (pC (.int 1)))) (pNil))))) (pNil)))))) (p2 gMod (p2 gPlus (pVar 9) (p2 gDiv (pVar 2) (pC (.int 960)))) (pC (.int 4)))))) (sNil)) (sIf (pAnd (pB (p2 gGt (pCall gLen (pCons (pVar 12) (pNil))) (pC (.int 1)))) (pB (p2 gNin (pVar 12) (pComp (pSeqR (pVar 8)) (.nm 14) [14] (pYes) (pD (p2 gIx (pVar 14) (pC (.int 0)))))))) (sApp 8 (pD (pTup (pCons (pD (pVar 12)) (pCons (pD (pUser 1 sem_l_letter (pCons (pD (p2 gDiv (pVar 11) (pC (.int 32)))) (pNil)))) (pNil)))))) (sNil))))
def st_l_bed_1 : Sta → Fl :=
  sSetV 2 (pD (pUser 2 sem_l_cell (pCons (pD (pVar 0)) (pCons (pD (pVar 1)) (pNil)))))
def st_l_bed_2 : Sta → Fl :=
  sIf (pOr (pB (p2 gLt (pVar 2) (pC (.int 0)))) (pB (p2 gGe (pVar 2) (p2 gPow (pC (.int 10)) (pC (.int 18)))))) (sRet (pUser 1 sem_l_read_bed (pCons (pD (pUser 2 sem_l_stream (pCons (pD (pVar 2)) (pCons (pD (pC (.int 20))) (pNil))))) (pNil)))) (sNil)
def st_l_bed_3 : Sta → Fl :=
  sSetV 2 (pD (pUser 2 sem_l_wide (pCons (pD (pVar 2)) (pCons (pD (pVar 1)) (pNil)))))
def st_l_bed_4 : Sta → Fl :=
  sSetV 3 (pD (p2 gEq (p2 gMod (p2 gDiv (pVar 2) (pC (.int 60))) (pC (.int 4))) (pC (.int 1))))
def st_l_bed_5 : Sta → Fl :=
  sSetV 4 (pD (p2 gIx (pLst (pCons (pD (p2 gPlus (pC (.int 1)) (p2 gMod (pVar 2) (pC (.int 5))))) (pCons (pD (p2 gPlus (pC (.int 3)) (p2 gMod (pVar 2) (pC (.int 3))))) (pNil)))) (pCall gInt (pCons (pVar 3) (pNil)))))
def st_l_bed_6 : Sta → Fl :=
  sSetO 5 (pLst (pNil))
def st_l_bed_7 : Sta → Fl :=
  sFor (pRng gRng1 (pCons (p2 gPlus (pC (.int 1)) (p2 gMod (p2 gDiv (pVar 2) (pC (.int 5))) (pC (.int 3)))) (pNil))) (.nm 6) (lp_l_bed_1)
def st_l_bed_8 : Sta → Fl :=
  sThaw 7 (sSetO 7 (pComp (pRng gRng1 (pCons (pVar 4) (pNil))) (.nm 13) [13] (pB (p2 gEq (p2 gIx (p2 gIx (p2 gIx (pVar 5) (pC (.int 0))) (pVar 13)) (pC (.int 0))) (pC (.str "letter")))) (pD (pVar 13))))
def st_l_bed_9 : Sta → Fl :=
  sSetO 8 (pLst (pNil))
def st_l_bed_10 : Sta → Fl :=
  sFor (pRng gRng1 (pCons (p2 gIx (pLst (pCons (pD (p2 gMod (pUser 2 sem_l_wide (pCons (pD (pUser 2 sem_l_cell (pCons (pD (pVar 0)) (pCons (pD (p2 gPlus (pVar 1) (pC (.int 16)))) (pNil))))) (pCons (pD (pC (.int 16))) (pNil)))) (pC (.int 5)))) (pCons (pD (p2 gPlus (pC (.int 1)) (p2 gMod (p2 gDiv (pVar 2) (pC (.int 240))) (pC (.int 4))))) (pNil)))) (pCall gInt (pCons (pVar 3) (pNil)))) (pNil))) (.nm 9) (lp_l_bed_2)
def st_l_bed_11 : Sta → Fl :=
  sRet (pTup (pCons (pD (pVar 4)) (pCons (pD (pCall gTuple (pCons (pVar 5) (pNil)))) (pCons (pD (pCall gTuple (pCons (pVar 8) (pNil)))) (pCons (pD (p2 gPlus (pC (.int 1)) (p2 gMod (p2 gDiv (pVar 2) (pC (.int 15))) (pC (.int 4))))) (pNil))))))
def b_l_bed : Sta → Fl :=
  sSeq st_l_bed_1 (sSeq st_l_bed_2 (sSeq st_l_bed_3 (sSeq st_l_bed_4 (sSeq st_l_bed_5 (sSeq st_l_bed_6 (sSeq st_l_bed_7 (sSeq st_l_bed_8 (sSeq st_l_bed_9 (sSeq st_l_bed_10 (st_l_bed_11))))))))))
def sem_l_bed : MP.Sem := runB 15 b_l_bed
def b_l_whole : Sta → Fl :=
  sRet (pAndV (pIsi "int" (pVar 0)) (pNotV (pIsi "bool" (pVar 0))))
def sem_l_whole : MP.Sem := runB 1 b_l_whole
def sem_l_like_0 : MP.Sem := fun _ _ => .stuck
def b_l_like_1 : Sta → Fl :=
  sSeq (sIf (pB (pIsi "tuple" (pVar 1))) (sSeq (sIf (pOr (pNot (pB (pIsi "tuple" (pVar 0)))) (pB (p2 gNe (pCall gLen (pCons (pVar 0) (pNil))) (pCall gLen (pCons (pVar 1) (pNil)))))) (sRet (pC (.bool false))) (sNil)) (sRet (pCall gAll (pCons (pComp (pZip (pCons (pD (pVar 0)) (pCons (pD (pVar 1)) (pNil)))) (.tp [2, 3]) [2, 3] (pYes) (pD (pUser 2 sem_l_like_0 (pCons (pD (pVar 2)) (pCons (pD (pVar 3)) (pNil)))))) (pNil))))) (sNil)) (sSeq (sIf (pB (pIsi "str" (pVar 1))) (sRet (pAndV (pIsi "str" (pVar 0)) (p2 gEq (pVar 0) (pVar 1)))) (sNil)) (sRet (pAndV (pUser 1 sem_l_whole (pCons (pD (pVar 0)) (pNil))) (p2 gEq (pVar 0) (pVar 1)))))
def sem_l_like_1 : MP.Sem := runB 4 b_l_like_1
def b_l_like_2 : Sta → Fl :=
  sSeq (sIf (pB (pIsi "tuple" (pVar 1))) (sSeq (sIf (pOr (pNot (pB (pIsi "tuple" (pVar 0)))) (pB (p2 gNe (pCall gLen (pCons (pVar 0) (pNil))) (pCall gLen (pCons (pVar 1) (pNil)))))) (sRet (pC (.bool false))) (sNil)) (sRet (pCall gAll (pCons (pComp (pZip (pCons (pD (pVar 0)) (pCons (pD (pVar 1)) (pNil)))) (.tp [2, 3]) [2, 3] (pYes) (pD (pUser 2 sem_l_like_1 (pCons (pD (pVar 2)) (pCons (pD (pVar 3)) (pNil)))))) (pNil))))) (sNil)) (sSeq (sIf (pB (pIsi "str" (pVar 1))) (sRet (pAndV (pIsi "str" (pVar 0)) (p2 gEq (pVar 0) (pVar 1)))) (sNil)) (sRet (pAndV (pUser 1 sem_l_whole (pCons (pD (pVar 0)) (pNil))) (p2 gEq (pVar 0) (pVar 1)))))
def sem_l_like_2 : MP.Sem := runB 4 b_l_like_2
def b_l_like_3 : Sta → Fl :=
  sSeq (sIf (pB (pIsi "tuple" (pVar 1))) (sSeq (sIf (pOr (pNot (pB (pIsi "tuple" (pVar 0)))) (pB (p2 gNe (pCall gLen (pCons (pVar 0) (pNil))) (pCall gLen (pCons (pVar 1) (pNil)))))) (sRet (pC (.bool false))) (sNil)) (sRet (pCall gAll (pCons (pComp (pZip (pCons (pD (pVar 0)) (pCons (pD (pVar 1)) (pNil)))) (.tp [2, 3]) [2, 3] (pYes) (pD (pUser 2 sem_l_like_2 (pCons (pD (pVar 2)) (pCons (pD (pVar 3)) (pNil)))))) (pNil))))) (sNil)) (sSeq (sIf (pB (pIsi "str" (pVar 1))) (sRet (pAndV (pIsi "str" (pVar 0)) (p2 gEq (pVar 0) (pVar 1)))) (sNil)) (sRet (pAndV (pUser 1 sem_l_whole (pCons (pD (pVar 0)) (pNil))) (p2 gEq (pVar 0) (pVar 1)))))
def sem_l_like_3 : MP.Sem := runB 4 b_l_like_3
def b_l_like_4 : Sta → Fl :=
  sSeq (sIf (pB (pIsi "tuple" (pVar 1))) (sSeq (sIf (pOr (pNot (pB (pIsi "tuple" (pVar 0)))) (pB (p2 gNe (pCall gLen (pCons (pVar 0) (pNil))) (pCall gLen (pCons (pVar 1) (pNil)))))) (sRet (pC (.bool false))) (sNil)) (sRet (pCall gAll (pCons (pComp (pZip (pCons (pD (pVar 0)) (pCons (pD (pVar 1)) (pNil)))) (.tp [2, 3]) [2, 3] (pYes) (pD (pUser 2 sem_l_like_3 (pCons (pD (pVar 2)) (pCons (pD (pVar 3)) (pNil)))))) (pNil))))) (sNil)) (sSeq (sIf (pB (pIsi "str" (pVar 1))) (sRet (pAndV (pIsi "str" (pVar 0)) (p2 gEq (pVar 0) (pVar 1)))) (sNil)) (sRet (pAndV (pUser 1 sem_l_whole (pCons (pD (pVar 0)) (pNil))) (p2 gEq (pVar 0) (pVar 1)))))
def sem_l_like_4 : MP.Sem := runB 4 b_l_like_4
def b_l_like_5 : Sta → Fl :=
  sSeq (sIf (pB (pIsi "tuple" (pVar 1))) (sSeq (sIf (pOr (pNot (pB (pIsi "tuple" (pVar 0)))) (pB (p2 gNe (pCall gLen (pCons (pVar 0) (pNil))) (pCall gLen (pCons (pVar 1) (pNil)))))) (sRet (pC (.bool false))) (sNil)) (sRet (pCall gAll (pCons (pComp (pZip (pCons (pD (pVar 0)) (pCons (pD (pVar 1)) (pNil)))) (.tp [2, 3]) [2, 3] (pYes) (pD (pUser 2 sem_l_like_4 (pCons (pD (pVar 2)) (pCons (pD (pVar 3)) (pNil)))))) (pNil))))) (sNil)) (sSeq (sIf (pB (pIsi "str" (pVar 1))) (sRet (pAndV (pIsi "str" (pVar 0)) (p2 gEq (pVar 0) (pVar 1)))) (sNil)) (sRet (pAndV (pUser 1 sem_l_whole (pCons (pD (pVar 0)) (pNil))) (p2 gEq (pVar 0) (pVar 1)))))
def sem_l_like_5 : MP.Sem := runB 4 b_l_like_5
def b_is_letter : Sta → Fl :=
  sRet (pAndV (p2 gEq (pCall gLen (pCons (pVar 0) (pNil))) (pC (.int 1))) (p2 gInS (pVar 0) (pC k_LETTERS)))
def sem_is_letter : MP.Sem := runB 1 b_is_letter
def b_is_meaning : Sta → Fl :=
  sSeq (sSetV 3 (pD (p2 gIx (pVar 0) (pC (.int 0))))) (sSeq (sIf (pB (p2 gEq (pVar 3) (pC (.str "letter")))) (sRet (pUser 1 sem_is_letter (pCons (pD (p2 gIx (pVar 0) (pC (.int 1)))) (pNil)))) (sNil)) (sSeq (sIf (pB (p2 gEq (pVar 3) (pC (.str "tap")))) (sRet (pAndV (pUser 1 sem_is_letter (pCons (pD (p2 gIx (pVar 0) (pC (.int 1)))) (pNil))) (p3 gLe gLt (pC (.int 1)) (p2 gIx (pVar 0) (pC (.int 2))) (pVar 2)))) (sNil)) (sSeq (sIf (pOr (pB (p2 gEq (pVar 3) (pC (.str "layer")))) (pB (p2 gEq (pVar 3) (pC (.str "once"))))) (sRet (p3 gLe gLt (pC (.int 1)) (p2 gIx (pVar 0) (pC (.int 1))) (pVar 2))) (sNil)) (sRet (pOrV (p2 gEq (pVar 3) (pC (.str "none"))) (p2 gGt (pVar 1) (pC (.int 0))))))))
def sem_is_meaning : MP.Sem := runB 4 b_is_meaning
def lp_check_layers_1 : Sta → Fl :=
  sIf (pNot (pB (pUser 3 sem_is_meaning (pCons (pD (p2 gIx (p2 gIx (pVar 1) (pVar 2)) (pVar 3))) (pCons (pD (pVar 2)) (pCons (pD (pCall gLen (pCons (pVar 1) (pNil)))) (pNil))))))) (sDead) (sNil)
def lp_check_layers_2 : Sta → Fl :=
  sSeq (sIf (pB (p2 gNe (pCall gLen (pCons (p2 gIx (pVar 1) (pVar 2)) (pNil))) (pVar 0))) (sDead) (sNil)) (sFor (pRng gRng1 (pCons (pVar 0) (pNil))) (.nm 3) (lp_check_layers_1))
def b_check_layers : Sta → Fl :=
  sFor (pRng gRng1 (pCons (pCall gLen (pCons (pVar 1) (pNil))) (pNil))) (.nm 2) (lp_check_layers_2)
def sem_check_layers : MP.Sem := runB 4 b_check_layers
def b_is_set : Sta → Fl :=
  sSeq (sIf (pOr (pB (p2 gLt (pCall gLen (pCons (pVar 0) (pNil))) (pC (.int 2)))) (pOr (pNot (pB (p2 gLe (pC (.int 0)) (p2 gIx (pVar 0) (pC (.int 0)))))) (pNot (pB (p2 gLt (p2 gIx (pVar 0) (p1 gNeg (pC (.int 1)))) (pVar 1)))))) (sRet (pC (.bool false))) (sNil)) (sRet (pCall gAll (pCons (pComp (pZip (pCons (pD (pVar 0)) (pCons (pD (pSl (pVar 0) (pSome (pC (.int 1))) (pNo))) (pNil)))) (.tp [2, 3]) [2, 3] (pYes) (pD (p2 gLt (pVar 2) (pVar 3)))) (pNil))))
def sem_is_set : MP.Sem := runB 4 b_is_set
def lp_checked_1 : Sta → Fl :=
  sSeq (sTup (.tp [6, 7]) (pD (p2 gIx (pVar 4) (pVar 1)))) (sSeq (sIf (pOr (pNot (pB (pUser 1 sem_is_letter (pCons (pD (pVar 7)) (pNil))))) (pNot (pB (pUser 2 sem_is_set (pCons (pD (pVar 6)) (pCons (pD (pVar 2)) (pNil))))))) (sDead) (sNil)) (sSeq (sIf (pB (pCall gAny (pCons (pComp (pSeqR (pVar 6)) (.nm 8) [8] (pYes) (pD (p2 gNe (p2 gIx (p2 gIx (p2 gIx (pVar 3) (pC (.int 0))) (pVar 8)) (pC (.int 0))) (pC (.str "letter"))))) (pNil)))) (sDead) (sNil)) (sIf (pB (p2 gIn (pVar 6) (pComp (pSeqR (pSl (pVar 4) (pNo) (pSome (pVar 1)))) (.nm 9) [9] (pYes) (pD (p2 gIx (pVar 9) (pC (.int 0))))))) (sDead) (sNil))))
def st_checked_1 : Sta → Fl :=
  sTup (.tp [2, 3, 4, 5]) (pD (pVar 0))
def st_checked_2 : Sta → Fl :=
  sIf (pOr (pNot (pB (p3 gLe gLe (pC (.int 1)) (pVar 2) (pC (.int 5))))) (pOr (pNot (pB (p3 gLe gLe (pC (.int 1)) (pCall gLen (pCons (pVar 3) (pNil))) (pC (.int 3))))) (pOr (pB (p2 gGt (pCall gLen (pCons (pVar 4) (pNil))) (pC (.int 4)))) (pNot (pB (p3 gLe gLe (pC (.int 1)) (pVar 5) (pC (.int 4)))))))) (sDead) (sNil)
def st_checked_3 : Sta → Fl :=
  sExpr (pUser 2 sem_check_layers (pCons (pD (pVar 2)) (pCons (pD (pVar 3)) (pNil))))
def st_checked_4 : Sta → Fl :=
  sFor (pRng gRng1 (pCons (pCall gLen (pCons (pVar 4) (pNil))) (pNil))) (.nm 1) (lp_checked_1)
def st_checked_5 : Sta → Fl :=
  sRet (pVar 0)
def b_checked : Sta → Fl :=
  sSeq st_checked_1 (sSeq st_checked_2 (sSeq st_checked_3 (sSeq st_checked_4 (st_checked_5))))
def sem_checked : MP.Sem := runB 10 b_checked
def st_law_1 : Sta → Fl :=
  sSetV 1 (pD (pUser 2 sem_l_bed (pCons (pD (pVar 0)) (pCons (pD (pC (.int 0))) (pNil)))))
def st_law_2 : Sta → Fl :=
  sSetV 2 (pD (pUser 2 sem_l_bed (pCons (pD (pVar 0)) (pCons (pD (pC (.int 22))) (pNil)))))
def st_law_3 : Sta → Fl :=
  sIf (pOr (pNot (pB (pUser 2 sem_l_like_5 (pCons (pD (pUser 1 sem_checked (pCons (pD (pVar 1)) (pNil)))) (pCons (pD (pVar 1)) (pNil)))))) (pNot (pB (pUser 2 sem_l_like_5 (pCons (pD (pUser 1 sem_checked (pCons (pD (pVar 2)) (pNil)))) (pCons (pD (pVar 2)) (pNil))))))) (sRet (pC (.bool false))) (sNil)
def st_law_4 : Sta → Fl :=
  sRet (pUser 2 sem_l_like_5 (pCons (pD (pUser 1 sem_checked (pCons (pD (pVar 1)) (pNil)))) (pCons (pD (pVar 1)) (pNil))))
def b_law : Sta → Fl :=
  sSeq st_law_1 (sSeq st_law_2 (sSeq st_law_3 (st_law_4)))
def sem_law : MP.Sem := runB 3 b_law
end L_k21

namespace L_k21
open PySem L2 MP
/-! ## each def as the machine has it -/
def fnames : List Str := ["layer", "key", "place"]
def tab (ca : Nat → Addr) : Tab := ⟨ca, nmOf fnames, nmOf_inj (by decide +kernel) (by decide +kernel)⟩
theorem T_ne {ca : Nat → Addr} {x : Str} (h : x ∉ fnames) (hs : x.cps.size < 1000) : ∀ i, (tab ca).nm i ≠ x := nmOf_ne h hs
/-- what stands at the names of the top -/
structure Gb (K : PySem.W.Frag) (mg : Str → Option Value) : Prop where
  g_all : mg "all" = none
  g_any : mg "any" = none
  g_bool : mg "bool" = none
  g_int : mg "int" = none
  g_isinstance : mg "isinstance" = none
  g_len : mg "len" = none
  g_max : mg "max" = none
  g_range : mg "range" = none
  g_str : mg "str" = none
  g_tuple : mg "tuple" = none
  g_zip : mg "zip" = none
  at_LETTERS : ∃ (v : V) (u : Value), mg "LETTERS" = some u ∧ RelV v u ∧ ∀ m M, DR K m M v k_LETTERS
section
variable {P : Program} {w : World} {K : PySem.W.Frag} {mg : Str → Option Value} {base : Heap} {ca : Nat → Addr}
theorem sc_l_cell : FnScope ["_law_script", "_law_k"] ["_law_script", "_law_k"] (defScope s_l_cell) := ⟨rfl, rfl, rfl, by decide +kernel, rfl, by decide +kernel, by decide +kernel⟩
theorem sc_l_stirred : FnScope ["_law_cell_here", "_law_salt", "_law_number"] ["_law_cell_here", "_law_salt"] (defScope s_l_stirred) := ⟨rfl, rfl, rfl, by decide +kernel, rfl, by decide +kernel, by decide +kernel⟩
theorem sc_l_wide : FnScope ["_law_cell_here", "_law_salt"] ["_law_cell_here", "_law_salt"] (defScope s_l_wide) := ⟨rfl, rfl, rfl, by decide +kernel, rfl, by decide +kernel, by decide +kernel⟩
theorem sc_l_letter : FnScope ["_law_cell_here"] ["_law_cell_here"] (defScope s_l_letter) := ⟨rfl, rfl, rfl, by decide +kernel, rfl, by decide +kernel, by decide +kernel⟩
theorem sc_l_meaning_of : FnScope ["_law_rest", "_law_layer", "_law_layers", "_law_sort", "_law_sign", "_law_there", "_law_found"] ["_law_rest", "_law_layer", "_law_layers"] (defScope s_l_meaning_of) := ⟨rfl, rfl, rfl, by decide +kernel, rfl, by decide +kernel, by decide +kernel⟩
theorem sc_l_read_bed : FnScope ["_law_xs", "_law_keys", "_law_many", "_law_layers", "_law_layer", "_law_plain", "_law_chords", "_law_x", "_law_some", "_law_key", "_law_chord"] ["_law_xs"] (defScope s_l_read_bed) := ⟨rfl, rfl, rfl, by decide +kernel, rfl, by decide +kernel, by decide +kernel⟩
theorem sc_l_stream : FnScope ["_law_cell_here", "_law_many", "_law_found", "_law_left", "_law_k", "_law_x", "_law_j"] ["_law_cell_here", "_law_many"] (defScope s_l_stream) := ⟨rfl, rfl, rfl, by decide +kernel, rfl, by decide +kernel, by decide +kernel⟩
theorem sc_l_meaning : FnScope ["_law_cell_here", "_law_layer", "_law_layers", "_law_sort", "_law_sign", "_law_there"] ["_law_cell_here", "_law_layer", "_law_layers"] (defScope s_l_meaning) := ⟨rfl, rfl, rfl, by decide +kernel, rfl, by decide +kernel, by decide +kernel⟩
theorem sc_l_bed : FnScope ["_law_script", "_law_at", "_law_first", "_law_rich", "_law_keys", "_law_layers", "_law_layer", "_law_plain", "_law_chords", "_law_k", "_law_row", "_law_cell_here", "_law_some", "_law_key", "_law_chord"] ["_law_script", "_law_at"] (defScope s_l_bed) := ⟨rfl, rfl, rfl, by decide +kernel, rfl, by decide +kernel, by decide +kernel⟩
theorem sc_l_whole : FnScope ["_law_thing"] ["_law_thing"] (defScope s_l_whole) := ⟨rfl, rfl, rfl, by decide +kernel, rfl, by decide +kernel, by decide +kernel⟩
theorem sc_l_like_0 : FnScope ["_law_found", "_law_due", "_law_one", "_law_other"] ["_law_found", "_law_due"] (defScope s_l_like_0) := ⟨rfl, rfl, rfl, by decide +kernel, rfl, by decide +kernel, by decide +kernel⟩
theorem sc_l_like_1 : FnScope ["_law_found", "_law_due", "_law_one", "_law_other"] ["_law_found", "_law_due"] (defScope s_l_like_1) := ⟨rfl, rfl, rfl, by decide +kernel, rfl, by decide +kernel, by decide +kernel⟩
theorem sc_l_like_2 : FnScope ["_law_found", "_law_due", "_law_one", "_law_other"] ["_law_found", "_law_due"] (defScope s_l_like_2) := ⟨rfl, rfl, rfl, by decide +kernel, rfl, by decide +kernel, by decide +kernel⟩
theorem sc_l_like_3 : FnScope ["_law_found", "_law_due", "_law_one", "_law_other"] ["_law_found", "_law_due"] (defScope s_l_like_3) := ⟨rfl, rfl, rfl, by decide +kernel, rfl, by decide +kernel, by decide +kernel⟩
theorem sc_l_like_4 : FnScope ["_law_found", "_law_due", "_law_one", "_law_other"] ["_law_found", "_law_due"] (defScope s_l_like_4) := ⟨rfl, rfl, rfl, by decide +kernel, rfl, by decide +kernel, by decide +kernel⟩
theorem sc_l_like_5 : FnScope ["_law_found", "_law_due", "_law_one", "_law_other"] ["_law_found", "_law_due"] (defScope s_l_like_5) := ⟨rfl, rfl, rfl, by decide +kernel, rfl, by decide +kernel, by decide +kernel⟩
theorem sc_is_letter : FnScope ["thing"] ["thing"] (defScope s_is_letter) := ⟨rfl, rfl, rfl, by decide +kernel, rfl, by decide +kernel, by decide +kernel⟩
theorem sc_is_meaning : FnScope ["meaning", "layer", "layers", "word"] ["meaning", "layer", "layers"] (defScope s_is_meaning) := ⟨rfl, rfl, rfl, by decide +kernel, rfl, by decide +kernel, by decide +kernel⟩
theorem sc_check_layers : FnScope ["keys", "layers", "layer", "key"] ["keys", "layers"] (defScope s_check_layers) := ⟨rfl, rfl, rfl, by decide +kernel, rfl, by decide +kernel, by decide +kernel⟩
theorem sc_is_set : FnScope ["some", "many", "one", "other"] ["some", "many"] (defScope s_is_set) := ⟨rfl, rfl, rfl, by decide +kernel, rfl, by decide +kernel, by decide +kernel⟩
theorem sc_checked : FnScope ["bed", "place", "keys", "layers", "chords", "wait", "some", "letter", "key", "chord"] ["bed"] (defScope s_checked) := ⟨rfl, rfl, rfl, by decide +kernel, rfl, by decide +kernel, by decide +kernel⟩
theorem sc_law : FnScope ["_law_script", "_law_bed_here", "_law_other"] ["_law_script"] (defScope s_law) := ⟨rfl, rfl, rfl, by decide +kernel, rfl, by decide +kernel, by decide +kernel⟩
theorem ok_l_cell {f : Addr} {fd : FuncData} (al : Bool) (F : Fun K "_law_cell" "_law_cell" s_l_cell f fd) (B : Gb K mg) : FnOk P w K mg base (L2.CX P w) 1 f fd ["_law_script", "_law_k"] (spF K (tab ca) al 2 sem_l_cell) :=
  fn_ok F sc_l_cell fun cdv A outer s H E hr =>
    (ss_one (s_ret (ev_ix (ev_bin ok_plus (ev_sl (ev_var (pv 0)) (eo_some (ev_var (pv 1))) (eo_some (ev_bin ok_plus (ev_var (pv 1)) ev_int))) (ev_lst (as_cons (pd_of ev_int) as_nil))) ev_int (fun _ _ => rfl))))
theorem ok_l_stirred {f : Addr} {fd : FuncData} (al : Bool) (F : Fun K "_law_stirred" "_law_stirred" s_l_stirred f fd) (B : Gb K mg) : FnOk P w K mg base (L2.CX P w) 1 f fd ["_law_cell_here", "_law_salt"] (spF K (tab ca) al 2 sem_l_stirred) :=
  fn_ok F sc_l_stirred fun cdv A outer s H E hr =>
    (ss_cons (s_setV (i := 2) sc_l_stirred.nd rfl (by first | exact Or.inl rfl | exact Or.inr rfl) (pd_of (ev_bin ok_plus (ev_bin ok_mod (ev_var (pv 0)) ev_int) (ev_bin ok_times ev_int (ev_var (pv 1)))))) (ss_cons (s_setV (i := 2) sc_l_stirred.nd rfl (by first | exact Or.inl rfl | exact Or.inr rfl) (pd_of (ev_bin ok_mod (ev_bin ok_plus (ev_bin ok_plus (ev_bin ok_times (ev_var (pv 2)) (ev_bin ok_plus (ev_bin ok_plus (ev_var (pv 2)) (ev_bin ok_times (ev_var (pv 1)) (ev_var (pv 1)))) ev_int)) (ev_bin ok_times ev_int (ev_var (pv 1)))) ev_int) ev_int))) (ss_one (s_ret (ev_bin ok_div (ev_bin ok_mod (ev_bin ok_plus (ev_bin ok_times (ev_var (pv 2)) (ev_bin ok_plus (ev_bin ok_div (ev_var (pv 2)) ev_int) ev_int)) ev_int) ev_int) ev_int)))))
theorem ok_l_wide {f : Addr} {fd : FuncData} (al : Bool) (F : Fun K "_law_wide" "_law_wide" s_l_wide f fd) (B : Gb K mg) (c_l_stirred : ∀ al, Callee P w K mg base (tab ca) "_law_stirred" al 1 2 sem_l_stirred) : FnOk P w K mg base (L2.CX P w) 2 f fd ["_law_cell_here", "_law_salt"] (spF K (tab ca) al 2 sem_l_wide) :=
  fn_ok F sc_l_wide fun cdv A outer s H E hr =>
    (ss_cons (s_if (et_w (ew_or (et_cmp ok_lt (ev_var (pv 0)) ev_int (by first | exact nomark _ | rfl)) (ew_or1 (et_cmp ok_ge (ev_var (pv 0)) (ev_bin ok_pow ev_int ev_int) (by first | exact nomark _ | rfl))))) (ss_one (s_ret (ev_callB (ok_max rfl) rfl B.g_max (by decide +kernel) (ar_cons (ev_var (pv 0)) (ar_cons (ev_bin ok_sub ev_int (ev_var (pv 0))) ar_nil))))) ss_nil) (ss_one (s_ret (ev_user (c_l_stirred false) (hr.mono (by decide)) rfl (takes_of rfl rfl rfl rfl) (as_cons (pd_of (ev_user (c_l_stirred false) (hr.mono (by decide)) rfl (takes_of rfl rfl rfl rfl) (as_cons (pd_of (ev_var (pv 0))) (as_cons (pd_of (ev_var (pv 1))) as_nil)))) (as_cons (pd_of ev_int) as_nil))))))
theorem ok_l_letter {f : Addr} {fd : FuncData} (al : Bool) (F : Fun K "_law_letter" "_law_letter" s_l_letter f fd) (B : Gb K mg) : FnOk P w K mg base (L2.CX P w) 1 f fd ["_law_cell_here"] (spF K (tab ca) al 1 sem_l_letter) :=
  fn_ok F sc_l_letter fun cdv A outer s H E hr =>
    (ss_one (s_ret (ev_ix ev_str (ev_bin ok_mod (ev_var (pv 0)) ev_int) (fun _ _ => rfl))))
theorem ok_l_meaning_of {f : Addr} {fd : FuncData} (al : Bool) (F : Fun K "_law_meaning_of" "_law_meaning_of" s_l_meaning_of f fd) (B : Gb K mg) (c_l_letter : ∀ al, Callee P w K mg base (tab ca) "_law_letter" al 1 1 sem_l_letter) : FnOk P w K mg base (L2.CX P w) 2 f fd ["_law_rest", "_law_layer", "_law_layers"] (spF K (tab ca) al 3 sem_l_meaning_of) :=
  fn_ok F sc_l_meaning_of fun cdv A outer s H E hr =>
    (ss_cons (s_setV (i := 3) sc_l_meaning_of.nd rfl (by first | exact Or.inl rfl | exact Or.inr rfl) (pd_of (ev_bin ok_mod (ev_var (pv 0)) ev_int))) (ss_cons (s_setV (i := 4) sc_l_meaning_of.nd rfl (by first | exact Or.inl rfl | exact Or.inr rfl) (pd_of (ev_user (c_l_letter false) (hr.mono (by decide)) rfl (takes_of rfl rfl rfl rfl) (as_cons (pd_of (ev_bin ok_div (ev_var (pv 0)) ev_int)) as_nil)))) (ss_cons (s_setV (i := 5) sc_l_meaning_of.nd rfl (by first | exact Or.inl rfl | exact Or.inr rfl) (pd_of (ev_bin ok_plus ev_int (ev_bin ok_mod (ev_bin ok_div (ev_var (pv 0)) ev_int) (ev_callB (ok_max rfl) rfl B.g_max (by decide +kernel) (ar_cons ev_int (ar_cons (ev_bin ok_sub (ev_var (pv 2)) ev_int) ar_nil))))))) (ss_cons (s_setV (i := 6) sc_l_meaning_of.nd rfl (by first | exact Or.inl rfl | exact Or.inr rfl) (pd_of (ev_tup (as_cons (pd_of ev_str) (as_cons (pd_of (ev_var (pv 4))) as_nil))))) (ss_cons (s_if (et_w (ew_or (et_cmp (ok_eq (hu64 hr)) (ev_var (pv 3)) ev_int (by first | exact nomark _ | rfl)) (ew_or1 (et_w (ew_and (et_cmp (ok_eq (hu64 hr)) (ev_var (pv 3)) ev_int (by first | exact nomark _ | rfl)) (ew_and1 (et_cmp (ok_eq (hu64 hr)) (ev_var (pv 1)) ev_int (by first | exact nomark _ | rfl)))))))) (ss_one (s_setV (i := 6) sc_l_meaning_of.nd rfl (by first | exact Or.inl rfl | exact Or.inr rfl) (pd_of (ev_tup (as_cons (pd_of ev_str) as_nil))))) (ss_one (s_if (et_cmp (ok_eq (hu64 hr)) (ev_var (pv 3)) ev_int (by first | exact nomark _ | rfl)) (ss_one (s_setV (i := 6) sc_l_meaning_of.nd rfl (by first | exact Or.inl rfl | exact Or.inr rfl) (pd_of (ev_tup (as_cons (pd_of ev_str) as_nil))))) (ss_one (s_if (et_w (ew_and (et_cmp ok_gt (ev_var (pv 3)) ev_int (by first | exact nomark _ | rfl)) (ew_and1 (et_cmp ok_gt (ev_var (pv 2)) ev_int (by first | exact nomark _ | rfl))))) (ss_one (s_setV (i := 6) sc_l_meaning_of.nd rfl (by first | exact Or.inl rfl | exact Or.inr rfl) (pd_of (ev_ix (ev_lst (as_cons (pd_of (ev_tup (as_cons (pd_of ev_str) (as_cons (pd_of (ev_var (pv 5))) as_nil)))) (as_cons (pd_of (ev_tup (as_cons (pd_of ev_str) (as_cons (pd_of (ev_var (pv 4))) (as_cons (pd_of (ev_var (pv 5))) as_nil))))) (as_cons (pd_of (ev_tup (as_cons (pd_of ev_str) (as_cons (pd_of (ev_var (pv 5))) as_nil)))) as_nil)))) (ev_bin ok_sub (ev_var (pv 3)) ev_int) (fun _ _ => rfl))))) ss_nil))))) (ss_one (s_ret (ev_var (pv 6)))))))))
theorem ok_l_read_bed {f : Addr} {fd : FuncData} (al : Bool) (F : Fun K "_law_read_bed" "_law_read_bed" s_l_read_bed f fd) (B : Gb K mg) (c_l_meaning_of : ∀ al, Callee P w K mg base (tab ca) "_law_meaning_of" al 2 3 sem_l_meaning_of) (c_l_letter : ∀ al, Callee P w K mg base (tab ca) "_law_letter" al 1 1 sem_l_letter) : FnOk P w K mg base (L2.CX P w) 3 f fd ["_law_xs"] (spF K (tab ca) al 1 sem_l_read_bed) :=
  fn_ok F sc_l_read_bed fun cdv A outer s H E hr =>
    (ss_cons (s_setV (i := 1) sc_l_read_bed.nd rfl (by first | exact Or.inl rfl | exact Or.inr rfl) (pd_of (ev_bin ok_plus ev_int (ev_bin ok_mod (ev_ix (ev_var (pv 0)) ev_int (fun _ _ => rfl)) ev_int)))) (ss_cons (s_setV (i := 2) sc_l_read_bed.nd rfl (by first | exact Or.inl rfl | exact Or.inr rfl) (pd_of (ev_bin ok_plus ev_int (ev_bin ok_mod (ev_bin ok_div (ev_ix (ev_var (pv 0)) ev_int (fun _ _ => rfl)) ev_int) ev_int)))) (ss_cons (s_setO (i := 3) sc_l_read_bed.nd rfl (by first | exact Or.inl rfl | exact Or.inr rfl) (ev_lst as_nil)) (ss_cons (s_for (t := .nm 4) (passes_of rfl) rfl (iv_range1 rfl B.g_range (ar_cons (ev_var (pv 2)) ar_nil)) (pg_name (i := 4) sc_l_read_bed.nd rfl (by first | exact Or.inl rfl | exact Or.inr rfl)) (ss_one (s_app (i := 3) (pv 3) (pd_of (ev_callTy ok_tuple rfl B.g_tuple (by decide +kernel) (ar_cons (ev_lc (own := [("_law_key", 9)]) rfl sc_l_read_bed.nd (ic_of (iv_range1 rfl B.g_range (ar_cons (ev_var (pv 1)) ar_nil))) (blkOk_by (own := [("_law_key", 9)]) (N := ["_law_xs", "_law_keys", "_law_many", "_law_layers", "_law_layer", "_law_plain", "_law_chords", "_law_x", "_law_some", "_law_key", "_law_chord"]) (sc := defScope s_l_read_bed) (by decide +kernel)) (t := .nm 9) (by decide) (fun _ _ _ _ _ => (pg_name (i := 9) sc_l_read_bed.nd rfl (by first | exact Or.inl rfl | exact Or.inr rfl))) (fun _ _ _ _ _ => ets_nil) (fun _ _ _ _ _ => (pd_of (ev_user (c_l_meaning_of false) (hr.mono (by decide)) rfl takes0 (as_cons (pd_of (ev_ix (ev_var (pv 0)) (ev_bin ok_plus (ev_bin ok_plus ev_int (ev_bin ok_times ev_int (ev_var (pv 4)))) (ev_var (pv 9))) (fun _ _ => rfl))) (as_cons (pd_of (ev_var (pv 4))) (as_cons (pd_of (ev_var (pv 2))) as_nil))))))) ar_nil)))))) (ss_cons (s_thaw (i := 5) (s_setLc (i := 5) (own := [("_law_key", 9)]) rfl sc_l_read_bed.nd rfl rfl (sw_true rfl rfl rfl (by decide +kernel)) (ic_of (iv_range1 rfl B.g_range (ar_cons (ev_var (pv 1)) ar_nil))) (blkOk_by (own := [("_law_key", 9)]) (N := ["_law_xs", "_law_keys", "_law_many", "_law_layers", "_law_layer", "_law_plain", "_law_chords", "_law_x", "_law_some", "_law_key", "_law_chord"]) (sc := defScope s_l_read_bed) (by decide +kernel)) (t := .nm 9) (by decide) (fun _ _ _ _ _ => (pg_name (i := 9) sc_l_read_bed.nd rfl (by first | exact Or.inl rfl | exact Or.inr rfl))) (fun _ _ _ _ _ => (ets_one (et_cmp (ok_eq (hu64 hr)) (ev_ix (ev_ix (ev_ix (ev_var (pv 3)) ev_int (fun _ _ => rfl)) (ev_var (pv 9)) (fun _ _ => rfl)) ev_int (fun _ _ => rfl)) ev_str (by first | exact nomark _ | rfl)))) (fun _ _ _ _ _ => (pd_of (ev_var (pv 9)))))) (ss_cons (s_setO (i := 6) sc_l_read_bed.nd rfl (by first | exact Or.inl rfl | exact Or.inr rfl) (ev_lst as_nil)) (ss_cons (s_for (t := .nm 7) (passes_of rfl) rfl (iv_seq (pd_of (ev_sl (ev_var (pv 0)) (eo_some ev_int) (eo_some (ev_bin ok_plus ev_int (ev_bin ok_mod (ev_bin ok_div (ev_ix (ev_var (pv 0)) ev_int (fun _ _ => rfl)) ev_int) ev_int)))))) (pg_name (i := 7) sc_l_read_bed.nd rfl (by first | exact Or.inl rfl | exact Or.inr rfl)) (ss_cons (s_setV (i := 8) sc_l_read_bed.nd rfl (by first | exact Or.inl rfl | exact Or.inr rfl) (pd_of (ev_callTy ok_tuple rfl B.g_tuple (by decide +kernel) (ar_cons (ev_lc (own := [("_law_key", 9)]) rfl sc_l_read_bed.nd (ic_seq (ev_var (pv 5))) (blkOk_by (own := [("_law_key", 9)]) (N := ["_law_xs", "_law_keys", "_law_many", "_law_layers", "_law_layer", "_law_plain", "_law_chords", "_law_x", "_law_some", "_law_key", "_law_chord"]) (sc := defScope s_l_read_bed) (by decide +kernel)) (t := .nm 9) (by decide) (fun _ _ _ _ _ => (pg_name (i := 9) sc_l_read_bed.nd rfl (by first | exact Or.inl rfl | exact Or.inr rfl))) (fun _ _ _ _ _ => (ets_one (et_cmp (ok_eq (hu64 hr)) (ev_bin ok_mod (ev_bin ok_div (ev_var (pv 7)) (ev_ix (ev_lst (as_cons (pd_of ev_int) (as_cons (pd_of ev_int) (as_cons (pd_of ev_int) (as_cons (pd_of ev_int) (as_cons (pd_of ev_int) as_nil)))))) (ev_var (pv 9)) (fun _ _ => rfl))) ev_int) ev_int (by first | exact nomark _ | rfl)))) (fun _ _ _ _ _ => (pd_of (ev_var (pv 9))))) ar_nil)))) (ss_one (s_if (et_w (ew_and (et_cmp ok_gt (ev_callB ok_len rfl B.g_len (by decide +kernel) (ar_cons (ev_var (pv 8)) ar_nil)) ev_int (by first | exact nomark _ | rfl)) (ew_and1 (et_cmp (ok_nin (hu65 hr)) (ev_var (pv 8)) (ev_lc (own := [("_law_chord", 10)]) rfl sc_l_read_bed.nd (ic_seq (ev_var (pv 6))) (blkOk_by (own := [("_law_chord", 10)]) (N := ["_law_xs", "_law_keys", "_law_many", "_law_layers", "_law_layer", "_law_plain", "_law_chords", "_law_x", "_law_some", "_law_key", "_law_chord"]) (sc := defScope s_l_read_bed) (by decide +kernel)) (t := .nm 10) (by decide) (fun _ _ _ _ _ => (pg_name (i := 10) sc_l_read_bed.nd rfl (by first | exact Or.inl rfl | exact Or.inr rfl))) (fun _ _ _ _ _ => ets_nil) (fun _ _ _ _ _ => (pd_of (ev_ix (ev_var (pv 10)) ev_int (fun _ _ => rfl))))) (by first | exact nomark _ | rfl))))) (ss_one (s_app (i := 6) (pv 6) (pd_of (ev_tup (as_cons (pd_of (ev_var (pv 8))) (as_cons (pd_of (ev_user (c_l_letter false) (hr.mono (by decide)) rfl (takes_of rfl rfl rfl rfl) (as_cons (pd_of (ev_bin ok_div (ev_var (pv 7)) ev_int)) as_nil))) as_nil)))))) ss_nil)))) (ss_one (s_ret (ev_tup (as_cons (pd_of (ev_var (pv 1))) (as_cons (pd_of (ev_callTy ok_tuple rfl B.g_tuple (by decide +kernel) (ar_cons (ev_var (pv 3)) ar_nil))) (as_cons (pd_of (ev_callTy ok_tuple rfl B.g_tuple (by decide +kernel) (ar_cons (ev_var (pv 6)) ar_nil))) (as_cons (pd_of (ev_bin ok_plus ev_int (ev_bin ok_mod (ev_bin ok_div (ev_ix (ev_var (pv 0)) ev_int (fun _ _ => rfl)) ev_int) ev_int))) as_nil))))))))))))))
theorem ok_l_stream {f : Addr} {fd : FuncData} (al : Bool) (F : Fun K "_law_stream" "_law_stream" s_l_stream f fd) (B : Gb K mg) (c_l_stirred : ∀ al, Callee P w K mg base (tab ca) "_law_stirred" al 1 2 sem_l_stirred) : FnOk P w K mg base (L2.CX P w) 2 f fd ["_law_cell_here", "_law_many"] (spF K (tab ca) al 2 sem_l_stream) :=
  fn_ok F sc_l_stream fun cdv A outer s H E hr =>
    (ss_cons (s_setO (i := 2) sc_l_stream.nd rfl (by first | exact Or.inl rfl | exact Or.inr rfl) (ev_lst as_nil)) (ss_cons (s_setV (i := 3) sc_l_stream.nd rfl (by first | exact Or.inl rfl | exact Or.inr rfl) (pd_of (ev_callB (ok_max rfl) rfl B.g_max (by decide +kernel) (ar_cons (ev_var (pv 0)) (ar_cons (ev_bin ok_sub ev_int (ev_var (pv 0))) ar_nil))))) (ss_cons (s_for (t := .nm 4) (passes_of rfl) rfl (iv_range1 rfl B.g_range (ar_cons (ev_var (pv 1)) ar_nil)) (pg_name (i := 4) sc_l_stream.nd rfl (by first | exact Or.inl rfl | exact Or.inr rfl)) (ss_cons (s_setV (i := 5) sc_l_stream.nd rfl (by first | exact Or.inl rfl | exact Or.inr rfl) (pd_of ev_int)) (ss_cons (s_for (t := .nm 6) (passes_of rfl) rfl (iv_range1 rfl B.g_range (ar_cons ev_int ar_nil)) (pg_name (i := 6) sc_l_stream.nd rfl (by first | exact Or.inl rfl | exact Or.inr rfl)) (ss_one (s_setV (i := 5) sc_l_stream.nd rfl (by first | exact Or.inl rfl | exact Or.inr rfl) (pd_of (ev_bin ok_plus (ev_bin ok_times (ev_var (pv 5)) (ev_bin ok_pow ev_int ev_int)) (ev_bin ok_mod (ev_user (c_l_stirred false) (hr.mono (by decide)) rfl (takes_of rfl rfl rfl rfl) (as_cons (pd_of (ev_var (pv 0))) (as_cons (pd_of (ev_bin ok_plus (ev_bin ok_times ev_int (ev_var (pv 4))) (ev_var (pv 6)))) as_nil))) (ev_bin ok_pow ev_int ev_int))))))) (ss_cons (s_if (et_w (ew_and (et_cmp ok_gt (ev_var (pv 3)) ev_int (by first | exact nomark _ | rfl)) (ew_and1 (et_w (ew_or (et_cmp ok_lt (ev_var (pv 0)) ev_int (by first | exact nomark _ | rfl)) (ew_or1 (et_cmp ok_ge (ev_var (pv 0)) (ev_bin ok_pow ev_int ev_int) (by first | exact nomark _ | rfl)))))))) (ss_cons (s_setV (i := 5) sc_l_stream.nd rfl (by first | exact Or.inl rfl | exact Or.inr rfl) (pd_of (ev_bin ok_mod (ev_var (pv 3)) (ev_bin ok_pow ev_int ev_int)))) (ss_one (s_setV (i := 3) sc_l_stream.nd rfl (by first | exact Or.inl rfl | exact Or.inr rfl) (pd_of (ev_bin ok_div (ev_var (pv 3)) (ev_bin ok_pow ev_int ev_int)))))) ss_nil) (ss_one (s_app (i := 2) (pv 2) (pd_of (ev_var (pv 5))))))))) (ss_one (s_retS (i := 2) (pv 2))))))
theorem ok_l_meaning {f : Addr} {fd : FuncData} (al : Bool) (F : Fun K "_law_meaning" "_law_meaning" s_l_meaning f fd) (B : Gb K mg) (c_l_letter : ∀ al, Callee P w K mg base (tab ca) "_law_letter" al 1 1 sem_l_letter) : FnOk P w K mg base (L2.CX P w) 2 f fd ["_law_cell_here", "_law_layer", "_law_layers"] (spF K (tab ca) al 3 sem_l_meaning) :=
  fn_ok F sc_l_meaning fun cdv A outer s H E hr =>
    (ss_cons (s_setV (i := 3) sc_l_meaning.nd rfl (by first | exact Or.inl rfl | exact Or.inr rfl) (pd_of (ev_bin ok_mod (ev_var (pv 0)) ev_int))) (ss_cons (s_setV (i := 4) sc_l_meaning.nd rfl (by first | exact Or.inl rfl | exact Or.inr rfl) (pd_of (ev_user (c_l_letter false) (hr.mono (by decide)) rfl (takes_of rfl rfl rfl rfl) (as_cons (pd_of (ev_bin ok_div (ev_var (pv 0)) ev_int)) as_nil)))) (ss_cons (s_if (et_w (ew_or (et_cmp ok_lt (ev_var (pv 3)) ev_int (by first | exact nomark _ | rfl)) (ew_or1 (et_w (ew_and (et_cmp (ok_eq (hu64 hr)) (ev_var (pv 2)) ev_int (by first | exact nomark _ | rfl)) (ew_and1 (et_cmp ok_lt (ev_var (pv 3)) ev_int (by first | exact nomark _ | rfl)))))))) (ss_one (s_ret (ev_tup (as_cons (pd_of ev_str) (as_cons (pd_of (ev_var (pv 4))) as_nil))))) ss_nil) (ss_cons (s_setV (i := 5) sc_l_meaning.nd rfl (by first | exact Or.inl rfl | exact Or.inr rfl) (pd_of (ev_bin ok_plus ev_int (ev_bin ok_mod (ev_bin ok_div (ev_var (pv 0)) ev_int) (ev_callB (ok_max rfl) rfl B.g_max (by decide +kernel) (ar_cons ev_int (ar_cons (ev_bin ok_sub (ev_var (pv 2)) ev_int) ar_nil))))))) (ss_cons (s_if (et_cmp (ok_eq (hu64 hr)) (ev_var (pv 3)) ev_int (by first | exact nomark _ | rfl)) (ss_one (s_ret (ev_tup (as_cons (pd_of ev_str) (as_cons (pd_of (ev_var (pv 5))) as_nil))))) ss_nil) (ss_cons (s_if (et_cmp (ok_eq (hu64 hr)) (ev_var (pv 3)) ev_int (by first | exact nomark _ | rfl)) (ss_one (s_ret (ev_tup (as_cons (pd_of ev_str) (as_cons (pd_of (ev_var (pv 4))) (as_cons (pd_of (ev_var (pv 5))) as_nil)))))) ss_nil) (ss_cons (s_if (et_cmp (ok_eq (hu64 hr)) (ev_var (pv 3)) ev_int (by first | exact nomark _ | rfl)) (ss_one (s_ret (ev_tup (as_cons (pd_of ev_str) (as_cons (pd_of (ev_var (pv 5))) as_nil))))) ss_nil) (ss_cons (s_if (et_w (ew_and (et_cmp (ok_eq (hu64 hr)) (ev_var (pv 3)) ev_int (by first | exact nomark _ | rfl)) (ew_and1 (et_cmp ok_gt (ev_var (pv 1)) ev_int (by first | exact nomark _ | rfl))))) (ss_one (s_ret (ev_tup (as_cons (pd_of ev_str) as_nil)))) ss_nil) (ss_one (s_ret (ev_tup (as_cons (pd_of ev_str) as_nil))))))))))))
theorem ok_l_bed {f : Addr} {fd : FuncData} (al : Bool) (F : Fun K "_law_bed" "_law_bed" s_l_bed f fd) (B : Gb K mg) (c_l_cell : ∀ al, Callee P w K mg base (tab ca) "_law_cell" al 1 2 sem_l_cell) (c_l_read_bed : ∀ al, Callee P w K mg base (tab ca) "_law_read_bed" al 3 1 sem_l_read_bed) (c_l_stream : ∀ al, Callee P w K mg base (tab ca) "_law_stream" al 2 2 sem_l_stream) (c_l_wide : ∀ al, Callee P w K mg base (tab ca) "_law_wide" al 2 2 sem_l_wide) (c_l_meaning : ∀ al, Callee P w K mg base (tab ca) "_law_meaning" al 2 3 sem_l_meaning) (c_l_letter : ∀ al, Callee P w K mg base (tab ca) "_law_letter" al 1 1 sem_l_letter) : FnOk P w K mg base (L2.CX P w) 4 f fd ["_law_script", "_law_at"] (spF K (tab ca) al 2 sem_l_bed) :=
  fn_ok F sc_l_bed fun cdv A outer s H E hr =>
    (ss_cons (s_setV (i := 2) sc_l_bed.nd rfl (by first | exact Or.inl rfl | exact Or.inr rfl) (pd_of (ev_user (c_l_cell false) (hr.mono (by decide)) rfl (takes_of rfl rfl rfl rfl) (as_cons (pd_of (ev_var (pv 0))) (as_cons (pd_of (ev_var (pv 1))) as_nil))))) (ss_cons (s_if (et_w (ew_or (et_cmp ok_lt (ev_var (pv 2)) ev_int (by first | exact nomark _ | rfl)) (ew_or1 (et_cmp ok_ge (ev_var (pv 2)) (ev_bin ok_pow ev_int ev_int) (by first | exact nomark _ | rfl))))) (ss_one (s_ret (ev_user (c_l_read_bed false) (hr.mono (by decide)) rfl (takes_of rfl rfl rfl rfl) (as_cons (pd_of (ev_user (c_l_stream false) (hr.mono (by decide)) rfl (takes_of rfl rfl rfl rfl) (as_cons (pd_of (ev_var (pv 2))) (as_cons (pd_of ev_int) as_nil)))) as_nil)))) ss_nil) (ss_cons (s_setV (i := 2) sc_l_bed.nd rfl (by first | exact Or.inl rfl | exact Or.inr rfl) (pd_of (ev_user (c_l_wide false) (hr.mono (by decide)) rfl (takes_of rfl rfl rfl rfl) (as_cons (pd_of (ev_var (pv 2))) (as_cons (pd_of (ev_var (pv 1))) as_nil))))) (ss_cons (s_setV (i := 3) sc_l_bed.nd rfl (by first | exact Or.inl rfl | exact Or.inr rfl) (pd_of (ev_cmp (ok_eq (hu64 hr)) (ev_bin ok_mod (ev_bin ok_div (ev_var (pv 2)) ev_int) ev_int) ev_int (by first | exact nomark _ | rfl)))) (ss_cons (s_setV (i := 4) sc_l_bed.nd rfl (by first | exact Or.inl rfl | exact Or.inr rfl) (pd_of (ev_ix (ev_lst (as_cons (pd_of (ev_bin ok_plus ev_int (ev_bin ok_mod (ev_var (pv 2)) ev_int))) (as_cons (pd_of (ev_bin ok_plus ev_int (ev_bin ok_mod (ev_var (pv 2)) ev_int))) as_nil))) (ev_callTy ok_int rfl B.g_int (by decide +kernel) (ar_cons (ev_var (pv 3)) ar_nil)) (fun _ _ => rfl)))) (ss_cons (s_setO (i := 5) sc_l_bed.nd rfl (by first | exact Or.inl rfl | exact Or.inr rfl) (ev_lst as_nil)) (ss_cons (s_for (t := .nm 6) (passes_of rfl) rfl (iv_range1 rfl B.g_range (ar_cons (ev_bin ok_plus ev_int (ev_bin ok_mod (ev_bin ok_div (ev_var (pv 2)) ev_int) ev_int)) ar_nil)) (pg_name (i := 6) sc_l_bed.nd rfl (by first | exact Or.inl rfl | exact Or.inr rfl)) (ss_cons (s_thaw (i := 10) (s_setLc (i := 10) (own := [("_law_key", 13)]) rfl sc_l_bed.nd rfl rfl (sw_true rfl rfl rfl (by decide +kernel)) (ic_of (iv_range1 rfl B.g_range (ar_cons (ev_var (pv 4)) ar_nil))) (blkOk_by (own := [("_law_key", 13)]) (N := ["_law_script", "_law_at", "_law_first", "_law_rich", "_law_keys", "_law_layers", "_law_layer", "_law_plain", "_law_chords", "_law_k", "_law_row", "_law_cell_here", "_law_some", "_law_key", "_law_chord"]) (sc := defScope s_l_bed) (by decide +kernel)) (t := .nm 13) (by decide) (fun _ _ _ _ _ => (pg_name (i := 13) sc_l_bed.nd rfl (by first | exact Or.inl rfl | exact Or.inr rfl))) (fun _ _ _ _ _ => ets_nil) (fun _ _ _ _ _ => (pd_of (ev_user (c_l_wide false) (hr.mono (by decide)) rfl takes0 (as_cons (pd_of (ev_user (c_l_cell false) (hr.mono (by decide)) rfl takes0 (as_cons (pd_of (ev_var (pv 0))) (as_cons (pd_of (ev_bin ok_plus (ev_bin ok_plus (ev_bin ok_plus (ev_var (pv 1)) ev_int) (ev_bin ok_times ev_int (ev_var (pv 6)))) (ev_var (pv 13)))) as_nil)))) (as_cons (pd_of (ev_bin ok_plus (ev_bin ok_times ev_int (ev_var (pv 6))) (ev_var (pv 13)))) as_nil))))))) (ss_cons (s_app (i := 5) (pv 5) (pd_of (ev_callTy ok_tuple rfl B.g_tuple (by decide +kernel) (ar_cons (ev_lc (own := [("_law_cell_here", 11)]) rfl sc_l_bed.nd (ic_seq (ev_var (pv 10))) (blkOk_by (own := [("_law_cell_here", 11)]) (N := ["_law_script", "_law_at", "_law_first", "_law_rich", "_law_keys", "_law_layers", "_law_layer", "_law_plain", "_law_chords", "_law_k", "_law_row", "_law_cell_here", "_law_some", "_law_key", "_law_chord"]) (sc := defScope s_l_bed) (by decide +kernel)) (t := .nm 11) (by decide) (fun _ _ _ _ _ => (pg_name (i := 11) sc_l_bed.nd rfl (by first | exact Or.inl rfl | exact Or.inr rfl))) (fun _ _ _ _ _ => ets_nil) (fun _ _ _ _ _ => (pd_of (ev_user (c_l_meaning false) (hr.mono (by decide)) rfl takes0 (as_cons (pd_of (ev_var (pv 11))) (as_cons (pd_of (ev_var (pv 6))) (as_cons (pd_of (ev_bin ok_plus ev_int (ev_bin ok_mod (ev_bin ok_div (ev_var (pv 2)) ev_int) ev_int))) as_nil))))))) ar_nil)))) (ss_one (s_if (et_w (ew_and (et_val (ev_var (pv 3))) (ew_and1 (et_cmp (ok_eq (hu64 hr)) (ev_var (pv 6)) ev_int (by first | exact nomark _ | rfl))))) (ss_one (s_setO (i := 5) sc_l_bed.nd rfl (by first | exact Or.inl rfl | exact Or.inr rfl) (ev_lst (as_cons (pd_of (ev_callTy ok_tuple rfl B.g_tuple (by decide +kernel) (ar_cons (ev_lc (own := [("_law_cell_here", 11)]) rfl sc_l_bed.nd (ic_seq (ev_var (pv 10))) (blkOk_by (own := [("_law_cell_here", 11)]) (N := ["_law_script", "_law_at", "_law_first", "_law_rich", "_law_keys", "_law_layers", "_law_layer", "_law_plain", "_law_chords", "_law_k", "_law_row", "_law_cell_here", "_law_some", "_law_key", "_law_chord"]) (sc := defScope s_l_bed) (by decide +kernel)) (t := .nm 11) (by decide) (fun _ _ _ _ _ => (pg_name (i := 11) sc_l_bed.nd rfl (by first | exact Or.inl rfl | exact Or.inr rfl))) (fun _ _ _ _ _ => ets_nil) (fun _ _ _ _ _ => (pd_of (ev_tup (as_cons (pd_of ev_str) (as_cons (pd_of (ev_user (c_l_letter false) (hr.mono (by decide)) rfl takes0 (as_cons (pd_of (ev_bin ok_div (ev_var (pv 11)) ev_int)) as_nil))) as_nil)))))) ar_nil))) as_nil)))) ss_nil))))) (ss_cons (s_thaw (i := 7) (s_setLc (i := 7) (own := [("_law_key", 13)]) rfl sc_l_bed.nd rfl rfl (sw_true rfl rfl rfl (by decide +kernel)) (ic_of (iv_range1 rfl B.g_range (ar_cons (ev_var (pv 4)) ar_nil))) (blkOk_by (own := [("_law_key", 13)]) (N := ["_law_script", "_law_at", "_law_first", "_law_rich", "_law_keys", "_law_layers", "_law_layer", "_law_plain", "_law_chords", "_law_k", "_law_row", "_law_cell_here", "_law_some", "_law_key", "_law_chord"]) (sc := defScope s_l_bed) (by decide +kernel)) (t := .nm 13) (by decide) (fun _ _ _ _ _ => (pg_name (i := 13) sc_l_bed.nd rfl (by first | exact Or.inl rfl | exact Or.inr rfl))) (fun _ _ _ _ _ => (ets_one (et_cmp (ok_eq (hu64 hr)) (ev_ix (ev_ix (ev_ix (ev_var (pv 5)) ev_int (fun _ _ => rfl)) (ev_var (pv 13)) (fun _ _ => rfl)) ev_int (fun _ _ => rfl)) ev_str (by first | exact nomark _ | rfl)))) (fun _ _ _ _ _ => (pd_of (ev_var (pv 13)))))) (ss_cons (s_setO (i := 8) sc_l_bed.nd rfl (by first | exact Or.inl rfl | exact Or.inr rfl) (ev_lst as_nil)) (ss_cons (s_for (t := .nm 9) (passes_of rfl) rfl (iv_range1 rfl B.g_range (ar_cons (ev_ix (ev_lst (as_cons (pd_of (ev_bin ok_mod (ev_user (c_l_wide false) (hr.mono (by decide)) rfl (takes_of rfl rfl rfl rfl) (as_cons (pd_of (ev_user (c_l_cell false) (hr.mono (by decide)) rfl (takes_of rfl rfl rfl rfl) (as_cons (pd_of (ev_var (pv 0))) (as_cons (pd_of (ev_bin ok_plus (ev_var (pv 1)) ev_int)) as_nil)))) (as_cons (pd_of ev_int) as_nil))) ev_int)) (as_cons (pd_of (ev_bin ok_plus ev_int (ev_bin ok_mod (ev_bin ok_div (ev_var (pv 2)) ev_int) ev_int))) as_nil))) (ev_callTy ok_int rfl B.g_int (by decide +kernel) (ar_cons (ev_var (pv 3)) ar_nil)) (fun _ _ => rfl)) ar_nil)) (pg_name (i := 9) sc_l_bed.nd rfl (by first | exact Or.inl rfl | exact Or.inr rfl)) (ss_cons (s_setV (i := 11) sc_l_bed.nd rfl (by first | exact Or.inl rfl | exact Or.inr rfl) (pd_of (ev_user (c_l_wide false) (hr.mono (by decide)) rfl (takes_of rfl rfl rfl rfl) (as_cons (pd_of (ev_user (c_l_cell false) (hr.mono (by decide)) rfl (takes_of rfl rfl rfl rfl) (as_cons (pd_of (ev_var (pv 0))) (as_cons (pd_of (ev_bin ok_plus (ev_bin ok_plus (ev_var (pv 1)) ev_int) (ev_var (pv 9)))) as_nil)))) (as_cons (pd_of (ev_bin ok_plus ev_int (ev_var (pv 9)))) as_nil))))) (ss_cons (s_setV (i := 12) sc_l_bed.nd rfl (by first | exact Or.inl rfl | exact Or.inr rfl) (pd_of (ev_callTy ok_tuple rfl B.g_tuple (by decide +kernel) (ar_cons (ev_lc (own := [("_law_key", 13)]) rfl sc_l_bed.nd (ic_seq (ev_var (pv 7))) (blkOk_by (own := [("_law_key", 13)]) (N := ["_law_script", "_law_at", "_law_first", "_law_rich", "_law_keys", "_law_layers", "_law_layer", "_law_plain", "_law_chords", "_law_k", "_law_row", "_law_cell_here", "_law_some", "_law_key", "_law_chord"]) (sc := defScope s_l_bed) (by decide +kernel)) (t := .nm 13) (by decide) (fun _ _ _ _ _ => (pg_name (i := 13) sc_l_bed.nd rfl (by first | exact Or.inl rfl | exact Or.inr rfl))) (fun _ _ _ _ _ => (ets_one (et_cmp (ok_eq (hu64 hr)) (ev_bin ok_mod (ev_bin ok_div (ev_var (pv 11)) (ev_ix (ev_lst (as_cons (pd_of ev_int) (as_cons (pd_of ev_int) (as_cons (pd_of ev_int) (as_cons (pd_of ev_int) (as_cons (pd_of ev_int) as_nil)))))) (ev_var (pv 13)) (fun _ _ => rfl))) ev_int) ev_int (by first | exact nomark _ | rfl)))) (fun _ _ _ _ _ => (pd_of (ev_var (pv 13))))) ar_nil)))) (ss_cons (s_if (et_val (ev_var (pv 3))) (ss_one (s_setV (i := 12) sc_l_bed.nd rfl (by first | exact Or.inl rfl | exact Or.inr rfl) (pd_of (ev_ix (ev_lst (as_cons (pd_of (ev_tup (as_cons (pd_of ev_int) (as_cons (pd_of ev_int) as_nil)))) (as_cons (pd_of (ev_tup (as_cons (pd_of ev_int) (as_cons (pd_of ev_int) as_nil)))) (as_cons (pd_of (ev_tup (as_cons (pd_of ev_int) (as_cons (pd_of ev_int) (as_cons (pd_of ev_int) as_nil))))) (as_cons (pd_of (ev_tup (as_cons (pd_of ev_int) (as_cons (pd_of (ev_bin ok_sub (ev_var (pv 4)) ev_int)) as_nil)))) as_nil))))) (ev_bin ok_mod (ev_bin ok_plus (ev_var (pv 9)) (ev_bin ok_div (ev_var (pv 2)) ev_int)) ev_int) (fun _ _ => rfl))))) ss_nil) (ss_one (s_if (et_w (ew_and (et_cmp ok_gt (ev_callB ok_len rfl B.g_len (by decide +kernel) (ar_cons (ev_var (pv 12)) ar_nil)) ev_int (by first | exact nomark _ | rfl)) (ew_and1 (et_cmp (ok_nin (hu65 hr)) (ev_var (pv 12)) (ev_lc (own := [("_law_chord", 14)]) rfl sc_l_bed.nd (ic_seq (ev_var (pv 8))) (blkOk_by (own := [("_law_chord", 14)]) (N := ["_law_script", "_law_at", "_law_first", "_law_rich", "_law_keys", "_law_layers", "_law_layer", "_law_plain", "_law_chords", "_law_k", "_law_row", "_law_cell_here", "_law_some", "_law_key", "_law_chord"]) (sc := defScope s_l_bed) (by decide +kernel)) (t := .nm 14) (by decide) (fun _ _ _ _ _ => (pg_name (i := 14) sc_l_bed.nd rfl (by first | exact Or.inl rfl | exact Or.inr rfl))) (fun _ _ _ _ _ => ets_nil) (fun _ _ _ _ _ => (pd_of (ev_ix (ev_var (pv 14)) ev_int (fun _ _ => rfl))))) (by first | exact nomark _ | rfl))))) (ss_one (s_app (i := 8) (pv 8) (pd_of (ev_tup (as_cons (pd_of (ev_var (pv 12))) (as_cons (pd_of (ev_user (c_l_letter false) (hr.mono (by decide)) rfl (takes_of rfl rfl rfl rfl) (as_cons (pd_of (ev_bin ok_div (ev_var (pv 11)) ev_int)) as_nil))) as_nil)))))) ss_nil)))))) (ss_one (s_ret (ev_tup (as_cons (pd_of (ev_var (pv 4))) (as_cons (pd_of (ev_callTy ok_tuple rfl B.g_tuple (by decide +kernel) (ar_cons (ev_var (pv 5)) ar_nil))) (as_cons (pd_of (ev_callTy ok_tuple rfl B.g_tuple (by decide +kernel) (ar_cons (ev_var (pv 8)) ar_nil))) (as_cons (pd_of (ev_bin ok_plus ev_int (ev_bin ok_mod (ev_bin ok_div (ev_var (pv 2)) ev_int) ev_int))) as_nil)))))))))))))))))
theorem ok_l_whole {f : Addr} {fd : FuncData} (al : Bool) (F : Fun K "_law_whole" "_law_whole" s_l_whole f fd) (B : Gb K mg) : FnOk P w K mg base (L2.CX P w) 1 f fd ["_law_thing"] (spF K (tab ca) al 1 sem_l_whole) :=
  fn_ok F sc_l_whole fun cdv A outer s H E hr =>
    (ss_one (s_ret (ev_and (ev_isi (n := "int") (by decide) (ev_var (pv 0)) rfl B.g_isinstance rfl B.g_int (by decide +kernel)) (ev_one (ev_not (ev_isi (n := "bool") (by decide) (ev_var (pv 0)) rfl B.g_isinstance rfl B.g_bool (by decide +kernel)))))))
theorem ok_l_like_1 {f : Addr} {fd : FuncData} (al : Bool) (F : Fun K "_law_like" "_law_like" s_l_like_1 f fd) (B : Gb K mg) (c_l_like_0 : ∀ al, Callee P w K mg base (tab ca) "_law_like" al 0 2 sem_l_like_0) (c_l_whole : ∀ al, Callee P w K mg base (tab ca) "_law_whole" al 1 1 sem_l_whole) : FnOk P w K mg base (L2.CX P w) 2 f fd ["_law_found", "_law_due"] (spF K (tab ca) al 2 sem_l_like_1) :=
  fn_ok F sc_l_like_1 fun cdv A outer s H E hr =>
    (ss_cons (s_if (et_val (ev_isi (n := "tuple") (by decide) (ev_var (pv 1)) rfl B.g_isinstance rfl B.g_tuple (by decide +kernel))) (ss_cons (s_if (et_w (ew_or (et_not (et_val (ev_isi (n := "tuple") (by decide) (ev_var (pv 0)) rfl B.g_isinstance rfl B.g_tuple (by decide +kernel)))) (ew_or1 (et_cmp (ok_ne (hu64 hr)) (ev_callB ok_len rfl B.g_len (by decide +kernel) (ar_cons (ev_var (pv 0)) ar_nil)) (ev_callB ok_len rfl B.g_len (by decide +kernel) (ar_cons (ev_var (pv 1)) ar_nil)) (by first | exact nomark _ | rfl))))) (ss_one (s_ret ev_bl)) ss_nil) (ss_one (s_ret (ev_callB (ok_all rfl) rfl B.g_all (by decide +kernel) (ar_cons (ev_lc (own := [("_law_one", 2), ("_law_other", 3)]) rfl sc_l_like_1.nd (ic_of (iv_zip rfl B.g_zip (as_cons (pd_of (ev_var (pv 0))) (as_cons (pd_of (ev_var (pv 1))) as_nil)))) (blkOk_by (own := [("_law_one", 2), ("_law_other", 3)]) (N := ["_law_found", "_law_due", "_law_one", "_law_other"]) (sc := defScope s_l_like_1) (by decide +kernel)) (t := .tp [2, 3]) (by decide) (fun _ _ _ _ _ => (pg_tup rfl (pgs_cons (pg_name (i := 2) sc_l_like_1.nd rfl (by first | exact Or.inl rfl | exact Or.inr rfl)) (pgs_cons (pg_name (i := 3) sc_l_like_1.nd rfl (by first | exact Or.inl rfl | exact Or.inr rfl)) pgs_nil)))) (fun _ _ _ _ _ => ets_nil) (fun _ _ _ _ _ => (pd_of (ev_user (c_l_like_0 false) (hr.mono (by decide)) rfl takes0 (as_cons (pd_of (ev_var (pv 2))) (as_cons (pd_of (ev_var (pv 3))) as_nil)))))) ar_nil))))) ss_nil) (ss_cons (s_if (et_val (ev_isi (n := "str") (by decide) (ev_var (pv 1)) rfl B.g_isinstance rfl B.g_str (by decide +kernel))) (ss_one (s_ret (ev_and (ev_isi (n := "str") (by decide) (ev_var (pv 0)) rfl B.g_isinstance rfl B.g_str (by decide +kernel)) (ev_one (ev_cmp (ok_eq (hu64 hr)) (ev_var (pv 0)) (ev_var (pv 1)) (by first | exact nomark _ | rfl)))))) ss_nil) (ss_one (s_ret (ev_and (ev_user (c_l_whole false) (hr.mono (by decide)) rfl (takes_of rfl rfl rfl rfl) (as_cons (pd_of (ev_var (pv 0))) as_nil)) (ev_one (ev_cmp (ok_eq (hu64 hr)) (ev_var (pv 0)) (ev_var (pv 1)) (by first | exact nomark _ | rfl))))))))
theorem ok_l_like_2 {f : Addr} {fd : FuncData} (al : Bool) (F : Fun K "_law_like" "_law_like" s_l_like_2 f fd) (B : Gb K mg) (c_l_like_1 : ∀ al, Callee P w K mg base (tab ca) "_law_like" al 2 2 sem_l_like_1) (c_l_whole : ∀ al, Callee P w K mg base (tab ca) "_law_whole" al 1 1 sem_l_whole) : FnOk P w K mg base (L2.CX P w) 3 f fd ["_law_found", "_law_due"] (spF K (tab ca) al 2 sem_l_like_2) :=
  fn_ok F sc_l_like_2 fun cdv A outer s H E hr =>
    (ss_cons (s_if (et_val (ev_isi (n := "tuple") (by decide) (ev_var (pv 1)) rfl B.g_isinstance rfl B.g_tuple (by decide +kernel))) (ss_cons (s_if (et_w (ew_or (et_not (et_val (ev_isi (n := "tuple") (by decide) (ev_var (pv 0)) rfl B.g_isinstance rfl B.g_tuple (by decide +kernel)))) (ew_or1 (et_cmp (ok_ne (hu64 hr)) (ev_callB ok_len rfl B.g_len (by decide +kernel) (ar_cons (ev_var (pv 0)) ar_nil)) (ev_callB ok_len rfl B.g_len (by decide +kernel) (ar_cons (ev_var (pv 1)) ar_nil)) (by first | exact nomark _ | rfl))))) (ss_one (s_ret ev_bl)) ss_nil) (ss_one (s_ret (ev_callB (ok_all rfl) rfl B.g_all (by decide +kernel) (ar_cons (ev_lc (own := [("_law_one", 2), ("_law_other", 3)]) rfl sc_l_like_2.nd (ic_of (iv_zip rfl B.g_zip (as_cons (pd_of (ev_var (pv 0))) (as_cons (pd_of (ev_var (pv 1))) as_nil)))) (blkOk_by (own := [("_law_one", 2), ("_law_other", 3)]) (N := ["_law_found", "_law_due", "_law_one", "_law_other"]) (sc := defScope s_l_like_2) (by decide +kernel)) (t := .tp [2, 3]) (by decide) (fun _ _ _ _ _ => (pg_tup rfl (pgs_cons (pg_name (i := 2) sc_l_like_2.nd rfl (by first | exact Or.inl rfl | exact Or.inr rfl)) (pgs_cons (pg_name (i := 3) sc_l_like_2.nd rfl (by first | exact Or.inl rfl | exact Or.inr rfl)) pgs_nil)))) (fun _ _ _ _ _ => ets_nil) (fun _ _ _ _ _ => (pd_of (ev_user (c_l_like_1 false) (hr.mono (by decide)) rfl takes0 (as_cons (pd_of (ev_var (pv 2))) (as_cons (pd_of (ev_var (pv 3))) as_nil)))))) ar_nil))))) ss_nil) (ss_cons (s_if (et_val (ev_isi (n := "str") (by decide) (ev_var (pv 1)) rfl B.g_isinstance rfl B.g_str (by decide +kernel))) (ss_one (s_ret (ev_and (ev_isi (n := "str") (by decide) (ev_var (pv 0)) rfl B.g_isinstance rfl B.g_str (by decide +kernel)) (ev_one (ev_cmp (ok_eq (hu64 hr)) (ev_var (pv 0)) (ev_var (pv 1)) (by first | exact nomark _ | rfl)))))) ss_nil) (ss_one (s_ret (ev_and (ev_user (c_l_whole false) (hr.mono (by decide)) rfl (takes_of rfl rfl rfl rfl) (as_cons (pd_of (ev_var (pv 0))) as_nil)) (ev_one (ev_cmp (ok_eq (hu64 hr)) (ev_var (pv 0)) (ev_var (pv 1)) (by first | exact nomark _ | rfl))))))))
theorem ok_l_like_3 {f : Addr} {fd : FuncData} (al : Bool) (F : Fun K "_law_like" "_law_like" s_l_like_3 f fd) (B : Gb K mg) (c_l_like_2 : ∀ al, Callee P w K mg base (tab ca) "_law_like" al 3 2 sem_l_like_2) (c_l_whole : ∀ al, Callee P w K mg base (tab ca) "_law_whole" al 1 1 sem_l_whole) : FnOk P w K mg base (L2.CX P w) 4 f fd ["_law_found", "_law_due"] (spF K (tab ca) al 2 sem_l_like_3) :=
  fn_ok F sc_l_like_3 fun cdv A outer s H E hr =>
    (ss_cons (s_if (et_val (ev_isi (n := "tuple") (by decide) (ev_var (pv 1)) rfl B.g_isinstance rfl B.g_tuple (by decide +kernel))) (ss_cons (s_if (et_w (ew_or (et_not (et_val (ev_isi (n := "tuple") (by decide) (ev_var (pv 0)) rfl B.g_isinstance rfl B.g_tuple (by decide +kernel)))) (ew_or1 (et_cmp (ok_ne (hu64 hr)) (ev_callB ok_len rfl B.g_len (by decide +kernel) (ar_cons (ev_var (pv 0)) ar_nil)) (ev_callB ok_len rfl B.g_len (by decide +kernel) (ar_cons (ev_var (pv 1)) ar_nil)) (by first | exact nomark _ | rfl))))) (ss_one (s_ret ev_bl)) ss_nil) (ss_one (s_ret (ev_callB (ok_all rfl) rfl B.g_all (by decide +kernel) (ar_cons (ev_lc (own := [("_law_one", 2), ("_law_other", 3)]) rfl sc_l_like_3.nd (ic_of (iv_zip rfl B.g_zip (as_cons (pd_of (ev_var (pv 0))) (as_cons (pd_of (ev_var (pv 1))) as_nil)))) (blkOk_by (own := [("_law_one", 2), ("_law_other", 3)]) (N := ["_law_found", "_law_due", "_law_one", "_law_other"]) (sc := defScope s_l_like_3) (by decide +kernel)) (t := .tp [2, 3]) (by decide) (fun _ _ _ _ _ => (pg_tup rfl (pgs_cons (pg_name (i := 2) sc_l_like_3.nd rfl (by first | exact Or.inl rfl | exact Or.inr rfl)) (pgs_cons (pg_name (i := 3) sc_l_like_3.nd rfl (by first | exact Or.inl rfl | exact Or.inr rfl)) pgs_nil)))) (fun _ _ _ _ _ => ets_nil) (fun _ _ _ _ _ => (pd_of (ev_user (c_l_like_2 false) (hr.mono (by decide)) rfl takes0 (as_cons (pd_of (ev_var (pv 2))) (as_cons (pd_of (ev_var (pv 3))) as_nil)))))) ar_nil))))) ss_nil) (ss_cons (s_if (et_val (ev_isi (n := "str") (by decide) (ev_var (pv 1)) rfl B.g_isinstance rfl B.g_str (by decide +kernel))) (ss_one (s_ret (ev_and (ev_isi (n := "str") (by decide) (ev_var (pv 0)) rfl B.g_isinstance rfl B.g_str (by decide +kernel)) (ev_one (ev_cmp (ok_eq (hu64 hr)) (ev_var (pv 0)) (ev_var (pv 1)) (by first | exact nomark _ | rfl)))))) ss_nil) (ss_one (s_ret (ev_and (ev_user (c_l_whole false) (hr.mono (by decide)) rfl (takes_of rfl rfl rfl rfl) (as_cons (pd_of (ev_var (pv 0))) as_nil)) (ev_one (ev_cmp (ok_eq (hu64 hr)) (ev_var (pv 0)) (ev_var (pv 1)) (by first | exact nomark _ | rfl))))))))
theorem ok_l_like_4 {f : Addr} {fd : FuncData} (al : Bool) (F : Fun K "_law_like" "_law_like" s_l_like_4 f fd) (B : Gb K mg) (c_l_like_3 : ∀ al, Callee P w K mg base (tab ca) "_law_like" al 4 2 sem_l_like_3) (c_l_whole : ∀ al, Callee P w K mg base (tab ca) "_law_whole" al 1 1 sem_l_whole) : FnOk P w K mg base (L2.CX P w) 5 f fd ["_law_found", "_law_due"] (spF K (tab ca) al 2 sem_l_like_4) :=
  fn_ok F sc_l_like_4 fun cdv A outer s H E hr =>
    (ss_cons (s_if (et_val (ev_isi (n := "tuple") (by decide) (ev_var (pv 1)) rfl B.g_isinstance rfl B.g_tuple (by decide +kernel))) (ss_cons (s_if (et_w (ew_or (et_not (et_val (ev_isi (n := "tuple") (by decide) (ev_var (pv 0)) rfl B.g_isinstance rfl B.g_tuple (by decide +kernel)))) (ew_or1 (et_cmp (ok_ne (hu64 hr)) (ev_callB ok_len rfl B.g_len (by decide +kernel) (ar_cons (ev_var (pv 0)) ar_nil)) (ev_callB ok_len rfl B.g_len (by decide +kernel) (ar_cons (ev_var (pv 1)) ar_nil)) (by first | exact nomark _ | rfl))))) (ss_one (s_ret ev_bl)) ss_nil) (ss_one (s_ret (ev_callB (ok_all rfl) rfl B.g_all (by decide +kernel) (ar_cons (ev_lc (own := [("_law_one", 2), ("_law_other", 3)]) rfl sc_l_like_4.nd (ic_of (iv_zip rfl B.g_zip (as_cons (pd_of (ev_var (pv 0))) (as_cons (pd_of (ev_var (pv 1))) as_nil)))) (blkOk_by (own := [("_law_one", 2), ("_law_other", 3)]) (N := ["_law_found", "_law_due", "_law_one", "_law_other"]) (sc := defScope s_l_like_4) (by decide +kernel)) (t := .tp [2, 3]) (by decide) (fun _ _ _ _ _ => (pg_tup rfl (pgs_cons (pg_name (i := 2) sc_l_like_4.nd rfl (by first | exact Or.inl rfl | exact Or.inr rfl)) (pgs_cons (pg_name (i := 3) sc_l_like_4.nd rfl (by first | exact Or.inl rfl | exact Or.inr rfl)) pgs_nil)))) (fun _ _ _ _ _ => ets_nil) (fun _ _ _ _ _ => (pd_of (ev_user (c_l_like_3 false) (hr.mono (by decide)) rfl takes0 (as_cons (pd_of (ev_var (pv 2))) (as_cons (pd_of (ev_var (pv 3))) as_nil)))))) ar_nil))))) ss_nil) (ss_cons (s_if (et_val (ev_isi (n := "str") (by decide) (ev_var (pv 1)) rfl B.g_isinstance rfl B.g_str (by decide +kernel))) (ss_one (s_ret (ev_and (ev_isi (n := "str") (by decide) (ev_var (pv 0)) rfl B.g_isinstance rfl B.g_str (by decide +kernel)) (ev_one (ev_cmp (ok_eq (hu64 hr)) (ev_var (pv 0)) (ev_var (pv 1)) (by first | exact nomark _ | rfl)))))) ss_nil) (ss_one (s_ret (ev_and (ev_user (c_l_whole false) (hr.mono (by decide)) rfl (takes_of rfl rfl rfl rfl) (as_cons (pd_of (ev_var (pv 0))) as_nil)) (ev_one (ev_cmp (ok_eq (hu64 hr)) (ev_var (pv 0)) (ev_var (pv 1)) (by first | exact nomark _ | rfl))))))))
theorem ok_l_like_5 {f : Addr} {fd : FuncData} (al : Bool) (F : Fun K "_law_like" "_law_like" s_l_like_5 f fd) (B : Gb K mg) (c_l_like_4 : ∀ al, Callee P w K mg base (tab ca) "_law_like" al 5 2 sem_l_like_4) (c_l_whole : ∀ al, Callee P w K mg base (tab ca) "_law_whole" al 1 1 sem_l_whole) : FnOk P w K mg base (L2.CX P w) 6 f fd ["_law_found", "_law_due"] (spF K (tab ca) al 2 sem_l_like_5) :=
  fn_ok F sc_l_like_5 fun cdv A outer s H E hr =>
    (ss_cons (s_if (et_val (ev_isi (n := "tuple") (by decide) (ev_var (pv 1)) rfl B.g_isinstance rfl B.g_tuple (by decide +kernel))) (ss_cons (s_if (et_w (ew_or (et_not (et_val (ev_isi (n := "tuple") (by decide) (ev_var (pv 0)) rfl B.g_isinstance rfl B.g_tuple (by decide +kernel)))) (ew_or1 (et_cmp (ok_ne (hu64 hr)) (ev_callB ok_len rfl B.g_len (by decide +kernel) (ar_cons (ev_var (pv 0)) ar_nil)) (ev_callB ok_len rfl B.g_len (by decide +kernel) (ar_cons (ev_var (pv 1)) ar_nil)) (by first | exact nomark _ | rfl))))) (ss_one (s_ret ev_bl)) ss_nil) (ss_one (s_ret (ev_callB (ok_all rfl) rfl B.g_all (by decide +kernel) (ar_cons (ev_lc (own := [("_law_one", 2), ("_law_other", 3)]) rfl sc_l_like_5.nd (ic_of (iv_zip rfl B.g_zip (as_cons (pd_of (ev_var (pv 0))) (as_cons (pd_of (ev_var (pv 1))) as_nil)))) (blkOk_by (own := [("_law_one", 2), ("_law_other", 3)]) (N := ["_law_found", "_law_due", "_law_one", "_law_other"]) (sc := defScope s_l_like_5) (by decide +kernel)) (t := .tp [2, 3]) (by decide) (fun _ _ _ _ _ => (pg_tup rfl (pgs_cons (pg_name (i := 2) sc_l_like_5.nd rfl (by first | exact Or.inl rfl | exact Or.inr rfl)) (pgs_cons (pg_name (i := 3) sc_l_like_5.nd rfl (by first | exact Or.inl rfl | exact Or.inr rfl)) pgs_nil)))) (fun _ _ _ _ _ => ets_nil) (fun _ _ _ _ _ => (pd_of (ev_user (c_l_like_4 false) (hr.mono (by decide)) rfl takes0 (as_cons (pd_of (ev_var (pv 2))) (as_cons (pd_of (ev_var (pv 3))) as_nil)))))) ar_nil))))) ss_nil) (ss_cons (s_if (et_val (ev_isi (n := "str") (by decide) (ev_var (pv 1)) rfl B.g_isinstance rfl B.g_str (by decide +kernel))) (ss_one (s_ret (ev_and (ev_isi (n := "str") (by decide) (ev_var (pv 0)) rfl B.g_isinstance rfl B.g_str (by decide +kernel)) (ev_one (ev_cmp (ok_eq (hu64 hr)) (ev_var (pv 0)) (ev_var (pv 1)) (by first | exact nomark _ | rfl)))))) ss_nil) (ss_one (s_ret (ev_and (ev_user (c_l_whole false) (hr.mono (by decide)) rfl (takes_of rfl rfl rfl rfl) (as_cons (pd_of (ev_var (pv 0))) as_nil)) (ev_one (ev_cmp (ok_eq (hu64 hr)) (ev_var (pv 0)) (ev_var (pv 1)) (by first | exact nomark _ | rfl))))))))
theorem ok_is_letter {f : Addr} {fd : FuncData} (al : Bool) (F : Fun K "is_letter" "is_letter" s_is_letter f fd) (B : Gb K mg) : FnOk P w K mg base (L2.CX P w) 1 f fd ["thing"] (spF K (tab ca) al 1 sem_is_letter) :=
  by
  obtain ⟨v_LETTERS, u_LETTERS, m_LETTERS, r_LETTERS, d_LETTERS⟩ := B.at_LETTERS
  exact fn_ok F sc_is_letter fun cdv A outer s H E hr =>
    (ss_one (s_ret (ev_and (ev_cmp (ok_eq (hu64 hr)) (ev_callB ok_len rfl B.g_len (by decide +kernel) (ar_cons (ev_var (pv 0)) ar_nil)) ev_int (by first | exact nomark _ | rfl)) (ev_one (ev_cmp ok_inS (ev_var (pv 0)) (ev_glob rfl m_LETTERS r_LETTERS d_LETTERS) (by first | exact nomark _ | rfl))))))
theorem ok_is_meaning {f : Addr} {fd : FuncData} (al : Bool) (F : Fun K "is_meaning" "is_meaning" s_is_meaning f fd) (B : Gb K mg) (c_is_letter : ∀ al, Callee P w K mg base (tab ca) "is_letter" al 1 1 sem_is_letter) : FnOk P w K mg base (L2.CX P w) 2 f fd ["meaning", "layer", "layers"] (spF K (tab ca) al 3 sem_is_meaning) :=
  fn_ok F sc_is_meaning fun cdv A outer s H E hr =>
    (ss_cons (s_setV (i := 3) sc_is_meaning.nd rfl (by first | exact Or.inl rfl | exact Or.inr rfl) (pd_of (ev_ix (ev_var (pv 0)) ev_int (fun _ _ => rfl)))) (ss_cons (s_if (et_cmp (ok_eq (hu64 hr)) (ev_var (pv 3)) ev_str (by first | exact nomark _ | rfl)) (ss_one (s_ret (ev_user (c_is_letter false) (hr.mono (by decide)) rfl (takes_of rfl rfl rfl rfl) (as_cons (pd_of (ev_ix (ev_var (pv 0)) ev_int (fun _ _ => rfl))) as_nil)))) ss_nil) (ss_cons (s_if (et_cmp (ok_eq (hu64 hr)) (ev_var (pv 3)) ev_str (by first | exact nomark _ | rfl)) (ss_one (s_ret (ev_and (ev_user (c_is_letter false) (hr.mono (by decide)) rfl (takes_of rfl rfl rfl rfl) (as_cons (pd_of (ev_ix (ev_var (pv 0)) ev_int (fun _ _ => rfl))) as_nil)) (ev_one (ev_chain ok_le ok_lt ev_int (ev_ix (ev_var (pv 0)) ev_int (fun _ _ => rfl)) (ev_var (pv 2))))))) ss_nil) (ss_cons (s_if (et_w (ew_or (et_cmp (ok_eq (hu64 hr)) (ev_var (pv 3)) ev_str (by first | exact nomark _ | rfl)) (ew_or1 (et_cmp (ok_eq (hu64 hr)) (ev_var (pv 3)) ev_str (by first | exact nomark _ | rfl))))) (ss_one (s_ret (ev_chain ok_le ok_lt ev_int (ev_ix (ev_var (pv 0)) ev_int (fun _ _ => rfl)) (ev_var (pv 2))))) ss_nil) (ss_one (s_ret (ev_or (ev_cmp (ok_eq (hu64 hr)) (ev_var (pv 3)) ev_str (by first | exact nomark _ | rfl)) (ev_one (ev_cmp ok_gt (ev_var (pv 1)) ev_int (by first | exact nomark _ | rfl))))))))))
theorem ok_check_layers {f : Addr} {fd : FuncData} (al : Bool) (F : Fun K "check_layers" "check_layers" s_check_layers f fd) (B : Gb K mg) (c_is_meaning : ∀ al, Callee P w K mg base (tab ca) "is_meaning" al 2 3 sem_is_meaning) : FnOk P w K mg base (L2.CX P w) 3 f fd ["keys", "layers"] (spF K (tab ca) al 2 sem_check_layers) :=
  fn_ok F sc_check_layers fun cdv A outer s H E hr =>
    (ss_one (s_for (t := .nm 2) (passes_of rfl) rfl (iv_range1 rfl B.g_range (ar_cons (ev_callB ok_len rfl B.g_len (by decide +kernel) (ar_cons (ev_var (pv 1)) ar_nil)) ar_nil)) (pg_name (i := 2) sc_check_layers.nd rfl (by first | exact Or.inl rfl | exact Or.inr rfl)) (ss_cons (s_if (et_cmp (ok_ne (hu64 hr)) (ev_callB ok_len rfl B.g_len (by decide +kernel) (ar_cons (ev_ix (ev_var (pv 1)) (ev_var (pv 2)) (fun _ _ => rfl)) ar_nil)) (ev_var (pv 0)) (by first | exact nomark _ | rfl)) (ss_one s_dead) ss_nil) (ss_one (s_for (t := .nm 3) (passes_of rfl) rfl (iv_range1 rfl B.g_range (ar_cons (ev_var (pv 0)) ar_nil)) (pg_name (i := 3) sc_check_layers.nd rfl (by first | exact Or.inl rfl | exact Or.inr rfl)) (ss_one (s_if (et_not (et_val (ev_user (c_is_meaning false) (hr.mono (by decide)) rfl (takes_of rfl rfl rfl rfl) (as_cons (pd_of (ev_ix (ev_ix (ev_var (pv 1)) (ev_var (pv 2)) (fun _ _ => rfl)) (ev_var (pv 3)) (fun _ _ => rfl))) (as_cons (pd_of (ev_var (pv 2))) (as_cons (pd_of (ev_callB ok_len rfl B.g_len (by decide +kernel) (ar_cons (ev_var (pv 1)) ar_nil))) as_nil)))))) (ss_one s_dead) ss_nil)))))))
theorem ok_is_set {f : Addr} {fd : FuncData} (al : Bool) (F : Fun K "is_set" "is_set" s_is_set f fd) (B : Gb K mg) : FnOk P w K mg base (L2.CX P w) 1 f fd ["some", "many"] (spF K (tab ca) al 2 sem_is_set) :=
  fn_ok F sc_is_set fun cdv A outer s H E hr =>
    (ss_cons (s_if (et_w (ew_or (et_cmp ok_lt (ev_callB ok_len rfl B.g_len (by decide +kernel) (ar_cons (ev_var (pv 0)) ar_nil)) ev_int (by first | exact nomark _ | rfl)) (ew_or (et_not (et_cmp ok_le ev_int (ev_ix (ev_var (pv 0)) ev_int (fun _ _ => rfl)) (by first | exact nomark _ | rfl))) (ew_or1 (et_not (et_cmp ok_lt (ev_ix (ev_var (pv 0)) (ev_un ok_neg ev_int) (fun _ _ => rfl)) (ev_var (pv 1)) (by first | exact nomark _ | rfl))))))) (ss_one (s_ret ev_bl)) ss_nil) (ss_one (s_ret (ev_callB (ok_all rfl) rfl B.g_all (by decide +kernel) (ar_cons (ev_lc (own := [("one", 2), ("other", 3)]) rfl sc_is_set.nd (ic_of (iv_zip rfl B.g_zip (as_cons (pd_of (ev_var (pv 0))) (as_cons (pd_of (ev_sl (ev_var (pv 0)) (eo_some ev_int) eo_none)) as_nil)))) (blkOk_by (own := [("one", 2), ("other", 3)]) (N := ["some", "many", "one", "other"]) (sc := defScope s_is_set) (by decide +kernel)) (t := .tp [2, 3]) (by decide) (fun _ _ _ _ _ => (pg_tup rfl (pgs_cons (pg_name (i := 2) sc_is_set.nd rfl (by first | exact Or.inl rfl | exact Or.inr rfl)) (pgs_cons (pg_name (i := 3) sc_is_set.nd rfl (by first | exact Or.inl rfl | exact Or.inr rfl)) pgs_nil)))) (fun _ _ _ _ _ => ets_nil) (fun _ _ _ _ _ => (pd_of (ev_cmp ok_lt (ev_var (pv 2)) (ev_var (pv 3)) (by first | exact nomark _ | rfl))))) ar_nil)))))
theorem ok_checked {f : Addr} {fd : FuncData} (al : Bool) (F : Fun K "checked" "checked" s_checked f fd) (B : Gb K mg) (c_check_layers : ∀ al, Callee P w K mg base (tab ca) "check_layers" al 3 2 sem_check_layers) (c_is_letter : ∀ al, Callee P w K mg base (tab ca) "is_letter" al 1 1 sem_is_letter) (c_is_set : ∀ al, Callee P w K mg base (tab ca) "is_set" al 1 2 sem_is_set) : FnOk P w K mg base (L2.CX P w) 4 f fd ["bed"] (spF K (tab ca) al 1 sem_checked) :=
  fn_ok F sc_checked fun cdv A outer s H E hr =>
    (ss_cons (s_tup (t := .tp [2, 3, 4, 5]) (pd_of (ev_var (pv 0))) (pg_tup rfl (pgs_cons (pg_name (i := 2) sc_checked.nd rfl (by first | exact Or.inl rfl | exact Or.inr rfl)) (pgs_cons (pg_name (i := 3) sc_checked.nd rfl (by first | exact Or.inl rfl | exact Or.inr rfl)) (pgs_cons (pg_name (i := 4) sc_checked.nd rfl (by first | exact Or.inl rfl | exact Or.inr rfl)) (pgs_cons (pg_name (i := 5) sc_checked.nd rfl (by first | exact Or.inl rfl | exact Or.inr rfl)) pgs_nil)))))) (ss_cons (s_if (et_w (ew_or (et_not (et_chain ok_le ok_le ev_int (ev_var (pv 2)) ev_int)) (ew_or (et_not (et_chain ok_le ok_le ev_int (ev_callB ok_len rfl B.g_len (by decide +kernel) (ar_cons (ev_var (pv 3)) ar_nil)) ev_int)) (ew_or (et_cmp ok_gt (ev_callB ok_len rfl B.g_len (by decide +kernel) (ar_cons (ev_var (pv 4)) ar_nil)) ev_int (by first | exact nomark _ | rfl)) (ew_or1 (et_not (et_chain ok_le ok_le ev_int (ev_var (pv 5)) ev_int))))))) (ss_one s_dead) ss_nil) (ss_cons (s_expr (ev_user (c_check_layers false) (hr.mono (by decide)) rfl (takes_of rfl rfl rfl rfl) (as_cons (pd_of (ev_var (pv 2))) (as_cons (pd_of (ev_var (pv 3))) as_nil)))) (ss_cons (s_for (t := .nm 1) (passes_of rfl) rfl (iv_range1 rfl B.g_range (ar_cons (ev_callB ok_len rfl B.g_len (by decide +kernel) (ar_cons (ev_var (pv 4)) ar_nil)) ar_nil)) (pg_name (i := 1) sc_checked.nd rfl (by first | exact Or.inl rfl | exact Or.inr rfl)) (ss_cons (s_tup (t := .tp [6, 7]) (pd_of (ev_ix (ev_var (pv 4)) (ev_var (pv 1)) (fun _ _ => rfl))) (pg_tup rfl (pgs_cons (pg_name (i := 6) sc_checked.nd rfl (by first | exact Or.inl rfl | exact Or.inr rfl)) (pgs_cons (pg_name (i := 7) sc_checked.nd rfl (by first | exact Or.inl rfl | exact Or.inr rfl)) pgs_nil)))) (ss_cons (s_if (et_w (ew_or (et_not (et_val (ev_user (c_is_letter false) (hr.mono (by decide)) rfl (takes_of rfl rfl rfl rfl) (as_cons (pd_of (ev_var (pv 7))) as_nil)))) (ew_or1 (et_not (et_val (ev_user (c_is_set false) (hr.mono (by decide)) rfl (takes_of rfl rfl rfl rfl) (as_cons (pd_of (ev_var (pv 6))) (as_cons (pd_of (ev_var (pv 2))) as_nil)))))))) (ss_one s_dead) ss_nil) (ss_cons (s_if (et_val (ev_callB (ok_any rfl) rfl B.g_any (by decide +kernel) (ar_cons (ev_lc (own := [("key", 8)]) rfl sc_checked.nd (ic_seq (ev_var (pv 6))) (blkOk_by (own := [("key", 8)]) (N := ["bed", "place", "keys", "layers", "chords", "wait", "some", "letter", "key", "chord"]) (sc := defScope s_checked) (by decide +kernel)) (t := .nm 8) (by decide) (fun _ _ _ _ _ => (pg_name (i := 8) sc_checked.nd rfl (by first | exact Or.inl rfl | exact Or.inr rfl))) (fun _ _ _ _ _ => ets_nil) (fun _ _ _ _ _ => (pd_of (ev_cmp (ok_ne (hu64 hr)) (ev_ix (ev_ix (ev_ix (ev_var (pv 3)) ev_int (fun _ _ => rfl)) (ev_var (pv 8)) (fun _ _ => rfl)) ev_int (fun _ _ => rfl)) ev_str (by first | exact nomark _ | rfl))))) ar_nil))) (ss_one s_dead) ss_nil) (ss_one (s_if (et_cmp (ok_in (hu65 hr)) (ev_var (pv 6)) (ev_lc (own := [("chord", 9)]) rfl sc_checked.nd (ic_seq (ev_sl (ev_var (pv 4)) eo_none (eo_some (ev_var (pv 1))))) (blkOk_by (own := [("chord", 9)]) (N := ["bed", "place", "keys", "layers", "chords", "wait", "some", "letter", "key", "chord"]) (sc := defScope s_checked) (by decide +kernel)) (t := .nm 9) (by decide) (fun _ _ _ _ _ => (pg_name (i := 9) sc_checked.nd rfl (by first | exact Or.inl rfl | exact Or.inr rfl))) (fun _ _ _ _ _ => ets_nil) (fun _ _ _ _ _ => (pd_of (ev_ix (ev_var (pv 9)) ev_int (fun _ _ => rfl))))) (by first | exact nomark _ | rfl)) (ss_one s_dead) ss_nil)))))) (ss_one (s_ret (ev_var (pv 0))))))))
theorem ok_law {f : Addr} {fd : FuncData} (al : Bool) (F : Fun K "law" "law" s_law f fd) (B : Gb K mg) (c_l_bed : ∀ al, Callee P w K mg base (tab ca) "_law_bed" al 4 2 sem_l_bed) (c_l_like_5 : ∀ al, Callee P w K mg base (tab ca) "_law_like" al 6 2 sem_l_like_5) (c_checked : ∀ al, Callee P w K mg base (tab ca) "checked" al 4 1 sem_checked) : FnOk P w K mg base (L2.CX P w) 7 f fd ["_law_script"] (spF K (tab ca) al 1 sem_law) :=
  fn_ok F sc_law fun cdv A outer s H E hr =>
    (ss_cons (s_setV (i := 1) sc_law.nd rfl (by first | exact Or.inl rfl | exact Or.inr rfl) (pd_of (ev_user (c_l_bed false) (hr.mono (by decide)) rfl (takes_of rfl rfl rfl rfl) (as_cons (pd_of (ev_var (pv 0))) (as_cons (pd_of ev_int) as_nil))))) (ss_cons (s_setV (i := 2) sc_law.nd rfl (by first | exact Or.inl rfl | exact Or.inr rfl) (pd_of (ev_user (c_l_bed false) (hr.mono (by decide)) rfl (takes_of rfl rfl rfl rfl) (as_cons (pd_of (ev_var (pv 0))) (as_cons (pd_of ev_int) as_nil))))) (ss_cons (s_if (et_w (ew_or (et_not (et_val (ev_user (c_l_like_5 false) (hr.mono (by decide)) rfl (takes_of rfl rfl rfl rfl) (as_cons (pd_of (ev_user (c_checked false) (hr.mono (by decide)) rfl (takes_of rfl rfl rfl rfl) (as_cons (pd_of (ev_var (pv 1))) as_nil))) (as_cons (pd_of (ev_var (pv 1))) as_nil))))) (ew_or1 (et_not (et_val (ev_user (c_l_like_5 false) (hr.mono (by decide)) rfl (takes_of rfl rfl rfl rfl) (as_cons (pd_of (ev_user (c_checked false) (hr.mono (by decide)) rfl (takes_of rfl rfl rfl rfl) (as_cons (pd_of (ev_var (pv 2))) as_nil))) (as_cons (pd_of (ev_var (pv 2))) as_nil)))))))) (ss_one (s_ret ev_bl)) ss_nil) (ss_one (s_ret (ev_user (c_l_like_5 false) (hr.mono (by decide)) rfl (takes_of rfl rfl rfl rfl) (as_cons (pd_of (ev_user (c_checked false) (hr.mono (by decide)) rfl (takes_of rfl rfl rfl rfl) (as_cons (pd_of (ev_var (pv 1))) as_nil))) (as_cons (pd_of (ev_var (pv 1))) as_nil))))))))
end
end L_k21

namespace L_k21
open PySem L2 MP
/-! ## what the law computes, in plain terms -/
def stir (c s : Int) : Int :=
  (((c % 1000000007 + 13 * s) * ((c % 1000000007 + 13 * s) + s * s + 11) + 40487 * s + 7) % 1000000033 * (((c % 1000000007 + 13 * s) * ((c % 1000000007 + 13 * s) + s * s + 11) + 40487 * s + 7) % 1000000033 / 7 + 31) + 90001) % 999999937 / 3
theorem stir_nn (c s : Int) : 0 ≤ stir c s := by unfold stir; omega
theorem m_stirred (c s : Int) (h : 0 ≤ s ∧ s ≤ 100000) : sem_l_stirred [.int c, .int s] [] = .ok (.v (.int (stir c s))) [] := by
  unfold sem_l_stirred b_l_stirred
  simp (disch := (first | assumption | with_reducible rfl | decide +kernel | exact Or.inl (by decide +kernel) | exact Or.inr (by decide +kernel) | omega | (simp only [List.length_cons, List.length_nil, List.length_append, List.length_map, List.length_replicate, List.length_range] <;> omega) | rfl)) only [MP.of_some, MP.map_some, MP.e_lv, MP.e_lo, MP.e_pD, MP.e_xDs, MP.e_xDf, MP.e_pC, MP.e_pYes, MP.e_pVar, MP.e_p2, MP.e_x2, MP.e_p1, MP.e_x1, MP.e_pB, MP.e_xB, MP.e_pNot, MP.e_xNot, MP.e_pAnd, MP.e_xAndT, MP.e_xAndF, MP.e_pOr, MP.e_xOrT, MP.e_xOrF, MP.e_pAndV, MP.e_xAndVT, MP.e_xAndVF, MP.e_pOrV, MP.e_xOrVT, MP.e_xOrVF, MP.e_pNotV, MP.e_xNotV, MP.e_pIf, MP.e_xIfT, MP.e_xIfF, MP.e_p3, MP.e_x3, MP.e_x3bT, MP.e_x3bF, MP.e_pNil, MP.e_pCons, MP.e_xCons, MP.e_pTup, MP.e_xTp, MP.e_pLst, MP.e_xLs, MP.e_pNo, MP.e_pSome, MP.e_xSo, MP.e_pSl, MP.e_xSl, MP.e_pCall, MP.e_xG, MP.e_pSeq, MP.e_xSq, MP.e_pSeqR, MP.e_xSqR, MP.e_pRng, MP.e_pEnum, MP.e_xEn, MP.e_pComp, MP.e_xC, MP.e_xC2, MP.e_pUser, MP.e_xU, MP.e_xFv, MP.e_xFo, MP.e_xFe, MP.e_pSeal, MP.e_xSe, MP.e_xSeFv, MP.e_xSeFo, MP.e_pLook, MP.e_xLo, MP.e_xLoF, MP.e_pFld, MP.e_xFd, MP.e_xOb, MP.e_xLk0, MP.e_xLk1, MP.e_c0, MP.e_c1, MP.g_add, MP.g_catS, MP.g_catL, MP.g_catT, MP.g_sub, MP.g_mul, MP.g_rep, MP.g_div, MP.g_mod, MP.g_pow, MP.g_shl, MP.g_shr, MP.g_and, MP.g_orI, MP.g_neg, MP.g_lt, MP.g_le, MP.g_gt, MP.g_ge, MP.g_eqI, MP.g_eqS, MP.g_eqBo, MP.g_neI, MP.g_neS, MP.g_neBo, MP.g_is, MP.g_isNot, MP.n_none, MP.n_int, MP.n_str, MP.n_tup, MP.n_list, MP.n_bool, MP.g_max, MP.g_min, MP.g_lenL, MP.g_lenK, MP.g_lenT, MP.g_listL, MP.g_listK, MP.g_listT, MP.g_tupL, MP.g_tupT, MP.q_list, MP.q_lk, MP.q_tup, MP.g_rng1, MP.g_rng2, MP.g_enumL, MP.g_enumK, MP.g_ixL, MP.g_ixK, MP.g_ixT, MP.g_slL, MP.g_slK, MP.g_slT, MP.s_Nil, MP.s_Brk, MP.s_Cont, MP.s_Seq, MP.s_xSn, MP.s_xSr, MP.s_xSb, MP.s_xSc, MP.s_xSe, MP.s_Expr, MP.s_xEx, MP.s_SetV, MP.s_xSV, MP.s_SetO, MP.s_xSOs, MP.s_xSOf, MP.s_Ret, MP.s_xRts, MP.s_xRtf, MP.s_RetN, MP.s_RetS, MP.s_xRSo, MP.s_xRSv, MP.s_If, MP.s_xIfT, MP.s_xIfF, MP.s_Tup, MP.s_xTu, MP.s_xTb, MP.s_For, MP.s_xFor, MP.s_App, MP.s_xAp, MP.s_Thaw, MP.s_xTh, MP.s_Frz, MP.s_xFzo, MP.s_xFzv, MP.s_ExprF, MP.s_xEF, MP.s_SetF, MP.s_xSF, MP.s_RetF, MP.s_xRF, MP.s_IfF, MP.s_xIFT, MP.s_xIFF, MP.s_FldN, MP.s_xN, MP.s_xN2, MP.s_xN3, MP.s_put0, MP.s_put1, MP.s_putN, MP.f_P, MP.f_xPs, MP.f_xPf, MP.f_User, MP.f_xFU, MP.f_Meth, MP.f_xM, MP.f_xM2, MP.f_Make, MP.f_xMk, MP.f_xMkF, MP.fe_ok, MP.r_run, MP.r_un, MP.r_un0, MP.r_nx, MP.r_ret, MP.r_exc, MP.t_nx, MP.t_cont, MP.t_brk, MP.t_ret, MP.b_nm, MP.b_tp2, MP.b_tp3, MP.t_bk, MP.fe_pop, MP.s_appF, MP.s_dead, MP.g_divmod, MP.g_sorted, MP.g_allB, MP.g_anyB, MP.g_sumI, MP.g_zipT, MP.g_zipL, MP.e_pZip, MP.e_xZp, MP.g_abs, MP.g_intI, MP.g_intB, MP.g_repT, MP.e_pLRng, MP.e_xLR, MP.f_Pop, MP.f_xPop, MP.s_AppF, MP.s_xAF0, MP.s_xAF, MP.s_xAF2, MP.g_inI, MP.g_ninI, MP.g_inT, MP.g_ninT, MP.g_ninST, MP.e_c2, MP.e_c3, MP.e_c4, MP.e_c5, MP.e_pIsi, List.getElem?_cons_zero, List.getElem?_cons_succ, List.getElem?_nil, List.set_cons_zero, List.set_cons_succ, List.map_cons, List.map_nil, List.length_cons, List.length_nil, List.length_append, List.cons_append, List.nil_append, List.length_map, List.length_singleton, Nat.reduceBEq, Nat.reduceAdd, Nat.reduceSub, Nat.reduceMul, Nat.reduceEqDiff, Nat.reduceLeDiff, Nat.reduceLT, if_false, if_true, ite_true, ite_false, ↓reduceIte, Bool.not_true, Bool.not_false, Bool.false_eq_true, decide_true, decide_false, eq_self, and_true, true_and, and_self, Nat.zero_le, Nat.zero_add, Option.bind_some, Option.bind_none, Nat.lt_irrefl, Int.reduceToNat, Int.reducePow, Int.reduceNeg, Int.reduceMul, Int.reduceAdd, Int.reduceSub, Int.reduceLT, Int.reduceLE, Int.reduceEq, beq_self_eq_true, wipeE, MP.at0, MP.at1, MP.at2, MP.atLit]
  rfl
def wide (c k : Int) : Int := if c < 0 ∨ 1000000000000000000 ≤ c then (if 0 - c > c then 0 - c else c) else stir (stir c k) 3
theorem wide_nn (c k : Int) : 0 ≤ wide c k := by
  unfold wide
  split
  · split <;> omega
  · exact stir_nn _ _
theorem m_wide (c k : Int) (h : 0 ≤ k ∧ k ≤ 100000) : sem_l_wide [.int c, .int k] [] = .ok (.v (.int (wide c k))) [] := by
  unfold sem_l_wide b_l_wide wide
  by_cases h1 : c < 0
  · simp (disch := (first | assumption | with_reducible rfl | decide +kernel | exact Or.inl (by decide +kernel) | exact Or.inr (by decide +kernel) | omega | (simp only [List.length_cons, List.length_nil, List.length_append, List.length_map, List.length_replicate, List.length_range] <;> omega) | rfl)) only [MP.of_some, MP.map_some, MP.e_lv, MP.e_lo, MP.e_pD, MP.e_xDs, MP.e_xDf, MP.e_pC, MP.e_pYes, MP.e_pVar, MP.e_p2, MP.e_x2, MP.e_p1, MP.e_x1, MP.e_pB, MP.e_xB, MP.e_pNot, MP.e_xNot, MP.e_pAnd, MP.e_xAndT, MP.e_xAndF, MP.e_pOr, MP.e_xOrT, MP.e_xOrF, MP.e_pAndV, MP.e_xAndVT, MP.e_xAndVF, MP.e_pOrV, MP.e_xOrVT, MP.e_xOrVF, MP.e_pNotV, MP.e_xNotV, MP.e_pIf, MP.e_xIfT, MP.e_xIfF, MP.e_p3, MP.e_x3, MP.e_x3bT, MP.e_x3bF, MP.e_pNil, MP.e_pCons, MP.e_xCons, MP.e_pTup, MP.e_xTp, MP.e_pLst, MP.e_xLs, MP.e_pNo, MP.e_pSome, MP.e_xSo, MP.e_pSl, MP.e_xSl, MP.e_pCall, MP.e_xG, MP.e_pSeq, MP.e_xSq, MP.e_pSeqR, MP.e_xSqR, MP.e_pRng, MP.e_pEnum, MP.e_xEn, MP.e_pComp, MP.e_xC, MP.e_xC2, MP.e_pUser, MP.e_xU, MP.e_xFv, MP.e_xFo, MP.e_xFe, MP.e_pSeal, MP.e_xSe, MP.e_xSeFv, MP.e_xSeFo, MP.e_pLook, MP.e_xLo, MP.e_xLoF, MP.e_pFld, MP.e_xFd, MP.e_xOb, MP.e_xLk0, MP.e_xLk1, MP.e_c0, MP.e_c1, MP.g_add, MP.g_catS, MP.g_catL, MP.g_catT, MP.g_sub, MP.g_mul, MP.g_rep, MP.g_div, MP.g_mod, MP.g_pow, MP.g_shl, MP.g_shr, MP.g_and, MP.g_orI, MP.g_neg, MP.g_lt, MP.g_le, MP.g_gt, MP.g_ge, MP.g_eqI, MP.g_eqS, MP.g_eqBo, MP.g_neI, MP.g_neS, MP.g_neBo, MP.g_is, MP.g_isNot, MP.n_none, MP.n_int, MP.n_str, MP.n_tup, MP.n_list, MP.n_bool, MP.g_max, MP.g_min, MP.g_lenL, MP.g_lenK, MP.g_lenT, MP.g_listL, MP.g_listK, MP.g_listT, MP.g_tupL, MP.g_tupT, MP.q_list, MP.q_lk, MP.q_tup, MP.g_rng1, MP.g_rng2, MP.g_enumL, MP.g_enumK, MP.g_ixL, MP.g_ixK, MP.g_ixT, MP.g_slL, MP.g_slK, MP.g_slT, MP.s_Nil, MP.s_Brk, MP.s_Cont, MP.s_Seq, MP.s_xSn, MP.s_xSr, MP.s_xSb, MP.s_xSc, MP.s_xSe, MP.s_Expr, MP.s_xEx, MP.s_SetV, MP.s_xSV, MP.s_SetO, MP.s_xSOs, MP.s_xSOf, MP.s_Ret, MP.s_xRts, MP.s_xRtf, MP.s_RetN, MP.s_RetS, MP.s_xRSo, MP.s_xRSv, MP.s_If, MP.s_xIfT, MP.s_xIfF, MP.s_Tup, MP.s_xTu, MP.s_xTb, MP.s_For, MP.s_xFor, MP.s_App, MP.s_xAp, MP.s_Thaw, MP.s_xTh, MP.s_Frz, MP.s_xFzo, MP.s_xFzv, MP.s_ExprF, MP.s_xEF, MP.s_SetF, MP.s_xSF, MP.s_RetF, MP.s_xRF, MP.s_IfF, MP.s_xIFT, MP.s_xIFF, MP.s_FldN, MP.s_xN, MP.s_xN2, MP.s_xN3, MP.s_put0, MP.s_put1, MP.s_putN, MP.f_P, MP.f_xPs, MP.f_xPf, MP.f_User, MP.f_xFU, MP.f_Meth, MP.f_xM, MP.f_xM2, MP.f_Make, MP.f_xMk, MP.f_xMkF, MP.fe_ok, MP.r_run, MP.r_un, MP.r_un0, MP.r_nx, MP.r_ret, MP.r_exc, MP.t_nx, MP.t_cont, MP.t_brk, MP.t_ret, MP.b_nm, MP.b_tp2, MP.b_tp3, MP.t_bk, MP.fe_pop, MP.s_appF, MP.s_dead, MP.g_divmod, MP.g_sorted, MP.g_allB, MP.g_anyB, MP.g_sumI, MP.g_zipT, MP.g_zipL, MP.e_pZip, MP.e_xZp, MP.g_abs, MP.g_intI, MP.g_intB, MP.g_repT, MP.e_pLRng, MP.e_xLR, MP.f_Pop, MP.f_xPop, MP.s_AppF, MP.s_xAF0, MP.s_xAF, MP.s_xAF2, MP.g_inI, MP.g_ninI, MP.g_inT, MP.g_ninT, MP.g_ninST, MP.e_c2, MP.e_c3, MP.e_c4, MP.e_c5, MP.e_pIsi, List.getElem?_cons_zero, List.getElem?_cons_succ, List.getElem?_nil, List.set_cons_zero, List.set_cons_succ, List.map_cons, List.map_nil, List.length_cons, List.length_nil, List.length_append, List.cons_append, List.nil_append, List.length_map, List.length_singleton, Nat.reduceBEq, Nat.reduceAdd, Nat.reduceSub, Nat.reduceMul, Nat.reduceEqDiff, Nat.reduceLeDiff, Nat.reduceLT, if_false, if_true, ite_true, ite_false, ↓reduceIte, Bool.not_true, Bool.not_false, Bool.false_eq_true, decide_true, decide_false, eq_self, and_true, true_and, and_self, Nat.zero_le, Nat.zero_add, Option.bind_some, Option.bind_none, Nat.lt_irrefl, Int.reduceToNat, Int.reducePow, Int.reduceNeg, Int.reduceMul, Int.reduceAdd, Int.reduceSub, Int.reduceLT, Int.reduceLE, Int.reduceEq, beq_self_eq_true, wipeE, MP.at0, MP.at1, MP.at2, MP.atLit, h1, true_or]
  · by_cases h2 : 1000000000000000000 ≤ c
    · simp (disch := (first | assumption | with_reducible rfl | decide +kernel | exact Or.inl (by decide +kernel) | exact Or.inr (by decide +kernel) | omega | (simp only [List.length_cons, List.length_nil, List.length_append, List.length_map, List.length_replicate, List.length_range] <;> omega) | rfl)) only [MP.of_some, MP.map_some, MP.e_lv, MP.e_lo, MP.e_pD, MP.e_xDs, MP.e_xDf, MP.e_pC, MP.e_pYes, MP.e_pVar, MP.e_p2, MP.e_x2, MP.e_p1, MP.e_x1, MP.e_pB, MP.e_xB, MP.e_pNot, MP.e_xNot, MP.e_pAnd, MP.e_xAndT, MP.e_xAndF, MP.e_pOr, MP.e_xOrT, MP.e_xOrF, MP.e_pAndV, MP.e_xAndVT, MP.e_xAndVF, MP.e_pOrV, MP.e_xOrVT, MP.e_xOrVF, MP.e_pNotV, MP.e_xNotV, MP.e_pIf, MP.e_xIfT, MP.e_xIfF, MP.e_p3, MP.e_x3, MP.e_x3bT, MP.e_x3bF, MP.e_pNil, MP.e_pCons, MP.e_xCons, MP.e_pTup, MP.e_xTp, MP.e_pLst, MP.e_xLs, MP.e_pNo, MP.e_pSome, MP.e_xSo, MP.e_pSl, MP.e_xSl, MP.e_pCall, MP.e_xG, MP.e_pSeq, MP.e_xSq, MP.e_pSeqR, MP.e_xSqR, MP.e_pRng, MP.e_pEnum, MP.e_xEn, MP.e_pComp, MP.e_xC, MP.e_xC2, MP.e_pUser, MP.e_xU, MP.e_xFv, MP.e_xFo, MP.e_xFe, MP.e_pSeal, MP.e_xSe, MP.e_xSeFv, MP.e_xSeFo, MP.e_pLook, MP.e_xLo, MP.e_xLoF, MP.e_pFld, MP.e_xFd, MP.e_xOb, MP.e_xLk0, MP.e_xLk1, MP.e_c0, MP.e_c1, MP.g_add, MP.g_catS, MP.g_catL, MP.g_catT, MP.g_sub, MP.g_mul, MP.g_rep, MP.g_div, MP.g_mod, MP.g_pow, MP.g_shl, MP.g_shr, MP.g_and, MP.g_orI, MP.g_neg, MP.g_lt, MP.g_le, MP.g_gt, MP.g_ge, MP.g_eqI, MP.g_eqS, MP.g_eqBo, MP.g_neI, MP.g_neS, MP.g_neBo, MP.g_is, MP.g_isNot, MP.n_none, MP.n_int, MP.n_str, MP.n_tup, MP.n_list, MP.n_bool, MP.g_max, MP.g_min, MP.g_lenL, MP.g_lenK, MP.g_lenT, MP.g_listL, MP.g_listK, MP.g_listT, MP.g_tupL, MP.g_tupT, MP.q_list, MP.q_lk, MP.q_tup, MP.g_rng1, MP.g_rng2, MP.g_enumL, MP.g_enumK, MP.g_ixL, MP.g_ixK, MP.g_ixT, MP.g_slL, MP.g_slK, MP.g_slT, MP.s_Nil, MP.s_Brk, MP.s_Cont, MP.s_Seq, MP.s_xSn, MP.s_xSr, MP.s_xSb, MP.s_xSc, MP.s_xSe, MP.s_Expr, MP.s_xEx, MP.s_SetV, MP.s_xSV, MP.s_SetO, MP.s_xSOs, MP.s_xSOf, MP.s_Ret, MP.s_xRts, MP.s_xRtf, MP.s_RetN, MP.s_RetS, MP.s_xRSo, MP.s_xRSv, MP.s_If, MP.s_xIfT, MP.s_xIfF, MP.s_Tup, MP.s_xTu, MP.s_xTb, MP.s_For, MP.s_xFor, MP.s_App, MP.s_xAp, MP.s_Thaw, MP.s_xTh, MP.s_Frz, MP.s_xFzo, MP.s_xFzv, MP.s_ExprF, MP.s_xEF, MP.s_SetF, MP.s_xSF, MP.s_RetF, MP.s_xRF, MP.s_IfF, MP.s_xIFT, MP.s_xIFF, MP.s_FldN, MP.s_xN, MP.s_xN2, MP.s_xN3, MP.s_put0, MP.s_put1, MP.s_putN, MP.f_P, MP.f_xPs, MP.f_xPf, MP.f_User, MP.f_xFU, MP.f_Meth, MP.f_xM, MP.f_xM2, MP.f_Make, MP.f_xMk, MP.f_xMkF, MP.fe_ok, MP.r_run, MP.r_un, MP.r_un0, MP.r_nx, MP.r_ret, MP.r_exc, MP.t_nx, MP.t_cont, MP.t_brk, MP.t_ret, MP.b_nm, MP.b_tp2, MP.b_tp3, MP.t_bk, MP.fe_pop, MP.s_appF, MP.s_dead, MP.g_divmod, MP.g_sorted, MP.g_allB, MP.g_anyB, MP.g_sumI, MP.g_zipT, MP.g_zipL, MP.e_pZip, MP.e_xZp, MP.g_abs, MP.g_intI, MP.g_intB, MP.g_repT, MP.e_pLRng, MP.e_xLR, MP.f_Pop, MP.f_xPop, MP.s_AppF, MP.s_xAF0, MP.s_xAF, MP.s_xAF2, MP.g_inI, MP.g_ninI, MP.g_inT, MP.g_ninT, MP.g_ninST, MP.e_c2, MP.e_c3, MP.e_c4, MP.e_c5, MP.e_pIsi, List.getElem?_cons_zero, List.getElem?_cons_succ, List.getElem?_nil, List.set_cons_zero, List.set_cons_succ, List.map_cons, List.map_nil, List.length_cons, List.length_nil, List.length_append, List.cons_append, List.nil_append, List.length_map, List.length_singleton, Nat.reduceBEq, Nat.reduceAdd, Nat.reduceSub, Nat.reduceMul, Nat.reduceEqDiff, Nat.reduceLeDiff, Nat.reduceLT, if_false, if_true, ite_true, ite_false, ↓reduceIte, Bool.not_true, Bool.not_false, Bool.false_eq_true, decide_true, decide_false, eq_self, and_true, true_and, and_self, Nat.zero_le, Nat.zero_add, Option.bind_some, Option.bind_none, Nat.lt_irrefl, Int.reduceToNat, Int.reducePow, Int.reduceNeg, Int.reduceMul, Int.reduceAdd, Int.reduceSub, Int.reduceLT, Int.reduceLE, Int.reduceEq, beq_self_eq_true, wipeE, MP.at0, MP.at1, MP.at2, MP.atLit, h1, h2, or_true]
    · simp (disch := (first | assumption | with_reducible rfl | decide +kernel | exact Or.inl (by decide +kernel) | exact Or.inr (by decide +kernel) | omega | (simp only [List.length_cons, List.length_nil, List.length_append, List.length_map, List.length_replicate, List.length_range] <;> omega) | rfl)) only [MP.of_some, MP.map_some, MP.e_lv, MP.e_lo, MP.e_pD, MP.e_xDs, MP.e_xDf, MP.e_pC, MP.e_pYes, MP.e_pVar, MP.e_p2, MP.e_x2, MP.e_p1, MP.e_x1, MP.e_pB, MP.e_xB, MP.e_pNot, MP.e_xNot, MP.e_pAnd, MP.e_xAndT, MP.e_xAndF, MP.e_pOr, MP.e_xOrT, MP.e_xOrF, MP.e_pAndV, MP.e_xAndVT, MP.e_xAndVF, MP.e_pOrV, MP.e_xOrVT, MP.e_xOrVF, MP.e_pNotV, MP.e_xNotV, MP.e_pIf, MP.e_xIfT, MP.e_xIfF, MP.e_p3, MP.e_x3, MP.e_x3bT, MP.e_x3bF, MP.e_pNil, MP.e_pCons, MP.e_xCons, MP.e_pTup, MP.e_xTp, MP.e_pLst, MP.e_xLs, MP.e_pNo, MP.e_pSome, MP.e_xSo, MP.e_pSl, MP.e_xSl, MP.e_pCall, MP.e_xG, MP.e_pSeq, MP.e_xSq, MP.e_pSeqR, MP.e_xSqR, MP.e_pRng, MP.e_pEnum, MP.e_xEn, MP.e_pComp, MP.e_xC, MP.e_xC2, MP.e_pUser, MP.e_xU, MP.e_xFv, MP.e_xFo, MP.e_xFe, MP.e_pSeal, MP.e_xSe, MP.e_xSeFv, MP.e_xSeFo, MP.e_pLook, MP.e_xLo, MP.e_xLoF, MP.e_pFld, MP.e_xFd, MP.e_xOb, MP.e_xLk0, MP.e_xLk1, MP.e_c0, MP.e_c1, MP.g_add, MP.g_catS, MP.g_catL, MP.g_catT, MP.g_sub, MP.g_mul, MP.g_rep, MP.g_div, MP.g_mod, MP.g_pow, MP.g_shl, MP.g_shr, MP.g_and, MP.g_orI, MP.g_neg, MP.g_lt, MP.g_le, MP.g_gt, MP.g_ge, MP.g_eqI, MP.g_eqS, MP.g_eqBo, MP.g_neI, MP.g_neS, MP.g_neBo, MP.g_is, MP.g_isNot, MP.n_none, MP.n_int, MP.n_str, MP.n_tup, MP.n_list, MP.n_bool, MP.g_max, MP.g_min, MP.g_lenL, MP.g_lenK, MP.g_lenT, MP.g_listL, MP.g_listK, MP.g_listT, MP.g_tupL, MP.g_tupT, MP.q_list, MP.q_lk, MP.q_tup, MP.g_rng1, MP.g_rng2, MP.g_enumL, MP.g_enumK, MP.g_ixL, MP.g_ixK, MP.g_ixT, MP.g_slL, MP.g_slK, MP.g_slT, MP.s_Nil, MP.s_Brk, MP.s_Cont, MP.s_Seq, MP.s_xSn, MP.s_xSr, MP.s_xSb, MP.s_xSc, MP.s_xSe, MP.s_Expr, MP.s_xEx, MP.s_SetV, MP.s_xSV, MP.s_SetO, MP.s_xSOs, MP.s_xSOf, MP.s_Ret, MP.s_xRts, MP.s_xRtf, MP.s_RetN, MP.s_RetS, MP.s_xRSo, MP.s_xRSv, MP.s_If, MP.s_xIfT, MP.s_xIfF, MP.s_Tup, MP.s_xTu, MP.s_xTb, MP.s_For, MP.s_xFor, MP.s_App, MP.s_xAp, MP.s_Thaw, MP.s_xTh, MP.s_Frz, MP.s_xFzo, MP.s_xFzv, MP.s_ExprF, MP.s_xEF, MP.s_SetF, MP.s_xSF, MP.s_RetF, MP.s_xRF, MP.s_IfF, MP.s_xIFT, MP.s_xIFF, MP.s_FldN, MP.s_xN, MP.s_xN2, MP.s_xN3, MP.s_put0, MP.s_put1, MP.s_putN, MP.f_P, MP.f_xPs, MP.f_xPf, MP.f_User, MP.f_xFU, MP.f_Meth, MP.f_xM, MP.f_xM2, MP.f_Make, MP.f_xMk, MP.f_xMkF, MP.fe_ok, MP.r_run, MP.r_un, MP.r_un0, MP.r_nx, MP.r_ret, MP.r_exc, MP.t_nx, MP.t_cont, MP.t_brk, MP.t_ret, MP.b_nm, MP.b_tp2, MP.b_tp3, MP.t_bk, MP.fe_pop, MP.s_appF, MP.s_dead, MP.g_divmod, MP.g_sorted, MP.g_allB, MP.g_anyB, MP.g_sumI, MP.g_zipT, MP.g_zipL, MP.e_pZip, MP.e_xZp, MP.g_abs, MP.g_intI, MP.g_intB, MP.g_repT, MP.e_pLRng, MP.e_xLR, MP.f_Pop, MP.f_xPop, MP.s_AppF, MP.s_xAF0, MP.s_xAF, MP.s_xAF2, MP.g_inI, MP.g_ninI, MP.g_inT, MP.g_ninT, MP.g_ninST, MP.e_c2, MP.e_c3, MP.e_c4, MP.e_c5, MP.e_pIsi, List.getElem?_cons_zero, List.getElem?_cons_succ, List.getElem?_nil, List.set_cons_zero, List.set_cons_succ, List.map_cons, List.map_nil, List.length_cons, List.length_nil, List.length_append, List.cons_append, List.nil_append, List.length_map, List.length_singleton, Nat.reduceBEq, Nat.reduceAdd, Nat.reduceSub, Nat.reduceMul, Nat.reduceEqDiff, Nat.reduceLeDiff, Nat.reduceLT, if_false, if_true, ite_true, ite_false, ↓reduceIte, Bool.not_true, Bool.not_false, Bool.false_eq_true, decide_true, decide_false, eq_self, and_true, true_and, and_self, Nat.zero_le, Nat.zero_add, Option.bind_some, Option.bind_none, Nat.lt_irrefl, Int.reduceToNat, Int.reducePow, Int.reduceNeg, Int.reduceMul, Int.reduceAdd, Int.reduceSub, Int.reduceLT, Int.reduceLE, Int.reduceEq, beq_self_eq_true, wipeE, MP.at0, MP.at1, MP.at2, MP.atLit, h1, h2, or_self, m_stirred]
def zs (ns : List Int) : List D := ns.map D.int
theorem cut_one (ns : List Int) (k : Int) (h : 0 ≤ k) : cutD (zs ns) (some k) (some (k + 1)) = (ns[k.toNat]?.map D.int).toList := by
  rw [cut_eq _ h (by omega), show (k + 1).toNat - k.toNat = 1 by omega]
  unfold zs
  rw [← List.map_drop, ← List.map_take]
  generalize k.toNat = j
  induction ns generalizing j with
  | nil => simp
  | cons n ns ih =>
    cases j with
    | zero => simp
    | succ j => simpa using ih j
theorem m_cell (ns : List Int) (k : Int) (h : 0 ≤ k) : sem_l_cell [.lk (zs ns), .int k] [] = .ok (.v (.int (ns.getD k.toNat 0))) [] := by
  unfold sem_l_cell b_l_cell
  rw [List.getD_eq_getElem?_getD]
  cases e : ns[k.toNat]? with
  | none => simp (disch := (first | assumption | with_reducible rfl | decide +kernel | exact Or.inl (by decide +kernel) | exact Or.inr (by decide +kernel) | omega | (simp only [List.length_cons, List.length_nil, List.length_append, List.length_map, List.length_replicate, List.length_range] <;> omega) | rfl)) only [MP.of_some, MP.map_some, MP.e_lv, MP.e_lo, MP.e_pD, MP.e_xDs, MP.e_xDf, MP.e_pC, MP.e_pYes, MP.e_pVar, MP.e_p2, MP.e_x2, MP.e_p1, MP.e_x1, MP.e_pB, MP.e_xB, MP.e_pNot, MP.e_xNot, MP.e_pAnd, MP.e_xAndT, MP.e_xAndF, MP.e_pOr, MP.e_xOrT, MP.e_xOrF, MP.e_pAndV, MP.e_xAndVT, MP.e_xAndVF, MP.e_pOrV, MP.e_xOrVT, MP.e_xOrVF, MP.e_pNotV, MP.e_xNotV, MP.e_pIf, MP.e_xIfT, MP.e_xIfF, MP.e_p3, MP.e_x3, MP.e_x3bT, MP.e_x3bF, MP.e_pNil, MP.e_pCons, MP.e_xCons, MP.e_pTup, MP.e_xTp, MP.e_pLst, MP.e_xLs, MP.e_pNo, MP.e_pSome, MP.e_xSo, MP.e_pSl, MP.e_xSl, MP.e_pCall, MP.e_xG, MP.e_pSeq, MP.e_xSq, MP.e_pSeqR, MP.e_xSqR, MP.e_pRng, MP.e_pEnum, MP.e_xEn, MP.e_pComp, MP.e_xC, MP.e_xC2, MP.e_pUser, MP.e_xU, MP.e_xFv, MP.e_xFo, MP.e_xFe, MP.e_pSeal, MP.e_xSe, MP.e_xSeFv, MP.e_xSeFo, MP.e_pLook, MP.e_xLo, MP.e_xLoF, MP.e_pFld, MP.e_xFd, MP.e_xOb, MP.e_xLk0, MP.e_xLk1, MP.e_c0, MP.e_c1, MP.g_add, MP.g_catS, MP.g_catL, MP.g_catT, MP.g_sub, MP.g_mul, MP.g_rep, MP.g_div, MP.g_mod, MP.g_pow, MP.g_shl, MP.g_shr, MP.g_and, MP.g_orI, MP.g_neg, MP.g_lt, MP.g_le, MP.g_gt, MP.g_ge, MP.g_eqI, MP.g_eqS, MP.g_eqBo, MP.g_neI, MP.g_neS, MP.g_neBo, MP.g_is, MP.g_isNot, MP.n_none, MP.n_int, MP.n_str, MP.n_tup, MP.n_list, MP.n_bool, MP.g_max, MP.g_min, MP.g_lenL, MP.g_lenK, MP.g_lenT, MP.g_listL, MP.g_listK, MP.g_listT, MP.g_tupL, MP.g_tupT, MP.q_list, MP.q_lk, MP.q_tup, MP.g_rng1, MP.g_rng2, MP.g_enumL, MP.g_enumK, MP.g_ixL, MP.g_ixK, MP.g_ixT, MP.g_slL, MP.g_slK, MP.g_slT, MP.s_Nil, MP.s_Brk, MP.s_Cont, MP.s_Seq, MP.s_xSn, MP.s_xSr, MP.s_xSb, MP.s_xSc, MP.s_xSe, MP.s_Expr, MP.s_xEx, MP.s_SetV, MP.s_xSV, MP.s_SetO, MP.s_xSOs, MP.s_xSOf, MP.s_Ret, MP.s_xRts, MP.s_xRtf, MP.s_RetN, MP.s_RetS, MP.s_xRSo, MP.s_xRSv, MP.s_If, MP.s_xIfT, MP.s_xIfF, MP.s_Tup, MP.s_xTu, MP.s_xTb, MP.s_For, MP.s_xFor, MP.s_App, MP.s_xAp, MP.s_Thaw, MP.s_xTh, MP.s_Frz, MP.s_xFzo, MP.s_xFzv, MP.s_ExprF, MP.s_xEF, MP.s_SetF, MP.s_xSF, MP.s_RetF, MP.s_xRF, MP.s_IfF, MP.s_xIFT, MP.s_xIFF, MP.s_FldN, MP.s_xN, MP.s_xN2, MP.s_xN3, MP.s_put0, MP.s_put1, MP.s_putN, MP.f_P, MP.f_xPs, MP.f_xPf, MP.f_User, MP.f_xFU, MP.f_Meth, MP.f_xM, MP.f_xM2, MP.f_Make, MP.f_xMk, MP.f_xMkF, MP.fe_ok, MP.r_run, MP.r_un, MP.r_un0, MP.r_nx, MP.r_ret, MP.r_exc, MP.t_nx, MP.t_cont, MP.t_brk, MP.t_ret, MP.b_nm, MP.b_tp2, MP.b_tp3, MP.t_bk, MP.fe_pop, MP.s_appF, MP.s_dead, MP.g_divmod, MP.g_sorted, MP.g_allB, MP.g_anyB, MP.g_sumI, MP.g_zipT, MP.g_zipL, MP.e_pZip, MP.e_xZp, MP.g_abs, MP.g_intI, MP.g_intB, MP.g_repT, MP.e_pLRng, MP.e_xLR, MP.f_Pop, MP.f_xPop, MP.s_AppF, MP.s_xAF0, MP.s_xAF, MP.s_xAF2, MP.g_inI, MP.g_ninI, MP.g_inT, MP.g_ninT, MP.g_ninST, MP.e_c2, MP.e_c3, MP.e_c4, MP.e_c5, MP.e_pIsi, List.getElem?_cons_zero, List.getElem?_cons_succ, List.getElem?_nil, List.set_cons_zero, List.set_cons_succ, List.map_cons, List.map_nil, List.length_cons, List.length_nil, List.length_append, List.cons_append, List.nil_append, List.length_map, List.length_singleton, Nat.reduceBEq, Nat.reduceAdd, Nat.reduceSub, Nat.reduceMul, Nat.reduceEqDiff, Nat.reduceLeDiff, Nat.reduceLT, if_false, if_true, ite_true, ite_false, ↓reduceIte, Bool.not_true, Bool.not_false, Bool.false_eq_true, decide_true, decide_false, eq_self, and_true, true_and, and_self, Nat.zero_le, Nat.zero_add, Option.bind_some, Option.bind_none, Nat.lt_irrefl, Int.reduceToNat, Int.reducePow, Int.reduceNeg, Int.reduceMul, Int.reduceAdd, Int.reduceSub, Int.reduceLT, Int.reduceLE, Int.reduceEq, beq_self_eq_true, wipeE, MP.at0, MP.at1, MP.at2, MP.atLit, cut_one ns k h, e, Option.map_none, Option.toList, Option.getD_none]
  | some v => simp (disch := (first | assumption | with_reducible rfl | decide +kernel | exact Or.inl (by decide +kernel) | exact Or.inr (by decide +kernel) | omega | (simp only [List.length_cons, List.length_nil, List.length_append, List.length_map, List.length_replicate, List.length_range] <;> omega) | rfl)) only [MP.of_some, MP.map_some, MP.e_lv, MP.e_lo, MP.e_pD, MP.e_xDs, MP.e_xDf, MP.e_pC, MP.e_pYes, MP.e_pVar, MP.e_p2, MP.e_x2, MP.e_p1, MP.e_x1, MP.e_pB, MP.e_xB, MP.e_pNot, MP.e_xNot, MP.e_pAnd, MP.e_xAndT, MP.e_xAndF, MP.e_pOr, MP.e_xOrT, MP.e_xOrF, MP.e_pAndV, MP.e_xAndVT, MP.e_xAndVF, MP.e_pOrV, MP.e_xOrVT, MP.e_xOrVF, MP.e_pNotV, MP.e_xNotV, MP.e_pIf, MP.e_xIfT, MP.e_xIfF, MP.e_p3, MP.e_x3, MP.e_x3bT, MP.e_x3bF, MP.e_pNil, MP.e_pCons, MP.e_xCons, MP.e_pTup, MP.e_xTp, MP.e_pLst, MP.e_xLs, MP.e_pNo, MP.e_pSome, MP.e_xSo, MP.e_pSl, MP.e_xSl, MP.e_pCall, MP.e_xG, MP.e_pSeq, MP.e_xSq, MP.e_pSeqR, MP.e_xSqR, MP.e_pRng, MP.e_pEnum, MP.e_xEn, MP.e_pComp, MP.e_xC, MP.e_xC2, MP.e_pUser, MP.e_xU, MP.e_xFv, MP.e_xFo, MP.e_xFe, MP.e_pSeal, MP.e_xSe, MP.e_xSeFv, MP.e_xSeFo, MP.e_pLook, MP.e_xLo, MP.e_xLoF, MP.e_pFld, MP.e_xFd, MP.e_xOb, MP.e_xLk0, MP.e_xLk1, MP.e_c0, MP.e_c1, MP.g_add, MP.g_catS, MP.g_catL, MP.g_catT, MP.g_sub, MP.g_mul, MP.g_rep, MP.g_div, MP.g_mod, MP.g_pow, MP.g_shl, MP.g_shr, MP.g_and, MP.g_orI, MP.g_neg, MP.g_lt, MP.g_le, MP.g_gt, MP.g_ge, MP.g_eqI, MP.g_eqS, MP.g_eqBo, MP.g_neI, MP.g_neS, MP.g_neBo, MP.g_is, MP.g_isNot, MP.n_none, MP.n_int, MP.n_str, MP.n_tup, MP.n_list, MP.n_bool, MP.g_max, MP.g_min, MP.g_lenL, MP.g_lenK, MP.g_lenT, MP.g_listL, MP.g_listK, MP.g_listT, MP.g_tupL, MP.g_tupT, MP.q_list, MP.q_lk, MP.q_tup, MP.g_rng1, MP.g_rng2, MP.g_enumL, MP.g_enumK, MP.g_ixL, MP.g_ixK, MP.g_ixT, MP.g_slL, MP.g_slK, MP.g_slT, MP.s_Nil, MP.s_Brk, MP.s_Cont, MP.s_Seq, MP.s_xSn, MP.s_xSr, MP.s_xSb, MP.s_xSc, MP.s_xSe, MP.s_Expr, MP.s_xEx, MP.s_SetV, MP.s_xSV, MP.s_SetO, MP.s_xSOs, MP.s_xSOf, MP.s_Ret, MP.s_xRts, MP.s_xRtf, MP.s_RetN, MP.s_RetS, MP.s_xRSo, MP.s_xRSv, MP.s_If, MP.s_xIfT, MP.s_xIfF, MP.s_Tup, MP.s_xTu, MP.s_xTb, MP.s_For, MP.s_xFor, MP.s_App, MP.s_xAp, MP.s_Thaw, MP.s_xTh, MP.s_Frz, MP.s_xFzo, MP.s_xFzv, MP.s_ExprF, MP.s_xEF, MP.s_SetF, MP.s_xSF, MP.s_RetF, MP.s_xRF, MP.s_IfF, MP.s_xIFT, MP.s_xIFF, MP.s_FldN, MP.s_xN, MP.s_xN2, MP.s_xN3, MP.s_put0, MP.s_put1, MP.s_putN, MP.f_P, MP.f_xPs, MP.f_xPf, MP.f_User, MP.f_xFU, MP.f_Meth, MP.f_xM, MP.f_xM2, MP.f_Make, MP.f_xMk, MP.f_xMkF, MP.fe_ok, MP.r_run, MP.r_un, MP.r_un0, MP.r_nx, MP.r_ret, MP.r_exc, MP.t_nx, MP.t_cont, MP.t_brk, MP.t_ret, MP.b_nm, MP.b_tp2, MP.b_tp3, MP.t_bk, MP.fe_pop, MP.s_appF, MP.s_dead, MP.g_divmod, MP.g_sorted, MP.g_allB, MP.g_anyB, MP.g_sumI, MP.g_zipT, MP.g_zipL, MP.e_pZip, MP.e_xZp, MP.g_abs, MP.g_intI, MP.g_intB, MP.g_repT, MP.e_pLRng, MP.e_xLR, MP.f_Pop, MP.f_xPop, MP.s_AppF, MP.s_xAF0, MP.s_xAF, MP.s_xAF2, MP.g_inI, MP.g_ninI, MP.g_inT, MP.g_ninT, MP.g_ninST, MP.e_c2, MP.e_c3, MP.e_c4, MP.e_c5, MP.e_pIsi, List.getElem?_cons_zero, List.getElem?_cons_succ, List.getElem?_nil, List.set_cons_zero, List.set_cons_succ, List.map_cons, List.map_nil, List.length_cons, List.length_nil, List.length_append, List.cons_append, List.nil_append, List.length_map, List.length_singleton, Nat.reduceBEq, Nat.reduceAdd, Nat.reduceSub, Nat.reduceMul, Nat.reduceEqDiff, Nat.reduceLeDiff, Nat.reduceLT, if_false, if_true, ite_true, ite_false, ↓reduceIte, Bool.not_true, Bool.not_false, Bool.false_eq_true, decide_true, decide_false, eq_self, and_true, true_and, and_self, Nat.zero_le, Nat.zero_add, Option.bind_some, Option.bind_none, Nat.lt_irrefl, Int.reduceToNat, Int.reducePow, Int.reduceNeg, Int.reduceMul, Int.reduceAdd, Int.reduceSub, Int.reduceLT, Int.reduceLE, Int.reduceEq, beq_self_eq_true, wipeE, MP.at0, MP.at1, MP.at2, MP.atLit, cut_one ns k h, e, Option.map_some, Option.toList, Option.getD_some]
theorem zs_at (xs : List Int) (i : Nat) (h : i < xs.length) : (zs xs)[i]? = some (.int (xs.getD i 0)) := by
  unfold zs
  rw [List.getElem?_map, List.getElem?_eq_getElem h, List.getD_eq_getElem?_getD, List.getElem?_eq_getElem h]
  rfl
theorem zs_len (xs : List Int) : (zs xs).length = xs.length := by unfold zs; simp
theorem zs_snoc (xs : List Int) (x : Int) : zs xs ++ [.int x] = zs (xs ++ [x]) := by unfold zs; simp
theorem rng_at (n i : Nat) (d : D) (h : (rng 0 (n : Int))[i]? = some d) : d = .int (i : Int) ∧ i < n := by
  rw [rng_0, List.getElem?_map] at h
  have hi : i < n := by
    by_cases c : i < n
    · exact c
    · rw [List.getElem?_eq_none (by simp; omega)] at h
      cases h
  rw [List.getElem?_range hi] at h
  exact ⟨(Option.some.inj h).symm, hi⟩
theorem rng_len (n : Nat) : (rng 0 (n : Int)).length = n := by rw [rng_0]; simp

theorem m_stream_turn (c : Int) (n k : Nat) (xs : List Int) (l : Int) (x5 x6 : Slot) (hk : k ≤ 1000) (h : xs.length ≤ 1000) : ∃ (x l' : Int) (x6' : Slot),
    lp_l_stream_2 ⟨[.v (.int c), .v (.int n), .own (.list (zs xs)), .v (.int l), .v (.int k), x5, x6], []⟩ = .nx ⟨[.v (.int c), .v (.int n), .own (.list (zs (xs ++ [x]))), .v (.int l'), .v (.int k), .v (.int x), x6'], []⟩ := by
  have hz := zs_len xs
  have e3 : ∃ (y : Int) (x6' : Slot), sFor (pRng gRng1 (pCons (pC (.int 3)) (pNil))) (.nm 6) lp_l_stream_1 ⟨[.v (.int c), .v (.int n), .own (.list (zs xs)), .v (.int l), .v (.int k), .v (.int 0), x6], []⟩ = .nx ⟨[.v (.int c), .v (.int n), .own (.list (zs xs)), .v (.int l), .v (.int k), .v (.int y), x6'], []⟩ := by
    obtain ⟨s', h1, y, x6', rfl⟩ := forE (f := pRng gRng1 (pCons (pC (.int 3)) (pNil))) (t := .nm 6) (g := lp_l_stream_1) (s := ⟨[.v (.int c), .v (.int n), .own (.list (zs xs)), .v (.int l), .v (.int k), .v (.int 0), x6], []⟩) (rng 0 3) (fun i s => ∃ (y : Int) (x6' : Slot), s = ⟨[.v (.int c), .v (.int n), .own (.list (zs xs)), .v (.int l), .v (.int k), .v (.int y), x6'], []⟩) (by simp (disch := (first | assumption | with_reducible rfl | decide +kernel | exact Or.inl (by decide +kernel) | exact Or.inr (by decide +kernel) | omega | (simp only [List.length_cons, List.length_nil, List.length_append, List.length_map, List.length_replicate, List.length_range] <;> omega) | rfl)) only [MP.of_some, MP.map_some, MP.e_lv, MP.e_lo, MP.e_pD, MP.e_xDs, MP.e_xDf, MP.e_pC, MP.e_pYes, MP.e_pVar, MP.e_p2, MP.e_x2, MP.e_p1, MP.e_x1, MP.e_pB, MP.e_xB, MP.e_pNot, MP.e_xNot, MP.e_pAnd, MP.e_xAndT, MP.e_xAndF, MP.e_pOr, MP.e_xOrT, MP.e_xOrF, MP.e_pAndV, MP.e_xAndVT, MP.e_xAndVF, MP.e_pOrV, MP.e_xOrVT, MP.e_xOrVF, MP.e_pNotV, MP.e_xNotV, MP.e_pIf, MP.e_xIfT, MP.e_xIfF, MP.e_p3, MP.e_x3, MP.e_x3bT, MP.e_x3bF, MP.e_pNil, MP.e_pCons, MP.e_xCons, MP.e_pTup, MP.e_xTp, MP.e_pLst, MP.e_xLs, MP.e_pNo, MP.e_pSome, MP.e_xSo, MP.e_pSl, MP.e_xSl, MP.e_pCall, MP.e_xG, MP.e_pSeq, MP.e_xSq, MP.e_pSeqR, MP.e_xSqR, MP.e_pRng, MP.e_pEnum, MP.e_xEn, MP.e_pComp, MP.e_xC, MP.e_xC2, MP.e_pUser, MP.e_xU, MP.e_xFv, MP.e_xFo, MP.e_xFe, MP.e_pSeal, MP.e_xSe, MP.e_xSeFv, MP.e_xSeFo, MP.e_pLook, MP.e_xLo, MP.e_xLoF, MP.e_pFld, MP.e_xFd, MP.e_xOb, MP.e_xLk0, MP.e_xLk1, MP.e_c0, MP.e_c1, MP.g_add, MP.g_catS, MP.g_catL, MP.g_catT, MP.g_sub, MP.g_mul, MP.g_rep, MP.g_div, MP.g_mod, MP.g_pow, MP.g_shl, MP.g_shr, MP.g_and, MP.g_orI, MP.g_neg, MP.g_lt, MP.g_le, MP.g_gt, MP.g_ge, MP.g_eqI, MP.g_eqS, MP.g_eqBo, MP.g_neI, MP.g_neS, MP.g_neBo, MP.g_is, MP.g_isNot, MP.n_none, MP.n_int, MP.n_str, MP.n_tup, MP.n_list, MP.n_bool, MP.g_max, MP.g_min, MP.g_lenL, MP.g_lenK, MP.g_lenT, MP.g_listL, MP.g_listK, MP.g_listT, MP.g_tupL, MP.g_tupT, MP.q_list, MP.q_lk, MP.q_tup, MP.g_rng1, MP.g_rng2, MP.g_enumL, MP.g_enumK, MP.g_ixL, MP.g_ixK, MP.g_ixT, MP.g_slL, MP.g_slK, MP.g_slT, MP.s_Nil, MP.s_Brk, MP.s_Cont, MP.s_Seq, MP.s_xSn, MP.s_xSr, MP.s_xSb, MP.s_xSc, MP.s_xSe, MP.s_Expr, MP.s_xEx, MP.s_SetV, MP.s_xSV, MP.s_SetO, MP.s_xSOs, MP.s_xSOf, MP.s_Ret, MP.s_xRts, MP.s_xRtf, MP.s_RetN, MP.s_RetS, MP.s_xRSo, MP.s_xRSv, MP.s_If, MP.s_xIfT, MP.s_xIfF, MP.s_Tup, MP.s_xTu, MP.s_xTb, MP.s_For, MP.s_xFor, MP.s_App, MP.s_xAp, MP.s_Thaw, MP.s_xTh, MP.s_Frz, MP.s_xFzo, MP.s_xFzv, MP.s_ExprF, MP.s_xEF, MP.s_SetF, MP.s_xSF, MP.s_RetF, MP.s_xRF, MP.s_IfF, MP.s_xIFT, MP.s_xIFF, MP.s_FldN, MP.s_xN, MP.s_xN2, MP.s_xN3, MP.s_put0, MP.s_put1, MP.s_putN, MP.f_P, MP.f_xPs, MP.f_xPf, MP.f_User, MP.f_xFU, MP.f_Meth, MP.f_xM, MP.f_xM2, MP.f_Make, MP.f_xMk, MP.f_xMkF, MP.fe_ok, MP.r_run, MP.r_un, MP.r_un0, MP.r_nx, MP.r_ret, MP.r_exc, MP.t_nx, MP.t_cont, MP.t_brk, MP.t_ret, MP.b_nm, MP.b_tp2, MP.b_tp3, MP.t_bk, MP.fe_pop, MP.s_appF, MP.s_dead, MP.g_divmod, MP.g_sorted, MP.g_allB, MP.g_anyB, MP.g_sumI, MP.g_zipT, MP.g_zipL, MP.e_pZip, MP.e_xZp, MP.g_abs, MP.g_intI, MP.g_intB, MP.g_repT, MP.e_pLRng, MP.e_xLR, MP.f_Pop, MP.f_xPop, MP.s_AppF, MP.s_xAF0, MP.s_xAF, MP.s_xAF2, MP.g_inI, MP.g_ninI, MP.g_inT, MP.g_ninT, MP.g_ninST, MP.e_c2, MP.e_c3, MP.e_c4, MP.e_c5, MP.e_pIsi, List.getElem?_cons_zero, List.getElem?_cons_succ, List.getElem?_nil, List.set_cons_zero, List.set_cons_succ, List.map_cons, List.map_nil, List.length_cons, List.length_nil, List.length_append, List.cons_append, List.nil_append, List.length_map, List.length_singleton, Nat.reduceBEq, Nat.reduceAdd, Nat.reduceSub, Nat.reduceMul, Nat.reduceEqDiff, Nat.reduceLeDiff, Nat.reduceLT, if_false, if_true, ite_true, ite_false, ↓reduceIte, Bool.not_true, Bool.not_false, Bool.false_eq_true, decide_true, decide_false, eq_self, and_true, true_and, and_self, Nat.zero_le, Nat.zero_add, Option.bind_some, Option.bind_none, Nat.lt_irrefl, Int.reduceToNat, Int.reducePow, Int.reduceNeg, Int.reduceMul, Int.reduceAdd, Int.reduceSub, Int.reduceLT, Int.reduceLE, Int.reduceEq, beq_self_eq_true, wipeE, MP.at0, MP.at1, MP.at2, MP.atLit]) ⟨_, _, rfl⟩ (by
      rintro j d s hd ⟨y, x6, rfl⟩
      obtain ⟨rfl, hj⟩ := rngAt hd
      refine ⟨_, b_nm .., ?_⟩
      unfold lp_l_stream_1
      simp (disch := (first | assumption | with_reducible rfl | decide +kernel | exact Or.inl (by decide +kernel) | exact Or.inr (by decide +kernel) | omega | (simp only [List.length_cons, List.length_nil, List.length_append, List.length_map, List.length_replicate, List.length_range] <;> omega) | rfl)) only [MP.of_some, MP.map_some, MP.e_lv, MP.e_lo, MP.e_pD, MP.e_xDs, MP.e_xDf, MP.e_pC, MP.e_pYes, MP.e_pVar, MP.e_p2, MP.e_x2, MP.e_p1, MP.e_x1, MP.e_pB, MP.e_xB, MP.e_pNot, MP.e_xNot, MP.e_pAnd, MP.e_xAndT, MP.e_xAndF, MP.e_pOr, MP.e_xOrT, MP.e_xOrF, MP.e_pAndV, MP.e_xAndVT, MP.e_xAndVF, MP.e_pOrV, MP.e_xOrVT, MP.e_xOrVF, MP.e_pNotV, MP.e_xNotV, MP.e_pIf, MP.e_xIfT, MP.e_xIfF, MP.e_p3, MP.e_x3, MP.e_x3bT, MP.e_x3bF, MP.e_pNil, MP.e_pCons, MP.e_xCons, MP.e_pTup, MP.e_xTp, MP.e_pLst, MP.e_xLs, MP.e_pNo, MP.e_pSome, MP.e_xSo, MP.e_pSl, MP.e_xSl, MP.e_pCall, MP.e_xG, MP.e_pSeq, MP.e_xSq, MP.e_pSeqR, MP.e_xSqR, MP.e_pRng, MP.e_pEnum, MP.e_xEn, MP.e_pComp, MP.e_xC, MP.e_xC2, MP.e_pUser, MP.e_xU, MP.e_xFv, MP.e_xFo, MP.e_xFe, MP.e_pSeal, MP.e_xSe, MP.e_xSeFv, MP.e_xSeFo, MP.e_pLook, MP.e_xLo, MP.e_xLoF, MP.e_pFld, MP.e_xFd, MP.e_xOb, MP.e_xLk0, MP.e_xLk1, MP.e_c0, MP.e_c1, MP.g_add, MP.g_catS, MP.g_catL, MP.g_catT, MP.g_sub, MP.g_mul, MP.g_rep, MP.g_div, MP.g_mod, MP.g_pow, MP.g_shl, MP.g_shr, MP.g_and, MP.g_orI, MP.g_neg, MP.g_lt, MP.g_le, MP.g_gt, MP.g_ge, MP.g_eqI, MP.g_eqS, MP.g_eqBo, MP.g_neI, MP.g_neS, MP.g_neBo, MP.g_is, MP.g_isNot, MP.n_none, MP.n_int, MP.n_str, MP.n_tup, MP.n_list, MP.n_bool, MP.g_max, MP.g_min, MP.g_lenL, MP.g_lenK, MP.g_lenT, MP.g_listL, MP.g_listK, MP.g_listT, MP.g_tupL, MP.g_tupT, MP.q_list, MP.q_lk, MP.q_tup, MP.g_rng1, MP.g_rng2, MP.g_enumL, MP.g_enumK, MP.g_ixL, MP.g_ixK, MP.g_ixT, MP.g_slL, MP.g_slK, MP.g_slT, MP.s_Nil, MP.s_Brk, MP.s_Cont, MP.s_Seq, MP.s_xSn, MP.s_xSr, MP.s_xSb, MP.s_xSc, MP.s_xSe, MP.s_Expr, MP.s_xEx, MP.s_SetV, MP.s_xSV, MP.s_SetO, MP.s_xSOs, MP.s_xSOf, MP.s_Ret, MP.s_xRts, MP.s_xRtf, MP.s_RetN, MP.s_RetS, MP.s_xRSo, MP.s_xRSv, MP.s_If, MP.s_xIfT, MP.s_xIfF, MP.s_Tup, MP.s_xTu, MP.s_xTb, MP.s_For, MP.s_xFor, MP.s_App, MP.s_xAp, MP.s_Thaw, MP.s_xTh, MP.s_Frz, MP.s_xFzo, MP.s_xFzv, MP.s_ExprF, MP.s_xEF, MP.s_SetF, MP.s_xSF, MP.s_RetF, MP.s_xRF, MP.s_IfF, MP.s_xIFT, MP.s_xIFF, MP.s_FldN, MP.s_xN, MP.s_xN2, MP.s_xN3, MP.s_put0, MP.s_put1, MP.s_putN, MP.f_P, MP.f_xPs, MP.f_xPf, MP.f_User, MP.f_xFU, MP.f_Meth, MP.f_xM, MP.f_xM2, MP.f_Make, MP.f_xMk, MP.f_xMkF, MP.fe_ok, MP.r_run, MP.r_un, MP.r_un0, MP.r_nx, MP.r_ret, MP.r_exc, MP.t_nx, MP.t_cont, MP.t_brk, MP.t_ret, MP.b_nm, MP.b_tp2, MP.b_tp3, MP.t_bk, MP.fe_pop, MP.s_appF, MP.s_dead, MP.g_divmod, MP.g_sorted, MP.g_allB, MP.g_anyB, MP.g_sumI, MP.g_zipT, MP.g_zipL, MP.e_pZip, MP.e_xZp, MP.g_abs, MP.g_intI, MP.g_intB, MP.g_repT, MP.e_pLRng, MP.e_xLR, MP.f_Pop, MP.f_xPop, MP.s_AppF, MP.s_xAF0, MP.s_xAF, MP.s_xAF2, MP.g_inI, MP.g_ninI, MP.g_inT, MP.g_ninT, MP.g_ninST, MP.e_c2, MP.e_c3, MP.e_c4, MP.e_c5, MP.e_pIsi, List.getElem?_cons_zero, List.getElem?_cons_succ, List.getElem?_nil, List.set_cons_zero, List.set_cons_succ, List.map_cons, List.map_nil, List.length_cons, List.length_nil, List.length_append, List.cons_append, List.nil_append, List.length_map, List.length_singleton, Nat.reduceBEq, Nat.reduceAdd, Nat.reduceSub, Nat.reduceMul, Nat.reduceEqDiff, Nat.reduceLeDiff, Nat.reduceLT, if_false, if_true, ite_true, ite_false, ↓reduceIte, Bool.not_true, Bool.not_false, Bool.false_eq_true, decide_true, decide_false, eq_self, and_true, true_and, and_self, Nat.zero_le, Nat.zero_add, Option.bind_some, Option.bind_none, Nat.lt_irrefl, Int.reduceToNat, Int.reducePow, Int.reduceNeg, Int.reduceMul, Int.reduceAdd, Int.reduceSub, Int.reduceLT, Int.reduceLE, Int.reduceEq, beq_self_eq_true, wipeE, MP.at0, MP.at1, MP.at2, MP.atLit, m_stirred]
      exact ⟨_, _, rfl⟩)
    exact ⟨_, _, h1⟩
  obtain ⟨y, x6', e3⟩ := e3
  by_cases h1 : 0 < l
  · by_cases h2 : c < 0
    · refine ⟨l % 1000000000000000000000000, l / 1000000000000000000000000, x6', ?_⟩
      unfold lp_l_stream_2
      refine sqX (s' := ⟨[.v (.int c), .v (.int n), .own (.list (zs xs)), .v (.int l), .v (.int k), .v (.int 0), x6], []⟩) (by simp (disch := (first | assumption | with_reducible rfl | decide +kernel | exact Or.inl (by decide +kernel) | exact Or.inr (by decide +kernel) | omega | (simp only [List.length_cons, List.length_nil, List.length_append, List.length_map, List.length_replicate, List.length_range] <;> omega) | rfl)) only [MP.of_some, MP.map_some, MP.e_lv, MP.e_lo, MP.e_pD, MP.e_xDs, MP.e_xDf, MP.e_pC, MP.e_pYes, MP.e_pVar, MP.e_p2, MP.e_x2, MP.e_p1, MP.e_x1, MP.e_pB, MP.e_xB, MP.e_pNot, MP.e_xNot, MP.e_pAnd, MP.e_xAndT, MP.e_xAndF, MP.e_pOr, MP.e_xOrT, MP.e_xOrF, MP.e_pAndV, MP.e_xAndVT, MP.e_xAndVF, MP.e_pOrV, MP.e_xOrVT, MP.e_xOrVF, MP.e_pNotV, MP.e_xNotV, MP.e_pIf, MP.e_xIfT, MP.e_xIfF, MP.e_p3, MP.e_x3, MP.e_x3bT, MP.e_x3bF, MP.e_pNil, MP.e_pCons, MP.e_xCons, MP.e_pTup, MP.e_xTp, MP.e_pLst, MP.e_xLs, MP.e_pNo, MP.e_pSome, MP.e_xSo, MP.e_pSl, MP.e_xSl, MP.e_pCall, MP.e_xG, MP.e_pSeq, MP.e_xSq, MP.e_pSeqR, MP.e_xSqR, MP.e_pRng, MP.e_pEnum, MP.e_xEn, MP.e_pComp, MP.e_xC, MP.e_xC2, MP.e_pUser, MP.e_xU, MP.e_xFv, MP.e_xFo, MP.e_xFe, MP.e_pSeal, MP.e_xSe, MP.e_xSeFv, MP.e_xSeFo, MP.e_pLook, MP.e_xLo, MP.e_xLoF, MP.e_pFld, MP.e_xFd, MP.e_xOb, MP.e_xLk0, MP.e_xLk1, MP.e_c0, MP.e_c1, MP.g_add, MP.g_catS, MP.g_catL, MP.g_catT, MP.g_sub, MP.g_mul, MP.g_rep, MP.g_div, MP.g_mod, MP.g_pow, MP.g_shl, MP.g_shr, MP.g_and, MP.g_orI, MP.g_neg, MP.g_lt, MP.g_le, MP.g_gt, MP.g_ge, MP.g_eqI, MP.g_eqS, MP.g_eqBo, MP.g_neI, MP.g_neS, MP.g_neBo, MP.g_is, MP.g_isNot, MP.n_none, MP.n_int, MP.n_str, MP.n_tup, MP.n_list, MP.n_bool, MP.g_max, MP.g_min, MP.g_lenL, MP.g_lenK, MP.g_lenT, MP.g_listL, MP.g_listK, MP.g_listT, MP.g_tupL, MP.g_tupT, MP.q_list, MP.q_lk, MP.q_tup, MP.g_rng1, MP.g_rng2, MP.g_enumL, MP.g_enumK, MP.g_ixL, MP.g_ixK, MP.g_ixT, MP.g_slL, MP.g_slK, MP.g_slT, MP.s_Nil, MP.s_Brk, MP.s_Cont, MP.s_Seq, MP.s_xSn, MP.s_xSr, MP.s_xSb, MP.s_xSc, MP.s_xSe, MP.s_Expr, MP.s_xEx, MP.s_SetV, MP.s_xSV, MP.s_SetO, MP.s_xSOs, MP.s_xSOf, MP.s_Ret, MP.s_xRts, MP.s_xRtf, MP.s_RetN, MP.s_RetS, MP.s_xRSo, MP.s_xRSv, MP.s_If, MP.s_xIfT, MP.s_xIfF, MP.s_Tup, MP.s_xTu, MP.s_xTb, MP.s_For, MP.s_xFor, MP.s_App, MP.s_xAp, MP.s_Thaw, MP.s_xTh, MP.s_Frz, MP.s_xFzo, MP.s_xFzv, MP.s_ExprF, MP.s_xEF, MP.s_SetF, MP.s_xSF, MP.s_RetF, MP.s_xRF, MP.s_IfF, MP.s_xIFT, MP.s_xIFF, MP.s_FldN, MP.s_xN, MP.s_xN2, MP.s_xN3, MP.s_put0, MP.s_put1, MP.s_putN, MP.f_P, MP.f_xPs, MP.f_xPf, MP.f_User, MP.f_xFU, MP.f_Meth, MP.f_xM, MP.f_xM2, MP.f_Make, MP.f_xMk, MP.f_xMkF, MP.fe_ok, MP.r_run, MP.r_un, MP.r_un0, MP.r_nx, MP.r_ret, MP.r_exc, MP.t_nx, MP.t_cont, MP.t_brk, MP.t_ret, MP.b_nm, MP.b_tp2, MP.b_tp3, MP.t_bk, MP.fe_pop, MP.s_appF, MP.s_dead, MP.g_divmod, MP.g_sorted, MP.g_allB, MP.g_anyB, MP.g_sumI, MP.g_zipT, MP.g_zipL, MP.e_pZip, MP.e_xZp, MP.g_abs, MP.g_intI, MP.g_intB, MP.g_repT, MP.e_pLRng, MP.e_xLR, MP.f_Pop, MP.f_xPop, MP.s_AppF, MP.s_xAF0, MP.s_xAF, MP.s_xAF2, MP.g_inI, MP.g_ninI, MP.g_inT, MP.g_ninT, MP.g_ninST, MP.e_c2, MP.e_c3, MP.e_c4, MP.e_c5, MP.e_pIsi, List.getElem?_cons_zero, List.getElem?_cons_succ, List.getElem?_nil, List.set_cons_zero, List.set_cons_succ, List.map_cons, List.map_nil, List.length_cons, List.length_nil, List.length_append, List.cons_append, List.nil_append, List.length_map, List.length_singleton, Nat.reduceBEq, Nat.reduceAdd, Nat.reduceSub, Nat.reduceMul, Nat.reduceEqDiff, Nat.reduceLeDiff, Nat.reduceLT, if_false, if_true, ite_true, ite_false, ↓reduceIte, Bool.not_true, Bool.not_false, Bool.false_eq_true, decide_true, decide_false, eq_self, and_true, true_and, and_self, Nat.zero_le, Nat.zero_add, Option.bind_some, Option.bind_none, Nat.lt_irrefl, Int.reduceToNat, Int.reducePow, Int.reduceNeg, Int.reduceMul, Int.reduceAdd, Int.reduceSub, Int.reduceLT, Int.reduceLE, Int.reduceEq, beq_self_eq_true, wipeE, MP.at0, MP.at1, MP.at2, MP.atLit]) (sqX e3 ?_)
      simp (disch := (first | assumption | with_reducible rfl | decide +kernel | exact Or.inl (by decide +kernel) | exact Or.inr (by decide +kernel) | omega | (simp only [List.length_cons, List.length_nil, List.length_append, List.length_map, List.length_replicate, List.length_range] <;> omega) | rfl)) only [MP.of_some, MP.map_some, MP.e_lv, MP.e_lo, MP.e_pD, MP.e_xDs, MP.e_xDf, MP.e_pC, MP.e_pYes, MP.e_pVar, MP.e_p2, MP.e_x2, MP.e_p1, MP.e_x1, MP.e_pB, MP.e_xB, MP.e_pNot, MP.e_xNot, MP.e_pAnd, MP.e_xAndT, MP.e_xAndF, MP.e_pOr, MP.e_xOrT, MP.e_xOrF, MP.e_pAndV, MP.e_xAndVT, MP.e_xAndVF, MP.e_pOrV, MP.e_xOrVT, MP.e_xOrVF, MP.e_pNotV, MP.e_xNotV, MP.e_pIf, MP.e_xIfT, MP.e_xIfF, MP.e_p3, MP.e_x3, MP.e_x3bT, MP.e_x3bF, MP.e_pNil, MP.e_pCons, MP.e_xCons, MP.e_pTup, MP.e_xTp, MP.e_pLst, MP.e_xLs, MP.e_pNo, MP.e_pSome, MP.e_xSo, MP.e_pSl, MP.e_xSl, MP.e_pCall, MP.e_xG, MP.e_pSeq, MP.e_xSq, MP.e_pSeqR, MP.e_xSqR, MP.e_pRng, MP.e_pEnum, MP.e_xEn, MP.e_pComp, MP.e_xC, MP.e_xC2, MP.e_pUser, MP.e_xU, MP.e_xFv, MP.e_xFo, MP.e_xFe, MP.e_pSeal, MP.e_xSe, MP.e_xSeFv, MP.e_xSeFo, MP.e_pLook, MP.e_xLo, MP.e_xLoF, MP.e_pFld, MP.e_xFd, MP.e_xOb, MP.e_xLk0, MP.e_xLk1, MP.e_c0, MP.e_c1, MP.g_add, MP.g_catS, MP.g_catL, MP.g_catT, MP.g_sub, MP.g_mul, MP.g_rep, MP.g_div, MP.g_mod, MP.g_pow, MP.g_shl, MP.g_shr, MP.g_and, MP.g_orI, MP.g_neg, MP.g_lt, MP.g_le, MP.g_gt, MP.g_ge, MP.g_eqI, MP.g_eqS, MP.g_eqBo, MP.g_neI, MP.g_neS, MP.g_neBo, MP.g_is, MP.g_isNot, MP.n_none, MP.n_int, MP.n_str, MP.n_tup, MP.n_list, MP.n_bool, MP.g_max, MP.g_min, MP.g_lenL, MP.g_lenK, MP.g_lenT, MP.g_listL, MP.g_listK, MP.g_listT, MP.g_tupL, MP.g_tupT, MP.q_list, MP.q_lk, MP.q_tup, MP.g_rng1, MP.g_rng2, MP.g_enumL, MP.g_enumK, MP.g_ixL, MP.g_ixK, MP.g_ixT, MP.g_slL, MP.g_slK, MP.g_slT, MP.s_Nil, MP.s_Brk, MP.s_Cont, MP.s_Seq, MP.s_xSn, MP.s_xSr, MP.s_xSb, MP.s_xSc, MP.s_xSe, MP.s_Expr, MP.s_xEx, MP.s_SetV, MP.s_xSV, MP.s_SetO, MP.s_xSOs, MP.s_xSOf, MP.s_Ret, MP.s_xRts, MP.s_xRtf, MP.s_RetN, MP.s_RetS, MP.s_xRSo, MP.s_xRSv, MP.s_If, MP.s_xIfT, MP.s_xIfF, MP.s_Tup, MP.s_xTu, MP.s_xTb, MP.s_For, MP.s_xFor, MP.s_App, MP.s_xAp, MP.s_Thaw, MP.s_xTh, MP.s_Frz, MP.s_xFzo, MP.s_xFzv, MP.s_ExprF, MP.s_xEF, MP.s_SetF, MP.s_xSF, MP.s_RetF, MP.s_xRF, MP.s_IfF, MP.s_xIFT, MP.s_xIFF, MP.s_FldN, MP.s_xN, MP.s_xN2, MP.s_xN3, MP.s_put0, MP.s_put1, MP.s_putN, MP.f_P, MP.f_xPs, MP.f_xPf, MP.f_User, MP.f_xFU, MP.f_Meth, MP.f_xM, MP.f_xM2, MP.f_Make, MP.f_xMk, MP.f_xMkF, MP.fe_ok, MP.r_run, MP.r_un, MP.r_un0, MP.r_nx, MP.r_ret, MP.r_exc, MP.t_nx, MP.t_cont, MP.t_brk, MP.t_ret, MP.b_nm, MP.b_tp2, MP.b_tp3, MP.t_bk, MP.fe_pop, MP.s_appF, MP.s_dead, MP.g_divmod, MP.g_sorted, MP.g_allB, MP.g_anyB, MP.g_sumI, MP.g_zipT, MP.g_zipL, MP.e_pZip, MP.e_xZp, MP.g_abs, MP.g_intI, MP.g_intB, MP.g_repT, MP.e_pLRng, MP.e_xLR, MP.f_Pop, MP.f_xPop, MP.s_AppF, MP.s_xAF0, MP.s_xAF, MP.s_xAF2, MP.g_inI, MP.g_ninI, MP.g_inT, MP.g_ninT, MP.g_ninST, MP.e_c2, MP.e_c3, MP.e_c4, MP.e_c5, MP.e_pIsi, List.getElem?_cons_zero, List.getElem?_cons_succ, List.getElem?_nil, List.set_cons_zero, List.set_cons_succ, List.map_cons, List.map_nil, List.length_cons, List.length_nil, List.length_append, List.cons_append, List.nil_append, List.length_map, List.length_singleton, Nat.reduceBEq, Nat.reduceAdd, Nat.reduceSub, Nat.reduceMul, Nat.reduceEqDiff, Nat.reduceLeDiff, Nat.reduceLT, if_false, if_true, ite_true, ite_false, ↓reduceIte, Bool.not_true, Bool.not_false, Bool.false_eq_true, decide_true, decide_false, eq_self, and_true, true_and, and_self, Nat.zero_le, Nat.zero_add, Option.bind_some, Option.bind_none, Nat.lt_irrefl, Int.reduceToNat, Int.reducePow, Int.reduceNeg, Int.reduceMul, Int.reduceAdd, Int.reduceSub, Int.reduceLT, Int.reduceLE, Int.reduceEq, beq_self_eq_true, wipeE, MP.at0, MP.at1, MP.at2, MP.atLit, h1, h2, zs_len, zs_snoc]
    · by_cases h3 : 1000000000000000000 ≤ c
      · refine ⟨l % 1000000000000000000000000, l / 1000000000000000000000000, x6', ?_⟩
        unfold lp_l_stream_2
        refine sqX (s' := ⟨[.v (.int c), .v (.int n), .own (.list (zs xs)), .v (.int l), .v (.int k), .v (.int 0), x6], []⟩) (by simp (disch := (first | assumption | with_reducible rfl | decide +kernel | exact Or.inl (by decide +kernel) | exact Or.inr (by decide +kernel) | omega | (simp only [List.length_cons, List.length_nil, List.length_append, List.length_map, List.length_replicate, List.length_range] <;> omega) | rfl)) only [MP.of_some, MP.map_some, MP.e_lv, MP.e_lo, MP.e_pD, MP.e_xDs, MP.e_xDf, MP.e_pC, MP.e_pYes, MP.e_pVar, MP.e_p2, MP.e_x2, MP.e_p1, MP.e_x1, MP.e_pB, MP.e_xB, MP.e_pNot, MP.e_xNot, MP.e_pAnd, MP.e_xAndT, MP.e_xAndF, MP.e_pOr, MP.e_xOrT, MP.e_xOrF, MP.e_pAndV, MP.e_xAndVT, MP.e_xAndVF, MP.e_pOrV, MP.e_xOrVT, MP.e_xOrVF, MP.e_pNotV, MP.e_xNotV, MP.e_pIf, MP.e_xIfT, MP.e_xIfF, MP.e_p3, MP.e_x3, MP.e_x3bT, MP.e_x3bF, MP.e_pNil, MP.e_pCons, MP.e_xCons, MP.e_pTup, MP.e_xTp, MP.e_pLst, MP.e_xLs, MP.e_pNo, MP.e_pSome, MP.e_xSo, MP.e_pSl, MP.e_xSl, MP.e_pCall, MP.e_xG, MP.e_pSeq, MP.e_xSq, MP.e_pSeqR, MP.e_xSqR, MP.e_pRng, MP.e_pEnum, MP.e_xEn, MP.e_pComp, MP.e_xC, MP.e_xC2, MP.e_pUser, MP.e_xU, MP.e_xFv, MP.e_xFo, MP.e_xFe, MP.e_pSeal, MP.e_xSe, MP.e_xSeFv, MP.e_xSeFo, MP.e_pLook, MP.e_xLo, MP.e_xLoF, MP.e_pFld, MP.e_xFd, MP.e_xOb, MP.e_xLk0, MP.e_xLk1, MP.e_c0, MP.e_c1, MP.g_add, MP.g_catS, MP.g_catL, MP.g_catT, MP.g_sub, MP.g_mul, MP.g_rep, MP.g_div, MP.g_mod, MP.g_pow, MP.g_shl, MP.g_shr, MP.g_and, MP.g_orI, MP.g_neg, MP.g_lt, MP.g_le, MP.g_gt, MP.g_ge, MP.g_eqI, MP.g_eqS, MP.g_eqBo, MP.g_neI, MP.g_neS, MP.g_neBo, MP.g_is, MP.g_isNot, MP.n_none, MP.n_int, MP.n_str, MP.n_tup, MP.n_list, MP.n_bool, MP.g_max, MP.g_min, MP.g_lenL, MP.g_lenK, MP.g_lenT, MP.g_listL, MP.g_listK, MP.g_listT, MP.g_tupL, MP.g_tupT, MP.q_list, MP.q_lk, MP.q_tup, MP.g_rng1, MP.g_rng2, MP.g_enumL, MP.g_enumK, MP.g_ixL, MP.g_ixK, MP.g_ixT, MP.g_slL, MP.g_slK, MP.g_slT, MP.s_Nil, MP.s_Brk, MP.s_Cont, MP.s_Seq, MP.s_xSn, MP.s_xSr, MP.s_xSb, MP.s_xSc, MP.s_xSe, MP.s_Expr, MP.s_xEx, MP.s_SetV, MP.s_xSV, MP.s_SetO, MP.s_xSOs, MP.s_xSOf, MP.s_Ret, MP.s_xRts, MP.s_xRtf, MP.s_RetN, MP.s_RetS, MP.s_xRSo, MP.s_xRSv, MP.s_If, MP.s_xIfT, MP.s_xIfF, MP.s_Tup, MP.s_xTu, MP.s_xTb, MP.s_For, MP.s_xFor, MP.s_App, MP.s_xAp, MP.s_Thaw, MP.s_xTh, MP.s_Frz, MP.s_xFzo, MP.s_xFzv, MP.s_ExprF, MP.s_xEF, MP.s_SetF, MP.s_xSF, MP.s_RetF, MP.s_xRF, MP.s_IfF, MP.s_xIFT, MP.s_xIFF, MP.s_FldN, MP.s_xN, MP.s_xN2, MP.s_xN3, MP.s_put0, MP.s_put1, MP.s_putN, MP.f_P, MP.f_xPs, MP.f_xPf, MP.f_User, MP.f_xFU, MP.f_Meth, MP.f_xM, MP.f_xM2, MP.f_Make, MP.f_xMk, MP.f_xMkF, MP.fe_ok, MP.r_run, MP.r_un, MP.r_un0, MP.r_nx, MP.r_ret, MP.r_exc, MP.t_nx, MP.t_cont, MP.t_brk, MP.t_ret, MP.b_nm, MP.b_tp2, MP.b_tp3, MP.t_bk, MP.fe_pop, MP.s_appF, MP.s_dead, MP.g_divmod, MP.g_sorted, MP.g_allB, MP.g_anyB, MP.g_sumI, MP.g_zipT, MP.g_zipL, MP.e_pZip, MP.e_xZp, MP.g_abs, MP.g_intI, MP.g_intB, MP.g_repT, MP.e_pLRng, MP.e_xLR, MP.f_Pop, MP.f_xPop, MP.s_AppF, MP.s_xAF0, MP.s_xAF, MP.s_xAF2, MP.g_inI, MP.g_ninI, MP.g_inT, MP.g_ninT, MP.g_ninST, MP.e_c2, MP.e_c3, MP.e_c4, MP.e_c5, MP.e_pIsi, List.getElem?_cons_zero, List.getElem?_cons_succ, List.getElem?_nil, List.set_cons_zero, List.set_cons_succ, List.map_cons, List.map_nil, List.length_cons, List.length_nil, List.length_append, List.cons_append, List.nil_append, List.length_map, List.length_singleton, Nat.reduceBEq, Nat.reduceAdd, Nat.reduceSub, Nat.reduceMul, Nat.reduceEqDiff, Nat.reduceLeDiff, Nat.reduceLT, if_false, if_true, ite_true, ite_false, ↓reduceIte, Bool.not_true, Bool.not_false, Bool.false_eq_true, decide_true, decide_false, eq_self, and_true, true_and, and_self, Nat.zero_le, Nat.zero_add, Option.bind_some, Option.bind_none, Nat.lt_irrefl, Int.reduceToNat, Int.reducePow, Int.reduceNeg, Int.reduceMul, Int.reduceAdd, Int.reduceSub, Int.reduceLT, Int.reduceLE, Int.reduceEq, beq_self_eq_true, wipeE, MP.at0, MP.at1, MP.at2, MP.atLit]) (sqX e3 ?_)
        simp (disch := (first | assumption | with_reducible rfl | decide +kernel | exact Or.inl (by decide +kernel) | exact Or.inr (by decide +kernel) | omega | (simp only [List.length_cons, List.length_nil, List.length_append, List.length_map, List.length_replicate, List.length_range] <;> omega) | rfl)) only [MP.of_some, MP.map_some, MP.e_lv, MP.e_lo, MP.e_pD, MP.e_xDs, MP.e_xDf, MP.e_pC, MP.e_pYes, MP.e_pVar, MP.e_p2, MP.e_x2, MP.e_p1, MP.e_x1, MP.e_pB, MP.e_xB, MP.e_pNot, MP.e_xNot, MP.e_pAnd, MP.e_xAndT, MP.e_xAndF, MP.e_pOr, MP.e_xOrT, MP.e_xOrF, MP.e_pAndV, MP.e_xAndVT, MP.e_xAndVF, MP.e_pOrV, MP.e_xOrVT, MP.e_xOrVF, MP.e_pNotV, MP.e_xNotV, MP.e_pIf, MP.e_xIfT, MP.e_xIfF, MP.e_p3, MP.e_x3, MP.e_x3bT, MP.e_x3bF, MP.e_pNil, MP.e_pCons, MP.e_xCons, MP.e_pTup, MP.e_xTp, MP.e_pLst, MP.e_xLs, MP.e_pNo, MP.e_pSome, MP.e_xSo, MP.e_pSl, MP.e_xSl, MP.e_pCall, MP.e_xG, MP.e_pSeq, MP.e_xSq, MP.e_pSeqR, MP.e_xSqR, MP.e_pRng, MP.e_pEnum, MP.e_xEn, MP.e_pComp, MP.e_xC, MP.e_xC2, MP.e_pUser, MP.e_xU, MP.e_xFv, MP.e_xFo, MP.e_xFe, MP.e_pSeal, MP.e_xSe, MP.e_xSeFv, MP.e_xSeFo, MP.e_pLook, MP.e_xLo, MP.e_xLoF, MP.e_pFld, MP.e_xFd, MP.e_xOb, MP.e_xLk0, MP.e_xLk1, MP.e_c0, MP.e_c1, MP.g_add, MP.g_catS, MP.g_catL, MP.g_catT, MP.g_sub, MP.g_mul, MP.g_rep, MP.g_div, MP.g_mod, MP.g_pow, MP.g_shl, MP.g_shr, MP.g_and, MP.g_orI, MP.g_neg, MP.g_lt, MP.g_le, MP.g_gt, MP.g_ge, MP.g_eqI, MP.g_eqS, MP.g_eqBo, MP.g_neI, MP.g_neS, MP.g_neBo, MP.g_is, MP.g_isNot, MP.n_none, MP.n_int, MP.n_str, MP.n_tup, MP.n_list, MP.n_bool, MP.g_max, MP.g_min, MP.g_lenL, MP.g_lenK, MP.g_lenT, MP.g_listL, MP.g_listK, MP.g_listT, MP.g_tupL, MP.g_tupT, MP.q_list, MP.q_lk, MP.q_tup, MP.g_rng1, MP.g_rng2, MP.g_enumL, MP.g_enumK, MP.g_ixL, MP.g_ixK, MP.g_ixT, MP.g_slL, MP.g_slK, MP.g_slT, MP.s_Nil, MP.s_Brk, MP.s_Cont, MP.s_Seq, MP.s_xSn, MP.s_xSr, MP.s_xSb, MP.s_xSc, MP.s_xSe, MP.s_Expr, MP.s_xEx, MP.s_SetV, MP.s_xSV, MP.s_SetO, MP.s_xSOs, MP.s_xSOf, MP.s_Ret, MP.s_xRts, MP.s_xRtf, MP.s_RetN, MP.s_RetS, MP.s_xRSo, MP.s_xRSv, MP.s_If, MP.s_xIfT, MP.s_xIfF, MP.s_Tup, MP.s_xTu, MP.s_xTb, MP.s_For, MP.s_xFor, MP.s_App, MP.s_xAp, MP.s_Thaw, MP.s_xTh, MP.s_Frz, MP.s_xFzo, MP.s_xFzv, MP.s_ExprF, MP.s_xEF, MP.s_SetF, MP.s_xSF, MP.s_RetF, MP.s_xRF, MP.s_IfF, MP.s_xIFT, MP.s_xIFF, MP.s_FldN, MP.s_xN, MP.s_xN2, MP.s_xN3, MP.s_put0, MP.s_put1, MP.s_putN, MP.f_P, MP.f_xPs, MP.f_xPf, MP.f_User, MP.f_xFU, MP.f_Meth, MP.f_xM, MP.f_xM2, MP.f_Make, MP.f_xMk, MP.f_xMkF, MP.fe_ok, MP.r_run, MP.r_un, MP.r_un0, MP.r_nx, MP.r_ret, MP.r_exc, MP.t_nx, MP.t_cont, MP.t_brk, MP.t_ret, MP.b_nm, MP.b_tp2, MP.b_tp3, MP.t_bk, MP.fe_pop, MP.s_appF, MP.s_dead, MP.g_divmod, MP.g_sorted, MP.g_allB, MP.g_anyB, MP.g_sumI, MP.g_zipT, MP.g_zipL, MP.e_pZip, MP.e_xZp, MP.g_abs, MP.g_intI, MP.g_intB, MP.g_repT, MP.e_pLRng, MP.e_xLR, MP.f_Pop, MP.f_xPop, MP.s_AppF, MP.s_xAF0, MP.s_xAF, MP.s_xAF2, MP.g_inI, MP.g_ninI, MP.g_inT, MP.g_ninT, MP.g_ninST, MP.e_c2, MP.e_c3, MP.e_c4, MP.e_c5, MP.e_pIsi, List.getElem?_cons_zero, List.getElem?_cons_succ, List.getElem?_nil, List.set_cons_zero, List.set_cons_succ, List.map_cons, List.map_nil, List.length_cons, List.length_nil, List.length_append, List.cons_append, List.nil_append, List.length_map, List.length_singleton, Nat.reduceBEq, Nat.reduceAdd, Nat.reduceSub, Nat.reduceMul, Nat.reduceEqDiff, Nat.reduceLeDiff, Nat.reduceLT, if_false, if_true, ite_true, ite_false, ↓reduceIte, Bool.not_true, Bool.not_false, Bool.false_eq_true, decide_true, decide_false, eq_self, and_true, true_and, and_self, Nat.zero_le, Nat.zero_add, Option.bind_some, Option.bind_none, Nat.lt_irrefl, Int.reduceToNat, Int.reducePow, Int.reduceNeg, Int.reduceMul, Int.reduceAdd, Int.reduceSub, Int.reduceLT, Int.reduceLE, Int.reduceEq, beq_self_eq_true, wipeE, MP.at0, MP.at1, MP.at2, MP.atLit, h1, h2, h3, zs_len, zs_snoc]
      · refine ⟨y, l, x6', ?_⟩
        unfold lp_l_stream_2
        refine sqX (s' := ⟨[.v (.int c), .v (.int n), .own (.list (zs xs)), .v (.int l), .v (.int k), .v (.int 0), x6], []⟩) (by simp (disch := (first | assumption | with_reducible rfl | decide +kernel | exact Or.inl (by decide +kernel) | exact Or.inr (by decide +kernel) | omega | (simp only [List.length_cons, List.length_nil, List.length_append, List.length_map, List.length_replicate, List.length_range] <;> omega) | rfl)) only [MP.of_some, MP.map_some, MP.e_lv, MP.e_lo, MP.e_pD, MP.e_xDs, MP.e_xDf, MP.e_pC, MP.e_pYes, MP.e_pVar, MP.e_p2, MP.e_x2, MP.e_p1, MP.e_x1, MP.e_pB, MP.e_xB, MP.e_pNot, MP.e_xNot, MP.e_pAnd, MP.e_xAndT, MP.e_xAndF, MP.e_pOr, MP.e_xOrT, MP.e_xOrF, MP.e_pAndV, MP.e_xAndVT, MP.e_xAndVF, MP.e_pOrV, MP.e_xOrVT, MP.e_xOrVF, MP.e_pNotV, MP.e_xNotV, MP.e_pIf, MP.e_xIfT, MP.e_xIfF, MP.e_p3, MP.e_x3, MP.e_x3bT, MP.e_x3bF, MP.e_pNil, MP.e_pCons, MP.e_xCons, MP.e_pTup, MP.e_xTp, MP.e_pLst, MP.e_xLs, MP.e_pNo, MP.e_pSome, MP.e_xSo, MP.e_pSl, MP.e_xSl, MP.e_pCall, MP.e_xG, MP.e_pSeq, MP.e_xSq, MP.e_pSeqR, MP.e_xSqR, MP.e_pRng, MP.e_pEnum, MP.e_xEn, MP.e_pComp, MP.e_xC, MP.e_xC2, MP.e_pUser, MP.e_xU, MP.e_xFv, MP.e_xFo, MP.e_xFe, MP.e_pSeal, MP.e_xSe, MP.e_xSeFv, MP.e_xSeFo, MP.e_pLook, MP.e_xLo, MP.e_xLoF, MP.e_pFld, MP.e_xFd, MP.e_xOb, MP.e_xLk0, MP.e_xLk1, MP.e_c0, MP.e_c1, MP.g_add, MP.g_catS, MP.g_catL, MP.g_catT, MP.g_sub, MP.g_mul, MP.g_rep, MP.g_div, MP.g_mod, MP.g_pow, MP.g_shl, MP.g_shr, MP.g_and, MP.g_orI, MP.g_neg, MP.g_lt, MP.g_le, MP.g_gt, MP.g_ge, MP.g_eqI, MP.g_eqS, MP.g_eqBo, MP.g_neI, MP.g_neS, MP.g_neBo, MP.g_is, MP.g_isNot, MP.n_none, MP.n_int, MP.n_str, MP.n_tup, MP.n_list, MP.n_bool, MP.g_max, MP.g_min, MP.g_lenL, MP.g_lenK, MP.g_lenT, MP.g_listL, MP.g_listK, MP.g_listT, MP.g_tupL, MP.g_tupT, MP.q_list, MP.q_lk, MP.q_tup, MP.g_rng1, MP.g_rng2, MP.g_enumL, MP.g_enumK, MP.g_ixL, MP.g_ixK, MP.g_ixT, MP.g_slL, MP.g_slK, MP.g_slT, MP.s_Nil, MP.s_Brk, MP.s_Cont, MP.s_Seq, MP.s_xSn, MP.s_xSr, MP.s_xSb, MP.s_xSc, MP.s_xSe, MP.s_Expr, MP.s_xEx, MP.s_SetV, MP.s_xSV, MP.s_SetO, MP.s_xSOs, MP.s_xSOf, MP.s_Ret, MP.s_xRts, MP.s_xRtf, MP.s_RetN, MP.s_RetS, MP.s_xRSo, MP.s_xRSv, MP.s_If, MP.s_xIfT, MP.s_xIfF, MP.s_Tup, MP.s_xTu, MP.s_xTb, MP.s_For, MP.s_xFor, MP.s_App, MP.s_xAp, MP.s_Thaw, MP.s_xTh, MP.s_Frz, MP.s_xFzo, MP.s_xFzv, MP.s_ExprF, MP.s_xEF, MP.s_SetF, MP.s_xSF, MP.s_RetF, MP.s_xRF, MP.s_IfF, MP.s_xIFT, MP.s_xIFF, MP.s_FldN, MP.s_xN, MP.s_xN2, MP.s_xN3, MP.s_put0, MP.s_put1, MP.s_putN, MP.f_P, MP.f_xPs, MP.f_xPf, MP.f_User, MP.f_xFU, MP.f_Meth, MP.f_xM, MP.f_xM2, MP.f_Make, MP.f_xMk, MP.f_xMkF, MP.fe_ok, MP.r_run, MP.r_un, MP.r_un0, MP.r_nx, MP.r_ret, MP.r_exc, MP.t_nx, MP.t_cont, MP.t_brk, MP.t_ret, MP.b_nm, MP.b_tp2, MP.b_tp3, MP.t_bk, MP.fe_pop, MP.s_appF, MP.s_dead, MP.g_divmod, MP.g_sorted, MP.g_allB, MP.g_anyB, MP.g_sumI, MP.g_zipT, MP.g_zipL, MP.e_pZip, MP.e_xZp, MP.g_abs, MP.g_intI, MP.g_intB, MP.g_repT, MP.e_pLRng, MP.e_xLR, MP.f_Pop, MP.f_xPop, MP.s_AppF, MP.s_xAF0, MP.s_xAF, MP.s_xAF2, MP.g_inI, MP.g_ninI, MP.g_inT, MP.g_ninT, MP.g_ninST, MP.e_c2, MP.e_c3, MP.e_c4, MP.e_c5, MP.e_pIsi, List.getElem?_cons_zero, List.getElem?_cons_succ, List.getElem?_nil, List.set_cons_zero, List.set_cons_succ, List.map_cons, List.map_nil, List.length_cons, List.length_nil, List.length_append, List.cons_append, List.nil_append, List.length_map, List.length_singleton, Nat.reduceBEq, Nat.reduceAdd, Nat.reduceSub, Nat.reduceMul, Nat.reduceEqDiff, Nat.reduceLeDiff, Nat.reduceLT, if_false, if_true, ite_true, ite_false, ↓reduceIte, Bool.not_true, Bool.not_false, Bool.false_eq_true, decide_true, decide_false, eq_self, and_true, true_and, and_self, Nat.zero_le, Nat.zero_add, Option.bind_some, Option.bind_none, Nat.lt_irrefl, Int.reduceToNat, Int.reducePow, Int.reduceNeg, Int.reduceMul, Int.reduceAdd, Int.reduceSub, Int.reduceLT, Int.reduceLE, Int.reduceEq, beq_self_eq_true, wipeE, MP.at0, MP.at1, MP.at2, MP.atLit]) (sqX e3 ?_)
        simp (disch := (first | assumption | with_reducible rfl | decide +kernel | exact Or.inl (by decide +kernel) | exact Or.inr (by decide +kernel) | omega | (simp only [List.length_cons, List.length_nil, List.length_append, List.length_map, List.length_replicate, List.length_range] <;> omega) | rfl)) only [MP.of_some, MP.map_some, MP.e_lv, MP.e_lo, MP.e_pD, MP.e_xDs, MP.e_xDf, MP.e_pC, MP.e_pYes, MP.e_pVar, MP.e_p2, MP.e_x2, MP.e_p1, MP.e_x1, MP.e_pB, MP.e_xB, MP.e_pNot, MP.e_xNot, MP.e_pAnd, MP.e_xAndT, MP.e_xAndF, MP.e_pOr, MP.e_xOrT, MP.e_xOrF, MP.e_pAndV, MP.e_xAndVT, MP.e_xAndVF, MP.e_pOrV, MP.e_xOrVT, MP.e_xOrVF, MP.e_pNotV, MP.e_xNotV, MP.e_pIf, MP.e_xIfT, MP.e_xIfF, MP.e_p3, MP.e_x3, MP.e_x3bT, MP.e_x3bF, MP.e_pNil, MP.e_pCons, MP.e_xCons, MP.e_pTup, MP.e_xTp, MP.e_pLst, MP.e_xLs, MP.e_pNo, MP.e_pSome, MP.e_xSo, MP.e_pSl, MP.e_xSl, MP.e_pCall, MP.e_xG, MP.e_pSeq, MP.e_xSq, MP.e_pSeqR, MP.e_xSqR, MP.e_pRng, MP.e_pEnum, MP.e_xEn, MP.e_pComp, MP.e_xC, MP.e_xC2, MP.e_pUser, MP.e_xU, MP.e_xFv, MP.e_xFo, MP.e_xFe, MP.e_pSeal, MP.e_xSe, MP.e_xSeFv, MP.e_xSeFo, MP.e_pLook, MP.e_xLo, MP.e_xLoF, MP.e_pFld, MP.e_xFd, MP.e_xOb, MP.e_xLk0, MP.e_xLk1, MP.e_c0, MP.e_c1, MP.g_add, MP.g_catS, MP.g_catL, MP.g_catT, MP.g_sub, MP.g_mul, MP.g_rep, MP.g_div, MP.g_mod, MP.g_pow, MP.g_shl, MP.g_shr, MP.g_and, MP.g_orI, MP.g_neg, MP.g_lt, MP.g_le, MP.g_gt, MP.g_ge, MP.g_eqI, MP.g_eqS, MP.g_eqBo, MP.g_neI, MP.g_neS, MP.g_neBo, MP.g_is, MP.g_isNot, MP.n_none, MP.n_int, MP.n_str, MP.n_tup, MP.n_list, MP.n_bool, MP.g_max, MP.g_min, MP.g_lenL, MP.g_lenK, MP.g_lenT, MP.g_listL, MP.g_listK, MP.g_listT, MP.g_tupL, MP.g_tupT, MP.q_list, MP.q_lk, MP.q_tup, MP.g_rng1, MP.g_rng2, MP.g_enumL, MP.g_enumK, MP.g_ixL, MP.g_ixK, MP.g_ixT, MP.g_slL, MP.g_slK, MP.g_slT, MP.s_Nil, MP.s_Brk, MP.s_Cont, MP.s_Seq, MP.s_xSn, MP.s_xSr, MP.s_xSb, MP.s_xSc, MP.s_xSe, MP.s_Expr, MP.s_xEx, MP.s_SetV, MP.s_xSV, MP.s_SetO, MP.s_xSOs, MP.s_xSOf, MP.s_Ret, MP.s_xRts, MP.s_xRtf, MP.s_RetN, MP.s_RetS, MP.s_xRSo, MP.s_xRSv, MP.s_If, MP.s_xIfT, MP.s_xIfF, MP.s_Tup, MP.s_xTu, MP.s_xTb, MP.s_For, MP.s_xFor, MP.s_App, MP.s_xAp, MP.s_Thaw, MP.s_xTh, MP.s_Frz, MP.s_xFzo, MP.s_xFzv, MP.s_ExprF, MP.s_xEF, MP.s_SetF, MP.s_xSF, MP.s_RetF, MP.s_xRF, MP.s_IfF, MP.s_xIFT, MP.s_xIFF, MP.s_FldN, MP.s_xN, MP.s_xN2, MP.s_xN3, MP.s_put0, MP.s_put1, MP.s_putN, MP.f_P, MP.f_xPs, MP.f_xPf, MP.f_User, MP.f_xFU, MP.f_Meth, MP.f_xM, MP.f_xM2, MP.f_Make, MP.f_xMk, MP.f_xMkF, MP.fe_ok, MP.r_run, MP.r_un, MP.r_un0, MP.r_nx, MP.r_ret, MP.r_exc, MP.t_nx, MP.t_cont, MP.t_brk, MP.t_ret, MP.b_nm, MP.b_tp2, MP.b_tp3, MP.t_bk, MP.fe_pop, MP.s_appF, MP.s_dead, MP.g_divmod, MP.g_sorted, MP.g_allB, MP.g_anyB, MP.g_sumI, MP.g_zipT, MP.g_zipL, MP.e_pZip, MP.e_xZp, MP.g_abs, MP.g_intI, MP.g_intB, MP.g_repT, MP.e_pLRng, MP.e_xLR, MP.f_Pop, MP.f_xPop, MP.s_AppF, MP.s_xAF0, MP.s_xAF, MP.s_xAF2, MP.g_inI, MP.g_ninI, MP.g_inT, MP.g_ninT, MP.g_ninST, MP.e_c2, MP.e_c3, MP.e_c4, MP.e_c5, MP.e_pIsi, List.getElem?_cons_zero, List.getElem?_cons_succ, List.getElem?_nil, List.set_cons_zero, List.set_cons_succ, List.map_cons, List.map_nil, List.length_cons, List.length_nil, List.length_append, List.cons_append, List.nil_append, List.length_map, List.length_singleton, Nat.reduceBEq, Nat.reduceAdd, Nat.reduceSub, Nat.reduceMul, Nat.reduceEqDiff, Nat.reduceLeDiff, Nat.reduceLT, if_false, if_true, ite_true, ite_false, ↓reduceIte, Bool.not_true, Bool.not_false, Bool.false_eq_true, decide_true, decide_false, eq_self, and_true, true_and, and_self, Nat.zero_le, Nat.zero_add, Option.bind_some, Option.bind_none, Nat.lt_irrefl, Int.reduceToNat, Int.reducePow, Int.reduceNeg, Int.reduceMul, Int.reduceAdd, Int.reduceSub, Int.reduceLT, Int.reduceLE, Int.reduceEq, beq_self_eq_true, wipeE, MP.at0, MP.at1, MP.at2, MP.atLit, h1, h2, h3, zs_len, zs_snoc]
  · refine ⟨y, l, x6', ?_⟩
    unfold lp_l_stream_2
    refine sqX (s' := ⟨[.v (.int c), .v (.int n), .own (.list (zs xs)), .v (.int l), .v (.int k), .v (.int 0), x6], []⟩) (by simp (disch := (first | assumption | with_reducible rfl | decide +kernel | exact Or.inl (by decide +kernel) | exact Or.inr (by decide +kernel) | omega | (simp only [List.length_cons, List.length_nil, List.length_append, List.length_map, List.length_replicate, List.length_range] <;> omega) | rfl)) only [MP.of_some, MP.map_some, MP.e_lv, MP.e_lo, MP.e_pD, MP.e_xDs, MP.e_xDf, MP.e_pC, MP.e_pYes, MP.e_pVar, MP.e_p2, MP.e_x2, MP.e_p1, MP.e_x1, MP.e_pB, MP.e_xB, MP.e_pNot, MP.e_xNot, MP.e_pAnd, MP.e_xAndT, MP.e_xAndF, MP.e_pOr, MP.e_xOrT, MP.e_xOrF, MP.e_pAndV, MP.e_xAndVT, MP.e_xAndVF, MP.e_pOrV, MP.e_xOrVT, MP.e_xOrVF, MP.e_pNotV, MP.e_xNotV, MP.e_pIf, MP.e_xIfT, MP.e_xIfF, MP.e_p3, MP.e_x3, MP.e_x3bT, MP.e_x3bF, MP.e_pNil, MP.e_pCons, MP.e_xCons, MP.e_pTup, MP.e_xTp, MP.e_pLst, MP.e_xLs, MP.e_pNo, MP.e_pSome, MP.e_xSo, MP.e_pSl, MP.e_xSl, MP.e_pCall, MP.e_xG, MP.e_pSeq, MP.e_xSq, MP.e_pSeqR, MP.e_xSqR, MP.e_pRng, MP.e_pEnum, MP.e_xEn, MP.e_pComp, MP.e_xC, MP.e_xC2, MP.e_pUser, MP.e_xU, MP.e_xFv, MP.e_xFo, MP.e_xFe, MP.e_pSeal, MP.e_xSe, MP.e_xSeFv, MP.e_xSeFo, MP.e_pLook, MP.e_xLo, MP.e_xLoF, MP.e_pFld, MP.e_xFd, MP.e_xOb, MP.e_xLk0, MP.e_xLk1, MP.e_c0, MP.e_c1, MP.g_add, MP.g_catS, MP.g_catL, MP.g_catT, MP.g_sub, MP.g_mul, MP.g_rep, MP.g_div, MP.g_mod, MP.g_pow, MP.g_shl, MP.g_shr, MP.g_and, MP.g_orI, MP.g_neg, MP.g_lt, MP.g_le, MP.g_gt, MP.g_ge, MP.g_eqI, MP.g_eqS, MP.g_eqBo, MP.g_neI, MP.g_neS, MP.g_neBo, MP.g_is, MP.g_isNot, MP.n_none, MP.n_int, MP.n_str, MP.n_tup, MP.n_list, MP.n_bool, MP.g_max, MP.g_min, MP.g_lenL, MP.g_lenK, MP.g_lenT, MP.g_listL, MP.g_listK, MP.g_listT, MP.g_tupL, MP.g_tupT, MP.q_list, MP.q_lk, MP.q_tup, MP.g_rng1, MP.g_rng2, MP.g_enumL, MP.g_enumK, MP.g_ixL, MP.g_ixK, MP.g_ixT, MP.g_slL, MP.g_slK, MP.g_slT, MP.s_Nil, MP.s_Brk, MP.s_Cont, MP.s_Seq, MP.s_xSn, MP.s_xSr, MP.s_xSb, MP.s_xSc, MP.s_xSe, MP.s_Expr, MP.s_xEx, MP.s_SetV, MP.s_xSV, MP.s_SetO, MP.s_xSOs, MP.s_xSOf, MP.s_Ret, MP.s_xRts, MP.s_xRtf, MP.s_RetN, MP.s_RetS, MP.s_xRSo, MP.s_xRSv, MP.s_If, MP.s_xIfT, MP.s_xIfF, MP.s_Tup, MP.s_xTu, MP.s_xTb, MP.s_For, MP.s_xFor, MP.s_App, MP.s_xAp, MP.s_Thaw, MP.s_xTh, MP.s_Frz, MP.s_xFzo, MP.s_xFzv, MP.s_ExprF, MP.s_xEF, MP.s_SetF, MP.s_xSF, MP.s_RetF, MP.s_xRF, MP.s_IfF, MP.s_xIFT, MP.s_xIFF, MP.s_FldN, MP.s_xN, MP.s_xN2, MP.s_xN3, MP.s_put0, MP.s_put1, MP.s_putN, MP.f_P, MP.f_xPs, MP.f_xPf, MP.f_User, MP.f_xFU, MP.f_Meth, MP.f_xM, MP.f_xM2, MP.f_Make, MP.f_xMk, MP.f_xMkF, MP.fe_ok, MP.r_run, MP.r_un, MP.r_un0, MP.r_nx, MP.r_ret, MP.r_exc, MP.t_nx, MP.t_cont, MP.t_brk, MP.t_ret, MP.b_nm, MP.b_tp2, MP.b_tp3, MP.t_bk, MP.fe_pop, MP.s_appF, MP.s_dead, MP.g_divmod, MP.g_sorted, MP.g_allB, MP.g_anyB, MP.g_sumI, MP.g_zipT, MP.g_zipL, MP.e_pZip, MP.e_xZp, MP.g_abs, MP.g_intI, MP.g_intB, MP.g_repT, MP.e_pLRng, MP.e_xLR, MP.f_Pop, MP.f_xPop, MP.s_AppF, MP.s_xAF0, MP.s_xAF, MP.s_xAF2, MP.g_inI, MP.g_ninI, MP.g_inT, MP.g_ninT, MP.g_ninST, MP.e_c2, MP.e_c3, MP.e_c4, MP.e_c5, MP.e_pIsi, List.getElem?_cons_zero, List.getElem?_cons_succ, List.getElem?_nil, List.set_cons_zero, List.set_cons_succ, List.map_cons, List.map_nil, List.length_cons, List.length_nil, List.length_append, List.cons_append, List.nil_append, List.length_map, List.length_singleton, Nat.reduceBEq, Nat.reduceAdd, Nat.reduceSub, Nat.reduceMul, Nat.reduceEqDiff, Nat.reduceLeDiff, Nat.reduceLT, if_false, if_true, ite_true, ite_false, ↓reduceIte, Bool.not_true, Bool.not_false, Bool.false_eq_true, decide_true, decide_false, eq_self, and_true, true_and, and_self, Nat.zero_le, Nat.zero_add, Option.bind_some, Option.bind_none, Nat.lt_irrefl, Int.reduceToNat, Int.reducePow, Int.reduceNeg, Int.reduceMul, Int.reduceAdd, Int.reduceSub, Int.reduceLT, Int.reduceLE, Int.reduceEq, beq_self_eq_true, wipeE, MP.at0, MP.at1, MP.at2, MP.atLit]) (sqX e3 ?_)
    simp (disch := (first | assumption | with_reducible rfl | decide +kernel | exact Or.inl (by decide +kernel) | exact Or.inr (by decide +kernel) | omega | (simp only [List.length_cons, List.length_nil, List.length_append, List.length_map, List.length_replicate, List.length_range] <;> omega) | rfl)) only [MP.of_some, MP.map_some, MP.e_lv, MP.e_lo, MP.e_pD, MP.e_xDs, MP.e_xDf, MP.e_pC, MP.e_pYes, MP.e_pVar, MP.e_p2, MP.e_x2, MP.e_p1, MP.e_x1, MP.e_pB, MP.e_xB, MP.e_pNot, MP.e_xNot, MP.e_pAnd, MP.e_xAndT, MP.e_xAndF, MP.e_pOr, MP.e_xOrT, MP.e_xOrF, MP.e_pAndV, MP.e_xAndVT, MP.e_xAndVF, MP.e_pOrV, MP.e_xOrVT, MP.e_xOrVF, MP.e_pNotV, MP.e_xNotV, MP.e_pIf, MP.e_xIfT, MP.e_xIfF, MP.e_p3, MP.e_x3, MP.e_x3bT, MP.e_x3bF, MP.e_pNil, MP.e_pCons, MP.e_xCons, MP.e_pTup, MP.e_xTp, MP.e_pLst, MP.e_xLs, MP.e_pNo, MP.e_pSome, MP.e_xSo, MP.e_pSl, MP.e_xSl, MP.e_pCall, MP.e_xG, MP.e_pSeq, MP.e_xSq, MP.e_pSeqR, MP.e_xSqR, MP.e_pRng, MP.e_pEnum, MP.e_xEn, MP.e_pComp, MP.e_xC, MP.e_xC2, MP.e_pUser, MP.e_xU, MP.e_xFv, MP.e_xFo, MP.e_xFe, MP.e_pSeal, MP.e_xSe, MP.e_xSeFv, MP.e_xSeFo, MP.e_pLook, MP.e_xLo, MP.e_xLoF, MP.e_pFld, MP.e_xFd, MP.e_xOb, MP.e_xLk0, MP.e_xLk1, MP.e_c0, MP.e_c1, MP.g_add, MP.g_catS, MP.g_catL, MP.g_catT, MP.g_sub, MP.g_mul, MP.g_rep, MP.g_div, MP.g_mod, MP.g_pow, MP.g_shl, MP.g_shr, MP.g_and, MP.g_orI, MP.g_neg, MP.g_lt, MP.g_le, MP.g_gt, MP.g_ge, MP.g_eqI, MP.g_eqS, MP.g_eqBo, MP.g_neI, MP.g_neS, MP.g_neBo, MP.g_is, MP.g_isNot, MP.n_none, MP.n_int, MP.n_str, MP.n_tup, MP.n_list, MP.n_bool, MP.g_max, MP.g_min, MP.g_lenL, MP.g_lenK, MP.g_lenT, MP.g_listL, MP.g_listK, MP.g_listT, MP.g_tupL, MP.g_tupT, MP.q_list, MP.q_lk, MP.q_tup, MP.g_rng1, MP.g_rng2, MP.g_enumL, MP.g_enumK, MP.g_ixL, MP.g_ixK, MP.g_ixT, MP.g_slL, MP.g_slK, MP.g_slT, MP.s_Nil, MP.s_Brk, MP.s_Cont, MP.s_Seq, MP.s_xSn, MP.s_xSr, MP.s_xSb, MP.s_xSc, MP.s_xSe, MP.s_Expr, MP.s_xEx, MP.s_SetV, MP.s_xSV, MP.s_SetO, MP.s_xSOs, MP.s_xSOf, MP.s_Ret, MP.s_xRts, MP.s_xRtf, MP.s_RetN, MP.s_RetS, MP.s_xRSo, MP.s_xRSv, MP.s_If, MP.s_xIfT, MP.s_xIfF, MP.s_Tup, MP.s_xTu, MP.s_xTb, MP.s_For, MP.s_xFor, MP.s_App, MP.s_xAp, MP.s_Thaw, MP.s_xTh, MP.s_Frz, MP.s_xFzo, MP.s_xFzv, MP.s_ExprF, MP.s_xEF, MP.s_SetF, MP.s_xSF, MP.s_RetF, MP.s_xRF, MP.s_IfF, MP.s_xIFT, MP.s_xIFF, MP.s_FldN, MP.s_xN, MP.s_xN2, MP.s_xN3, MP.s_put0, MP.s_put1, MP.s_putN, MP.f_P, MP.f_xPs, MP.f_xPf, MP.f_User, MP.f_xFU, MP.f_Meth, MP.f_xM, MP.f_xM2, MP.f_Make, MP.f_xMk, MP.f_xMkF, MP.fe_ok, MP.r_run, MP.r_un, MP.r_un0, MP.r_nx, MP.r_ret, MP.r_exc, MP.t_nx, MP.t_cont, MP.t_brk, MP.t_ret, MP.b_nm, MP.b_tp2, MP.b_tp3, MP.t_bk, MP.fe_pop, MP.s_appF, MP.s_dead, MP.g_divmod, MP.g_sorted, MP.g_allB, MP.g_anyB, MP.g_sumI, MP.g_zipT, MP.g_zipL, MP.e_pZip, MP.e_xZp, MP.g_abs, MP.g_intI, MP.g_intB, MP.g_repT, MP.e_pLRng, MP.e_xLR, MP.f_Pop, MP.f_xPop, MP.s_AppF, MP.s_xAF0, MP.s_xAF, MP.s_xAF2, MP.g_inI, MP.g_ninI, MP.g_inT, MP.g_ninT, MP.g_ninST, MP.e_c2, MP.e_c3, MP.e_c4, MP.e_c5, MP.e_pIsi, List.getElem?_cons_zero, List.getElem?_cons_succ, List.getElem?_nil, List.set_cons_zero, List.set_cons_succ, List.map_cons, List.map_nil, List.length_cons, List.length_nil, List.length_append, List.cons_append, List.nil_append, List.length_map, List.length_singleton, Nat.reduceBEq, Nat.reduceAdd, Nat.reduceSub, Nat.reduceMul, Nat.reduceEqDiff, Nat.reduceLeDiff, Nat.reduceLT, if_false, if_true, ite_true, ite_false, ↓reduceIte, Bool.not_true, Bool.not_false, Bool.false_eq_true, decide_true, decide_false, eq_self, and_true, true_and, and_self, Nat.zero_le, Nat.zero_add, Option.bind_some, Option.bind_none, Nat.lt_irrefl, Int.reduceToNat, Int.reducePow, Int.reduceNeg, Int.reduceMul, Int.reduceAdd, Int.reduceSub, Int.reduceLT, Int.reduceLE, Int.reduceEq, beq_self_eq_true, wipeE, MP.at0, MP.at1, MP.at2, MP.atLit, h1, zs_len, zs_snoc]
theorem m_stream (c : Int) (n : Nat) (h : n ≤ 1000) : ∃ xs : List Int, xs.length = n ∧ sem_l_stream [.int c, .int n] [] = .ok (.own (.list (zs xs))) [] := by
  unfold sem_l_stream
  refine run_ex (Q := fun r => ∃ xs : List Int, xs.length = n ∧ r = .ok (.own (.list (zs xs))) []) [.v (.int c), .v (.int n), .un, .un, .un, .un, .un] rfl ?_
  unfold b_l_stream
  refine sq (P := fun fl => ∃ xs : List Int, xs.length = n ∧ fl.fr = .ok (.own (.list (zs xs))) []) (s' := ⟨[.v (.int c), .v (.int n), .own (.list []), .un, .un, .un, .un], []⟩) (by simp (disch := (first | assumption | with_reducible rfl | decide +kernel | exact Or.inl (by decide +kernel) | exact Or.inr (by decide +kernel) | omega | (simp only [List.length_cons, List.length_nil, List.length_append, List.length_map, List.length_replicate, List.length_range] <;> omega) | rfl)) only [MP.of_some, MP.map_some, MP.e_lv, MP.e_lo, MP.e_pD, MP.e_xDs, MP.e_xDf, MP.e_pC, MP.e_pYes, MP.e_pVar, MP.e_p2, MP.e_x2, MP.e_p1, MP.e_x1, MP.e_pB, MP.e_xB, MP.e_pNot, MP.e_xNot, MP.e_pAnd, MP.e_xAndT, MP.e_xAndF, MP.e_pOr, MP.e_xOrT, MP.e_xOrF, MP.e_pAndV, MP.e_xAndVT, MP.e_xAndVF, MP.e_pOrV, MP.e_xOrVT, MP.e_xOrVF, MP.e_pNotV, MP.e_xNotV, MP.e_pIf, MP.e_xIfT, MP.e_xIfF, MP.e_p3, MP.e_x3, MP.e_x3bT, MP.e_x3bF, MP.e_pNil, MP.e_pCons, MP.e_xCons, MP.e_pTup, MP.e_xTp, MP.e_pLst, MP.e_xLs, MP.e_pNo, MP.e_pSome, MP.e_xSo, MP.e_pSl, MP.e_xSl, MP.e_pCall, MP.e_xG, MP.e_pSeq, MP.e_xSq, MP.e_pSeqR, MP.e_xSqR, MP.e_pRng, MP.e_pEnum, MP.e_xEn, MP.e_pComp, MP.e_xC, MP.e_xC2, MP.e_pUser, MP.e_xU, MP.e_xFv, MP.e_xFo, MP.e_xFe, MP.e_pSeal, MP.e_xSe, MP.e_xSeFv, MP.e_xSeFo, MP.e_pLook, MP.e_xLo, MP.e_xLoF, MP.e_pFld, MP.e_xFd, MP.e_xOb, MP.e_xLk0, MP.e_xLk1, MP.e_c0, MP.e_c1, MP.g_add, MP.g_catS, MP.g_catL, MP.g_catT, MP.g_sub, MP.g_mul, MP.g_rep, MP.g_div, MP.g_mod, MP.g_pow, MP.g_shl, MP.g_shr, MP.g_and, MP.g_orI, MP.g_neg, MP.g_lt, MP.g_le, MP.g_gt, MP.g_ge, MP.g_eqI, MP.g_eqS, MP.g_eqBo, MP.g_neI, MP.g_neS, MP.g_neBo, MP.g_is, MP.g_isNot, MP.n_none, MP.n_int, MP.n_str, MP.n_tup, MP.n_list, MP.n_bool, MP.g_max, MP.g_min, MP.g_lenL, MP.g_lenK, MP.g_lenT, MP.g_listL, MP.g_listK, MP.g_listT, MP.g_tupL, MP.g_tupT, MP.q_list, MP.q_lk, MP.q_tup, MP.g_rng1, MP.g_rng2, MP.g_enumL, MP.g_enumK, MP.g_ixL, MP.g_ixK, MP.g_ixT, MP.g_slL, MP.g_slK, MP.g_slT, MP.s_Nil, MP.s_Brk, MP.s_Cont, MP.s_Seq, MP.s_xSn, MP.s_xSr, MP.s_xSb, MP.s_xSc, MP.s_xSe, MP.s_Expr, MP.s_xEx, MP.s_SetV, MP.s_xSV, MP.s_SetO, MP.s_xSOs, MP.s_xSOf, MP.s_Ret, MP.s_xRts, MP.s_xRtf, MP.s_RetN, MP.s_RetS, MP.s_xRSo, MP.s_xRSv, MP.s_If, MP.s_xIfT, MP.s_xIfF, MP.s_Tup, MP.s_xTu, MP.s_xTb, MP.s_For, MP.s_xFor, MP.s_App, MP.s_xAp, MP.s_Thaw, MP.s_xTh, MP.s_Frz, MP.s_xFzo, MP.s_xFzv, MP.s_ExprF, MP.s_xEF, MP.s_SetF, MP.s_xSF, MP.s_RetF, MP.s_xRF, MP.s_IfF, MP.s_xIFT, MP.s_xIFF, MP.s_FldN, MP.s_xN, MP.s_xN2, MP.s_xN3, MP.s_put0, MP.s_put1, MP.s_putN, MP.f_P, MP.f_xPs, MP.f_xPf, MP.f_User, MP.f_xFU, MP.f_Meth, MP.f_xM, MP.f_xM2, MP.f_Make, MP.f_xMk, MP.f_xMkF, MP.fe_ok, MP.r_run, MP.r_un, MP.r_un0, MP.r_nx, MP.r_ret, MP.r_exc, MP.t_nx, MP.t_cont, MP.t_brk, MP.t_ret, MP.b_nm, MP.b_tp2, MP.b_tp3, MP.t_bk, MP.fe_pop, MP.s_appF, MP.s_dead, MP.g_divmod, MP.g_sorted, MP.g_allB, MP.g_anyB, MP.g_sumI, MP.g_zipT, MP.g_zipL, MP.e_pZip, MP.e_xZp, MP.g_abs, MP.g_intI, MP.g_intB, MP.g_repT, MP.e_pLRng, MP.e_xLR, MP.f_Pop, MP.f_xPop, MP.s_AppF, MP.s_xAF0, MP.s_xAF, MP.s_xAF2, MP.g_inI, MP.g_ninI, MP.g_inT, MP.g_ninT, MP.g_ninST, MP.e_c2, MP.e_c3, MP.e_c4, MP.e_c5, MP.e_pIsi, List.getElem?_cons_zero, List.getElem?_cons_succ, List.getElem?_nil, List.set_cons_zero, List.set_cons_succ, List.map_cons, List.map_nil, List.length_cons, List.length_nil, List.length_append, List.cons_append, List.nil_append, List.length_map, List.length_singleton, Nat.reduceBEq, Nat.reduceAdd, Nat.reduceSub, Nat.reduceMul, Nat.reduceEqDiff, Nat.reduceLeDiff, Nat.reduceLT, if_false, if_true, ite_true, ite_false, ↓reduceIte, Bool.not_true, Bool.not_false, Bool.false_eq_true, decide_true, decide_false, eq_self, and_true, true_and, and_self, Nat.zero_le, Nat.zero_add, Option.bind_some, Option.bind_none, Nat.lt_irrefl, Int.reduceToNat, Int.reducePow, Int.reduceNeg, Int.reduceMul, Int.reduceAdd, Int.reduceSub, Int.reduceLT, Int.reduceLE, Int.reduceEq, beq_self_eq_true, wipeE, MP.at0, MP.at1, MP.at2, MP.atLit]) ?_
  refine sq (P := fun fl => ∃ xs : List Int, xs.length = n ∧ fl.fr = .ok (.own (.list (zs xs))) []) (s' := ⟨[.v (.int c), .v (.int n), .own (.list []), .v (.int (if 0 - c > c then 0 - c else c)), .un, .un, .un], []⟩) (by simp (disch := (first | assumption | with_reducible rfl | decide +kernel | exact Or.inl (by decide +kernel) | exact Or.inr (by decide +kernel) | omega | (simp only [List.length_cons, List.length_nil, List.length_append, List.length_map, List.length_replicate, List.length_range] <;> omega) | rfl)) only [MP.of_some, MP.map_some, MP.e_lv, MP.e_lo, MP.e_pD, MP.e_xDs, MP.e_xDf, MP.e_pC, MP.e_pYes, MP.e_pVar, MP.e_p2, MP.e_x2, MP.e_p1, MP.e_x1, MP.e_pB, MP.e_xB, MP.e_pNot, MP.e_xNot, MP.e_pAnd, MP.e_xAndT, MP.e_xAndF, MP.e_pOr, MP.e_xOrT, MP.e_xOrF, MP.e_pAndV, MP.e_xAndVT, MP.e_xAndVF, MP.e_pOrV, MP.e_xOrVT, MP.e_xOrVF, MP.e_pNotV, MP.e_xNotV, MP.e_pIf, MP.e_xIfT, MP.e_xIfF, MP.e_p3, MP.e_x3, MP.e_x3bT, MP.e_x3bF, MP.e_pNil, MP.e_pCons, MP.e_xCons, MP.e_pTup, MP.e_xTp, MP.e_pLst, MP.e_xLs, MP.e_pNo, MP.e_pSome, MP.e_xSo, MP.e_pSl, MP.e_xSl, MP.e_pCall, MP.e_xG, MP.e_pSeq, MP.e_xSq, MP.e_pSeqR, MP.e_xSqR, MP.e_pRng, MP.e_pEnum, MP.e_xEn, MP.e_pComp, MP.e_xC, MP.e_xC2, MP.e_pUser, MP.e_xU, MP.e_xFv, MP.e_xFo, MP.e_xFe, MP.e_pSeal, MP.e_xSe, MP.e_xSeFv, MP.e_xSeFo, MP.e_pLook, MP.e_xLo, MP.e_xLoF, MP.e_pFld, MP.e_xFd, MP.e_xOb, MP.e_xLk0, MP.e_xLk1, MP.e_c0, MP.e_c1, MP.g_add, MP.g_catS, MP.g_catL, MP.g_catT, MP.g_sub, MP.g_mul, MP.g_rep, MP.g_div, MP.g_mod, MP.g_pow, MP.g_shl, MP.g_shr, MP.g_and, MP.g_orI, MP.g_neg, MP.g_lt, MP.g_le, MP.g_gt, MP.g_ge, MP.g_eqI, MP.g_eqS, MP.g_eqBo, MP.g_neI, MP.g_neS, MP.g_neBo, MP.g_is, MP.g_isNot, MP.n_none, MP.n_int, MP.n_str, MP.n_tup, MP.n_list, MP.n_bool, MP.g_max, MP.g_min, MP.g_lenL, MP.g_lenK, MP.g_lenT, MP.g_listL, MP.g_listK, MP.g_listT, MP.g_tupL, MP.g_tupT, MP.q_list, MP.q_lk, MP.q_tup, MP.g_rng1, MP.g_rng2, MP.g_enumL, MP.g_enumK, MP.g_ixL, MP.g_ixK, MP.g_ixT, MP.g_slL, MP.g_slK, MP.g_slT, MP.s_Nil, MP.s_Brk, MP.s_Cont, MP.s_Seq, MP.s_xSn, MP.s_xSr, MP.s_xSb, MP.s_xSc, MP.s_xSe, MP.s_Expr, MP.s_xEx, MP.s_SetV, MP.s_xSV, MP.s_SetO, MP.s_xSOs, MP.s_xSOf, MP.s_Ret, MP.s_xRts, MP.s_xRtf, MP.s_RetN, MP.s_RetS, MP.s_xRSo, MP.s_xRSv, MP.s_If, MP.s_xIfT, MP.s_xIfF, MP.s_Tup, MP.s_xTu, MP.s_xTb, MP.s_For, MP.s_xFor, MP.s_App, MP.s_xAp, MP.s_Thaw, MP.s_xTh, MP.s_Frz, MP.s_xFzo, MP.s_xFzv, MP.s_ExprF, MP.s_xEF, MP.s_SetF, MP.s_xSF, MP.s_RetF, MP.s_xRF, MP.s_IfF, MP.s_xIFT, MP.s_xIFF, MP.s_FldN, MP.s_xN, MP.s_xN2, MP.s_xN3, MP.s_put0, MP.s_put1, MP.s_putN, MP.f_P, MP.f_xPs, MP.f_xPf, MP.f_User, MP.f_xFU, MP.f_Meth, MP.f_xM, MP.f_xM2, MP.f_Make, MP.f_xMk, MP.f_xMkF, MP.fe_ok, MP.r_run, MP.r_un, MP.r_un0, MP.r_nx, MP.r_ret, MP.r_exc, MP.t_nx, MP.t_cont, MP.t_brk, MP.t_ret, MP.b_nm, MP.b_tp2, MP.b_tp3, MP.t_bk, MP.fe_pop, MP.s_appF, MP.s_dead, MP.g_divmod, MP.g_sorted, MP.g_allB, MP.g_anyB, MP.g_sumI, MP.g_zipT, MP.g_zipL, MP.e_pZip, MP.e_xZp, MP.g_abs, MP.g_intI, MP.g_intB, MP.g_repT, MP.e_pLRng, MP.e_xLR, MP.f_Pop, MP.f_xPop, MP.s_AppF, MP.s_xAF0, MP.s_xAF, MP.s_xAF2, MP.g_inI, MP.g_ninI, MP.g_inT, MP.g_ninT, MP.g_ninST, MP.e_c2, MP.e_c3, MP.e_c4, MP.e_c5, MP.e_pIsi, List.getElem?_cons_zero, List.getElem?_cons_succ, List.getElem?_nil, List.set_cons_zero, List.set_cons_succ, List.map_cons, List.map_nil, List.length_cons, List.length_nil, List.length_append, List.cons_append, List.nil_append, List.length_map, List.length_singleton, Nat.reduceBEq, Nat.reduceAdd, Nat.reduceSub, Nat.reduceMul, Nat.reduceEqDiff, Nat.reduceLeDiff, Nat.reduceLT, if_false, if_true, ite_true, ite_false, ↓reduceIte, Bool.not_true, Bool.not_false, Bool.false_eq_true, decide_true, decide_false, eq_self, and_true, true_and, and_self, Nat.zero_le, Nat.zero_add, Option.bind_some, Option.bind_none, Nat.lt_irrefl, Int.reduceToNat, Int.reducePow, Int.reduceNeg, Int.reduceMul, Int.reduceAdd, Int.reduceSub, Int.reduceLT, Int.reduceLE, Int.reduceEq, beq_self_eq_true, wipeE, MP.at0, MP.at1, MP.at2, MP.atLit]) ?_
  refine forP (P := fun fl => ∃ xs : List Int, xs.length = n ∧ fl.fr = .ok (.own (.list (zs xs))) []) (rng 0 (n : Int)) (fun i s => ∃ (xs : List Int) (l : Int) (x4 x5 x6 : Slot), xs.length = i ∧ s = ⟨[.v (.int c), .v (.int n), .own (.list (zs xs)), .v (.int l), x4, x5, x6], []⟩) (by simp (disch := (first | assumption | with_reducible rfl | decide +kernel | exact Or.inl (by decide +kernel) | exact Or.inr (by decide +kernel) | omega | (simp only [List.length_cons, List.length_nil, List.length_append, List.length_map, List.length_replicate, List.length_range] <;> omega) | rfl)) only [MP.of_some, MP.map_some, MP.e_lv, MP.e_lo, MP.e_pD, MP.e_xDs, MP.e_xDf, MP.e_pC, MP.e_pYes, MP.e_pVar, MP.e_p2, MP.e_x2, MP.e_p1, MP.e_x1, MP.e_pB, MP.e_xB, MP.e_pNot, MP.e_xNot, MP.e_pAnd, MP.e_xAndT, MP.e_xAndF, MP.e_pOr, MP.e_xOrT, MP.e_xOrF, MP.e_pAndV, MP.e_xAndVT, MP.e_xAndVF, MP.e_pOrV, MP.e_xOrVT, MP.e_xOrVF, MP.e_pNotV, MP.e_xNotV, MP.e_pIf, MP.e_xIfT, MP.e_xIfF, MP.e_p3, MP.e_x3, MP.e_x3bT, MP.e_x3bF, MP.e_pNil, MP.e_pCons, MP.e_xCons, MP.e_pTup, MP.e_xTp, MP.e_pLst, MP.e_xLs, MP.e_pNo, MP.e_pSome, MP.e_xSo, MP.e_pSl, MP.e_xSl, MP.e_pCall, MP.e_xG, MP.e_pSeq, MP.e_xSq, MP.e_pSeqR, MP.e_xSqR, MP.e_pRng, MP.e_pEnum, MP.e_xEn, MP.e_pComp, MP.e_xC, MP.e_xC2, MP.e_pUser, MP.e_xU, MP.e_xFv, MP.e_xFo, MP.e_xFe, MP.e_pSeal, MP.e_xSe, MP.e_xSeFv, MP.e_xSeFo, MP.e_pLook, MP.e_xLo, MP.e_xLoF, MP.e_pFld, MP.e_xFd, MP.e_xOb, MP.e_xLk0, MP.e_xLk1, MP.e_c0, MP.e_c1, MP.g_add, MP.g_catS, MP.g_catL, MP.g_catT, MP.g_sub, MP.g_mul, MP.g_rep, MP.g_div, MP.g_mod, MP.g_pow, MP.g_shl, MP.g_shr, MP.g_and, MP.g_orI, MP.g_neg, MP.g_lt, MP.g_le, MP.g_gt, MP.g_ge, MP.g_eqI, MP.g_eqS, MP.g_eqBo, MP.g_neI, MP.g_neS, MP.g_neBo, MP.g_is, MP.g_isNot, MP.n_none, MP.n_int, MP.n_str, MP.n_tup, MP.n_list, MP.n_bool, MP.g_max, MP.g_min, MP.g_lenL, MP.g_lenK, MP.g_lenT, MP.g_listL, MP.g_listK, MP.g_listT, MP.g_tupL, MP.g_tupT, MP.q_list, MP.q_lk, MP.q_tup, MP.g_rng1, MP.g_rng2, MP.g_enumL, MP.g_enumK, MP.g_ixL, MP.g_ixK, MP.g_ixT, MP.g_slL, MP.g_slK, MP.g_slT, MP.s_Nil, MP.s_Brk, MP.s_Cont, MP.s_Seq, MP.s_xSn, MP.s_xSr, MP.s_xSb, MP.s_xSc, MP.s_xSe, MP.s_Expr, MP.s_xEx, MP.s_SetV, MP.s_xSV, MP.s_SetO, MP.s_xSOs, MP.s_xSOf, MP.s_Ret, MP.s_xRts, MP.s_xRtf, MP.s_RetN, MP.s_RetS, MP.s_xRSo, MP.s_xRSv, MP.s_If, MP.s_xIfT, MP.s_xIfF, MP.s_Tup, MP.s_xTu, MP.s_xTb, MP.s_For, MP.s_xFor, MP.s_App, MP.s_xAp, MP.s_Thaw, MP.s_xTh, MP.s_Frz, MP.s_xFzo, MP.s_xFzv, MP.s_ExprF, MP.s_xEF, MP.s_SetF, MP.s_xSF, MP.s_RetF, MP.s_xRF, MP.s_IfF, MP.s_xIFT, MP.s_xIFF, MP.s_FldN, MP.s_xN, MP.s_xN2, MP.s_xN3, MP.s_put0, MP.s_put1, MP.s_putN, MP.f_P, MP.f_xPs, MP.f_xPf, MP.f_User, MP.f_xFU, MP.f_Meth, MP.f_xM, MP.f_xM2, MP.f_Make, MP.f_xMk, MP.f_xMkF, MP.fe_ok, MP.r_run, MP.r_un, MP.r_un0, MP.r_nx, MP.r_ret, MP.r_exc, MP.t_nx, MP.t_cont, MP.t_brk, MP.t_ret, MP.b_nm, MP.b_tp2, MP.b_tp3, MP.t_bk, MP.fe_pop, MP.s_appF, MP.s_dead, MP.g_divmod, MP.g_sorted, MP.g_allB, MP.g_anyB, MP.g_sumI, MP.g_zipT, MP.g_zipL, MP.e_pZip, MP.e_xZp, MP.g_abs, MP.g_intI, MP.g_intB, MP.g_repT, MP.e_pLRng, MP.e_xLR, MP.f_Pop, MP.f_xPop, MP.s_AppF, MP.s_xAF0, MP.s_xAF, MP.s_xAF2, MP.g_inI, MP.g_ninI, MP.g_inT, MP.g_ninT, MP.g_ninST, MP.e_c2, MP.e_c3, MP.e_c4, MP.e_c5, MP.e_pIsi, List.getElem?_cons_zero, List.getElem?_cons_succ, List.getElem?_nil, List.set_cons_zero, List.set_cons_succ, List.map_cons, List.map_nil, List.length_cons, List.length_nil, List.length_append, List.cons_append, List.nil_append, List.length_map, List.length_singleton, Nat.reduceBEq, Nat.reduceAdd, Nat.reduceSub, Nat.reduceMul, Nat.reduceEqDiff, Nat.reduceLeDiff, Nat.reduceLT, if_false, if_true, ite_true, ite_false, ↓reduceIte, Bool.not_true, Bool.not_false, Bool.false_eq_true, decide_true, decide_false, eq_self, and_true, true_and, and_self, Nat.zero_le, Nat.zero_add, Option.bind_some, Option.bind_none, Nat.lt_irrefl, Int.reduceToNat, Int.reducePow, Int.reduceNeg, Int.reduceMul, Int.reduceAdd, Int.reduceSub, Int.reduceLT, Int.reduceLE, Int.reduceEq, beq_self_eq_true, wipeE, MP.at0, MP.at1, MP.at2, MP.atLit]) ⟨[], _, _, _, _, rfl, rfl⟩ ?_ ?_
  · rintro k d s hd ⟨xs, l, x4, x5, x6, hx, rfl⟩
    obtain ⟨rfl, hi⟩ := rng_at _ _ _ hd
    obtain ⟨x, l', x6', e⟩ := m_stream_turn c n k xs l x5 x6 (by omega) (by omega)
    refine ⟨_, b_nm .., ?_⟩
    simp (disch := (first | assumption | with_reducible rfl | decide +kernel | exact Or.inl (by decide +kernel) | exact Or.inr (by decide +kernel) | omega | (simp only [List.length_cons, List.length_nil, List.length_append, List.length_map, List.length_replicate, List.length_range] <;> omega) | rfl)) only [MP.of_some, MP.map_some, MP.e_lv, MP.e_lo, MP.e_pD, MP.e_xDs, MP.e_xDf, MP.e_pC, MP.e_pYes, MP.e_pVar, MP.e_p2, MP.e_x2, MP.e_p1, MP.e_x1, MP.e_pB, MP.e_xB, MP.e_pNot, MP.e_xNot, MP.e_pAnd, MP.e_xAndT, MP.e_xAndF, MP.e_pOr, MP.e_xOrT, MP.e_xOrF, MP.e_pAndV, MP.e_xAndVT, MP.e_xAndVF, MP.e_pOrV, MP.e_xOrVT, MP.e_xOrVF, MP.e_pNotV, MP.e_xNotV, MP.e_pIf, MP.e_xIfT, MP.e_xIfF, MP.e_p3, MP.e_x3, MP.e_x3bT, MP.e_x3bF, MP.e_pNil, MP.e_pCons, MP.e_xCons, MP.e_pTup, MP.e_xTp, MP.e_pLst, MP.e_xLs, MP.e_pNo, MP.e_pSome, MP.e_xSo, MP.e_pSl, MP.e_xSl, MP.e_pCall, MP.e_xG, MP.e_pSeq, MP.e_xSq, MP.e_pSeqR, MP.e_xSqR, MP.e_pRng, MP.e_pEnum, MP.e_xEn, MP.e_pComp, MP.e_xC, MP.e_xC2, MP.e_pUser, MP.e_xU, MP.e_xFv, MP.e_xFo, MP.e_xFe, MP.e_pSeal, MP.e_xSe, MP.e_xSeFv, MP.e_xSeFo, MP.e_pLook, MP.e_xLo, MP.e_xLoF, MP.e_pFld, MP.e_xFd, MP.e_xOb, MP.e_xLk0, MP.e_xLk1, MP.e_c0, MP.e_c1, MP.g_add, MP.g_catS, MP.g_catL, MP.g_catT, MP.g_sub, MP.g_mul, MP.g_rep, MP.g_div, MP.g_mod, MP.g_pow, MP.g_shl, MP.g_shr, MP.g_and, MP.g_orI, MP.g_neg, MP.g_lt, MP.g_le, MP.g_gt, MP.g_ge, MP.g_eqI, MP.g_eqS, MP.g_eqBo, MP.g_neI, MP.g_neS, MP.g_neBo, MP.g_is, MP.g_isNot, MP.n_none, MP.n_int, MP.n_str, MP.n_tup, MP.n_list, MP.n_bool, MP.g_max, MP.g_min, MP.g_lenL, MP.g_lenK, MP.g_lenT, MP.g_listL, MP.g_listK, MP.g_listT, MP.g_tupL, MP.g_tupT, MP.q_list, MP.q_lk, MP.q_tup, MP.g_rng1, MP.g_rng2, MP.g_enumL, MP.g_enumK, MP.g_ixL, MP.g_ixK, MP.g_ixT, MP.g_slL, MP.g_slK, MP.g_slT, MP.s_Nil, MP.s_Brk, MP.s_Cont, MP.s_Seq, MP.s_xSn, MP.s_xSr, MP.s_xSb, MP.s_xSc, MP.s_xSe, MP.s_Expr, MP.s_xEx, MP.s_SetV, MP.s_xSV, MP.s_SetO, MP.s_xSOs, MP.s_xSOf, MP.s_Ret, MP.s_xRts, MP.s_xRtf, MP.s_RetN, MP.s_RetS, MP.s_xRSo, MP.s_xRSv, MP.s_If, MP.s_xIfT, MP.s_xIfF, MP.s_Tup, MP.s_xTu, MP.s_xTb, MP.s_For, MP.s_xFor, MP.s_App, MP.s_xAp, MP.s_Thaw, MP.s_xTh, MP.s_Frz, MP.s_xFzo, MP.s_xFzv, MP.s_ExprF, MP.s_xEF, MP.s_SetF, MP.s_xSF, MP.s_RetF, MP.s_xRF, MP.s_IfF, MP.s_xIFT, MP.s_xIFF, MP.s_FldN, MP.s_xN, MP.s_xN2, MP.s_xN3, MP.s_put0, MP.s_put1, MP.s_putN, MP.f_P, MP.f_xPs, MP.f_xPf, MP.f_User, MP.f_xFU, MP.f_Meth, MP.f_xM, MP.f_xM2, MP.f_Make, MP.f_xMk, MP.f_xMkF, MP.fe_ok, MP.r_run, MP.r_un, MP.r_un0, MP.r_nx, MP.r_ret, MP.r_exc, MP.t_nx, MP.t_cont, MP.t_brk, MP.t_ret, MP.b_nm, MP.b_tp2, MP.b_tp3, MP.t_bk, MP.fe_pop, MP.s_appF, MP.s_dead, MP.g_divmod, MP.g_sorted, MP.g_allB, MP.g_anyB, MP.g_sumI, MP.g_zipT, MP.g_zipL, MP.e_pZip, MP.e_xZp, MP.g_abs, MP.g_intI, MP.g_intB, MP.g_repT, MP.e_pLRng, MP.e_xLR, MP.f_Pop, MP.f_xPop, MP.s_AppF, MP.s_xAF0, MP.s_xAF, MP.s_xAF2, MP.g_inI, MP.g_ninI, MP.g_inT, MP.g_ninT, MP.g_ninST, MP.e_c2, MP.e_c3, MP.e_c4, MP.e_c5, MP.e_pIsi, List.getElem?_cons_zero, List.getElem?_cons_succ, List.getElem?_nil, List.set_cons_zero, List.set_cons_succ, List.map_cons, List.map_nil, List.length_cons, List.length_nil, List.length_append, List.cons_append, List.nil_append, List.length_map, List.length_singleton, Nat.reduceBEq, Nat.reduceAdd, Nat.reduceSub, Nat.reduceMul, Nat.reduceEqDiff, Nat.reduceLeDiff, Nat.reduceLT, if_false, if_true, ite_true, ite_false, ↓reduceIte, Bool.not_true, Bool.not_false, Bool.false_eq_true, decide_true, decide_false, eq_self, and_true, true_and, and_self, Nat.zero_le, Nat.zero_add, Option.bind_some, Option.bind_none, Nat.lt_irrefl, Int.reduceToNat, Int.reducePow, Int.reduceNeg, Int.reduceMul, Int.reduceAdd, Int.reduceSub, Int.reduceLT, Int.reduceLE, Int.reduceEq, beq_self_eq_true, wipeE, MP.at0, MP.at1, MP.at2, MP.atLit, e]
    exact ⟨_, _, _, _, _, by simp [hx], rfl⟩
  · rintro s ⟨xs, l, x4, x5, x6, hx, rfl⟩
    rw [rng_len] at hx
    simp (disch := (first | assumption | with_reducible rfl | decide +kernel | exact Or.inl (by decide +kernel) | exact Or.inr (by decide +kernel) | omega | (simp only [List.length_cons, List.length_nil, List.length_append, List.length_map, List.length_replicate, List.length_range] <;> omega) | rfl)) only [MP.of_some, MP.map_some, MP.e_lv, MP.e_lo, MP.e_pD, MP.e_xDs, MP.e_xDf, MP.e_pC, MP.e_pYes, MP.e_pVar, MP.e_p2, MP.e_x2, MP.e_p1, MP.e_x1, MP.e_pB, MP.e_xB, MP.e_pNot, MP.e_xNot, MP.e_pAnd, MP.e_xAndT, MP.e_xAndF, MP.e_pOr, MP.e_xOrT, MP.e_xOrF, MP.e_pAndV, MP.e_xAndVT, MP.e_xAndVF, MP.e_pOrV, MP.e_xOrVT, MP.e_xOrVF, MP.e_pNotV, MP.e_xNotV, MP.e_pIf, MP.e_xIfT, MP.e_xIfF, MP.e_p3, MP.e_x3, MP.e_x3bT, MP.e_x3bF, MP.e_pNil, MP.e_pCons, MP.e_xCons, MP.e_pTup, MP.e_xTp, MP.e_pLst, MP.e_xLs, MP.e_pNo, MP.e_pSome, MP.e_xSo, MP.e_pSl, MP.e_xSl, MP.e_pCall, MP.e_xG, MP.e_pSeq, MP.e_xSq, MP.e_pSeqR, MP.e_xSqR, MP.e_pRng, MP.e_pEnum, MP.e_xEn, MP.e_pComp, MP.e_xC, MP.e_xC2, MP.e_pUser, MP.e_xU, MP.e_xFv, MP.e_xFo, MP.e_xFe, MP.e_pSeal, MP.e_xSe, MP.e_xSeFv, MP.e_xSeFo, MP.e_pLook, MP.e_xLo, MP.e_xLoF, MP.e_pFld, MP.e_xFd, MP.e_xOb, MP.e_xLk0, MP.e_xLk1, MP.e_c0, MP.e_c1, MP.g_add, MP.g_catS, MP.g_catL, MP.g_catT, MP.g_sub, MP.g_mul, MP.g_rep, MP.g_div, MP.g_mod, MP.g_pow, MP.g_shl, MP.g_shr, MP.g_and, MP.g_orI, MP.g_neg, MP.g_lt, MP.g_le, MP.g_gt, MP.g_ge, MP.g_eqI, MP.g_eqS, MP.g_eqBo, MP.g_neI, MP.g_neS, MP.g_neBo, MP.g_is, MP.g_isNot, MP.n_none, MP.n_int, MP.n_str, MP.n_tup, MP.n_list, MP.n_bool, MP.g_max, MP.g_min, MP.g_lenL, MP.g_lenK, MP.g_lenT, MP.g_listL, MP.g_listK, MP.g_listT, MP.g_tupL, MP.g_tupT, MP.q_list, MP.q_lk, MP.q_tup, MP.g_rng1, MP.g_rng2, MP.g_enumL, MP.g_enumK, MP.g_ixL, MP.g_ixK, MP.g_ixT, MP.g_slL, MP.g_slK, MP.g_slT, MP.s_Nil, MP.s_Brk, MP.s_Cont, MP.s_Seq, MP.s_xSn, MP.s_xSr, MP.s_xSb, MP.s_xSc, MP.s_xSe, MP.s_Expr, MP.s_xEx, MP.s_SetV, MP.s_xSV, MP.s_SetO, MP.s_xSOs, MP.s_xSOf, MP.s_Ret, MP.s_xRts, MP.s_xRtf, MP.s_RetN, MP.s_RetS, MP.s_xRSo, MP.s_xRSv, MP.s_If, MP.s_xIfT, MP.s_xIfF, MP.s_Tup, MP.s_xTu, MP.s_xTb, MP.s_For, MP.s_xFor, MP.s_App, MP.s_xAp, MP.s_Thaw, MP.s_xTh, MP.s_Frz, MP.s_xFzo, MP.s_xFzv, MP.s_ExprF, MP.s_xEF, MP.s_SetF, MP.s_xSF, MP.s_RetF, MP.s_xRF, MP.s_IfF, MP.s_xIFT, MP.s_xIFF, MP.s_FldN, MP.s_xN, MP.s_xN2, MP.s_xN3, MP.s_put0, MP.s_put1, MP.s_putN, MP.f_P, MP.f_xPs, MP.f_xPf, MP.f_User, MP.f_xFU, MP.f_Meth, MP.f_xM, MP.f_xM2, MP.f_Make, MP.f_xMk, MP.f_xMkF, MP.fe_ok, MP.r_run, MP.r_un, MP.r_un0, MP.r_nx, MP.r_ret, MP.r_exc, MP.t_nx, MP.t_cont, MP.t_brk, MP.t_ret, MP.b_nm, MP.b_tp2, MP.b_tp3, MP.t_bk, MP.fe_pop, MP.s_appF, MP.s_dead, MP.g_divmod, MP.g_sorted, MP.g_allB, MP.g_anyB, MP.g_sumI, MP.g_zipT, MP.g_zipL, MP.e_pZip, MP.e_xZp, MP.g_abs, MP.g_intI, MP.g_intB, MP.g_repT, MP.e_pLRng, MP.e_xLR, MP.f_Pop, MP.f_xPop, MP.s_AppF, MP.s_xAF0, MP.s_xAF, MP.s_xAF2, MP.g_inI, MP.g_ninI, MP.g_inT, MP.g_ninT, MP.g_ninST, MP.e_c2, MP.e_c3, MP.e_c4, MP.e_c5, MP.e_pIsi, List.getElem?_cons_zero, List.getElem?_cons_succ, List.getElem?_nil, List.set_cons_zero, List.set_cons_succ, List.map_cons, List.map_nil, List.length_cons, List.length_nil, List.length_append, List.cons_append, List.nil_append, List.length_map, List.length_singleton, Nat.reduceBEq, Nat.reduceAdd, Nat.reduceSub, Nat.reduceMul, Nat.reduceEqDiff, Nat.reduceLeDiff, Nat.reduceLT, if_false, if_true, ite_true, ite_false, ↓reduceIte, Bool.not_true, Bool.not_false, Bool.false_eq_true, decide_true, decide_false, eq_self, and_true, true_and, and_self, Nat.zero_le, Nat.zero_add, Option.bind_some, Option.bind_none, Nat.lt_irrefl, Int.reduceToNat, Int.reducePow, Int.reduceNeg, Int.reduceMul, Int.reduceAdd, Int.reduceSub, Int.reduceLT, Int.reduceLE, Int.reduceEq, beq_self_eq_true, wipeE, MP.at0, MP.at1, MP.at2, MP.atLit]
    exact ⟨xs, hx, rfl⟩

def nD (ms : List Nat) : List D := ms.map fun m : Nat => D.int (m : Int)
theorem nD_len (ms : List Nat) : (nD ms).length = ms.length := by unfold nD; simp
theorem rng_nD (n : Nat) : rng 0 (n : Int) = nD (List.range n) := by rw [rng_0]; rfl
/-! ## letters, meanings -/
def abc : Str := "abcdefghijklmnopqrstuvwxyz"
def ltr (n : Nat) : Str := ⟨#[97 + n]⟩
theorem abc_at : ∀ n : Fin 26, atI abc.cps.toList ((n.val : Nat) : Int) = some (97 + n.val) := by decide +kernel
theorem abc_in : ∀ n : Fin 26, decide (97 + n.val ∈ abc.cps.toList) = true := by decide +kernel
theorem ix_abc (n : Nat) (h : n < 26) : gIx (.str "abcdefghijklmnopqrstuvwxyz") (.int (n : Int)) = some ⟨.sh, .str (ltr n)⟩ := by
  have h1 : abc.length ≤ 16777216 := by decide +kernel
  have h2 := abc_at ⟨n, h⟩
  have h3 : gIx (.str abc) (.int (n : Int)) = if abc.length ≤ 16777216 then (atI abc.cps.toList (n : Int)).map (fun c => sh (.str ⟨#[c]⟩)) else none := rfl
  show gIx (.str abc) (.int (n : Int)) = _
  rw [h3, if_pos h1, h2]
  rfl
theorem in_abc (n : Nat) (h : n < 26) : gInS (.str (ltr n)) k_LETTERS = some ⟨.sh, .bool true⟩ := by
  show some (sh (.bool (decide (97 + n ∈ abc.cps.toList)))) = _
  rw [abc_in ⟨n, h⟩]
theorem len_ltr (n : Nat) : gLen [.str (ltr n)] = some ⟨.sh, .int 1⟩ := by
  have h1 : (ltr n).length ≤ 16777216 := by show 1 ≤ 16777216; decide
  have h3 : gLen [.str (ltr n)] = if (ltr n).length ≤ 16777216 then some (sh (.int (ltr n).length)) else none := rfl
  rw [h3, if_pos h1]
  rfl
theorem m_letter (c : Int) : ∃ n, n < 26 ∧ sem_l_letter [.int c] [] = .ok (.v (.str (ltr n))) [] := by
  obtain ⟨n, hn⟩ : ∃ n : Nat, c % 26 = (n : Int) := ⟨(c % 26).toNat, by omega⟩
  have hlt : n < 26 := by omega
  have hx := ix_abc n hlt
  refine ⟨n, hlt, ?_⟩
  unfold sem_l_letter b_l_letter
  simp (disch := (first | assumption | with_reducible rfl | decide +kernel | exact Or.inl (by decide +kernel) | exact Or.inr (by decide +kernel) | omega | (simp only [List.length_cons, List.length_nil, List.length_append, List.length_map, List.length_replicate, List.length_range] <;> omega) | rfl)) only [MP.of_some, MP.map_some, MP.e_lv, MP.e_lo, MP.e_pD, MP.e_xDs, MP.e_xDf, MP.e_pC, MP.e_pYes, MP.e_pVar, MP.e_p2, MP.e_x2, MP.e_p1, MP.e_x1, MP.e_pB, MP.e_xB, MP.e_pNot, MP.e_xNot, MP.e_pAnd, MP.e_xAndT, MP.e_xAndF, MP.e_pOr, MP.e_xOrT, MP.e_xOrF, MP.e_pAndV, MP.e_xAndVT, MP.e_xAndVF, MP.e_pOrV, MP.e_xOrVT, MP.e_xOrVF, MP.e_pNotV, MP.e_xNotV, MP.e_pIf, MP.e_xIfT, MP.e_xIfF, MP.e_p3, MP.e_x3, MP.e_x3bT, MP.e_x3bF, MP.e_pNil, MP.e_pCons, MP.e_xCons, MP.e_pTup, MP.e_xTp, MP.e_pLst, MP.e_xLs, MP.e_pNo, MP.e_pSome, MP.e_xSo, MP.e_pSl, MP.e_xSl, MP.e_pCall, MP.e_xG, MP.e_pSeq, MP.e_xSq, MP.e_pSeqR, MP.e_xSqR, MP.e_pRng, MP.e_pEnum, MP.e_xEn, MP.e_pComp, MP.e_xC, MP.e_xC2, MP.e_pUser, MP.e_xU, MP.e_xFv, MP.e_xFo, MP.e_xFe, MP.e_pSeal, MP.e_xSe, MP.e_xSeFv, MP.e_xSeFo, MP.e_pLook, MP.e_xLo, MP.e_xLoF, MP.e_pFld, MP.e_xFd, MP.e_xOb, MP.e_xLk0, MP.e_xLk1, MP.e_c0, MP.e_c1, MP.g_add, MP.g_catS, MP.g_catL, MP.g_catT, MP.g_sub, MP.g_mul, MP.g_rep, MP.g_div, MP.g_mod, MP.g_pow, MP.g_shl, MP.g_shr, MP.g_and, MP.g_orI, MP.g_neg, MP.g_lt, MP.g_le, MP.g_gt, MP.g_ge, MP.g_eqI, MP.g_eqS, MP.g_eqBo, MP.g_neI, MP.g_neS, MP.g_neBo, MP.g_is, MP.g_isNot, MP.n_none, MP.n_int, MP.n_str, MP.n_tup, MP.n_list, MP.n_bool, MP.g_max, MP.g_min, MP.g_lenL, MP.g_lenK, MP.g_lenT, MP.g_listL, MP.g_listK, MP.g_listT, MP.g_tupL, MP.g_tupT, MP.q_list, MP.q_lk, MP.q_tup, MP.g_rng1, MP.g_rng2, MP.g_enumL, MP.g_enumK, MP.g_ixL, MP.g_ixK, MP.g_ixT, MP.g_slL, MP.g_slK, MP.g_slT, MP.s_Nil, MP.s_Brk, MP.s_Cont, MP.s_Seq, MP.s_xSn, MP.s_xSr, MP.s_xSb, MP.s_xSc, MP.s_xSe, MP.s_Expr, MP.s_xEx, MP.s_SetV, MP.s_xSV, MP.s_SetO, MP.s_xSOs, MP.s_xSOf, MP.s_Ret, MP.s_xRts, MP.s_xRtf, MP.s_RetN, MP.s_RetS, MP.s_xRSo, MP.s_xRSv, MP.s_If, MP.s_xIfT, MP.s_xIfF, MP.s_Tup, MP.s_xTu, MP.s_xTb, MP.s_For, MP.s_xFor, MP.s_App, MP.s_xAp, MP.s_Thaw, MP.s_xTh, MP.s_Frz, MP.s_xFzo, MP.s_xFzv, MP.s_ExprF, MP.s_xEF, MP.s_SetF, MP.s_xSF, MP.s_RetF, MP.s_xRF, MP.s_IfF, MP.s_xIFT, MP.s_xIFF, MP.s_FldN, MP.s_xN, MP.s_xN2, MP.s_xN3, MP.s_put0, MP.s_put1, MP.s_putN, MP.f_P, MP.f_xPs, MP.f_xPf, MP.f_User, MP.f_xFU, MP.f_Meth, MP.f_xM, MP.f_xM2, MP.f_Make, MP.f_xMk, MP.f_xMkF, MP.fe_ok, MP.r_run, MP.r_un, MP.r_un0, MP.r_nx, MP.r_ret, MP.r_exc, MP.t_nx, MP.t_cont, MP.t_brk, MP.t_ret, MP.b_nm, MP.b_tp2, MP.b_tp3, MP.t_bk, MP.fe_pop, MP.s_appF, MP.s_dead, MP.g_divmod, MP.g_sorted, MP.g_allB, MP.g_anyB, MP.g_sumI, MP.g_zipT, MP.g_zipL, MP.e_pZip, MP.e_xZp, MP.g_abs, MP.g_intI, MP.g_intB, MP.g_repT, MP.e_pLRng, MP.e_xLR, MP.f_Pop, MP.f_xPop, MP.s_AppF, MP.s_xAF0, MP.s_xAF, MP.s_xAF2, MP.g_inI, MP.g_ninI, MP.g_inT, MP.g_ninT, MP.g_ninST, MP.e_c2, MP.e_c3, MP.e_c4, MP.e_c5, MP.e_pIsi, List.getElem?_cons_zero, List.getElem?_cons_succ, List.getElem?_nil, List.set_cons_zero, List.set_cons_succ, List.map_cons, List.map_nil, List.length_cons, List.length_nil, List.length_append, List.cons_append, List.nil_append, List.length_map, List.length_singleton, Nat.reduceBEq, Nat.reduceAdd, Nat.reduceSub, Nat.reduceMul, Nat.reduceEqDiff, Nat.reduceLeDiff, Nat.reduceLT, if_false, if_true, ite_true, ite_false, ↓reduceIte, Bool.not_true, Bool.not_false, Bool.false_eq_true, decide_true, decide_false, eq_self, and_true, true_and, and_self, Nat.zero_le, Nat.zero_add, Option.bind_some, Option.bind_none, Nat.lt_irrefl, Int.reduceToNat, Int.reducePow, Int.reduceNeg, Int.reduceMul, Int.reduceAdd, Int.reduceSub, Int.reduceLT, Int.reduceLE, Int.reduceEq, beq_self_eq_true, wipeE, MP.at0, MP.at1, MP.at2, MP.atLit, hn, hx]
theorem m_isletter (n : Nat) (h : n < 26) : sem_is_letter [.str (ltr n)] [] = .ok (.v (.bool true)) [] := by
  have h1 := len_ltr n
  have h2 := in_abc n h
  unfold sem_is_letter b_is_letter
  simp (disch := (first | assumption | with_reducible rfl | decide +kernel | exact Or.inl (by decide +kernel) | exact Or.inr (by decide +kernel) | omega | (simp only [List.length_cons, List.length_nil, List.length_append, List.length_map, List.length_replicate, List.length_range] <;> omega) | rfl)) only [MP.of_some, MP.map_some, MP.e_lv, MP.e_lo, MP.e_pD, MP.e_xDs, MP.e_xDf, MP.e_pC, MP.e_pYes, MP.e_pVar, MP.e_p2, MP.e_x2, MP.e_p1, MP.e_x1, MP.e_pB, MP.e_xB, MP.e_pNot, MP.e_xNot, MP.e_pAnd, MP.e_xAndT, MP.e_xAndF, MP.e_pOr, MP.e_xOrT, MP.e_xOrF, MP.e_pAndV, MP.e_xAndVT, MP.e_xAndVF, MP.e_pOrV, MP.e_xOrVT, MP.e_xOrVF, MP.e_pNotV, MP.e_xNotV, MP.e_pIf, MP.e_xIfT, MP.e_xIfF, MP.e_p3, MP.e_x3, MP.e_x3bT, MP.e_x3bF, MP.e_pNil, MP.e_pCons, MP.e_xCons, MP.e_pTup, MP.e_xTp, MP.e_pLst, MP.e_xLs, MP.e_pNo, MP.e_pSome, MP.e_xSo, MP.e_pSl, MP.e_xSl, MP.e_pCall, MP.e_xG, MP.e_pSeq, MP.e_xSq, MP.e_pSeqR, MP.e_xSqR, MP.e_pRng, MP.e_pEnum, MP.e_xEn, MP.e_pComp, MP.e_xC, MP.e_xC2, MP.e_pUser, MP.e_xU, MP.e_xFv, MP.e_xFo, MP.e_xFe, MP.e_pSeal, MP.e_xSe, MP.e_xSeFv, MP.e_xSeFo, MP.e_pLook, MP.e_xLo, MP.e_xLoF, MP.e_pFld, MP.e_xFd, MP.e_xOb, MP.e_xLk0, MP.e_xLk1, MP.e_c0, MP.e_c1, MP.g_add, MP.g_catS, MP.g_catL, MP.g_catT, MP.g_sub, MP.g_mul, MP.g_rep, MP.g_div, MP.g_mod, MP.g_pow, MP.g_shl, MP.g_shr, MP.g_and, MP.g_orI, MP.g_neg, MP.g_lt, MP.g_le, MP.g_gt, MP.g_ge, MP.g_eqI, MP.g_eqS, MP.g_eqBo, MP.g_neI, MP.g_neS, MP.g_neBo, MP.g_is, MP.g_isNot, MP.n_none, MP.n_int, MP.n_str, MP.n_tup, MP.n_list, MP.n_bool, MP.g_max, MP.g_min, MP.g_lenL, MP.g_lenK, MP.g_lenT, MP.g_listL, MP.g_listK, MP.g_listT, MP.g_tupL, MP.g_tupT, MP.q_list, MP.q_lk, MP.q_tup, MP.g_rng1, MP.g_rng2, MP.g_enumL, MP.g_enumK, MP.g_ixL, MP.g_ixK, MP.g_ixT, MP.g_slL, MP.g_slK, MP.g_slT, MP.s_Nil, MP.s_Brk, MP.s_Cont, MP.s_Seq, MP.s_xSn, MP.s_xSr, MP.s_xSb, MP.s_xSc, MP.s_xSe, MP.s_Expr, MP.s_xEx, MP.s_SetV, MP.s_xSV, MP.s_SetO, MP.s_xSOs, MP.s_xSOf, MP.s_Ret, MP.s_xRts, MP.s_xRtf, MP.s_RetN, MP.s_RetS, MP.s_xRSo, MP.s_xRSv, MP.s_If, MP.s_xIfT, MP.s_xIfF, MP.s_Tup, MP.s_xTu, MP.s_xTb, MP.s_For, MP.s_xFor, MP.s_App, MP.s_xAp, MP.s_Thaw, MP.s_xTh, MP.s_Frz, MP.s_xFzo, MP.s_xFzv, MP.s_ExprF, MP.s_xEF, MP.s_SetF, MP.s_xSF, MP.s_RetF, MP.s_xRF, MP.s_IfF, MP.s_xIFT, MP.s_xIFF, MP.s_FldN, MP.s_xN, MP.s_xN2, MP.s_xN3, MP.s_put0, MP.s_put1, MP.s_putN, MP.f_P, MP.f_xPs, MP.f_xPf, MP.f_User, MP.f_xFU, MP.f_Meth, MP.f_xM, MP.f_xM2, MP.f_Make, MP.f_xMk, MP.f_xMkF, MP.fe_ok, MP.r_run, MP.r_un, MP.r_un0, MP.r_nx, MP.r_ret, MP.r_exc, MP.t_nx, MP.t_cont, MP.t_brk, MP.t_ret, MP.b_nm, MP.b_tp2, MP.b_tp3, MP.t_bk, MP.fe_pop, MP.s_appF, MP.s_dead, MP.g_divmod, MP.g_sorted, MP.g_allB, MP.g_anyB, MP.g_sumI, MP.g_zipT, MP.g_zipL, MP.e_pZip, MP.e_xZp, MP.g_abs, MP.g_intI, MP.g_intB, MP.g_repT, MP.e_pLRng, MP.e_xLR, MP.f_Pop, MP.f_xPop, MP.s_AppF, MP.s_xAF0, MP.s_xAF, MP.s_xAF2, MP.g_inI, MP.g_ninI, MP.g_inT, MP.g_ninT, MP.g_ninST, MP.e_c2, MP.e_c3, MP.e_c4, MP.e_c5, MP.e_pIsi, List.getElem?_cons_zero, List.getElem?_cons_succ, List.getElem?_nil, List.set_cons_zero, List.set_cons_succ, List.map_cons, List.map_nil, List.length_cons, List.length_nil, List.length_append, List.cons_append, List.nil_append, List.length_map, List.length_singleton, Nat.reduceBEq, Nat.reduceAdd, Nat.reduceSub, Nat.reduceMul, Nat.reduceEqDiff, Nat.reduceLeDiff, Nat.reduceLT, if_false, if_true, ite_true, ite_false, ↓reduceIte, Bool.not_true, Bool.not_false, Bool.false_eq_true, decide_true, decide_false, eq_self, and_true, true_and, and_self, Nat.zero_le, Nat.zero_add, Option.bind_some, Option.bind_none, Nat.lt_irrefl, Int.reduceToNat, Int.reducePow, Int.reduceNeg, Int.reduceMul, Int.reduceAdd, Int.reduceSub, Int.reduceLT, Int.reduceLE, Int.reduceEq, beq_self_eq_true, wipeE, MP.at0, MP.at1, MP.at2, MP.atLit, h1, h2]
inductive Mn where
  | letter (c : Nat) | layer (n : Nat) | tap (c n : Nat) | once (n : Nat) | below | non
def Mn.name : Mn → Str
  | .letter _ => "letter"
  | .layer _ => "layer"
  | .tap _ _ => "tap"
  | .once _ => "once"
  | .below => "below"
  | .non => "none"
def Mn.D : Mn → MP.D
  | .letter c => .tup [.str "letter", .str (ltr c)]
  | .layer n => .tup [.str "layer", .int (n : Nat)]
  | .tap c n => .tup [.str "tap", .str (ltr c), .int (n : Nat)]
  | .once n => .tup [.str "once", .int (n : Nat)]
  | .below => .tup [.str "below"]
  | .non => .tup [.str "none"]
def Mn.isL : Mn → Bool
  | .letter _ => true
  | _ => false
def Mn.Ok (i l : Nat) : Mn → Prop
  | .letter c => c < 26
  | .layer n => 1 ≤ n ∧ n < l
  | .tap c n => c < 26 ∧ 1 ≤ n ∧ n < l
  | .once n => 1 ≤ n ∧ n < l
  | .below => 0 < i
  | .non => True
theorem mn_0 (m : Mn) : gIx m.D (.int 0) = some ⟨.sh, .str m.name⟩ := by cases m <;> rfl
theorem mn_l (m : Mn) : (m.name == ("letter" : Str)) = m.isL := by cases m <;> simp only [Mn.name, Mn.isL] <;> decide
theorem s_ne1 : (("tap" : Str) == "letter") = false := by decide
theorem s_ne2 : (("layer" : Str) == "letter") = false := by decide
theorem s_ne3 : (("layer" : Str) == "tap") = false := by decide
theorem s_ne4 : (("once" : Str) == "letter") = false := by decide
theorem s_ne5 : (("once" : Str) == "tap") = false := by decide
theorem s_ne6 : (("once" : Str) == "layer") = false := by decide
theorem s_ne7 : (("below" : Str) == "letter") = false := by decide
theorem s_ne8 : (("below" : Str) == "tap") = false := by decide
theorem s_ne9 : (("below" : Str) == "layer") = false := by decide
theorem s_nea : (("below" : Str) == "once") = false := by decide
theorem s_neb : (("below" : Str) == "none") = false := by decide
theorem s_nec : (("none" : Str) == "letter") = false := by decide
theorem s_ned : (("none" : Str) == "tap") = false := by decide
theorem s_nee : (("none" : Str) == "layer") = false := by decide
theorem s_nef : (("none" : Str) == "once") = false := by decide
theorem m_ismeaning (m : Mn) (i l : Nat) (h : m.Ok i l) : sem_is_meaning [m.D, .int i, .int l] [] = .ok (.v (.bool true)) [] := by
  unfold sem_is_meaning b_is_meaning
  cases m with
  | letter c =>
    have h1 := m_isletter c h
    unfold Mn.D
    simp (disch := (first | assumption | with_reducible rfl | decide +kernel | exact Or.inl (by decide +kernel) | exact Or.inr (by decide +kernel) | omega | (simp only [List.length_cons, List.length_nil, List.length_append, List.length_map, List.length_replicate, List.length_range] <;> omega) | rfl)) only [MP.of_some, MP.map_some, MP.e_lv, MP.e_lo, MP.e_pD, MP.e_xDs, MP.e_xDf, MP.e_pC, MP.e_pYes, MP.e_pVar, MP.e_p2, MP.e_x2, MP.e_p1, MP.e_x1, MP.e_pB, MP.e_xB, MP.e_pNot, MP.e_xNot, MP.e_pAnd, MP.e_xAndT, MP.e_xAndF, MP.e_pOr, MP.e_xOrT, MP.e_xOrF, MP.e_pAndV, MP.e_xAndVT, MP.e_xAndVF, MP.e_pOrV, MP.e_xOrVT, MP.e_xOrVF, MP.e_pNotV, MP.e_xNotV, MP.e_pIf, MP.e_xIfT, MP.e_xIfF, MP.e_p3, MP.e_x3, MP.e_x3bT, MP.e_x3bF, MP.e_pNil, MP.e_pCons, MP.e_xCons, MP.e_pTup, MP.e_xTp, MP.e_pLst, MP.e_xLs, MP.e_pNo, MP.e_pSome, MP.e_xSo, MP.e_pSl, MP.e_xSl, MP.e_pCall, MP.e_xG, MP.e_pSeq, MP.e_xSq, MP.e_pSeqR, MP.e_xSqR, MP.e_pRng, MP.e_pEnum, MP.e_xEn, MP.e_pComp, MP.e_xC, MP.e_xC2, MP.e_pUser, MP.e_xU, MP.e_xFv, MP.e_xFo, MP.e_xFe, MP.e_pSeal, MP.e_xSe, MP.e_xSeFv, MP.e_xSeFo, MP.e_pLook, MP.e_xLo, MP.e_xLoF, MP.e_pFld, MP.e_xFd, MP.e_xOb, MP.e_xLk0, MP.e_xLk1, MP.e_c0, MP.e_c1, MP.g_add, MP.g_catS, MP.g_catL, MP.g_catT, MP.g_sub, MP.g_mul, MP.g_rep, MP.g_div, MP.g_mod, MP.g_pow, MP.g_shl, MP.g_shr, MP.g_and, MP.g_orI, MP.g_neg, MP.g_lt, MP.g_le, MP.g_gt, MP.g_ge, MP.g_eqI, MP.g_eqS, MP.g_eqBo, MP.g_neI, MP.g_neS, MP.g_neBo, MP.g_is, MP.g_isNot, MP.n_none, MP.n_int, MP.n_str, MP.n_tup, MP.n_list, MP.n_bool, MP.g_max, MP.g_min, MP.g_lenL, MP.g_lenK, MP.g_lenT, MP.g_listL, MP.g_listK, MP.g_listT, MP.g_tupL, MP.g_tupT, MP.q_list, MP.q_lk, MP.q_tup, MP.g_rng1, MP.g_rng2, MP.g_enumL, MP.g_enumK, MP.g_ixL, MP.g_ixK, MP.g_ixT, MP.g_slL, MP.g_slK, MP.g_slT, MP.s_Nil, MP.s_Brk, MP.s_Cont, MP.s_Seq, MP.s_xSn, MP.s_xSr, MP.s_xSb, MP.s_xSc, MP.s_xSe, MP.s_Expr, MP.s_xEx, MP.s_SetV, MP.s_xSV, MP.s_SetO, MP.s_xSOs, MP.s_xSOf, MP.s_Ret, MP.s_xRts, MP.s_xRtf, MP.s_RetN, MP.s_RetS, MP.s_xRSo, MP.s_xRSv, MP.s_If, MP.s_xIfT, MP.s_xIfF, MP.s_Tup, MP.s_xTu, MP.s_xTb, MP.s_For, MP.s_xFor, MP.s_App, MP.s_xAp, MP.s_Thaw, MP.s_xTh, MP.s_Frz, MP.s_xFzo, MP.s_xFzv, MP.s_ExprF, MP.s_xEF, MP.s_SetF, MP.s_xSF, MP.s_RetF, MP.s_xRF, MP.s_IfF, MP.s_xIFT, MP.s_xIFF, MP.s_FldN, MP.s_xN, MP.s_xN2, MP.s_xN3, MP.s_put0, MP.s_put1, MP.s_putN, MP.f_P, MP.f_xPs, MP.f_xPf, MP.f_User, MP.f_xFU, MP.f_Meth, MP.f_xM, MP.f_xM2, MP.f_Make, MP.f_xMk, MP.f_xMkF, MP.fe_ok, MP.r_run, MP.r_un, MP.r_un0, MP.r_nx, MP.r_ret, MP.r_exc, MP.t_nx, MP.t_cont, MP.t_brk, MP.t_ret, MP.b_nm, MP.b_tp2, MP.b_tp3, MP.t_bk, MP.fe_pop, MP.s_appF, MP.s_dead, MP.g_divmod, MP.g_sorted, MP.g_allB, MP.g_anyB, MP.g_sumI, MP.g_zipT, MP.g_zipL, MP.e_pZip, MP.e_xZp, MP.g_abs, MP.g_intI, MP.g_intB, MP.g_repT, MP.e_pLRng, MP.e_xLR, MP.f_Pop, MP.f_xPop, MP.s_AppF, MP.s_xAF0, MP.s_xAF, MP.s_xAF2, MP.g_inI, MP.g_ninI, MP.g_inT, MP.g_ninT, MP.g_ninST, MP.e_c2, MP.e_c3, MP.e_c4, MP.e_c5, MP.e_pIsi, List.getElem?_cons_zero, List.getElem?_cons_succ, List.getElem?_nil, List.set_cons_zero, List.set_cons_succ, List.map_cons, List.map_nil, List.length_cons, List.length_nil, List.length_append, List.cons_append, List.nil_append, List.length_map, List.length_singleton, Nat.reduceBEq, Nat.reduceAdd, Nat.reduceSub, Nat.reduceMul, Nat.reduceEqDiff, Nat.reduceLeDiff, Nat.reduceLT, if_false, if_true, ite_true, ite_false, ↓reduceIte, Bool.not_true, Bool.not_false, Bool.false_eq_true, decide_true, decide_false, eq_self, and_true, true_and, and_self, Nat.zero_le, Nat.zero_add, Option.bind_some, Option.bind_none, Nat.lt_irrefl, Int.reduceToNat, Int.reducePow, Int.reduceNeg, Int.reduceMul, Int.reduceAdd, Int.reduceSub, Int.reduceLT, Int.reduceLE, Int.reduceEq, beq_self_eq_true, wipeE, MP.at0, MP.at1, MP.at2, MP.atLit, h1]
  | layer n =>
    obtain ⟨h1, h2⟩ := h
    have h1 : (1 : Int) ≤ n := by omega
    have h2 : (n : Int) < l := by omega
    unfold Mn.D
    simp (disch := (first | assumption | with_reducible rfl | decide +kernel | exact Or.inl (by decide +kernel) | exact Or.inr (by decide +kernel) | omega | (simp only [List.length_cons, List.length_nil, List.length_append, List.length_map, List.length_replicate, List.length_range] <;> omega) | rfl)) only [MP.of_some, MP.map_some, MP.e_lv, MP.e_lo, MP.e_pD, MP.e_xDs, MP.e_xDf, MP.e_pC, MP.e_pYes, MP.e_pVar, MP.e_p2, MP.e_x2, MP.e_p1, MP.e_x1, MP.e_pB, MP.e_xB, MP.e_pNot, MP.e_xNot, MP.e_pAnd, MP.e_xAndT, MP.e_xAndF, MP.e_pOr, MP.e_xOrT, MP.e_xOrF, MP.e_pAndV, MP.e_xAndVT, MP.e_xAndVF, MP.e_pOrV, MP.e_xOrVT, MP.e_xOrVF, MP.e_pNotV, MP.e_xNotV, MP.e_pIf, MP.e_xIfT, MP.e_xIfF, MP.e_p3, MP.e_x3, MP.e_x3bT, MP.e_x3bF, MP.e_pNil, MP.e_pCons, MP.e_xCons, MP.e_pTup, MP.e_xTp, MP.e_pLst, MP.e_xLs, MP.e_pNo, MP.e_pSome, MP.e_xSo, MP.e_pSl, MP.e_xSl, MP.e_pCall, MP.e_xG, MP.e_pSeq, MP.e_xSq, MP.e_pSeqR, MP.e_xSqR, MP.e_pRng, MP.e_pEnum, MP.e_xEn, MP.e_pComp, MP.e_xC, MP.e_xC2, MP.e_pUser, MP.e_xU, MP.e_xFv, MP.e_xFo, MP.e_xFe, MP.e_pSeal, MP.e_xSe, MP.e_xSeFv, MP.e_xSeFo, MP.e_pLook, MP.e_xLo, MP.e_xLoF, MP.e_pFld, MP.e_xFd, MP.e_xOb, MP.e_xLk0, MP.e_xLk1, MP.e_c0, MP.e_c1, MP.g_add, MP.g_catS, MP.g_catL, MP.g_catT, MP.g_sub, MP.g_mul, MP.g_rep, MP.g_div, MP.g_mod, MP.g_pow, MP.g_shl, MP.g_shr, MP.g_and, MP.g_orI, MP.g_neg, MP.g_lt, MP.g_le, MP.g_gt, MP.g_ge, MP.g_eqI, MP.g_eqS, MP.g_eqBo, MP.g_neI, MP.g_neS, MP.g_neBo, MP.g_is, MP.g_isNot, MP.n_none, MP.n_int, MP.n_str, MP.n_tup, MP.n_list, MP.n_bool, MP.g_max, MP.g_min, MP.g_lenL, MP.g_lenK, MP.g_lenT, MP.g_listL, MP.g_listK, MP.g_listT, MP.g_tupL, MP.g_tupT, MP.q_list, MP.q_lk, MP.q_tup, MP.g_rng1, MP.g_rng2, MP.g_enumL, MP.g_enumK, MP.g_ixL, MP.g_ixK, MP.g_ixT, MP.g_slL, MP.g_slK, MP.g_slT, MP.s_Nil, MP.s_Brk, MP.s_Cont, MP.s_Seq, MP.s_xSn, MP.s_xSr, MP.s_xSb, MP.s_xSc, MP.s_xSe, MP.s_Expr, MP.s_xEx, MP.s_SetV, MP.s_xSV, MP.s_SetO, MP.s_xSOs, MP.s_xSOf, MP.s_Ret, MP.s_xRts, MP.s_xRtf, MP.s_RetN, MP.s_RetS, MP.s_xRSo, MP.s_xRSv, MP.s_If, MP.s_xIfT, MP.s_xIfF, MP.s_Tup, MP.s_xTu, MP.s_xTb, MP.s_For, MP.s_xFor, MP.s_App, MP.s_xAp, MP.s_Thaw, MP.s_xTh, MP.s_Frz, MP.s_xFzo, MP.s_xFzv, MP.s_ExprF, MP.s_xEF, MP.s_SetF, MP.s_xSF, MP.s_RetF, MP.s_xRF, MP.s_IfF, MP.s_xIFT, MP.s_xIFF, MP.s_FldN, MP.s_xN, MP.s_xN2, MP.s_xN3, MP.s_put0, MP.s_put1, MP.s_putN, MP.f_P, MP.f_xPs, MP.f_xPf, MP.f_User, MP.f_xFU, MP.f_Meth, MP.f_xM, MP.f_xM2, MP.f_Make, MP.f_xMk, MP.f_xMkF, MP.fe_ok, MP.r_run, MP.r_un, MP.r_un0, MP.r_nx, MP.r_ret, MP.r_exc, MP.t_nx, MP.t_cont, MP.t_brk, MP.t_ret, MP.b_nm, MP.b_tp2, MP.b_tp3, MP.t_bk, MP.fe_pop, MP.s_appF, MP.s_dead, MP.g_divmod, MP.g_sorted, MP.g_allB, MP.g_anyB, MP.g_sumI, MP.g_zipT, MP.g_zipL, MP.e_pZip, MP.e_xZp, MP.g_abs, MP.g_intI, MP.g_intB, MP.g_repT, MP.e_pLRng, MP.e_xLR, MP.f_Pop, MP.f_xPop, MP.s_AppF, MP.s_xAF0, MP.s_xAF, MP.s_xAF2, MP.g_inI, MP.g_ninI, MP.g_inT, MP.g_ninT, MP.g_ninST, MP.e_c2, MP.e_c3, MP.e_c4, MP.e_c5, MP.e_pIsi, List.getElem?_cons_zero, List.getElem?_cons_succ, List.getElem?_nil, List.set_cons_zero, List.set_cons_succ, List.map_cons, List.map_nil, List.length_cons, List.length_nil, List.length_append, List.cons_append, List.nil_append, List.length_map, List.length_singleton, Nat.reduceBEq, Nat.reduceAdd, Nat.reduceSub, Nat.reduceMul, Nat.reduceEqDiff, Nat.reduceLeDiff, Nat.reduceLT, if_false, if_true, ite_true, ite_false, ↓reduceIte, Bool.not_true, Bool.not_false, Bool.false_eq_true, decide_true, decide_false, eq_self, and_true, true_and, and_self, Nat.zero_le, Nat.zero_add, Option.bind_some, Option.bind_none, Nat.lt_irrefl, Int.reduceToNat, Int.reducePow, Int.reduceNeg, Int.reduceMul, Int.reduceAdd, Int.reduceSub, Int.reduceLT, Int.reduceLE, Int.reduceEq, beq_self_eq_true, wipeE, MP.at0, MP.at1, MP.at2, MP.atLit, s_ne2, s_ne3, h1, h2]
  | tap c n =>
    obtain ⟨h0, h1, h2⟩ := h
    have h0 := m_isletter c h0
    have h1 : (1 : Int) ≤ n := by omega
    have h2 : (n : Int) < l := by omega
    unfold Mn.D
    simp (disch := (first | assumption | with_reducible rfl | decide +kernel | exact Or.inl (by decide +kernel) | exact Or.inr (by decide +kernel) | omega | (simp only [List.length_cons, List.length_nil, List.length_append, List.length_map, List.length_replicate, List.length_range] <;> omega) | rfl)) only [MP.of_some, MP.map_some, MP.e_lv, MP.e_lo, MP.e_pD, MP.e_xDs, MP.e_xDf, MP.e_pC, MP.e_pYes, MP.e_pVar, MP.e_p2, MP.e_x2, MP.e_p1, MP.e_x1, MP.e_pB, MP.e_xB, MP.e_pNot, MP.e_xNot, MP.e_pAnd, MP.e_xAndT, MP.e_xAndF, MP.e_pOr, MP.e_xOrT, MP.e_xOrF, MP.e_pAndV, MP.e_xAndVT, MP.e_xAndVF, MP.e_pOrV, MP.e_xOrVT, MP.e_xOrVF, MP.e_pNotV, MP.e_xNotV, MP.e_pIf, MP.e_xIfT, MP.e_xIfF, MP.e_p3, MP.e_x3, MP.e_x3bT, MP.e_x3bF, MP.e_pNil, MP.e_pCons, MP.e_xCons, MP.e_pTup, MP.e_xTp, MP.e_pLst, MP.e_xLs, MP.e_pNo, MP.e_pSome, MP.e_xSo, MP.e_pSl, MP.e_xSl, MP.e_pCall, MP.e_xG, MP.e_pSeq, MP.e_xSq, MP.e_pSeqR, MP.e_xSqR, MP.e_pRng, MP.e_pEnum, MP.e_xEn, MP.e_pComp, MP.e_xC, MP.e_xC2, MP.e_pUser, MP.e_xU, MP.e_xFv, MP.e_xFo, MP.e_xFe, MP.e_pSeal, MP.e_xSe, MP.e_xSeFv, MP.e_xSeFo, MP.e_pLook, MP.e_xLo, MP.e_xLoF, MP.e_pFld, MP.e_xFd, MP.e_xOb, MP.e_xLk0, MP.e_xLk1, MP.e_c0, MP.e_c1, MP.g_add, MP.g_catS, MP.g_catL, MP.g_catT, MP.g_sub, MP.g_mul, MP.g_rep, MP.g_div, MP.g_mod, MP.g_pow, MP.g_shl, MP.g_shr, MP.g_and, MP.g_orI, MP.g_neg, MP.g_lt, MP.g_le, MP.g_gt, MP.g_ge, MP.g_eqI, MP.g_eqS, MP.g_eqBo, MP.g_neI, MP.g_neS, MP.g_neBo, MP.g_is, MP.g_isNot, MP.n_none, MP.n_int, MP.n_str, MP.n_tup, MP.n_list, MP.n_bool, MP.g_max, MP.g_min, MP.g_lenL, MP.g_lenK, MP.g_lenT, MP.g_listL, MP.g_listK, MP.g_listT, MP.g_tupL, MP.g_tupT, MP.q_list, MP.q_lk, MP.q_tup, MP.g_rng1, MP.g_rng2, MP.g_enumL, MP.g_enumK, MP.g_ixL, MP.g_ixK, MP.g_ixT, MP.g_slL, MP.g_slK, MP.g_slT, MP.s_Nil, MP.s_Brk, MP.s_Cont, MP.s_Seq, MP.s_xSn, MP.s_xSr, MP.s_xSb, MP.s_xSc, MP.s_xSe, MP.s_Expr, MP.s_xEx, MP.s_SetV, MP.s_xSV, MP.s_SetO, MP.s_xSOs, MP.s_xSOf, MP.s_Ret, MP.s_xRts, MP.s_xRtf, MP.s_RetN, MP.s_RetS, MP.s_xRSo, MP.s_xRSv, MP.s_If, MP.s_xIfT, MP.s_xIfF, MP.s_Tup, MP.s_xTu, MP.s_xTb, MP.s_For, MP.s_xFor, MP.s_App, MP.s_xAp, MP.s_Thaw, MP.s_xTh, MP.s_Frz, MP.s_xFzo, MP.s_xFzv, MP.s_ExprF, MP.s_xEF, MP.s_SetF, MP.s_xSF, MP.s_RetF, MP.s_xRF, MP.s_IfF, MP.s_xIFT, MP.s_xIFF, MP.s_FldN, MP.s_xN, MP.s_xN2, MP.s_xN3, MP.s_put0, MP.s_put1, MP.s_putN, MP.f_P, MP.f_xPs, MP.f_xPf, MP.f_User, MP.f_xFU, MP.f_Meth, MP.f_xM, MP.f_xM2, MP.f_Make, MP.f_xMk, MP.f_xMkF, MP.fe_ok, MP.r_run, MP.r_un, MP.r_un0, MP.r_nx, MP.r_ret, MP.r_exc, MP.t_nx, MP.t_cont, MP.t_brk, MP.t_ret, MP.b_nm, MP.b_tp2, MP.b_tp3, MP.t_bk, MP.fe_pop, MP.s_appF, MP.s_dead, MP.g_divmod, MP.g_sorted, MP.g_allB, MP.g_anyB, MP.g_sumI, MP.g_zipT, MP.g_zipL, MP.e_pZip, MP.e_xZp, MP.g_abs, MP.g_intI, MP.g_intB, MP.g_repT, MP.e_pLRng, MP.e_xLR, MP.f_Pop, MP.f_xPop, MP.s_AppF, MP.s_xAF0, MP.s_xAF, MP.s_xAF2, MP.g_inI, MP.g_ninI, MP.g_inT, MP.g_ninT, MP.g_ninST, MP.e_c2, MP.e_c3, MP.e_c4, MP.e_c5, MP.e_pIsi, List.getElem?_cons_zero, List.getElem?_cons_succ, List.getElem?_nil, List.set_cons_zero, List.set_cons_succ, List.map_cons, List.map_nil, List.length_cons, List.length_nil, List.length_append, List.cons_append, List.nil_append, List.length_map, List.length_singleton, Nat.reduceBEq, Nat.reduceAdd, Nat.reduceSub, Nat.reduceMul, Nat.reduceEqDiff, Nat.reduceLeDiff, Nat.reduceLT, if_false, if_true, ite_true, ite_false, ↓reduceIte, Bool.not_true, Bool.not_false, Bool.false_eq_true, decide_true, decide_false, eq_self, and_true, true_and, and_self, Nat.zero_le, Nat.zero_add, Option.bind_some, Option.bind_none, Nat.lt_irrefl, Int.reduceToNat, Int.reducePow, Int.reduceNeg, Int.reduceMul, Int.reduceAdd, Int.reduceSub, Int.reduceLT, Int.reduceLE, Int.reduceEq, beq_self_eq_true, wipeE, MP.at0, MP.at1, MP.at2, MP.atLit, s_ne1, h0, h1, h2]
  | once n =>
    obtain ⟨h1, h2⟩ := h
    have h1 : (1 : Int) ≤ n := by omega
    have h2 : (n : Int) < l := by omega
    unfold Mn.D
    simp (disch := (first | assumption | with_reducible rfl | decide +kernel | exact Or.inl (by decide +kernel) | exact Or.inr (by decide +kernel) | omega | (simp only [List.length_cons, List.length_nil, List.length_append, List.length_map, List.length_replicate, List.length_range] <;> omega) | rfl)) only [MP.of_some, MP.map_some, MP.e_lv, MP.e_lo, MP.e_pD, MP.e_xDs, MP.e_xDf, MP.e_pC, MP.e_pYes, MP.e_pVar, MP.e_p2, MP.e_x2, MP.e_p1, MP.e_x1, MP.e_pB, MP.e_xB, MP.e_pNot, MP.e_xNot, MP.e_pAnd, MP.e_xAndT, MP.e_xAndF, MP.e_pOr, MP.e_xOrT, MP.e_xOrF, MP.e_pAndV, MP.e_xAndVT, MP.e_xAndVF, MP.e_pOrV, MP.e_xOrVT, MP.e_xOrVF, MP.e_pNotV, MP.e_xNotV, MP.e_pIf, MP.e_xIfT, MP.e_xIfF, MP.e_p3, MP.e_x3, MP.e_x3bT, MP.e_x3bF, MP.e_pNil, MP.e_pCons, MP.e_xCons, MP.e_pTup, MP.e_xTp, MP.e_pLst, MP.e_xLs, MP.e_pNo, MP.e_pSome, MP.e_xSo, MP.e_pSl, MP.e_xSl, MP.e_pCall, MP.e_xG, MP.e_pSeq, MP.e_xSq, MP.e_pSeqR, MP.e_xSqR, MP.e_pRng, MP.e_pEnum, MP.e_xEn, MP.e_pComp, MP.e_xC, MP.e_xC2, MP.e_pUser, MP.e_xU, MP.e_xFv, MP.e_xFo, MP.e_xFe, MP.e_pSeal, MP.e_xSe, MP.e_xSeFv, MP.e_xSeFo, MP.e_pLook, MP.e_xLo, MP.e_xLoF, MP.e_pFld, MP.e_xFd, MP.e_xOb, MP.e_xLk0, MP.e_xLk1, MP.e_c0, MP.e_c1, MP.g_add, MP.g_catS, MP.g_catL, MP.g_catT, MP.g_sub, MP.g_mul, MP.g_rep, MP.g_div, MP.g_mod, MP.g_pow, MP.g_shl, MP.g_shr, MP.g_and, MP.g_orI, MP.g_neg, MP.g_lt, MP.g_le, MP.g_gt, MP.g_ge, MP.g_eqI, MP.g_eqS, MP.g_eqBo, MP.g_neI, MP.g_neS, MP.g_neBo, MP.g_is, MP.g_isNot, MP.n_none, MP.n_int, MP.n_str, MP.n_tup, MP.n_list, MP.n_bool, MP.g_max, MP.g_min, MP.g_lenL, MP.g_lenK, MP.g_lenT, MP.g_listL, MP.g_listK, MP.g_listT, MP.g_tupL, MP.g_tupT, MP.q_list, MP.q_lk, MP.q_tup, MP.g_rng1, MP.g_rng2, MP.g_enumL, MP.g_enumK, MP.g_ixL, MP.g_ixK, MP.g_ixT, MP.g_slL, MP.g_slK, MP.g_slT, MP.s_Nil, MP.s_Brk, MP.s_Cont, MP.s_Seq, MP.s_xSn, MP.s_xSr, MP.s_xSb, MP.s_xSc, MP.s_xSe, MP.s_Expr, MP.s_xEx, MP.s_SetV, MP.s_xSV, MP.s_SetO, MP.s_xSOs, MP.s_xSOf, MP.s_Ret, MP.s_xRts, MP.s_xRtf, MP.s_RetN, MP.s_RetS, MP.s_xRSo, MP.s_xRSv, MP.s_If, MP.s_xIfT, MP.s_xIfF, MP.s_Tup, MP.s_xTu, MP.s_xTb, MP.s_For, MP.s_xFor, MP.s_App, MP.s_xAp, MP.s_Thaw, MP.s_xTh, MP.s_Frz, MP.s_xFzo, MP.s_xFzv, MP.s_ExprF, MP.s_xEF, MP.s_SetF, MP.s_xSF, MP.s_RetF, MP.s_xRF, MP.s_IfF, MP.s_xIFT, MP.s_xIFF, MP.s_FldN, MP.s_xN, MP.s_xN2, MP.s_xN3, MP.s_put0, MP.s_put1, MP.s_putN, MP.f_P, MP.f_xPs, MP.f_xPf, MP.f_User, MP.f_xFU, MP.f_Meth, MP.f_xM, MP.f_xM2, MP.f_Make, MP.f_xMk, MP.f_xMkF, MP.fe_ok, MP.r_run, MP.r_un, MP.r_un0, MP.r_nx, MP.r_ret, MP.r_exc, MP.t_nx, MP.t_cont, MP.t_brk, MP.t_ret, MP.b_nm, MP.b_tp2, MP.b_tp3, MP.t_bk, MP.fe_pop, MP.s_appF, MP.s_dead, MP.g_divmod, MP.g_sorted, MP.g_allB, MP.g_anyB, MP.g_sumI, MP.g_zipT, MP.g_zipL, MP.e_pZip, MP.e_xZp, MP.g_abs, MP.g_intI, MP.g_intB, MP.g_repT, MP.e_pLRng, MP.e_xLR, MP.f_Pop, MP.f_xPop, MP.s_AppF, MP.s_xAF0, MP.s_xAF, MP.s_xAF2, MP.g_inI, MP.g_ninI, MP.g_inT, MP.g_ninT, MP.g_ninST, MP.e_c2, MP.e_c3, MP.e_c4, MP.e_c5, MP.e_pIsi, List.getElem?_cons_zero, List.getElem?_cons_succ, List.getElem?_nil, List.set_cons_zero, List.set_cons_succ, List.map_cons, List.map_nil, List.length_cons, List.length_nil, List.length_append, List.cons_append, List.nil_append, List.length_map, List.length_singleton, Nat.reduceBEq, Nat.reduceAdd, Nat.reduceSub, Nat.reduceMul, Nat.reduceEqDiff, Nat.reduceLeDiff, Nat.reduceLT, if_false, if_true, ite_true, ite_false, ↓reduceIte, Bool.not_true, Bool.not_false, Bool.false_eq_true, decide_true, decide_false, eq_self, and_true, true_and, and_self, Nat.zero_le, Nat.zero_add, Option.bind_some, Option.bind_none, Nat.lt_irrefl, Int.reduceToNat, Int.reducePow, Int.reduceNeg, Int.reduceMul, Int.reduceAdd, Int.reduceSub, Int.reduceLT, Int.reduceLE, Int.reduceEq, beq_self_eq_true, wipeE, MP.at0, MP.at1, MP.at2, MP.atLit, s_ne4, s_ne5, s_ne6, h1, h2]
  | below =>
    have h1 : 0 < i := h
    have h1 : (0 : Int) < i := by omega
    unfold Mn.D
    simp (disch := (first | assumption | with_reducible rfl | decide +kernel | exact Or.inl (by decide +kernel) | exact Or.inr (by decide +kernel) | omega | (simp only [List.length_cons, List.length_nil, List.length_append, List.length_map, List.length_replicate, List.length_range] <;> omega) | rfl)) only [MP.of_some, MP.map_some, MP.e_lv, MP.e_lo, MP.e_pD, MP.e_xDs, MP.e_xDf, MP.e_pC, MP.e_pYes, MP.e_pVar, MP.e_p2, MP.e_x2, MP.e_p1, MP.e_x1, MP.e_pB, MP.e_xB, MP.e_pNot, MP.e_xNot, MP.e_pAnd, MP.e_xAndT, MP.e_xAndF, MP.e_pOr, MP.e_xOrT, MP.e_xOrF, MP.e_pAndV, MP.e_xAndVT, MP.e_xAndVF, MP.e_pOrV, MP.e_xOrVT, MP.e_xOrVF, MP.e_pNotV, MP.e_xNotV, MP.e_pIf, MP.e_xIfT, MP.e_xIfF, MP.e_p3, MP.e_x3, MP.e_x3bT, MP.e_x3bF, MP.e_pNil, MP.e_pCons, MP.e_xCons, MP.e_pTup, MP.e_xTp, MP.e_pLst, MP.e_xLs, MP.e_pNo, MP.e_pSome, MP.e_xSo, MP.e_pSl, MP.e_xSl, MP.e_pCall, MP.e_xG, MP.e_pSeq, MP.e_xSq, MP.e_pSeqR, MP.e_xSqR, MP.e_pRng, MP.e_pEnum, MP.e_xEn, MP.e_pComp, MP.e_xC, MP.e_xC2, MP.e_pUser, MP.e_xU, MP.e_xFv, MP.e_xFo, MP.e_xFe, MP.e_pSeal, MP.e_xSe, MP.e_xSeFv, MP.e_xSeFo, MP.e_pLook, MP.e_xLo, MP.e_xLoF, MP.e_pFld, MP.e_xFd, MP.e_xOb, MP.e_xLk0, MP.e_xLk1, MP.e_c0, MP.e_c1, MP.g_add, MP.g_catS, MP.g_catL, MP.g_catT, MP.g_sub, MP.g_mul, MP.g_rep, MP.g_div, MP.g_mod, MP.g_pow, MP.g_shl, MP.g_shr, MP.g_and, MP.g_orI, MP.g_neg, MP.g_lt, MP.g_le, MP.g_gt, MP.g_ge, MP.g_eqI, MP.g_eqS, MP.g_eqBo, MP.g_neI, MP.g_neS, MP.g_neBo, MP.g_is, MP.g_isNot, MP.n_none, MP.n_int, MP.n_str, MP.n_tup, MP.n_list, MP.n_bool, MP.g_max, MP.g_min, MP.g_lenL, MP.g_lenK, MP.g_lenT, MP.g_listL, MP.g_listK, MP.g_listT, MP.g_tupL, MP.g_tupT, MP.q_list, MP.q_lk, MP.q_tup, MP.g_rng1, MP.g_rng2, MP.g_enumL, MP.g_enumK, MP.g_ixL, MP.g_ixK, MP.g_ixT, MP.g_slL, MP.g_slK, MP.g_slT, MP.s_Nil, MP.s_Brk, MP.s_Cont, MP.s_Seq, MP.s_xSn, MP.s_xSr, MP.s_xSb, MP.s_xSc, MP.s_xSe, MP.s_Expr, MP.s_xEx, MP.s_SetV, MP.s_xSV, MP.s_SetO, MP.s_xSOs, MP.s_xSOf, MP.s_Ret, MP.s_xRts, MP.s_xRtf, MP.s_RetN, MP.s_RetS, MP.s_xRSo, MP.s_xRSv, MP.s_If, MP.s_xIfT, MP.s_xIfF, MP.s_Tup, MP.s_xTu, MP.s_xTb, MP.s_For, MP.s_xFor, MP.s_App, MP.s_xAp, MP.s_Thaw, MP.s_xTh, MP.s_Frz, MP.s_xFzo, MP.s_xFzv, MP.s_ExprF, MP.s_xEF, MP.s_SetF, MP.s_xSF, MP.s_RetF, MP.s_xRF, MP.s_IfF, MP.s_xIFT, MP.s_xIFF, MP.s_FldN, MP.s_xN, MP.s_xN2, MP.s_xN3, MP.s_put0, MP.s_put1, MP.s_putN, MP.f_P, MP.f_xPs, MP.f_xPf, MP.f_User, MP.f_xFU, MP.f_Meth, MP.f_xM, MP.f_xM2, MP.f_Make, MP.f_xMk, MP.f_xMkF, MP.fe_ok, MP.r_run, MP.r_un, MP.r_un0, MP.r_nx, MP.r_ret, MP.r_exc, MP.t_nx, MP.t_cont, MP.t_brk, MP.t_ret, MP.b_nm, MP.b_tp2, MP.b_tp3, MP.t_bk, MP.fe_pop, MP.s_appF, MP.s_dead, MP.g_divmod, MP.g_sorted, MP.g_allB, MP.g_anyB, MP.g_sumI, MP.g_zipT, MP.g_zipL, MP.e_pZip, MP.e_xZp, MP.g_abs, MP.g_intI, MP.g_intB, MP.g_repT, MP.e_pLRng, MP.e_xLR, MP.f_Pop, MP.f_xPop, MP.s_AppF, MP.s_xAF0, MP.s_xAF, MP.s_xAF2, MP.g_inI, MP.g_ninI, MP.g_inT, MP.g_ninT, MP.g_ninST, MP.e_c2, MP.e_c3, MP.e_c4, MP.e_c5, MP.e_pIsi, List.getElem?_cons_zero, List.getElem?_cons_succ, List.getElem?_nil, List.set_cons_zero, List.set_cons_succ, List.map_cons, List.map_nil, List.length_cons, List.length_nil, List.length_append, List.cons_append, List.nil_append, List.length_map, List.length_singleton, Nat.reduceBEq, Nat.reduceAdd, Nat.reduceSub, Nat.reduceMul, Nat.reduceEqDiff, Nat.reduceLeDiff, Nat.reduceLT, if_false, if_true, ite_true, ite_false, ↓reduceIte, Bool.not_true, Bool.not_false, Bool.false_eq_true, decide_true, decide_false, eq_self, and_true, true_and, and_self, Nat.zero_le, Nat.zero_add, Option.bind_some, Option.bind_none, Nat.lt_irrefl, Int.reduceToNat, Int.reducePow, Int.reduceNeg, Int.reduceMul, Int.reduceAdd, Int.reduceSub, Int.reduceLT, Int.reduceLE, Int.reduceEq, beq_self_eq_true, wipeE, MP.at0, MP.at1, MP.at2, MP.atLit, s_ne7, s_ne8, s_ne9, s_nea, s_neb, h1]
  | non =>
    unfold Mn.D
    simp (disch := (first | assumption | with_reducible rfl | decide +kernel | exact Or.inl (by decide +kernel) | exact Or.inr (by decide +kernel) | omega | (simp only [List.length_cons, List.length_nil, List.length_append, List.length_map, List.length_replicate, List.length_range] <;> omega) | rfl)) only [MP.of_some, MP.map_some, MP.e_lv, MP.e_lo, MP.e_pD, MP.e_xDs, MP.e_xDf, MP.e_pC, MP.e_pYes, MP.e_pVar, MP.e_p2, MP.e_x2, MP.e_p1, MP.e_x1, MP.e_pB, MP.e_xB, MP.e_pNot, MP.e_xNot, MP.e_pAnd, MP.e_xAndT, MP.e_xAndF, MP.e_pOr, MP.e_xOrT, MP.e_xOrF, MP.e_pAndV, MP.e_xAndVT, MP.e_xAndVF, MP.e_pOrV, MP.e_xOrVT, MP.e_xOrVF, MP.e_pNotV, MP.e_xNotV, MP.e_pIf, MP.e_xIfT, MP.e_xIfF, MP.e_p3, MP.e_x3, MP.e_x3bT, MP.e_x3bF, MP.e_pNil, MP.e_pCons, MP.e_xCons, MP.e_pTup, MP.e_xTp, MP.e_pLst, MP.e_xLs, MP.e_pNo, MP.e_pSome, MP.e_xSo, MP.e_pSl, MP.e_xSl, MP.e_pCall, MP.e_xG, MP.e_pSeq, MP.e_xSq, MP.e_pSeqR, MP.e_xSqR, MP.e_pRng, MP.e_pEnum, MP.e_xEn, MP.e_pComp, MP.e_xC, MP.e_xC2, MP.e_pUser, MP.e_xU, MP.e_xFv, MP.e_xFo, MP.e_xFe, MP.e_pSeal, MP.e_xSe, MP.e_xSeFv, MP.e_xSeFo, MP.e_pLook, MP.e_xLo, MP.e_xLoF, MP.e_pFld, MP.e_xFd, MP.e_xOb, MP.e_xLk0, MP.e_xLk1, MP.e_c0, MP.e_c1, MP.g_add, MP.g_catS, MP.g_catL, MP.g_catT, MP.g_sub, MP.g_mul, MP.g_rep, MP.g_div, MP.g_mod, MP.g_pow, MP.g_shl, MP.g_shr, MP.g_and, MP.g_orI, MP.g_neg, MP.g_lt, MP.g_le, MP.g_gt, MP.g_ge, MP.g_eqI, MP.g_eqS, MP.g_eqBo, MP.g_neI, MP.g_neS, MP.g_neBo, MP.g_is, MP.g_isNot, MP.n_none, MP.n_int, MP.n_str, MP.n_tup, MP.n_list, MP.n_bool, MP.g_max, MP.g_min, MP.g_lenL, MP.g_lenK, MP.g_lenT, MP.g_listL, MP.g_listK, MP.g_listT, MP.g_tupL, MP.g_tupT, MP.q_list, MP.q_lk, MP.q_tup, MP.g_rng1, MP.g_rng2, MP.g_enumL, MP.g_enumK, MP.g_ixL, MP.g_ixK, MP.g_ixT, MP.g_slL, MP.g_slK, MP.g_slT, MP.s_Nil, MP.s_Brk, MP.s_Cont, MP.s_Seq, MP.s_xSn, MP.s_xSr, MP.s_xSb, MP.s_xSc, MP.s_xSe, MP.s_Expr, MP.s_xEx, MP.s_SetV, MP.s_xSV, MP.s_SetO, MP.s_xSOs, MP.s_xSOf, MP.s_Ret, MP.s_xRts, MP.s_xRtf, MP.s_RetN, MP.s_RetS, MP.s_xRSo, MP.s_xRSv, MP.s_If, MP.s_xIfT, MP.s_xIfF, MP.s_Tup, MP.s_xTu, MP.s_xTb, MP.s_For, MP.s_xFor, MP.s_App, MP.s_xAp, MP.s_Thaw, MP.s_xTh, MP.s_Frz, MP.s_xFzo, MP.s_xFzv, MP.s_ExprF, MP.s_xEF, MP.s_SetF, MP.s_xSF, MP.s_RetF, MP.s_xRF, MP.s_IfF, MP.s_xIFT, MP.s_xIFF, MP.s_FldN, MP.s_xN, MP.s_xN2, MP.s_xN3, MP.s_put0, MP.s_put1, MP.s_putN, MP.f_P, MP.f_xPs, MP.f_xPf, MP.f_User, MP.f_xFU, MP.f_Meth, MP.f_xM, MP.f_xM2, MP.f_Make, MP.f_xMk, MP.f_xMkF, MP.fe_ok, MP.r_run, MP.r_un, MP.r_un0, MP.r_nx, MP.r_ret, MP.r_exc, MP.t_nx, MP.t_cont, MP.t_brk, MP.t_ret, MP.b_nm, MP.b_tp2, MP.b_tp3, MP.t_bk, MP.fe_pop, MP.s_appF, MP.s_dead, MP.g_divmod, MP.g_sorted, MP.g_allB, MP.g_anyB, MP.g_sumI, MP.g_zipT, MP.g_zipL, MP.e_pZip, MP.e_xZp, MP.g_abs, MP.g_intI, MP.g_intB, MP.g_repT, MP.e_pLRng, MP.e_xLR, MP.f_Pop, MP.f_xPop, MP.s_AppF, MP.s_xAF0, MP.s_xAF, MP.s_xAF2, MP.g_inI, MP.g_ninI, MP.g_inT, MP.g_ninT, MP.g_ninST, MP.e_c2, MP.e_c3, MP.e_c4, MP.e_c5, MP.e_pIsi, List.getElem?_cons_zero, List.getElem?_cons_succ, List.getElem?_nil, List.set_cons_zero, List.set_cons_succ, List.map_cons, List.map_nil, List.length_cons, List.length_nil, List.length_append, List.cons_append, List.nil_append, List.length_map, List.length_singleton, Nat.reduceBEq, Nat.reduceAdd, Nat.reduceSub, Nat.reduceMul, Nat.reduceEqDiff, Nat.reduceLeDiff, Nat.reduceLT, if_false, if_true, ite_true, ite_false, ↓reduceIte, Bool.not_true, Bool.not_false, Bool.false_eq_true, decide_true, decide_false, eq_self, and_true, true_and, and_self, Nat.zero_le, Nat.zero_add, Option.bind_some, Option.bind_none, Nat.lt_irrefl, Int.reduceToNat, Int.reducePow, Int.reduceNeg, Int.reduceMul, Int.reduceAdd, Int.reduceSub, Int.reduceLT, Int.reduceLE, Int.reduceEq, beq_self_eq_true, wipeE, MP.at0, MP.at1, MP.at2, MP.atLit, s_nec, s_ned, s_nee, s_nef]
theorem there (x : Int) (l : Nat) (hl : l = 1 ∨ l = 2 ∨ l = 3) : ∃ t : Nat, 1 + x % (if (l : Int) - 1 > 1 then (l : Int) - 1 else 1) = (t : Int) ∧ 1 ≤ t ∧ (1 < l → t < l) := by
  rcases hl with rfl | rfl | rfl
  · exact ⟨(1 + x % 1).toNat, by first | (simp; omega) | simp, by omega, by omega⟩
  · exact ⟨(1 + x % 1).toNat, by first | (simp; omega) | simp, by omega, by omega⟩
  · exact ⟨(1 + x % 2).toNat, by first | (simp; omega) | simp, by omega, by omega⟩
theorem m_meaning (x : Int) (i l : Nat) (hl : l = 1 ∨ l = 2 ∨ l = 3) : ∃ m : Mn, m.Ok i l ∧ sem_l_meaning [.int x, .int i, .int l] [] = .ok (.v m.D) [] := by
  obtain ⟨c, hc, ec⟩ := m_letter (x / 8)
  obtain ⟨t, et, ht1, ht2⟩ := there (x / 208) l hl
  have hm : (0 : Int) < (if (l : Int) - 1 > 1 then (l : Int) - 1 else 1) := by split <;> omega
  generalize hmx : (if (l : Int) - 1 > 1 then (l : Int) - 1 else 1) = mx at et hm
  have hs : x % 8 = 0 ∨ x % 8 = 1 ∨ x % 8 = 2 ∨ x % 8 = 3 ∨ x % 8 = 4 ∨ x % 8 = 5 ∨ x % 8 = 6 ∨ x % 8 = 7 := by omega
  unfold sem_l_meaning b_l_meaning
  by_cases h1 : l = 1
  · have h1' : ((l : Int) = 1) = True := eq_true (by omega)
    rcases hs with hs | hs | hs | hs | hs | hs | hs | hs
    · exact ⟨.letter c, hc, by simp (disch := (first | assumption | with_reducible rfl | decide +kernel | exact Or.inl (by decide +kernel) | exact Or.inr (by decide +kernel) | omega | (simp only [List.length_cons, List.length_nil, List.length_append, List.length_map, List.length_replicate, List.length_range] <;> omega) | rfl)) only [MP.of_some, MP.map_some, MP.e_lv, MP.e_lo, MP.e_pD, MP.e_xDs, MP.e_xDf, MP.e_pC, MP.e_pYes, MP.e_pVar, MP.e_p2, MP.e_x2, MP.e_p1, MP.e_x1, MP.e_pB, MP.e_xB, MP.e_pNot, MP.e_xNot, MP.e_pAnd, MP.e_xAndT, MP.e_xAndF, MP.e_pOr, MP.e_xOrT, MP.e_xOrF, MP.e_pAndV, MP.e_xAndVT, MP.e_xAndVF, MP.e_pOrV, MP.e_xOrVT, MP.e_xOrVF, MP.e_pNotV, MP.e_xNotV, MP.e_pIf, MP.e_xIfT, MP.e_xIfF, MP.e_p3, MP.e_x3, MP.e_x3bT, MP.e_x3bF, MP.e_pNil, MP.e_pCons, MP.e_xCons, MP.e_pTup, MP.e_xTp, MP.e_pLst, MP.e_xLs, MP.e_pNo, MP.e_pSome, MP.e_xSo, MP.e_pSl, MP.e_xSl, MP.e_pCall, MP.e_xG, MP.e_pSeq, MP.e_xSq, MP.e_pSeqR, MP.e_xSqR, MP.e_pRng, MP.e_pEnum, MP.e_xEn, MP.e_pComp, MP.e_xC, MP.e_xC2, MP.e_pUser, MP.e_xU, MP.e_xFv, MP.e_xFo, MP.e_xFe, MP.e_pSeal, MP.e_xSe, MP.e_xSeFv, MP.e_xSeFo, MP.e_pLook, MP.e_xLo, MP.e_xLoF, MP.e_pFld, MP.e_xFd, MP.e_xOb, MP.e_xLk0, MP.e_xLk1, MP.e_c0, MP.e_c1, MP.g_add, MP.g_catS, MP.g_catL, MP.g_catT, MP.g_sub, MP.g_mul, MP.g_rep, MP.g_div, MP.g_mod, MP.g_pow, MP.g_shl, MP.g_shr, MP.g_and, MP.g_orI, MP.g_neg, MP.g_lt, MP.g_le, MP.g_gt, MP.g_ge, MP.g_eqI, MP.g_eqS, MP.g_eqBo, MP.g_neI, MP.g_neS, MP.g_neBo, MP.g_is, MP.g_isNot, MP.n_none, MP.n_int, MP.n_str, MP.n_tup, MP.n_list, MP.n_bool, MP.g_max, MP.g_min, MP.g_lenL, MP.g_lenK, MP.g_lenT, MP.g_listL, MP.g_listK, MP.g_listT, MP.g_tupL, MP.g_tupT, MP.q_list, MP.q_lk, MP.q_tup, MP.g_rng1, MP.g_rng2, MP.g_enumL, MP.g_enumK, MP.g_ixL, MP.g_ixK, MP.g_ixT, MP.g_slL, MP.g_slK, MP.g_slT, MP.s_Nil, MP.s_Brk, MP.s_Cont, MP.s_Seq, MP.s_xSn, MP.s_xSr, MP.s_xSb, MP.s_xSc, MP.s_xSe, MP.s_Expr, MP.s_xEx, MP.s_SetV, MP.s_xSV, MP.s_SetO, MP.s_xSOs, MP.s_xSOf, MP.s_Ret, MP.s_xRts, MP.s_xRtf, MP.s_RetN, MP.s_RetS, MP.s_xRSo, MP.s_xRSv, MP.s_If, MP.s_xIfT, MP.s_xIfF, MP.s_Tup, MP.s_xTu, MP.s_xTb, MP.s_For, MP.s_xFor, MP.s_App, MP.s_xAp, MP.s_Thaw, MP.s_xTh, MP.s_Frz, MP.s_xFzo, MP.s_xFzv, MP.s_ExprF, MP.s_xEF, MP.s_SetF, MP.s_xSF, MP.s_RetF, MP.s_xRF, MP.s_IfF, MP.s_xIFT, MP.s_xIFF, MP.s_FldN, MP.s_xN, MP.s_xN2, MP.s_xN3, MP.s_put0, MP.s_put1, MP.s_putN, MP.f_P, MP.f_xPs, MP.f_xPf, MP.f_User, MP.f_xFU, MP.f_Meth, MP.f_xM, MP.f_xM2, MP.f_Make, MP.f_xMk, MP.f_xMkF, MP.fe_ok, MP.r_run, MP.r_un, MP.r_un0, MP.r_nx, MP.r_ret, MP.r_exc, MP.t_nx, MP.t_cont, MP.t_brk, MP.t_ret, MP.b_nm, MP.b_tp2, MP.b_tp3, MP.t_bk, MP.fe_pop, MP.s_appF, MP.s_dead, MP.g_divmod, MP.g_sorted, MP.g_allB, MP.g_anyB, MP.g_sumI, MP.g_zipT, MP.g_zipL, MP.e_pZip, MP.e_xZp, MP.g_abs, MP.g_intI, MP.g_intB, MP.g_repT, MP.e_pLRng, MP.e_xLR, MP.f_Pop, MP.f_xPop, MP.s_AppF, MP.s_xAF0, MP.s_xAF, MP.s_xAF2, MP.g_inI, MP.g_ninI, MP.g_inT, MP.g_ninT, MP.g_ninST, MP.e_c2, MP.e_c3, MP.e_c4, MP.e_c5, MP.e_pIsi, List.getElem?_cons_zero, List.getElem?_cons_succ, List.getElem?_nil, List.set_cons_zero, List.set_cons_succ, List.map_cons, List.map_nil, List.length_cons, List.length_nil, List.length_append, List.cons_append, List.nil_append, List.length_map, List.length_singleton, Nat.reduceBEq, Nat.reduceAdd, Nat.reduceSub, Nat.reduceMul, Nat.reduceEqDiff, Nat.reduceLeDiff, Nat.reduceLT, if_false, if_true, ite_true, ite_false, ↓reduceIte, Bool.not_true, Bool.not_false, Bool.false_eq_true, decide_true, decide_false, eq_self, and_true, true_and, and_self, Nat.zero_le, Nat.zero_add, Option.bind_some, Option.bind_none, Nat.lt_irrefl, Int.reduceToNat, Int.reducePow, Int.reduceNeg, Int.reduceMul, Int.reduceAdd, Int.reduceSub, Int.reduceLT, Int.reduceLE, Int.reduceEq, beq_self_eq_true, wipeE, MP.at0, MP.at1, MP.at2, MP.atLit, hs, ec, h1', hmx, et]; rfl⟩
    · exact ⟨.letter c, hc, by simp (disch := (first | assumption | with_reducible rfl | decide +kernel | exact Or.inl (by decide +kernel) | exact Or.inr (by decide +kernel) | omega | (simp only [List.length_cons, List.length_nil, List.length_append, List.length_map, List.length_replicate, List.length_range] <;> omega) | rfl)) only [MP.of_some, MP.map_some, MP.e_lv, MP.e_lo, MP.e_pD, MP.e_xDs, MP.e_xDf, MP.e_pC, MP.e_pYes, MP.e_pVar, MP.e_p2, MP.e_x2, MP.e_p1, MP.e_x1, MP.e_pB, MP.e_xB, MP.e_pNot, MP.e_xNot, MP.e_pAnd, MP.e_xAndT, MP.e_xAndF, MP.e_pOr, MP.e_xOrT, MP.e_xOrF, MP.e_pAndV, MP.e_xAndVT, MP.e_xAndVF, MP.e_pOrV, MP.e_xOrVT, MP.e_xOrVF, MP.e_pNotV, MP.e_xNotV, MP.e_pIf, MP.e_xIfT, MP.e_xIfF, MP.e_p3, MP.e_x3, MP.e_x3bT, MP.e_x3bF, MP.e_pNil, MP.e_pCons, MP.e_xCons, MP.e_pTup, MP.e_xTp, MP.e_pLst, MP.e_xLs, MP.e_pNo, MP.e_pSome, MP.e_xSo, MP.e_pSl, MP.e_xSl, MP.e_pCall, MP.e_xG, MP.e_pSeq, MP.e_xSq, MP.e_pSeqR, MP.e_xSqR, MP.e_pRng, MP.e_pEnum, MP.e_xEn, MP.e_pComp, MP.e_xC, MP.e_xC2, MP.e_pUser, MP.e_xU, MP.e_xFv, MP.e_xFo, MP.e_xFe, MP.e_pSeal, MP.e_xSe, MP.e_xSeFv, MP.e_xSeFo, MP.e_pLook, MP.e_xLo, MP.e_xLoF, MP.e_pFld, MP.e_xFd, MP.e_xOb, MP.e_xLk0, MP.e_xLk1, MP.e_c0, MP.e_c1, MP.g_add, MP.g_catS, MP.g_catL, MP.g_catT, MP.g_sub, MP.g_mul, MP.g_rep, MP.g_div, MP.g_mod, MP.g_pow, MP.g_shl, MP.g_shr, MP.g_and, MP.g_orI, MP.g_neg, MP.g_lt, MP.g_le, MP.g_gt, MP.g_ge, MP.g_eqI, MP.g_eqS, MP.g_eqBo, MP.g_neI, MP.g_neS, MP.g_neBo, MP.g_is, MP.g_isNot, MP.n_none, MP.n_int, MP.n_str, MP.n_tup, MP.n_list, MP.n_bool, MP.g_max, MP.g_min, MP.g_lenL, MP.g_lenK, MP.g_lenT, MP.g_listL, MP.g_listK, MP.g_listT, MP.g_tupL, MP.g_tupT, MP.q_list, MP.q_lk, MP.q_tup, MP.g_rng1, MP.g_rng2, MP.g_enumL, MP.g_enumK, MP.g_ixL, MP.g_ixK, MP.g_ixT, MP.g_slL, MP.g_slK, MP.g_slT, MP.s_Nil, MP.s_Brk, MP.s_Cont, MP.s_Seq, MP.s_xSn, MP.s_xSr, MP.s_xSb, MP.s_xSc, MP.s_xSe, MP.s_Expr, MP.s_xEx, MP.s_SetV, MP.s_xSV, MP.s_SetO, MP.s_xSOs, MP.s_xSOf, MP.s_Ret, MP.s_xRts, MP.s_xRtf, MP.s_RetN, MP.s_RetS, MP.s_xRSo, MP.s_xRSv, MP.s_If, MP.s_xIfT, MP.s_xIfF, MP.s_Tup, MP.s_xTu, MP.s_xTb, MP.s_For, MP.s_xFor, MP.s_App, MP.s_xAp, MP.s_Thaw, MP.s_xTh, MP.s_Frz, MP.s_xFzo, MP.s_xFzv, MP.s_ExprF, MP.s_xEF, MP.s_SetF, MP.s_xSF, MP.s_RetF, MP.s_xRF, MP.s_IfF, MP.s_xIFT, MP.s_xIFF, MP.s_FldN, MP.s_xN, MP.s_xN2, MP.s_xN3, MP.s_put0, MP.s_put1, MP.s_putN, MP.f_P, MP.f_xPs, MP.f_xPf, MP.f_User, MP.f_xFU, MP.f_Meth, MP.f_xM, MP.f_xM2, MP.f_Make, MP.f_xMk, MP.f_xMkF, MP.fe_ok, MP.r_run, MP.r_un, MP.r_un0, MP.r_nx, MP.r_ret, MP.r_exc, MP.t_nx, MP.t_cont, MP.t_brk, MP.t_ret, MP.b_nm, MP.b_tp2, MP.b_tp3, MP.t_bk, MP.fe_pop, MP.s_appF, MP.s_dead, MP.g_divmod, MP.g_sorted, MP.g_allB, MP.g_anyB, MP.g_sumI, MP.g_zipT, MP.g_zipL, MP.e_pZip, MP.e_xZp, MP.g_abs, MP.g_intI, MP.g_intB, MP.g_repT, MP.e_pLRng, MP.e_xLR, MP.f_Pop, MP.f_xPop, MP.s_AppF, MP.s_xAF0, MP.s_xAF, MP.s_xAF2, MP.g_inI, MP.g_ninI, MP.g_inT, MP.g_ninT, MP.g_ninST, MP.e_c2, MP.e_c3, MP.e_c4, MP.e_c5, MP.e_pIsi, List.getElem?_cons_zero, List.getElem?_cons_succ, List.getElem?_nil, List.set_cons_zero, List.set_cons_succ, List.map_cons, List.map_nil, List.length_cons, List.length_nil, List.length_append, List.cons_append, List.nil_append, List.length_map, List.length_singleton, Nat.reduceBEq, Nat.reduceAdd, Nat.reduceSub, Nat.reduceMul, Nat.reduceEqDiff, Nat.reduceLeDiff, Nat.reduceLT, if_false, if_true, ite_true, ite_false, ↓reduceIte, Bool.not_true, Bool.not_false, Bool.false_eq_true, decide_true, decide_false, eq_self, and_true, true_and, and_self, Nat.zero_le, Nat.zero_add, Option.bind_some, Option.bind_none, Nat.lt_irrefl, Int.reduceToNat, Int.reducePow, Int.reduceNeg, Int.reduceMul, Int.reduceAdd, Int.reduceSub, Int.reduceLT, Int.reduceLE, Int.reduceEq, beq_self_eq_true, wipeE, MP.at0, MP.at1, MP.at2, MP.atLit, hs, ec, h1', hmx, et]; rfl⟩
    · exact ⟨.letter c, hc, by simp (disch := (first | assumption | with_reducible rfl | decide +kernel | exact Or.inl (by decide +kernel) | exact Or.inr (by decide +kernel) | omega | (simp only [List.length_cons, List.length_nil, List.length_append, List.length_map, List.length_replicate, List.length_range] <;> omega) | rfl)) only [MP.of_some, MP.map_some, MP.e_lv, MP.e_lo, MP.e_pD, MP.e_xDs, MP.e_xDf, MP.e_pC, MP.e_pYes, MP.e_pVar, MP.e_p2, MP.e_x2, MP.e_p1, MP.e_x1, MP.e_pB, MP.e_xB, MP.e_pNot, MP.e_xNot, MP.e_pAnd, MP.e_xAndT, MP.e_xAndF, MP.e_pOr, MP.e_xOrT, MP.e_xOrF, MP.e_pAndV, MP.e_xAndVT, MP.e_xAndVF, MP.e_pOrV, MP.e_xOrVT, MP.e_xOrVF, MP.e_pNotV, MP.e_xNotV, MP.e_pIf, MP.e_xIfT, MP.e_xIfF, MP.e_p3, MP.e_x3, MP.e_x3bT, MP.e_x3bF, MP.e_pNil, MP.e_pCons, MP.e_xCons, MP.e_pTup, MP.e_xTp, MP.e_pLst, MP.e_xLs, MP.e_pNo, MP.e_pSome, MP.e_xSo, MP.e_pSl, MP.e_xSl, MP.e_pCall, MP.e_xG, MP.e_pSeq, MP.e_xSq, MP.e_pSeqR, MP.e_xSqR, MP.e_pRng, MP.e_pEnum, MP.e_xEn, MP.e_pComp, MP.e_xC, MP.e_xC2, MP.e_pUser, MP.e_xU, MP.e_xFv, MP.e_xFo, MP.e_xFe, MP.e_pSeal, MP.e_xSe, MP.e_xSeFv, MP.e_xSeFo, MP.e_pLook, MP.e_xLo, MP.e_xLoF, MP.e_pFld, MP.e_xFd, MP.e_xOb, MP.e_xLk0, MP.e_xLk1, MP.e_c0, MP.e_c1, MP.g_add, MP.g_catS, MP.g_catL, MP.g_catT, MP.g_sub, MP.g_mul, MP.g_rep, MP.g_div, MP.g_mod, MP.g_pow, MP.g_shl, MP.g_shr, MP.g_and, MP.g_orI, MP.g_neg, MP.g_lt, MP.g_le, MP.g_gt, MP.g_ge, MP.g_eqI, MP.g_eqS, MP.g_eqBo, MP.g_neI, MP.g_neS, MP.g_neBo, MP.g_is, MP.g_isNot, MP.n_none, MP.n_int, MP.n_str, MP.n_tup, MP.n_list, MP.n_bool, MP.g_max, MP.g_min, MP.g_lenL, MP.g_lenK, MP.g_lenT, MP.g_listL, MP.g_listK, MP.g_listT, MP.g_tupL, MP.g_tupT, MP.q_list, MP.q_lk, MP.q_tup, MP.g_rng1, MP.g_rng2, MP.g_enumL, MP.g_enumK, MP.g_ixL, MP.g_ixK, MP.g_ixT, MP.g_slL, MP.g_slK, MP.g_slT, MP.s_Nil, MP.s_Brk, MP.s_Cont, MP.s_Seq, MP.s_xSn, MP.s_xSr, MP.s_xSb, MP.s_xSc, MP.s_xSe, MP.s_Expr, MP.s_xEx, MP.s_SetV, MP.s_xSV, MP.s_SetO, MP.s_xSOs, MP.s_xSOf, MP.s_Ret, MP.s_xRts, MP.s_xRtf, MP.s_RetN, MP.s_RetS, MP.s_xRSo, MP.s_xRSv, MP.s_If, MP.s_xIfT, MP.s_xIfF, MP.s_Tup, MP.s_xTu, MP.s_xTb, MP.s_For, MP.s_xFor, MP.s_App, MP.s_xAp, MP.s_Thaw, MP.s_xTh, MP.s_Frz, MP.s_xFzo, MP.s_xFzv, MP.s_ExprF, MP.s_xEF, MP.s_SetF, MP.s_xSF, MP.s_RetF, MP.s_xRF, MP.s_IfF, MP.s_xIFT, MP.s_xIFF, MP.s_FldN, MP.s_xN, MP.s_xN2, MP.s_xN3, MP.s_put0, MP.s_put1, MP.s_putN, MP.f_P, MP.f_xPs, MP.f_xPf, MP.f_User, MP.f_xFU, MP.f_Meth, MP.f_xM, MP.f_xM2, MP.f_Make, MP.f_xMk, MP.f_xMkF, MP.fe_ok, MP.r_run, MP.r_un, MP.r_un0, MP.r_nx, MP.r_ret, MP.r_exc, MP.t_nx, MP.t_cont, MP.t_brk, MP.t_ret, MP.b_nm, MP.b_tp2, MP.b_tp3, MP.t_bk, MP.fe_pop, MP.s_appF, MP.s_dead, MP.g_divmod, MP.g_sorted, MP.g_allB, MP.g_anyB, MP.g_sumI, MP.g_zipT, MP.g_zipL, MP.e_pZip, MP.e_xZp, MP.g_abs, MP.g_intI, MP.g_intB, MP.g_repT, MP.e_pLRng, MP.e_xLR, MP.f_Pop, MP.f_xPop, MP.s_AppF, MP.s_xAF0, MP.s_xAF, MP.s_xAF2, MP.g_inI, MP.g_ninI, MP.g_inT, MP.g_ninT, MP.g_ninST, MP.e_c2, MP.e_c3, MP.e_c4, MP.e_c5, MP.e_pIsi, List.getElem?_cons_zero, List.getElem?_cons_succ, List.getElem?_nil, List.set_cons_zero, List.set_cons_succ, List.map_cons, List.map_nil, List.length_cons, List.length_nil, List.length_append, List.cons_append, List.nil_append, List.length_map, List.length_singleton, Nat.reduceBEq, Nat.reduceAdd, Nat.reduceSub, Nat.reduceMul, Nat.reduceEqDiff, Nat.reduceLeDiff, Nat.reduceLT, if_false, if_true, ite_true, ite_false, ↓reduceIte, Bool.not_true, Bool.not_false, Bool.false_eq_true, decide_true, decide_false, eq_self, and_true, true_and, and_self, Nat.zero_le, Nat.zero_add, Option.bind_some, Option.bind_none, Nat.lt_irrefl, Int.reduceToNat, Int.reducePow, Int.reduceNeg, Int.reduceMul, Int.reduceAdd, Int.reduceSub, Int.reduceLT, Int.reduceLE, Int.reduceEq, beq_self_eq_true, wipeE, MP.at0, MP.at1, MP.at2, MP.atLit, hs, ec, h1', hmx, et]; rfl⟩
    · exact ⟨.letter c, hc, by simp (disch := (first | assumption | with_reducible rfl | decide +kernel | exact Or.inl (by decide +kernel) | exact Or.inr (by decide +kernel) | omega | (simp only [List.length_cons, List.length_nil, List.length_append, List.length_map, List.length_replicate, List.length_range] <;> omega) | rfl)) only [MP.of_some, MP.map_some, MP.e_lv, MP.e_lo, MP.e_pD, MP.e_xDs, MP.e_xDf, MP.e_pC, MP.e_pYes, MP.e_pVar, MP.e_p2, MP.e_x2, MP.e_p1, MP.e_x1, MP.e_pB, MP.e_xB, MP.e_pNot, MP.e_xNot, MP.e_pAnd, MP.e_xAndT, MP.e_xAndF, MP.e_pOr, MP.e_xOrT, MP.e_xOrF, MP.e_pAndV, MP.e_xAndVT, MP.e_xAndVF, MP.e_pOrV, MP.e_xOrVT, MP.e_xOrVF, MP.e_pNotV, MP.e_xNotV, MP.e_pIf, MP.e_xIfT, MP.e_xIfF, MP.e_p3, MP.e_x3, MP.e_x3bT, MP.e_x3bF, MP.e_pNil, MP.e_pCons, MP.e_xCons, MP.e_pTup, MP.e_xTp, MP.e_pLst, MP.e_xLs, MP.e_pNo, MP.e_pSome, MP.e_xSo, MP.e_pSl, MP.e_xSl, MP.e_pCall, MP.e_xG, MP.e_pSeq, MP.e_xSq, MP.e_pSeqR, MP.e_xSqR, MP.e_pRng, MP.e_pEnum, MP.e_xEn, MP.e_pComp, MP.e_xC, MP.e_xC2, MP.e_pUser, MP.e_xU, MP.e_xFv, MP.e_xFo, MP.e_xFe, MP.e_pSeal, MP.e_xSe, MP.e_xSeFv, MP.e_xSeFo, MP.e_pLook, MP.e_xLo, MP.e_xLoF, MP.e_pFld, MP.e_xFd, MP.e_xOb, MP.e_xLk0, MP.e_xLk1, MP.e_c0, MP.e_c1, MP.g_add, MP.g_catS, MP.g_catL, MP.g_catT, MP.g_sub, MP.g_mul, MP.g_rep, MP.g_div, MP.g_mod, MP.g_pow, MP.g_shl, MP.g_shr, MP.g_and, MP.g_orI, MP.g_neg, MP.g_lt, MP.g_le, MP.g_gt, MP.g_ge, MP.g_eqI, MP.g_eqS, MP.g_eqBo, MP.g_neI, MP.g_neS, MP.g_neBo, MP.g_is, MP.g_isNot, MP.n_none, MP.n_int, MP.n_str, MP.n_tup, MP.n_list, MP.n_bool, MP.g_max, MP.g_min, MP.g_lenL, MP.g_lenK, MP.g_lenT, MP.g_listL, MP.g_listK, MP.g_listT, MP.g_tupL, MP.g_tupT, MP.q_list, MP.q_lk, MP.q_tup, MP.g_rng1, MP.g_rng2, MP.g_enumL, MP.g_enumK, MP.g_ixL, MP.g_ixK, MP.g_ixT, MP.g_slL, MP.g_slK, MP.g_slT, MP.s_Nil, MP.s_Brk, MP.s_Cont, MP.s_Seq, MP.s_xSn, MP.s_xSr, MP.s_xSb, MP.s_xSc, MP.s_xSe, MP.s_Expr, MP.s_xEx, MP.s_SetV, MP.s_xSV, MP.s_SetO, MP.s_xSOs, MP.s_xSOf, MP.s_Ret, MP.s_xRts, MP.s_xRtf, MP.s_RetN, MP.s_RetS, MP.s_xRSo, MP.s_xRSv, MP.s_If, MP.s_xIfT, MP.s_xIfF, MP.s_Tup, MP.s_xTu, MP.s_xTb, MP.s_For, MP.s_xFor, MP.s_App, MP.s_xAp, MP.s_Thaw, MP.s_xTh, MP.s_Frz, MP.s_xFzo, MP.s_xFzv, MP.s_ExprF, MP.s_xEF, MP.s_SetF, MP.s_xSF, MP.s_RetF, MP.s_xRF, MP.s_IfF, MP.s_xIFT, MP.s_xIFF, MP.s_FldN, MP.s_xN, MP.s_xN2, MP.s_xN3, MP.s_put0, MP.s_put1, MP.s_putN, MP.f_P, MP.f_xPs, MP.f_xPf, MP.f_User, MP.f_xFU, MP.f_Meth, MP.f_xM, MP.f_xM2, MP.f_Make, MP.f_xMk, MP.f_xMkF, MP.fe_ok, MP.r_run, MP.r_un, MP.r_un0, MP.r_nx, MP.r_ret, MP.r_exc, MP.t_nx, MP.t_cont, MP.t_brk, MP.t_ret, MP.b_nm, MP.b_tp2, MP.b_tp3, MP.t_bk, MP.fe_pop, MP.s_appF, MP.s_dead, MP.g_divmod, MP.g_sorted, MP.g_allB, MP.g_anyB, MP.g_sumI, MP.g_zipT, MP.g_zipL, MP.e_pZip, MP.e_xZp, MP.g_abs, MP.g_intI, MP.g_intB, MP.g_repT, MP.e_pLRng, MP.e_xLR, MP.f_Pop, MP.f_xPop, MP.s_AppF, MP.s_xAF0, MP.s_xAF, MP.s_xAF2, MP.g_inI, MP.g_ninI, MP.g_inT, MP.g_ninT, MP.g_ninST, MP.e_c2, MP.e_c3, MP.e_c4, MP.e_c5, MP.e_pIsi, List.getElem?_cons_zero, List.getElem?_cons_succ, List.getElem?_nil, List.set_cons_zero, List.set_cons_succ, List.map_cons, List.map_nil, List.length_cons, List.length_nil, List.length_append, List.cons_append, List.nil_append, List.length_map, List.length_singleton, Nat.reduceBEq, Nat.reduceAdd, Nat.reduceSub, Nat.reduceMul, Nat.reduceEqDiff, Nat.reduceLeDiff, Nat.reduceLT, if_false, if_true, ite_true, ite_false, ↓reduceIte, Bool.not_true, Bool.not_false, Bool.false_eq_true, decide_true, decide_false, eq_self, and_true, true_and, and_self, Nat.zero_le, Nat.zero_add, Option.bind_some, Option.bind_none, Nat.lt_irrefl, Int.reduceToNat, Int.reducePow, Int.reduceNeg, Int.reduceMul, Int.reduceAdd, Int.reduceSub, Int.reduceLT, Int.reduceLE, Int.reduceEq, beq_self_eq_true, wipeE, MP.at0, MP.at1, MP.at2, MP.atLit, hs, ec, h1', hmx, et]; rfl⟩
    · exact ⟨.letter c, hc, by simp (disch := (first | assumption | with_reducible rfl | decide +kernel | exact Or.inl (by decide +kernel) | exact Or.inr (by decide +kernel) | omega | (simp only [List.length_cons, List.length_nil, List.length_append, List.length_map, List.length_replicate, List.length_range] <;> omega) | rfl)) only [MP.of_some, MP.map_some, MP.e_lv, MP.e_lo, MP.e_pD, MP.e_xDs, MP.e_xDf, MP.e_pC, MP.e_pYes, MP.e_pVar, MP.e_p2, MP.e_x2, MP.e_p1, MP.e_x1, MP.e_pB, MP.e_xB, MP.e_pNot, MP.e_xNot, MP.e_pAnd, MP.e_xAndT, MP.e_xAndF, MP.e_pOr, MP.e_xOrT, MP.e_xOrF, MP.e_pAndV, MP.e_xAndVT, MP.e_xAndVF, MP.e_pOrV, MP.e_xOrVT, MP.e_xOrVF, MP.e_pNotV, MP.e_xNotV, MP.e_pIf, MP.e_xIfT, MP.e_xIfF, MP.e_p3, MP.e_x3, MP.e_x3bT, MP.e_x3bF, MP.e_pNil, MP.e_pCons, MP.e_xCons, MP.e_pTup, MP.e_xTp, MP.e_pLst, MP.e_xLs, MP.e_pNo, MP.e_pSome, MP.e_xSo, MP.e_pSl, MP.e_xSl, MP.e_pCall, MP.e_xG, MP.e_pSeq, MP.e_xSq, MP.e_pSeqR, MP.e_xSqR, MP.e_pRng, MP.e_pEnum, MP.e_xEn, MP.e_pComp, MP.e_xC, MP.e_xC2, MP.e_pUser, MP.e_xU, MP.e_xFv, MP.e_xFo, MP.e_xFe, MP.e_pSeal, MP.e_xSe, MP.e_xSeFv, MP.e_xSeFo, MP.e_pLook, MP.e_xLo, MP.e_xLoF, MP.e_pFld, MP.e_xFd, MP.e_xOb, MP.e_xLk0, MP.e_xLk1, MP.e_c0, MP.e_c1, MP.g_add, MP.g_catS, MP.g_catL, MP.g_catT, MP.g_sub, MP.g_mul, MP.g_rep, MP.g_div, MP.g_mod, MP.g_pow, MP.g_shl, MP.g_shr, MP.g_and, MP.g_orI, MP.g_neg, MP.g_lt, MP.g_le, MP.g_gt, MP.g_ge, MP.g_eqI, MP.g_eqS, MP.g_eqBo, MP.g_neI, MP.g_neS, MP.g_neBo, MP.g_is, MP.g_isNot, MP.n_none, MP.n_int, MP.n_str, MP.n_tup, MP.n_list, MP.n_bool, MP.g_max, MP.g_min, MP.g_lenL, MP.g_lenK, MP.g_lenT, MP.g_listL, MP.g_listK, MP.g_listT, MP.g_tupL, MP.g_tupT, MP.q_list, MP.q_lk, MP.q_tup, MP.g_rng1, MP.g_rng2, MP.g_enumL, MP.g_enumK, MP.g_ixL, MP.g_ixK, MP.g_ixT, MP.g_slL, MP.g_slK, MP.g_slT, MP.s_Nil, MP.s_Brk, MP.s_Cont, MP.s_Seq, MP.s_xSn, MP.s_xSr, MP.s_xSb, MP.s_xSc, MP.s_xSe, MP.s_Expr, MP.s_xEx, MP.s_SetV, MP.s_xSV, MP.s_SetO, MP.s_xSOs, MP.s_xSOf, MP.s_Ret, MP.s_xRts, MP.s_xRtf, MP.s_RetN, MP.s_RetS, MP.s_xRSo, MP.s_xRSv, MP.s_If, MP.s_xIfT, MP.s_xIfF, MP.s_Tup, MP.s_xTu, MP.s_xTb, MP.s_For, MP.s_xFor, MP.s_App, MP.s_xAp, MP.s_Thaw, MP.s_xTh, MP.s_Frz, MP.s_xFzo, MP.s_xFzv, MP.s_ExprF, MP.s_xEF, MP.s_SetF, MP.s_xSF, MP.s_RetF, MP.s_xRF, MP.s_IfF, MP.s_xIFT, MP.s_xIFF, MP.s_FldN, MP.s_xN, MP.s_xN2, MP.s_xN3, MP.s_put0, MP.s_put1, MP.s_putN, MP.f_P, MP.f_xPs, MP.f_xPf, MP.f_User, MP.f_xFU, MP.f_Meth, MP.f_xM, MP.f_xM2, MP.f_Make, MP.f_xMk, MP.f_xMkF, MP.fe_ok, MP.r_run, MP.r_un, MP.r_un0, MP.r_nx, MP.r_ret, MP.r_exc, MP.t_nx, MP.t_cont, MP.t_brk, MP.t_ret, MP.b_nm, MP.b_tp2, MP.b_tp3, MP.t_bk, MP.fe_pop, MP.s_appF, MP.s_dead, MP.g_divmod, MP.g_sorted, MP.g_allB, MP.g_anyB, MP.g_sumI, MP.g_zipT, MP.g_zipL, MP.e_pZip, MP.e_xZp, MP.g_abs, MP.g_intI, MP.g_intB, MP.g_repT, MP.e_pLRng, MP.e_xLR, MP.f_Pop, MP.f_xPop, MP.s_AppF, MP.s_xAF0, MP.s_xAF, MP.s_xAF2, MP.g_inI, MP.g_ninI, MP.g_inT, MP.g_ninT, MP.g_ninST, MP.e_c2, MP.e_c3, MP.e_c4, MP.e_c5, MP.e_pIsi, List.getElem?_cons_zero, List.getElem?_cons_succ, List.getElem?_nil, List.set_cons_zero, List.set_cons_succ, List.map_cons, List.map_nil, List.length_cons, List.length_nil, List.length_append, List.cons_append, List.nil_append, List.length_map, List.length_singleton, Nat.reduceBEq, Nat.reduceAdd, Nat.reduceSub, Nat.reduceMul, Nat.reduceEqDiff, Nat.reduceLeDiff, Nat.reduceLT, if_false, if_true, ite_true, ite_false, ↓reduceIte, Bool.not_true, Bool.not_false, Bool.false_eq_true, decide_true, decide_false, eq_self, and_true, true_and, and_self, Nat.zero_le, Nat.zero_add, Option.bind_some, Option.bind_none, Nat.lt_irrefl, Int.reduceToNat, Int.reducePow, Int.reduceNeg, Int.reduceMul, Int.reduceAdd, Int.reduceSub, Int.reduceLT, Int.reduceLE, Int.reduceEq, beq_self_eq_true, wipeE, MP.at0, MP.at1, MP.at2, MP.atLit, hs, ec, h1', hmx, et]; rfl⟩
    · exact ⟨.letter c, hc, by simp (disch := (first | assumption | with_reducible rfl | decide +kernel | exact Or.inl (by decide +kernel) | exact Or.inr (by decide +kernel) | omega | (simp only [List.length_cons, List.length_nil, List.length_append, List.length_map, List.length_replicate, List.length_range] <;> omega) | rfl)) only [MP.of_some, MP.map_some, MP.e_lv, MP.e_lo, MP.e_pD, MP.e_xDs, MP.e_xDf, MP.e_pC, MP.e_pYes, MP.e_pVar, MP.e_p2, MP.e_x2, MP.e_p1, MP.e_x1, MP.e_pB, MP.e_xB, MP.e_pNot, MP.e_xNot, MP.e_pAnd, MP.e_xAndT, MP.e_xAndF, MP.e_pOr, MP.e_xOrT, MP.e_xOrF, MP.e_pAndV, MP.e_xAndVT, MP.e_xAndVF, MP.e_pOrV, MP.e_xOrVT, MP.e_xOrVF, MP.e_pNotV, MP.e_xNotV, MP.e_pIf, MP.e_xIfT, MP.e_xIfF, MP.e_p3, MP.e_x3, MP.e_x3bT, MP.e_x3bF, MP.e_pNil, MP.e_pCons, MP.e_xCons, MP.e_pTup, MP.e_xTp, MP.e_pLst, MP.e_xLs, MP.e_pNo, MP.e_pSome, MP.e_xSo, MP.e_pSl, MP.e_xSl, MP.e_pCall, MP.e_xG, MP.e_pSeq, MP.e_xSq, MP.e_pSeqR, MP.e_xSqR, MP.e_pRng, MP.e_pEnum, MP.e_xEn, MP.e_pComp, MP.e_xC, MP.e_xC2, MP.e_pUser, MP.e_xU, MP.e_xFv, MP.e_xFo, MP.e_xFe, MP.e_pSeal, MP.e_xSe, MP.e_xSeFv, MP.e_xSeFo, MP.e_pLook, MP.e_xLo, MP.e_xLoF, MP.e_pFld, MP.e_xFd, MP.e_xOb, MP.e_xLk0, MP.e_xLk1, MP.e_c0, MP.e_c1, MP.g_add, MP.g_catS, MP.g_catL, MP.g_catT, MP.g_sub, MP.g_mul, MP.g_rep, MP.g_div, MP.g_mod, MP.g_pow, MP.g_shl, MP.g_shr, MP.g_and, MP.g_orI, MP.g_neg, MP.g_lt, MP.g_le, MP.g_gt, MP.g_ge, MP.g_eqI, MP.g_eqS, MP.g_eqBo, MP.g_neI, MP.g_neS, MP.g_neBo, MP.g_is, MP.g_isNot, MP.n_none, MP.n_int, MP.n_str, MP.n_tup, MP.n_list, MP.n_bool, MP.g_max, MP.g_min, MP.g_lenL, MP.g_lenK, MP.g_lenT, MP.g_listL, MP.g_listK, MP.g_listT, MP.g_tupL, MP.g_tupT, MP.q_list, MP.q_lk, MP.q_tup, MP.g_rng1, MP.g_rng2, MP.g_enumL, MP.g_enumK, MP.g_ixL, MP.g_ixK, MP.g_ixT, MP.g_slL, MP.g_slK, MP.g_slT, MP.s_Nil, MP.s_Brk, MP.s_Cont, MP.s_Seq, MP.s_xSn, MP.s_xSr, MP.s_xSb, MP.s_xSc, MP.s_xSe, MP.s_Expr, MP.s_xEx, MP.s_SetV, MP.s_xSV, MP.s_SetO, MP.s_xSOs, MP.s_xSOf, MP.s_Ret, MP.s_xRts, MP.s_xRtf, MP.s_RetN, MP.s_RetS, MP.s_xRSo, MP.s_xRSv, MP.s_If, MP.s_xIfT, MP.s_xIfF, MP.s_Tup, MP.s_xTu, MP.s_xTb, MP.s_For, MP.s_xFor, MP.s_App, MP.s_xAp, MP.s_Thaw, MP.s_xTh, MP.s_Frz, MP.s_xFzo, MP.s_xFzv, MP.s_ExprF, MP.s_xEF, MP.s_SetF, MP.s_xSF, MP.s_RetF, MP.s_xRF, MP.s_IfF, MP.s_xIFT, MP.s_xIFF, MP.s_FldN, MP.s_xN, MP.s_xN2, MP.s_xN3, MP.s_put0, MP.s_put1, MP.s_putN, MP.f_P, MP.f_xPs, MP.f_xPf, MP.f_User, MP.f_xFU, MP.f_Meth, MP.f_xM, MP.f_xM2, MP.f_Make, MP.f_xMk, MP.f_xMkF, MP.fe_ok, MP.r_run, MP.r_un, MP.r_un0, MP.r_nx, MP.r_ret, MP.r_exc, MP.t_nx, MP.t_cont, MP.t_brk, MP.t_ret, MP.b_nm, MP.b_tp2, MP.b_tp3, MP.t_bk, MP.fe_pop, MP.s_appF, MP.s_dead, MP.g_divmod, MP.g_sorted, MP.g_allB, MP.g_anyB, MP.g_sumI, MP.g_zipT, MP.g_zipL, MP.e_pZip, MP.e_xZp, MP.g_abs, MP.g_intI, MP.g_intB, MP.g_repT, MP.e_pLRng, MP.e_xLR, MP.f_Pop, MP.f_xPop, MP.s_AppF, MP.s_xAF0, MP.s_xAF, MP.s_xAF2, MP.g_inI, MP.g_ninI, MP.g_inT, MP.g_ninT, MP.g_ninST, MP.e_c2, MP.e_c3, MP.e_c4, MP.e_c5, MP.e_pIsi, List.getElem?_cons_zero, List.getElem?_cons_succ, List.getElem?_nil, List.set_cons_zero, List.set_cons_succ, List.map_cons, List.map_nil, List.length_cons, List.length_nil, List.length_append, List.cons_append, List.nil_append, List.length_map, List.length_singleton, Nat.reduceBEq, Nat.reduceAdd, Nat.reduceSub, Nat.reduceMul, Nat.reduceEqDiff, Nat.reduceLeDiff, Nat.reduceLT, if_false, if_true, ite_true, ite_false, ↓reduceIte, Bool.not_true, Bool.not_false, Bool.false_eq_true, decide_true, decide_false, eq_self, and_true, true_and, and_self, Nat.zero_le, Nat.zero_add, Option.bind_some, Option.bind_none, Nat.lt_irrefl, Int.reduceToNat, Int.reducePow, Int.reduceNeg, Int.reduceMul, Int.reduceAdd, Int.reduceSub, Int.reduceLT, Int.reduceLE, Int.reduceEq, beq_self_eq_true, wipeE, MP.at0, MP.at1, MP.at2, MP.atLit, hs, ec, h1', hmx, et]; rfl⟩
    · exact ⟨.letter c, hc, by simp (disch := (first | assumption | with_reducible rfl | decide +kernel | exact Or.inl (by decide +kernel) | exact Or.inr (by decide +kernel) | omega | (simp only [List.length_cons, List.length_nil, List.length_append, List.length_map, List.length_replicate, List.length_range] <;> omega) | rfl)) only [MP.of_some, MP.map_some, MP.e_lv, MP.e_lo, MP.e_pD, MP.e_xDs, MP.e_xDf, MP.e_pC, MP.e_pYes, MP.e_pVar, MP.e_p2, MP.e_x2, MP.e_p1, MP.e_x1, MP.e_pB, MP.e_xB, MP.e_pNot, MP.e_xNot, MP.e_pAnd, MP.e_xAndT, MP.e_xAndF, MP.e_pOr, MP.e_xOrT, MP.e_xOrF, MP.e_pAndV, MP.e_xAndVT, MP.e_xAndVF, MP.e_pOrV, MP.e_xOrVT, MP.e_xOrVF, MP.e_pNotV, MP.e_xNotV, MP.e_pIf, MP.e_xIfT, MP.e_xIfF, MP.e_p3, MP.e_x3, MP.e_x3bT, MP.e_x3bF, MP.e_pNil, MP.e_pCons, MP.e_xCons, MP.e_pTup, MP.e_xTp, MP.e_pLst, MP.e_xLs, MP.e_pNo, MP.e_pSome, MP.e_xSo, MP.e_pSl, MP.e_xSl, MP.e_pCall, MP.e_xG, MP.e_pSeq, MP.e_xSq, MP.e_pSeqR, MP.e_xSqR, MP.e_pRng, MP.e_pEnum, MP.e_xEn, MP.e_pComp, MP.e_xC, MP.e_xC2, MP.e_pUser, MP.e_xU, MP.e_xFv, MP.e_xFo, MP.e_xFe, MP.e_pSeal, MP.e_xSe, MP.e_xSeFv, MP.e_xSeFo, MP.e_pLook, MP.e_xLo, MP.e_xLoF, MP.e_pFld, MP.e_xFd, MP.e_xOb, MP.e_xLk0, MP.e_xLk1, MP.e_c0, MP.e_c1, MP.g_add, MP.g_catS, MP.g_catL, MP.g_catT, MP.g_sub, MP.g_mul, MP.g_rep, MP.g_div, MP.g_mod, MP.g_pow, MP.g_shl, MP.g_shr, MP.g_and, MP.g_orI, MP.g_neg, MP.g_lt, MP.g_le, MP.g_gt, MP.g_ge, MP.g_eqI, MP.g_eqS, MP.g_eqBo, MP.g_neI, MP.g_neS, MP.g_neBo, MP.g_is, MP.g_isNot, MP.n_none, MP.n_int, MP.n_str, MP.n_tup, MP.n_list, MP.n_bool, MP.g_max, MP.g_min, MP.g_lenL, MP.g_lenK, MP.g_lenT, MP.g_listL, MP.g_listK, MP.g_listT, MP.g_tupL, MP.g_tupT, MP.q_list, MP.q_lk, MP.q_tup, MP.g_rng1, MP.g_rng2, MP.g_enumL, MP.g_enumK, MP.g_ixL, MP.g_ixK, MP.g_ixT, MP.g_slL, MP.g_slK, MP.g_slT, MP.s_Nil, MP.s_Brk, MP.s_Cont, MP.s_Seq, MP.s_xSn, MP.s_xSr, MP.s_xSb, MP.s_xSc, MP.s_xSe, MP.s_Expr, MP.s_xEx, MP.s_SetV, MP.s_xSV, MP.s_SetO, MP.s_xSOs, MP.s_xSOf, MP.s_Ret, MP.s_xRts, MP.s_xRtf, MP.s_RetN, MP.s_RetS, MP.s_xRSo, MP.s_xRSv, MP.s_If, MP.s_xIfT, MP.s_xIfF, MP.s_Tup, MP.s_xTu, MP.s_xTb, MP.s_For, MP.s_xFor, MP.s_App, MP.s_xAp, MP.s_Thaw, MP.s_xTh, MP.s_Frz, MP.s_xFzo, MP.s_xFzv, MP.s_ExprF, MP.s_xEF, MP.s_SetF, MP.s_xSF, MP.s_RetF, MP.s_xRF, MP.s_IfF, MP.s_xIFT, MP.s_xIFF, MP.s_FldN, MP.s_xN, MP.s_xN2, MP.s_xN3, MP.s_put0, MP.s_put1, MP.s_putN, MP.f_P, MP.f_xPs, MP.f_xPf, MP.f_User, MP.f_xFU, MP.f_Meth, MP.f_xM, MP.f_xM2, MP.f_Make, MP.f_xMk, MP.f_xMkF, MP.fe_ok, MP.r_run, MP.r_un, MP.r_un0, MP.r_nx, MP.r_ret, MP.r_exc, MP.t_nx, MP.t_cont, MP.t_brk, MP.t_ret, MP.b_nm, MP.b_tp2, MP.b_tp3, MP.t_bk, MP.fe_pop, MP.s_appF, MP.s_dead, MP.g_divmod, MP.g_sorted, MP.g_allB, MP.g_anyB, MP.g_sumI, MP.g_zipT, MP.g_zipL, MP.e_pZip, MP.e_xZp, MP.g_abs, MP.g_intI, MP.g_intB, MP.g_repT, MP.e_pLRng, MP.e_xLR, MP.f_Pop, MP.f_xPop, MP.s_AppF, MP.s_xAF0, MP.s_xAF, MP.s_xAF2, MP.g_inI, MP.g_ninI, MP.g_inT, MP.g_ninT, MP.g_ninST, MP.e_c2, MP.e_c3, MP.e_c4, MP.e_c5, MP.e_pIsi, List.getElem?_cons_zero, List.getElem?_cons_succ, List.getElem?_nil, List.set_cons_zero, List.set_cons_succ, List.map_cons, List.map_nil, List.length_cons, List.length_nil, List.length_append, List.cons_append, List.nil_append, List.length_map, List.length_singleton, Nat.reduceBEq, Nat.reduceAdd, Nat.reduceSub, Nat.reduceMul, Nat.reduceEqDiff, Nat.reduceLeDiff, Nat.reduceLT, if_false, if_true, ite_true, ite_false, ↓reduceIte, Bool.not_true, Bool.not_false, Bool.false_eq_true, decide_true, decide_false, eq_self, and_true, true_and, and_self, Nat.zero_le, Nat.zero_add, Option.bind_some, Option.bind_none, Nat.lt_irrefl, Int.reduceToNat, Int.reducePow, Int.reduceNeg, Int.reduceMul, Int.reduceAdd, Int.reduceSub, Int.reduceLT, Int.reduceLE, Int.reduceEq, beq_self_eq_true, wipeE, MP.at0, MP.at1, MP.at2, MP.atLit, hs, ec, h1', hmx, et]; rfl⟩
    · exact ⟨.non, trivial, by simp (disch := (first | assumption | with_reducible rfl | decide +kernel | exact Or.inl (by decide +kernel) | exact Or.inr (by decide +kernel) | omega | (simp only [List.length_cons, List.length_nil, List.length_append, List.length_map, List.length_replicate, List.length_range] <;> omega) | rfl)) only [MP.of_some, MP.map_some, MP.e_lv, MP.e_lo, MP.e_pD, MP.e_xDs, MP.e_xDf, MP.e_pC, MP.e_pYes, MP.e_pVar, MP.e_p2, MP.e_x2, MP.e_p1, MP.e_x1, MP.e_pB, MP.e_xB, MP.e_pNot, MP.e_xNot, MP.e_pAnd, MP.e_xAndT, MP.e_xAndF, MP.e_pOr, MP.e_xOrT, MP.e_xOrF, MP.e_pAndV, MP.e_xAndVT, MP.e_xAndVF, MP.e_pOrV, MP.e_xOrVT, MP.e_xOrVF, MP.e_pNotV, MP.e_xNotV, MP.e_pIf, MP.e_xIfT, MP.e_xIfF, MP.e_p3, MP.e_x3, MP.e_x3bT, MP.e_x3bF, MP.e_pNil, MP.e_pCons, MP.e_xCons, MP.e_pTup, MP.e_xTp, MP.e_pLst, MP.e_xLs, MP.e_pNo, MP.e_pSome, MP.e_xSo, MP.e_pSl, MP.e_xSl, MP.e_pCall, MP.e_xG, MP.e_pSeq, MP.e_xSq, MP.e_pSeqR, MP.e_xSqR, MP.e_pRng, MP.e_pEnum, MP.e_xEn, MP.e_pComp, MP.e_xC, MP.e_xC2, MP.e_pUser, MP.e_xU, MP.e_xFv, MP.e_xFo, MP.e_xFe, MP.e_pSeal, MP.e_xSe, MP.e_xSeFv, MP.e_xSeFo, MP.e_pLook, MP.e_xLo, MP.e_xLoF, MP.e_pFld, MP.e_xFd, MP.e_xOb, MP.e_xLk0, MP.e_xLk1, MP.e_c0, MP.e_c1, MP.g_add, MP.g_catS, MP.g_catL, MP.g_catT, MP.g_sub, MP.g_mul, MP.g_rep, MP.g_div, MP.g_mod, MP.g_pow, MP.g_shl, MP.g_shr, MP.g_and, MP.g_orI, MP.g_neg, MP.g_lt, MP.g_le, MP.g_gt, MP.g_ge, MP.g_eqI, MP.g_eqS, MP.g_eqBo, MP.g_neI, MP.g_neS, MP.g_neBo, MP.g_is, MP.g_isNot, MP.n_none, MP.n_int, MP.n_str, MP.n_tup, MP.n_list, MP.n_bool, MP.g_max, MP.g_min, MP.g_lenL, MP.g_lenK, MP.g_lenT, MP.g_listL, MP.g_listK, MP.g_listT, MP.g_tupL, MP.g_tupT, MP.q_list, MP.q_lk, MP.q_tup, MP.g_rng1, MP.g_rng2, MP.g_enumL, MP.g_enumK, MP.g_ixL, MP.g_ixK, MP.g_ixT, MP.g_slL, MP.g_slK, MP.g_slT, MP.s_Nil, MP.s_Brk, MP.s_Cont, MP.s_Seq, MP.s_xSn, MP.s_xSr, MP.s_xSb, MP.s_xSc, MP.s_xSe, MP.s_Expr, MP.s_xEx, MP.s_SetV, MP.s_xSV, MP.s_SetO, MP.s_xSOs, MP.s_xSOf, MP.s_Ret, MP.s_xRts, MP.s_xRtf, MP.s_RetN, MP.s_RetS, MP.s_xRSo, MP.s_xRSv, MP.s_If, MP.s_xIfT, MP.s_xIfF, MP.s_Tup, MP.s_xTu, MP.s_xTb, MP.s_For, MP.s_xFor, MP.s_App, MP.s_xAp, MP.s_Thaw, MP.s_xTh, MP.s_Frz, MP.s_xFzo, MP.s_xFzv, MP.s_ExprF, MP.s_xEF, MP.s_SetF, MP.s_xSF, MP.s_RetF, MP.s_xRF, MP.s_IfF, MP.s_xIFT, MP.s_xIFF, MP.s_FldN, MP.s_xN, MP.s_xN2, MP.s_xN3, MP.s_put0, MP.s_put1, MP.s_putN, MP.f_P, MP.f_xPs, MP.f_xPf, MP.f_User, MP.f_xFU, MP.f_Meth, MP.f_xM, MP.f_xM2, MP.f_Make, MP.f_xMk, MP.f_xMkF, MP.fe_ok, MP.r_run, MP.r_un, MP.r_un0, MP.r_nx, MP.r_ret, MP.r_exc, MP.t_nx, MP.t_cont, MP.t_brk, MP.t_ret, MP.b_nm, MP.b_tp2, MP.b_tp3, MP.t_bk, MP.fe_pop, MP.s_appF, MP.s_dead, MP.g_divmod, MP.g_sorted, MP.g_allB, MP.g_anyB, MP.g_sumI, MP.g_zipT, MP.g_zipL, MP.e_pZip, MP.e_xZp, MP.g_abs, MP.g_intI, MP.g_intB, MP.g_repT, MP.e_pLRng, MP.e_xLR, MP.f_Pop, MP.f_xPop, MP.s_AppF, MP.s_xAF0, MP.s_xAF, MP.s_xAF2, MP.g_inI, MP.g_ninI, MP.g_inT, MP.g_ninT, MP.g_ninST, MP.e_c2, MP.e_c3, MP.e_c4, MP.e_c5, MP.e_pIsi, List.getElem?_cons_zero, List.getElem?_cons_succ, List.getElem?_nil, List.set_cons_zero, List.set_cons_succ, List.map_cons, List.map_nil, List.length_cons, List.length_nil, List.length_append, List.cons_append, List.nil_append, List.length_map, List.length_singleton, Nat.reduceBEq, Nat.reduceAdd, Nat.reduceSub, Nat.reduceMul, Nat.reduceEqDiff, Nat.reduceLeDiff, Nat.reduceLT, if_false, if_true, ite_true, ite_false, ↓reduceIte, Bool.not_true, Bool.not_false, Bool.false_eq_true, decide_true, decide_false, eq_self, and_true, true_and, and_self, Nat.zero_le, Nat.zero_add, Option.bind_some, Option.bind_none, Nat.lt_irrefl, Int.reduceToNat, Int.reducePow, Int.reduceNeg, Int.reduceMul, Int.reduceAdd, Int.reduceSub, Int.reduceLT, Int.reduceLE, Int.reduceEq, beq_self_eq_true, wipeE, MP.at0, MP.at1, MP.at2, MP.atLit, hs, ec, h1', hmx, et]; rfl⟩
  · have h1' : ¬ ((l : Int) = 1) := by omega
    have ht : t < l := ht2 (by omega)
    rcases hs with hs | hs | hs | hs | hs | hs | hs | hs
    · exact ⟨.letter c, hc, by simp (disch := (first | assumption | with_reducible rfl | decide +kernel | exact Or.inl (by decide +kernel) | exact Or.inr (by decide +kernel) | omega | (simp only [List.length_cons, List.length_nil, List.length_append, List.length_map, List.length_replicate, List.length_range] <;> omega) | rfl)) only [MP.of_some, MP.map_some, MP.e_lv, MP.e_lo, MP.e_pD, MP.e_xDs, MP.e_xDf, MP.e_pC, MP.e_pYes, MP.e_pVar, MP.e_p2, MP.e_x2, MP.e_p1, MP.e_x1, MP.e_pB, MP.e_xB, MP.e_pNot, MP.e_xNot, MP.e_pAnd, MP.e_xAndT, MP.e_xAndF, MP.e_pOr, MP.e_xOrT, MP.e_xOrF, MP.e_pAndV, MP.e_xAndVT, MP.e_xAndVF, MP.e_pOrV, MP.e_xOrVT, MP.e_xOrVF, MP.e_pNotV, MP.e_xNotV, MP.e_pIf, MP.e_xIfT, MP.e_xIfF, MP.e_p3, MP.e_x3, MP.e_x3bT, MP.e_x3bF, MP.e_pNil, MP.e_pCons, MP.e_xCons, MP.e_pTup, MP.e_xTp, MP.e_pLst, MP.e_xLs, MP.e_pNo, MP.e_pSome, MP.e_xSo, MP.e_pSl, MP.e_xSl, MP.e_pCall, MP.e_xG, MP.e_pSeq, MP.e_xSq, MP.e_pSeqR, MP.e_xSqR, MP.e_pRng, MP.e_pEnum, MP.e_xEn, MP.e_pComp, MP.e_xC, MP.e_xC2, MP.e_pUser, MP.e_xU, MP.e_xFv, MP.e_xFo, MP.e_xFe, MP.e_pSeal, MP.e_xSe, MP.e_xSeFv, MP.e_xSeFo, MP.e_pLook, MP.e_xLo, MP.e_xLoF, MP.e_pFld, MP.e_xFd, MP.e_xOb, MP.e_xLk0, MP.e_xLk1, MP.e_c0, MP.e_c1, MP.g_add, MP.g_catS, MP.g_catL, MP.g_catT, MP.g_sub, MP.g_mul, MP.g_rep, MP.g_div, MP.g_mod, MP.g_pow, MP.g_shl, MP.g_shr, MP.g_and, MP.g_orI, MP.g_neg, MP.g_lt, MP.g_le, MP.g_gt, MP.g_ge, MP.g_eqI, MP.g_eqS, MP.g_eqBo, MP.g_neI, MP.g_neS, MP.g_neBo, MP.g_is, MP.g_isNot, MP.n_none, MP.n_int, MP.n_str, MP.n_tup, MP.n_list, MP.n_bool, MP.g_max, MP.g_min, MP.g_lenL, MP.g_lenK, MP.g_lenT, MP.g_listL, MP.g_listK, MP.g_listT, MP.g_tupL, MP.g_tupT, MP.q_list, MP.q_lk, MP.q_tup, MP.g_rng1, MP.g_rng2, MP.g_enumL, MP.g_enumK, MP.g_ixL, MP.g_ixK, MP.g_ixT, MP.g_slL, MP.g_slK, MP.g_slT, MP.s_Nil, MP.s_Brk, MP.s_Cont, MP.s_Seq, MP.s_xSn, MP.s_xSr, MP.s_xSb, MP.s_xSc, MP.s_xSe, MP.s_Expr, MP.s_xEx, MP.s_SetV, MP.s_xSV, MP.s_SetO, MP.s_xSOs, MP.s_xSOf, MP.s_Ret, MP.s_xRts, MP.s_xRtf, MP.s_RetN, MP.s_RetS, MP.s_xRSo, MP.s_xRSv, MP.s_If, MP.s_xIfT, MP.s_xIfF, MP.s_Tup, MP.s_xTu, MP.s_xTb, MP.s_For, MP.s_xFor, MP.s_App, MP.s_xAp, MP.s_Thaw, MP.s_xTh, MP.s_Frz, MP.s_xFzo, MP.s_xFzv, MP.s_ExprF, MP.s_xEF, MP.s_SetF, MP.s_xSF, MP.s_RetF, MP.s_xRF, MP.s_IfF, MP.s_xIFT, MP.s_xIFF, MP.s_FldN, MP.s_xN, MP.s_xN2, MP.s_xN3, MP.s_put0, MP.s_put1, MP.s_putN, MP.f_P, MP.f_xPs, MP.f_xPf, MP.f_User, MP.f_xFU, MP.f_Meth, MP.f_xM, MP.f_xM2, MP.f_Make, MP.f_xMk, MP.f_xMkF, MP.fe_ok, MP.r_run, MP.r_un, MP.r_un0, MP.r_nx, MP.r_ret, MP.r_exc, MP.t_nx, MP.t_cont, MP.t_brk, MP.t_ret, MP.b_nm, MP.b_tp2, MP.b_tp3, MP.t_bk, MP.fe_pop, MP.s_appF, MP.s_dead, MP.g_divmod, MP.g_sorted, MP.g_allB, MP.g_anyB, MP.g_sumI, MP.g_zipT, MP.g_zipL, MP.e_pZip, MP.e_xZp, MP.g_abs, MP.g_intI, MP.g_intB, MP.g_repT, MP.e_pLRng, MP.e_xLR, MP.f_Pop, MP.f_xPop, MP.s_AppF, MP.s_xAF0, MP.s_xAF, MP.s_xAF2, MP.g_inI, MP.g_ninI, MP.g_inT, MP.g_ninT, MP.g_ninST, MP.e_c2, MP.e_c3, MP.e_c4, MP.e_c5, MP.e_pIsi, List.getElem?_cons_zero, List.getElem?_cons_succ, List.getElem?_nil, List.set_cons_zero, List.set_cons_succ, List.map_cons, List.map_nil, List.length_cons, List.length_nil, List.length_append, List.cons_append, List.nil_append, List.length_map, List.length_singleton, Nat.reduceBEq, Nat.reduceAdd, Nat.reduceSub, Nat.reduceMul, Nat.reduceEqDiff, Nat.reduceLeDiff, Nat.reduceLT, if_false, if_true, ite_true, ite_false, ↓reduceIte, Bool.not_true, Bool.not_false, Bool.false_eq_true, decide_true, decide_false, eq_self, and_true, true_and, and_self, Nat.zero_le, Nat.zero_add, Option.bind_some, Option.bind_none, Nat.lt_irrefl, Int.reduceToNat, Int.reducePow, Int.reduceNeg, Int.reduceMul, Int.reduceAdd, Int.reduceSub, Int.reduceLT, Int.reduceLE, Int.reduceEq, beq_self_eq_true, wipeE, MP.at0, MP.at1, MP.at2, MP.atLit, hs, ec, h1', hmx, et]; rfl⟩
    · exact ⟨.letter c, hc, by simp (disch := (first | assumption | with_reducible rfl | decide +kernel | exact Or.inl (by decide +kernel) | exact Or.inr (by decide +kernel) | omega | (simp only [List.length_cons, List.length_nil, List.length_append, List.length_map, List.length_replicate, List.length_range] <;> omega) | rfl)) only [MP.of_some, MP.map_some, MP.e_lv, MP.e_lo, MP.e_pD, MP.e_xDs, MP.e_xDf, MP.e_pC, MP.e_pYes, MP.e_pVar, MP.e_p2, MP.e_x2, MP.e_p1, MP.e_x1, MP.e_pB, MP.e_xB, MP.e_pNot, MP.e_xNot, MP.e_pAnd, MP.e_xAndT, MP.e_xAndF, MP.e_pOr, MP.e_xOrT, MP.e_xOrF, MP.e_pAndV, MP.e_xAndVT, MP.e_xAndVF, MP.e_pOrV, MP.e_xOrVT, MP.e_xOrVF, MP.e_pNotV, MP.e_xNotV, MP.e_pIf, MP.e_xIfT, MP.e_xIfF, MP.e_p3, MP.e_x3, MP.e_x3bT, MP.e_x3bF, MP.e_pNil, MP.e_pCons, MP.e_xCons, MP.e_pTup, MP.e_xTp, MP.e_pLst, MP.e_xLs, MP.e_pNo, MP.e_pSome, MP.e_xSo, MP.e_pSl, MP.e_xSl, MP.e_pCall, MP.e_xG, MP.e_pSeq, MP.e_xSq, MP.e_pSeqR, MP.e_xSqR, MP.e_pRng, MP.e_pEnum, MP.e_xEn, MP.e_pComp, MP.e_xC, MP.e_xC2, MP.e_pUser, MP.e_xU, MP.e_xFv, MP.e_xFo, MP.e_xFe, MP.e_pSeal, MP.e_xSe, MP.e_xSeFv, MP.e_xSeFo, MP.e_pLook, MP.e_xLo, MP.e_xLoF, MP.e_pFld, MP.e_xFd, MP.e_xOb, MP.e_xLk0, MP.e_xLk1, MP.e_c0, MP.e_c1, MP.g_add, MP.g_catS, MP.g_catL, MP.g_catT, MP.g_sub, MP.g_mul, MP.g_rep, MP.g_div, MP.g_mod, MP.g_pow, MP.g_shl, MP.g_shr, MP.g_and, MP.g_orI, MP.g_neg, MP.g_lt, MP.g_le, MP.g_gt, MP.g_ge, MP.g_eqI, MP.g_eqS, MP.g_eqBo, MP.g_neI, MP.g_neS, MP.g_neBo, MP.g_is, MP.g_isNot, MP.n_none, MP.n_int, MP.n_str, MP.n_tup, MP.n_list, MP.n_bool, MP.g_max, MP.g_min, MP.g_lenL, MP.g_lenK, MP.g_lenT, MP.g_listL, MP.g_listK, MP.g_listT, MP.g_tupL, MP.g_tupT, MP.q_list, MP.q_lk, MP.q_tup, MP.g_rng1, MP.g_rng2, MP.g_enumL, MP.g_enumK, MP.g_ixL, MP.g_ixK, MP.g_ixT, MP.g_slL, MP.g_slK, MP.g_slT, MP.s_Nil, MP.s_Brk, MP.s_Cont, MP.s_Seq, MP.s_xSn, MP.s_xSr, MP.s_xSb, MP.s_xSc, MP.s_xSe, MP.s_Expr, MP.s_xEx, MP.s_SetV, MP.s_xSV, MP.s_SetO, MP.s_xSOs, MP.s_xSOf, MP.s_Ret, MP.s_xRts, MP.s_xRtf, MP.s_RetN, MP.s_RetS, MP.s_xRSo, MP.s_xRSv, MP.s_If, MP.s_xIfT, MP.s_xIfF, MP.s_Tup, MP.s_xTu, MP.s_xTb, MP.s_For, MP.s_xFor, MP.s_App, MP.s_xAp, MP.s_Thaw, MP.s_xTh, MP.s_Frz, MP.s_xFzo, MP.s_xFzv, MP.s_ExprF, MP.s_xEF, MP.s_SetF, MP.s_xSF, MP.s_RetF, MP.s_xRF, MP.s_IfF, MP.s_xIFT, MP.s_xIFF, MP.s_FldN, MP.s_xN, MP.s_xN2, MP.s_xN3, MP.s_put0, MP.s_put1, MP.s_putN, MP.f_P, MP.f_xPs, MP.f_xPf, MP.f_User, MP.f_xFU, MP.f_Meth, MP.f_xM, MP.f_xM2, MP.f_Make, MP.f_xMk, MP.f_xMkF, MP.fe_ok, MP.r_run, MP.r_un, MP.r_un0, MP.r_nx, MP.r_ret, MP.r_exc, MP.t_nx, MP.t_cont, MP.t_brk, MP.t_ret, MP.b_nm, MP.b_tp2, MP.b_tp3, MP.t_bk, MP.fe_pop, MP.s_appF, MP.s_dead, MP.g_divmod, MP.g_sorted, MP.g_allB, MP.g_anyB, MP.g_sumI, MP.g_zipT, MP.g_zipL, MP.e_pZip, MP.e_xZp, MP.g_abs, MP.g_intI, MP.g_intB, MP.g_repT, MP.e_pLRng, MP.e_xLR, MP.f_Pop, MP.f_xPop, MP.s_AppF, MP.s_xAF0, MP.s_xAF, MP.s_xAF2, MP.g_inI, MP.g_ninI, MP.g_inT, MP.g_ninT, MP.g_ninST, MP.e_c2, MP.e_c3, MP.e_c4, MP.e_c5, MP.e_pIsi, List.getElem?_cons_zero, List.getElem?_cons_succ, List.getElem?_nil, List.set_cons_zero, List.set_cons_succ, List.map_cons, List.map_nil, List.length_cons, List.length_nil, List.length_append, List.cons_append, List.nil_append, List.length_map, List.length_singleton, Nat.reduceBEq, Nat.reduceAdd, Nat.reduceSub, Nat.reduceMul, Nat.reduceEqDiff, Nat.reduceLeDiff, Nat.reduceLT, if_false, if_true, ite_true, ite_false, ↓reduceIte, Bool.not_true, Bool.not_false, Bool.false_eq_true, decide_true, decide_false, eq_self, and_true, true_and, and_self, Nat.zero_le, Nat.zero_add, Option.bind_some, Option.bind_none, Nat.lt_irrefl, Int.reduceToNat, Int.reducePow, Int.reduceNeg, Int.reduceMul, Int.reduceAdd, Int.reduceSub, Int.reduceLT, Int.reduceLE, Int.reduceEq, beq_self_eq_true, wipeE, MP.at0, MP.at1, MP.at2, MP.atLit, hs, ec, h1', hmx, et]; rfl⟩
    · exact ⟨.letter c, hc, by simp (disch := (first | assumption | with_reducible rfl | decide +kernel | exact Or.inl (by decide +kernel) | exact Or.inr (by decide +kernel) | omega | (simp only [List.length_cons, List.length_nil, List.length_append, List.length_map, List.length_replicate, List.length_range] <;> omega) | rfl)) only [MP.of_some, MP.map_some, MP.e_lv, MP.e_lo, MP.e_pD, MP.e_xDs, MP.e_xDf, MP.e_pC, MP.e_pYes, MP.e_pVar, MP.e_p2, MP.e_x2, MP.e_p1, MP.e_x1, MP.e_pB, MP.e_xB, MP.e_pNot, MP.e_xNot, MP.e_pAnd, MP.e_xAndT, MP.e_xAndF, MP.e_pOr, MP.e_xOrT, MP.e_xOrF, MP.e_pAndV, MP.e_xAndVT, MP.e_xAndVF, MP.e_pOrV, MP.e_xOrVT, MP.e_xOrVF, MP.e_pNotV, MP.e_xNotV, MP.e_pIf, MP.e_xIfT, MP.e_xIfF, MP.e_p3, MP.e_x3, MP.e_x3bT, MP.e_x3bF, MP.e_pNil, MP.e_pCons, MP.e_xCons, MP.e_pTup, MP.e_xTp, MP.e_pLst, MP.e_xLs, MP.e_pNo, MP.e_pSome, MP.e_xSo, MP.e_pSl, MP.e_xSl, MP.e_pCall, MP.e_xG, MP.e_pSeq, MP.e_xSq, MP.e_pSeqR, MP.e_xSqR, MP.e_pRng, MP.e_pEnum, MP.e_xEn, MP.e_pComp, MP.e_xC, MP.e_xC2, MP.e_pUser, MP.e_xU, MP.e_xFv, MP.e_xFo, MP.e_xFe, MP.e_pSeal, MP.e_xSe, MP.e_xSeFv, MP.e_xSeFo, MP.e_pLook, MP.e_xLo, MP.e_xLoF, MP.e_pFld, MP.e_xFd, MP.e_xOb, MP.e_xLk0, MP.e_xLk1, MP.e_c0, MP.e_c1, MP.g_add, MP.g_catS, MP.g_catL, MP.g_catT, MP.g_sub, MP.g_mul, MP.g_rep, MP.g_div, MP.g_mod, MP.g_pow, MP.g_shl, MP.g_shr, MP.g_and, MP.g_orI, MP.g_neg, MP.g_lt, MP.g_le, MP.g_gt, MP.g_ge, MP.g_eqI, MP.g_eqS, MP.g_eqBo, MP.g_neI, MP.g_neS, MP.g_neBo, MP.g_is, MP.g_isNot, MP.n_none, MP.n_int, MP.n_str, MP.n_tup, MP.n_list, MP.n_bool, MP.g_max, MP.g_min, MP.g_lenL, MP.g_lenK, MP.g_lenT, MP.g_listL, MP.g_listK, MP.g_listT, MP.g_tupL, MP.g_tupT, MP.q_list, MP.q_lk, MP.q_tup, MP.g_rng1, MP.g_rng2, MP.g_enumL, MP.g_enumK, MP.g_ixL, MP.g_ixK, MP.g_ixT, MP.g_slL, MP.g_slK, MP.g_slT, MP.s_Nil, MP.s_Brk, MP.s_Cont, MP.s_Seq, MP.s_xSn, MP.s_xSr, MP.s_xSb, MP.s_xSc, MP.s_xSe, MP.s_Expr, MP.s_xEx, MP.s_SetV, MP.s_xSV, MP.s_SetO, MP.s_xSOs, MP.s_xSOf, MP.s_Ret, MP.s_xRts, MP.s_xRtf, MP.s_RetN, MP.s_RetS, MP.s_xRSo, MP.s_xRSv, MP.s_If, MP.s_xIfT, MP.s_xIfF, MP.s_Tup, MP.s_xTu, MP.s_xTb, MP.s_For, MP.s_xFor, MP.s_App, MP.s_xAp, MP.s_Thaw, MP.s_xTh, MP.s_Frz, MP.s_xFzo, MP.s_xFzv, MP.s_ExprF, MP.s_xEF, MP.s_SetF, MP.s_xSF, MP.s_RetF, MP.s_xRF, MP.s_IfF, MP.s_xIFT, MP.s_xIFF, MP.s_FldN, MP.s_xN, MP.s_xN2, MP.s_xN3, MP.s_put0, MP.s_put1, MP.s_putN, MP.f_P, MP.f_xPs, MP.f_xPf, MP.f_User, MP.f_xFU, MP.f_Meth, MP.f_xM, MP.f_xM2, MP.f_Make, MP.f_xMk, MP.f_xMkF, MP.fe_ok, MP.r_run, MP.r_un, MP.r_un0, MP.r_nx, MP.r_ret, MP.r_exc, MP.t_nx, MP.t_cont, MP.t_brk, MP.t_ret, MP.b_nm, MP.b_tp2, MP.b_tp3, MP.t_bk, MP.fe_pop, MP.s_appF, MP.s_dead, MP.g_divmod, MP.g_sorted, MP.g_allB, MP.g_anyB, MP.g_sumI, MP.g_zipT, MP.g_zipL, MP.e_pZip, MP.e_xZp, MP.g_abs, MP.g_intI, MP.g_intB, MP.g_repT, MP.e_pLRng, MP.e_xLR, MP.f_Pop, MP.f_xPop, MP.s_AppF, MP.s_xAF0, MP.s_xAF, MP.s_xAF2, MP.g_inI, MP.g_ninI, MP.g_inT, MP.g_ninT, MP.g_ninST, MP.e_c2, MP.e_c3, MP.e_c4, MP.e_c5, MP.e_pIsi, List.getElem?_cons_zero, List.getElem?_cons_succ, List.getElem?_nil, List.set_cons_zero, List.set_cons_succ, List.map_cons, List.map_nil, List.length_cons, List.length_nil, List.length_append, List.cons_append, List.nil_append, List.length_map, List.length_singleton, Nat.reduceBEq, Nat.reduceAdd, Nat.reduceSub, Nat.reduceMul, Nat.reduceEqDiff, Nat.reduceLeDiff, Nat.reduceLT, if_false, if_true, ite_true, ite_false, ↓reduceIte, Bool.not_true, Bool.not_false, Bool.false_eq_true, decide_true, decide_false, eq_self, and_true, true_and, and_self, Nat.zero_le, Nat.zero_add, Option.bind_some, Option.bind_none, Nat.lt_irrefl, Int.reduceToNat, Int.reducePow, Int.reduceNeg, Int.reduceMul, Int.reduceAdd, Int.reduceSub, Int.reduceLT, Int.reduceLE, Int.reduceEq, beq_self_eq_true, wipeE, MP.at0, MP.at1, MP.at2, MP.atLit, hs, ec, h1', hmx, et]; rfl⟩
    · exact ⟨.layer t, ⟨ht1, ht⟩, by simp (disch := (first | assumption | with_reducible rfl | decide +kernel | exact Or.inl (by decide +kernel) | exact Or.inr (by decide +kernel) | omega | (simp only [List.length_cons, List.length_nil, List.length_append, List.length_map, List.length_replicate, List.length_range] <;> omega) | rfl)) only [MP.of_some, MP.map_some, MP.e_lv, MP.e_lo, MP.e_pD, MP.e_xDs, MP.e_xDf, MP.e_pC, MP.e_pYes, MP.e_pVar, MP.e_p2, MP.e_x2, MP.e_p1, MP.e_x1, MP.e_pB, MP.e_xB, MP.e_pNot, MP.e_xNot, MP.e_pAnd, MP.e_xAndT, MP.e_xAndF, MP.e_pOr, MP.e_xOrT, MP.e_xOrF, MP.e_pAndV, MP.e_xAndVT, MP.e_xAndVF, MP.e_pOrV, MP.e_xOrVT, MP.e_xOrVF, MP.e_pNotV, MP.e_xNotV, MP.e_pIf, MP.e_xIfT, MP.e_xIfF, MP.e_p3, MP.e_x3, MP.e_x3bT, MP.e_x3bF, MP.e_pNil, MP.e_pCons, MP.e_xCons, MP.e_pTup, MP.e_xTp, MP.e_pLst, MP.e_xLs, MP.e_pNo, MP.e_pSome, MP.e_xSo, MP.e_pSl, MP.e_xSl, MP.e_pCall, MP.e_xG, MP.e_pSeq, MP.e_xSq, MP.e_pSeqR, MP.e_xSqR, MP.e_pRng, MP.e_pEnum, MP.e_xEn, MP.e_pComp, MP.e_xC, MP.e_xC2, MP.e_pUser, MP.e_xU, MP.e_xFv, MP.e_xFo, MP.e_xFe, MP.e_pSeal, MP.e_xSe, MP.e_xSeFv, MP.e_xSeFo, MP.e_pLook, MP.e_xLo, MP.e_xLoF, MP.e_pFld, MP.e_xFd, MP.e_xOb, MP.e_xLk0, MP.e_xLk1, MP.e_c0, MP.e_c1, MP.g_add, MP.g_catS, MP.g_catL, MP.g_catT, MP.g_sub, MP.g_mul, MP.g_rep, MP.g_div, MP.g_mod, MP.g_pow, MP.g_shl, MP.g_shr, MP.g_and, MP.g_orI, MP.g_neg, MP.g_lt, MP.g_le, MP.g_gt, MP.g_ge, MP.g_eqI, MP.g_eqS, MP.g_eqBo, MP.g_neI, MP.g_neS, MP.g_neBo, MP.g_is, MP.g_isNot, MP.n_none, MP.n_int, MP.n_str, MP.n_tup, MP.n_list, MP.n_bool, MP.g_max, MP.g_min, MP.g_lenL, MP.g_lenK, MP.g_lenT, MP.g_listL, MP.g_listK, MP.g_listT, MP.g_tupL, MP.g_tupT, MP.q_list, MP.q_lk, MP.q_tup, MP.g_rng1, MP.g_rng2, MP.g_enumL, MP.g_enumK, MP.g_ixL, MP.g_ixK, MP.g_ixT, MP.g_slL, MP.g_slK, MP.g_slT, MP.s_Nil, MP.s_Brk, MP.s_Cont, MP.s_Seq, MP.s_xSn, MP.s_xSr, MP.s_xSb, MP.s_xSc, MP.s_xSe, MP.s_Expr, MP.s_xEx, MP.s_SetV, MP.s_xSV, MP.s_SetO, MP.s_xSOs, MP.s_xSOf, MP.s_Ret, MP.s_xRts, MP.s_xRtf, MP.s_RetN, MP.s_RetS, MP.s_xRSo, MP.s_xRSv, MP.s_If, MP.s_xIfT, MP.s_xIfF, MP.s_Tup, MP.s_xTu, MP.s_xTb, MP.s_For, MP.s_xFor, MP.s_App, MP.s_xAp, MP.s_Thaw, MP.s_xTh, MP.s_Frz, MP.s_xFzo, MP.s_xFzv, MP.s_ExprF, MP.s_xEF, MP.s_SetF, MP.s_xSF, MP.s_RetF, MP.s_xRF, MP.s_IfF, MP.s_xIFT, MP.s_xIFF, MP.s_FldN, MP.s_xN, MP.s_xN2, MP.s_xN3, MP.s_put0, MP.s_put1, MP.s_putN, MP.f_P, MP.f_xPs, MP.f_xPf, MP.f_User, MP.f_xFU, MP.f_Meth, MP.f_xM, MP.f_xM2, MP.f_Make, MP.f_xMk, MP.f_xMkF, MP.fe_ok, MP.r_run, MP.r_un, MP.r_un0, MP.r_nx, MP.r_ret, MP.r_exc, MP.t_nx, MP.t_cont, MP.t_brk, MP.t_ret, MP.b_nm, MP.b_tp2, MP.b_tp3, MP.t_bk, MP.fe_pop, MP.s_appF, MP.s_dead, MP.g_divmod, MP.g_sorted, MP.g_allB, MP.g_anyB, MP.g_sumI, MP.g_zipT, MP.g_zipL, MP.e_pZip, MP.e_xZp, MP.g_abs, MP.g_intI, MP.g_intB, MP.g_repT, MP.e_pLRng, MP.e_xLR, MP.f_Pop, MP.f_xPop, MP.s_AppF, MP.s_xAF0, MP.s_xAF, MP.s_xAF2, MP.g_inI, MP.g_ninI, MP.g_inT, MP.g_ninT, MP.g_ninST, MP.e_c2, MP.e_c3, MP.e_c4, MP.e_c5, MP.e_pIsi, List.getElem?_cons_zero, List.getElem?_cons_succ, List.getElem?_nil, List.set_cons_zero, List.set_cons_succ, List.map_cons, List.map_nil, List.length_cons, List.length_nil, List.length_append, List.cons_append, List.nil_append, List.length_map, List.length_singleton, Nat.reduceBEq, Nat.reduceAdd, Nat.reduceSub, Nat.reduceMul, Nat.reduceEqDiff, Nat.reduceLeDiff, Nat.reduceLT, if_false, if_true, ite_true, ite_false, ↓reduceIte, Bool.not_true, Bool.not_false, Bool.false_eq_true, decide_true, decide_false, eq_self, and_true, true_and, and_self, Nat.zero_le, Nat.zero_add, Option.bind_some, Option.bind_none, Nat.lt_irrefl, Int.reduceToNat, Int.reducePow, Int.reduceNeg, Int.reduceMul, Int.reduceAdd, Int.reduceSub, Int.reduceLT, Int.reduceLE, Int.reduceEq, beq_self_eq_true, wipeE, MP.at0, MP.at1, MP.at2, MP.atLit, hs, ec, h1', hmx, et]; rfl⟩
    · exact ⟨.tap c t, ⟨hc, ht1, ht⟩, by simp (disch := (first | assumption | with_reducible rfl | decide +kernel | exact Or.inl (by decide +kernel) | exact Or.inr (by decide +kernel) | omega | (simp only [List.length_cons, List.length_nil, List.length_append, List.length_map, List.length_replicate, List.length_range] <;> omega) | rfl)) only [MP.of_some, MP.map_some, MP.e_lv, MP.e_lo, MP.e_pD, MP.e_xDs, MP.e_xDf, MP.e_pC, MP.e_pYes, MP.e_pVar, MP.e_p2, MP.e_x2, MP.e_p1, MP.e_x1, MP.e_pB, MP.e_xB, MP.e_pNot, MP.e_xNot, MP.e_pAnd, MP.e_xAndT, MP.e_xAndF, MP.e_pOr, MP.e_xOrT, MP.e_xOrF, MP.e_pAndV, MP.e_xAndVT, MP.e_xAndVF, MP.e_pOrV, MP.e_xOrVT, MP.e_xOrVF, MP.e_pNotV, MP.e_xNotV, MP.e_pIf, MP.e_xIfT, MP.e_xIfF, MP.e_p3, MP.e_x3, MP.e_x3bT, MP.e_x3bF, MP.e_pNil, MP.e_pCons, MP.e_xCons, MP.e_pTup, MP.e_xTp, MP.e_pLst, MP.e_xLs, MP.e_pNo, MP.e_pSome, MP.e_xSo, MP.e_pSl, MP.e_xSl, MP.e_pCall, MP.e_xG, MP.e_pSeq, MP.e_xSq, MP.e_pSeqR, MP.e_xSqR, MP.e_pRng, MP.e_pEnum, MP.e_xEn, MP.e_pComp, MP.e_xC, MP.e_xC2, MP.e_pUser, MP.e_xU, MP.e_xFv, MP.e_xFo, MP.e_xFe, MP.e_pSeal, MP.e_xSe, MP.e_xSeFv, MP.e_xSeFo, MP.e_pLook, MP.e_xLo, MP.e_xLoF, MP.e_pFld, MP.e_xFd, MP.e_xOb, MP.e_xLk0, MP.e_xLk1, MP.e_c0, MP.e_c1, MP.g_add, MP.g_catS, MP.g_catL, MP.g_catT, MP.g_sub, MP.g_mul, MP.g_rep, MP.g_div, MP.g_mod, MP.g_pow, MP.g_shl, MP.g_shr, MP.g_and, MP.g_orI, MP.g_neg, MP.g_lt, MP.g_le, MP.g_gt, MP.g_ge, MP.g_eqI, MP.g_eqS, MP.g_eqBo, MP.g_neI, MP.g_neS, MP.g_neBo, MP.g_is, MP.g_isNot, MP.n_none, MP.n_int, MP.n_str, MP.n_tup, MP.n_list, MP.n_bool, MP.g_max, MP.g_min, MP.g_lenL, MP.g_lenK, MP.g_lenT, MP.g_listL, MP.g_listK, MP.g_listT, MP.g_tupL, MP.g_tupT, MP.q_list, MP.q_lk, MP.q_tup, MP.g_rng1, MP.g_rng2, MP.g_enumL, MP.g_enumK, MP.g_ixL, MP.g_ixK, MP.g_ixT, MP.g_slL, MP.g_slK, MP.g_slT, MP.s_Nil, MP.s_Brk, MP.s_Cont, MP.s_Seq, MP.s_xSn, MP.s_xSr, MP.s_xSb, MP.s_xSc, MP.s_xSe, MP.s_Expr, MP.s_xEx, MP.s_SetV, MP.s_xSV, MP.s_SetO, MP.s_xSOs, MP.s_xSOf, MP.s_Ret, MP.s_xRts, MP.s_xRtf, MP.s_RetN, MP.s_RetS, MP.s_xRSo, MP.s_xRSv, MP.s_If, MP.s_xIfT, MP.s_xIfF, MP.s_Tup, MP.s_xTu, MP.s_xTb, MP.s_For, MP.s_xFor, MP.s_App, MP.s_xAp, MP.s_Thaw, MP.s_xTh, MP.s_Frz, MP.s_xFzo, MP.s_xFzv, MP.s_ExprF, MP.s_xEF, MP.s_SetF, MP.s_xSF, MP.s_RetF, MP.s_xRF, MP.s_IfF, MP.s_xIFT, MP.s_xIFF, MP.s_FldN, MP.s_xN, MP.s_xN2, MP.s_xN3, MP.s_put0, MP.s_put1, MP.s_putN, MP.f_P, MP.f_xPs, MP.f_xPf, MP.f_User, MP.f_xFU, MP.f_Meth, MP.f_xM, MP.f_xM2, MP.f_Make, MP.f_xMk, MP.f_xMkF, MP.fe_ok, MP.r_run, MP.r_un, MP.r_un0, MP.r_nx, MP.r_ret, MP.r_exc, MP.t_nx, MP.t_cont, MP.t_brk, MP.t_ret, MP.b_nm, MP.b_tp2, MP.b_tp3, MP.t_bk, MP.fe_pop, MP.s_appF, MP.s_dead, MP.g_divmod, MP.g_sorted, MP.g_allB, MP.g_anyB, MP.g_sumI, MP.g_zipT, MP.g_zipL, MP.e_pZip, MP.e_xZp, MP.g_abs, MP.g_intI, MP.g_intB, MP.g_repT, MP.e_pLRng, MP.e_xLR, MP.f_Pop, MP.f_xPop, MP.s_AppF, MP.s_xAF0, MP.s_xAF, MP.s_xAF2, MP.g_inI, MP.g_ninI, MP.g_inT, MP.g_ninT, MP.g_ninST, MP.e_c2, MP.e_c3, MP.e_c4, MP.e_c5, MP.e_pIsi, List.getElem?_cons_zero, List.getElem?_cons_succ, List.getElem?_nil, List.set_cons_zero, List.set_cons_succ, List.map_cons, List.map_nil, List.length_cons, List.length_nil, List.length_append, List.cons_append, List.nil_append, List.length_map, List.length_singleton, Nat.reduceBEq, Nat.reduceAdd, Nat.reduceSub, Nat.reduceMul, Nat.reduceEqDiff, Nat.reduceLeDiff, Nat.reduceLT, if_false, if_true, ite_true, ite_false, ↓reduceIte, Bool.not_true, Bool.not_false, Bool.false_eq_true, decide_true, decide_false, eq_self, and_true, true_and, and_self, Nat.zero_le, Nat.zero_add, Option.bind_some, Option.bind_none, Nat.lt_irrefl, Int.reduceToNat, Int.reducePow, Int.reduceNeg, Int.reduceMul, Int.reduceAdd, Int.reduceSub, Int.reduceLT, Int.reduceLE, Int.reduceEq, beq_self_eq_true, wipeE, MP.at0, MP.at1, MP.at2, MP.atLit, hs, ec, h1', hmx, et]; rfl⟩
    · exact ⟨.once t, ⟨ht1, ht⟩, by simp (disch := (first | assumption | with_reducible rfl | decide +kernel | exact Or.inl (by decide +kernel) | exact Or.inr (by decide +kernel) | omega | (simp only [List.length_cons, List.length_nil, List.length_append, List.length_map, List.length_replicate, List.length_range] <;> omega) | rfl)) only [MP.of_some, MP.map_some, MP.e_lv, MP.e_lo, MP.e_pD, MP.e_xDs, MP.e_xDf, MP.e_pC, MP.e_pYes, MP.e_pVar, MP.e_p2, MP.e_x2, MP.e_p1, MP.e_x1, MP.e_pB, MP.e_xB, MP.e_pNot, MP.e_xNot, MP.e_pAnd, MP.e_xAndT, MP.e_xAndF, MP.e_pOr, MP.e_xOrT, MP.e_xOrF, MP.e_pAndV, MP.e_xAndVT, MP.e_xAndVF, MP.e_pOrV, MP.e_xOrVT, MP.e_xOrVF, MP.e_pNotV, MP.e_xNotV, MP.e_pIf, MP.e_xIfT, MP.e_xIfF, MP.e_p3, MP.e_x3, MP.e_x3bT, MP.e_x3bF, MP.e_pNil, MP.e_pCons, MP.e_xCons, MP.e_pTup, MP.e_xTp, MP.e_pLst, MP.e_xLs, MP.e_pNo, MP.e_pSome, MP.e_xSo, MP.e_pSl, MP.e_xSl, MP.e_pCall, MP.e_xG, MP.e_pSeq, MP.e_xSq, MP.e_pSeqR, MP.e_xSqR, MP.e_pRng, MP.e_pEnum, MP.e_xEn, MP.e_pComp, MP.e_xC, MP.e_xC2, MP.e_pUser, MP.e_xU, MP.e_xFv, MP.e_xFo, MP.e_xFe, MP.e_pSeal, MP.e_xSe, MP.e_xSeFv, MP.e_xSeFo, MP.e_pLook, MP.e_xLo, MP.e_xLoF, MP.e_pFld, MP.e_xFd, MP.e_xOb, MP.e_xLk0, MP.e_xLk1, MP.e_c0, MP.e_c1, MP.g_add, MP.g_catS, MP.g_catL, MP.g_catT, MP.g_sub, MP.g_mul, MP.g_rep, MP.g_div, MP.g_mod, MP.g_pow, MP.g_shl, MP.g_shr, MP.g_and, MP.g_orI, MP.g_neg, MP.g_lt, MP.g_le, MP.g_gt, MP.g_ge, MP.g_eqI, MP.g_eqS, MP.g_eqBo, MP.g_neI, MP.g_neS, MP.g_neBo, MP.g_is, MP.g_isNot, MP.n_none, MP.n_int, MP.n_str, MP.n_tup, MP.n_list, MP.n_bool, MP.g_max, MP.g_min, MP.g_lenL, MP.g_lenK, MP.g_lenT, MP.g_listL, MP.g_listK, MP.g_listT, MP.g_tupL, MP.g_tupT, MP.q_list, MP.q_lk, MP.q_tup, MP.g_rng1, MP.g_rng2, MP.g_enumL, MP.g_enumK, MP.g_ixL, MP.g_ixK, MP.g_ixT, MP.g_slL, MP.g_slK, MP.g_slT, MP.s_Nil, MP.s_Brk, MP.s_Cont, MP.s_Seq, MP.s_xSn, MP.s_xSr, MP.s_xSb, MP.s_xSc, MP.s_xSe, MP.s_Expr, MP.s_xEx, MP.s_SetV, MP.s_xSV, MP.s_SetO, MP.s_xSOs, MP.s_xSOf, MP.s_Ret, MP.s_xRts, MP.s_xRtf, MP.s_RetN, MP.s_RetS, MP.s_xRSo, MP.s_xRSv, MP.s_If, MP.s_xIfT, MP.s_xIfF, MP.s_Tup, MP.s_xTu, MP.s_xTb, MP.s_For, MP.s_xFor, MP.s_App, MP.s_xAp, MP.s_Thaw, MP.s_xTh, MP.s_Frz, MP.s_xFzo, MP.s_xFzv, MP.s_ExprF, MP.s_xEF, MP.s_SetF, MP.s_xSF, MP.s_RetF, MP.s_xRF, MP.s_IfF, MP.s_xIFT, MP.s_xIFF, MP.s_FldN, MP.s_xN, MP.s_xN2, MP.s_xN3, MP.s_put0, MP.s_put1, MP.s_putN, MP.f_P, MP.f_xPs, MP.f_xPf, MP.f_User, MP.f_xFU, MP.f_Meth, MP.f_xM, MP.f_xM2, MP.f_Make, MP.f_xMk, MP.f_xMkF, MP.fe_ok, MP.r_run, MP.r_un, MP.r_un0, MP.r_nx, MP.r_ret, MP.r_exc, MP.t_nx, MP.t_cont, MP.t_brk, MP.t_ret, MP.b_nm, MP.b_tp2, MP.b_tp3, MP.t_bk, MP.fe_pop, MP.s_appF, MP.s_dead, MP.g_divmod, MP.g_sorted, MP.g_allB, MP.g_anyB, MP.g_sumI, MP.g_zipT, MP.g_zipL, MP.e_pZip, MP.e_xZp, MP.g_abs, MP.g_intI, MP.g_intB, MP.g_repT, MP.e_pLRng, MP.e_xLR, MP.f_Pop, MP.f_xPop, MP.s_AppF, MP.s_xAF0, MP.s_xAF, MP.s_xAF2, MP.g_inI, MP.g_ninI, MP.g_inT, MP.g_ninT, MP.g_ninST, MP.e_c2, MP.e_c3, MP.e_c4, MP.e_c5, MP.e_pIsi, List.getElem?_cons_zero, List.getElem?_cons_succ, List.getElem?_nil, List.set_cons_zero, List.set_cons_succ, List.map_cons, List.map_nil, List.length_cons, List.length_nil, List.length_append, List.cons_append, List.nil_append, List.length_map, List.length_singleton, Nat.reduceBEq, Nat.reduceAdd, Nat.reduceSub, Nat.reduceMul, Nat.reduceEqDiff, Nat.reduceLeDiff, Nat.reduceLT, if_false, if_true, ite_true, ite_false, ↓reduceIte, Bool.not_true, Bool.not_false, Bool.false_eq_true, decide_true, decide_false, eq_self, and_true, true_and, and_self, Nat.zero_le, Nat.zero_add, Option.bind_some, Option.bind_none, Nat.lt_irrefl, Int.reduceToNat, Int.reducePow, Int.reduceNeg, Int.reduceMul, Int.reduceAdd, Int.reduceSub, Int.reduceLT, Int.reduceLE, Int.reduceEq, beq_self_eq_true, wipeE, MP.at0, MP.at1, MP.at2, MP.atLit, hs, ec, h1', hmx, et]; rfl⟩
    · by_cases h2 : 0 < (i : Int)
      · exact ⟨.below, by show 0 < i; omega, by simp (disch := (first | assumption | with_reducible rfl | decide +kernel | exact Or.inl (by decide +kernel) | exact Or.inr (by decide +kernel) | omega | (simp only [List.length_cons, List.length_nil, List.length_append, List.length_map, List.length_replicate, List.length_range] <;> omega) | rfl)) only [MP.of_some, MP.map_some, MP.e_lv, MP.e_lo, MP.e_pD, MP.e_xDs, MP.e_xDf, MP.e_pC, MP.e_pYes, MP.e_pVar, MP.e_p2, MP.e_x2, MP.e_p1, MP.e_x1, MP.e_pB, MP.e_xB, MP.e_pNot, MP.e_xNot, MP.e_pAnd, MP.e_xAndT, MP.e_xAndF, MP.e_pOr, MP.e_xOrT, MP.e_xOrF, MP.e_pAndV, MP.e_xAndVT, MP.e_xAndVF, MP.e_pOrV, MP.e_xOrVT, MP.e_xOrVF, MP.e_pNotV, MP.e_xNotV, MP.e_pIf, MP.e_xIfT, MP.e_xIfF, MP.e_p3, MP.e_x3, MP.e_x3bT, MP.e_x3bF, MP.e_pNil, MP.e_pCons, MP.e_xCons, MP.e_pTup, MP.e_xTp, MP.e_pLst, MP.e_xLs, MP.e_pNo, MP.e_pSome, MP.e_xSo, MP.e_pSl, MP.e_xSl, MP.e_pCall, MP.e_xG, MP.e_pSeq, MP.e_xSq, MP.e_pSeqR, MP.e_xSqR, MP.e_pRng, MP.e_pEnum, MP.e_xEn, MP.e_pComp, MP.e_xC, MP.e_xC2, MP.e_pUser, MP.e_xU, MP.e_xFv, MP.e_xFo, MP.e_xFe, MP.e_pSeal, MP.e_xSe, MP.e_xSeFv, MP.e_xSeFo, MP.e_pLook, MP.e_xLo, MP.e_xLoF, MP.e_pFld, MP.e_xFd, MP.e_xOb, MP.e_xLk0, MP.e_xLk1, MP.e_c0, MP.e_c1, MP.g_add, MP.g_catS, MP.g_catL, MP.g_catT, MP.g_sub, MP.g_mul, MP.g_rep, MP.g_div, MP.g_mod, MP.g_pow, MP.g_shl, MP.g_shr, MP.g_and, MP.g_orI, MP.g_neg, MP.g_lt, MP.g_le, MP.g_gt, MP.g_ge, MP.g_eqI, MP.g_eqS, MP.g_eqBo, MP.g_neI, MP.g_neS, MP.g_neBo, MP.g_is, MP.g_isNot, MP.n_none, MP.n_int, MP.n_str, MP.n_tup, MP.n_list, MP.n_bool, MP.g_max, MP.g_min, MP.g_lenL, MP.g_lenK, MP.g_lenT, MP.g_listL, MP.g_listK, MP.g_listT, MP.g_tupL, MP.g_tupT, MP.q_list, MP.q_lk, MP.q_tup, MP.g_rng1, MP.g_rng2, MP.g_enumL, MP.g_enumK, MP.g_ixL, MP.g_ixK, MP.g_ixT, MP.g_slL, MP.g_slK, MP.g_slT, MP.s_Nil, MP.s_Brk, MP.s_Cont, MP.s_Seq, MP.s_xSn, MP.s_xSr, MP.s_xSb, MP.s_xSc, MP.s_xSe, MP.s_Expr, MP.s_xEx, MP.s_SetV, MP.s_xSV, MP.s_SetO, MP.s_xSOs, MP.s_xSOf, MP.s_Ret, MP.s_xRts, MP.s_xRtf, MP.s_RetN, MP.s_RetS, MP.s_xRSo, MP.s_xRSv, MP.s_If, MP.s_xIfT, MP.s_xIfF, MP.s_Tup, MP.s_xTu, MP.s_xTb, MP.s_For, MP.s_xFor, MP.s_App, MP.s_xAp, MP.s_Thaw, MP.s_xTh, MP.s_Frz, MP.s_xFzo, MP.s_xFzv, MP.s_ExprF, MP.s_xEF, MP.s_SetF, MP.s_xSF, MP.s_RetF, MP.s_xRF, MP.s_IfF, MP.s_xIFT, MP.s_xIFF, MP.s_FldN, MP.s_xN, MP.s_xN2, MP.s_xN3, MP.s_put0, MP.s_put1, MP.s_putN, MP.f_P, MP.f_xPs, MP.f_xPf, MP.f_User, MP.f_xFU, MP.f_Meth, MP.f_xM, MP.f_xM2, MP.f_Make, MP.f_xMk, MP.f_xMkF, MP.fe_ok, MP.r_run, MP.r_un, MP.r_un0, MP.r_nx, MP.r_ret, MP.r_exc, MP.t_nx, MP.t_cont, MP.t_brk, MP.t_ret, MP.b_nm, MP.b_tp2, MP.b_tp3, MP.t_bk, MP.fe_pop, MP.s_appF, MP.s_dead, MP.g_divmod, MP.g_sorted, MP.g_allB, MP.g_anyB, MP.g_sumI, MP.g_zipT, MP.g_zipL, MP.e_pZip, MP.e_xZp, MP.g_abs, MP.g_intI, MP.g_intB, MP.g_repT, MP.e_pLRng, MP.e_xLR, MP.f_Pop, MP.f_xPop, MP.s_AppF, MP.s_xAF0, MP.s_xAF, MP.s_xAF2, MP.g_inI, MP.g_ninI, MP.g_inT, MP.g_ninT, MP.g_ninST, MP.e_c2, MP.e_c3, MP.e_c4, MP.e_c5, MP.e_pIsi, List.getElem?_cons_zero, List.getElem?_cons_succ, List.getElem?_nil, List.set_cons_zero, List.set_cons_succ, List.map_cons, List.map_nil, List.length_cons, List.length_nil, List.length_append, List.cons_append, List.nil_append, List.length_map, List.length_singleton, Nat.reduceBEq, Nat.reduceAdd, Nat.reduceSub, Nat.reduceMul, Nat.reduceEqDiff, Nat.reduceLeDiff, Nat.reduceLT, if_false, if_true, ite_true, ite_false, ↓reduceIte, Bool.not_true, Bool.not_false, Bool.false_eq_true, decide_true, decide_false, eq_self, and_true, true_and, and_self, Nat.zero_le, Nat.zero_add, Option.bind_some, Option.bind_none, Nat.lt_irrefl, Int.reduceToNat, Int.reducePow, Int.reduceNeg, Int.reduceMul, Int.reduceAdd, Int.reduceSub, Int.reduceLT, Int.reduceLE, Int.reduceEq, beq_self_eq_true, wipeE, MP.at0, MP.at1, MP.at2, MP.atLit, hs, ec, h1', hmx, et, h2]; rfl⟩
      · exact ⟨.non, trivial, by simp (disch := (first | assumption | with_reducible rfl | decide +kernel | exact Or.inl (by decide +kernel) | exact Or.inr (by decide +kernel) | omega | (simp only [List.length_cons, List.length_nil, List.length_append, List.length_map, List.length_replicate, List.length_range] <;> omega) | rfl)) only [MP.of_some, MP.map_some, MP.e_lv, MP.e_lo, MP.e_pD, MP.e_xDs, MP.e_xDf, MP.e_pC, MP.e_pYes, MP.e_pVar, MP.e_p2, MP.e_x2, MP.e_p1, MP.e_x1, MP.e_pB, MP.e_xB, MP.e_pNot, MP.e_xNot, MP.e_pAnd, MP.e_xAndT, MP.e_xAndF, MP.e_pOr, MP.e_xOrT, MP.e_xOrF, MP.e_pAndV, MP.e_xAndVT, MP.e_xAndVF, MP.e_pOrV, MP.e_xOrVT, MP.e_xOrVF, MP.e_pNotV, MP.e_xNotV, MP.e_pIf, MP.e_xIfT, MP.e_xIfF, MP.e_p3, MP.e_x3, MP.e_x3bT, MP.e_x3bF, MP.e_pNil, MP.e_pCons, MP.e_xCons, MP.e_pTup, MP.e_xTp, MP.e_pLst, MP.e_xLs, MP.e_pNo, MP.e_pSome, MP.e_xSo, MP.e_pSl, MP.e_xSl, MP.e_pCall, MP.e_xG, MP.e_pSeq, MP.e_xSq, MP.e_pSeqR, MP.e_xSqR, MP.e_pRng, MP.e_pEnum, MP.e_xEn, MP.e_pComp, MP.e_xC, MP.e_xC2, MP.e_pUser, MP.e_xU, MP.e_xFv, MP.e_xFo, MP.e_xFe, MP.e_pSeal, MP.e_xSe, MP.e_xSeFv, MP.e_xSeFo, MP.e_pLook, MP.e_xLo, MP.e_xLoF, MP.e_pFld, MP.e_xFd, MP.e_xOb, MP.e_xLk0, MP.e_xLk1, MP.e_c0, MP.e_c1, MP.g_add, MP.g_catS, MP.g_catL, MP.g_catT, MP.g_sub, MP.g_mul, MP.g_rep, MP.g_div, MP.g_mod, MP.g_pow, MP.g_shl, MP.g_shr, MP.g_and, MP.g_orI, MP.g_neg, MP.g_lt, MP.g_le, MP.g_gt, MP.g_ge, MP.g_eqI, MP.g_eqS, MP.g_eqBo, MP.g_neI, MP.g_neS, MP.g_neBo, MP.g_is, MP.g_isNot, MP.n_none, MP.n_int, MP.n_str, MP.n_tup, MP.n_list, MP.n_bool, MP.g_max, MP.g_min, MP.g_lenL, MP.g_lenK, MP.g_lenT, MP.g_listL, MP.g_listK, MP.g_listT, MP.g_tupL, MP.g_tupT, MP.q_list, MP.q_lk, MP.q_tup, MP.g_rng1, MP.g_rng2, MP.g_enumL, MP.g_enumK, MP.g_ixL, MP.g_ixK, MP.g_ixT, MP.g_slL, MP.g_slK, MP.g_slT, MP.s_Nil, MP.s_Brk, MP.s_Cont, MP.s_Seq, MP.s_xSn, MP.s_xSr, MP.s_xSb, MP.s_xSc, MP.s_xSe, MP.s_Expr, MP.s_xEx, MP.s_SetV, MP.s_xSV, MP.s_SetO, MP.s_xSOs, MP.s_xSOf, MP.s_Ret, MP.s_xRts, MP.s_xRtf, MP.s_RetN, MP.s_RetS, MP.s_xRSo, MP.s_xRSv, MP.s_If, MP.s_xIfT, MP.s_xIfF, MP.s_Tup, MP.s_xTu, MP.s_xTb, MP.s_For, MP.s_xFor, MP.s_App, MP.s_xAp, MP.s_Thaw, MP.s_xTh, MP.s_Frz, MP.s_xFzo, MP.s_xFzv, MP.s_ExprF, MP.s_xEF, MP.s_SetF, MP.s_xSF, MP.s_RetF, MP.s_xRF, MP.s_IfF, MP.s_xIFT, MP.s_xIFF, MP.s_FldN, MP.s_xN, MP.s_xN2, MP.s_xN3, MP.s_put0, MP.s_put1, MP.s_putN, MP.f_P, MP.f_xPs, MP.f_xPf, MP.f_User, MP.f_xFU, MP.f_Meth, MP.f_xM, MP.f_xM2, MP.f_Make, MP.f_xMk, MP.f_xMkF, MP.fe_ok, MP.r_run, MP.r_un, MP.r_un0, MP.r_nx, MP.r_ret, MP.r_exc, MP.t_nx, MP.t_cont, MP.t_brk, MP.t_ret, MP.b_nm, MP.b_tp2, MP.b_tp3, MP.t_bk, MP.fe_pop, MP.s_appF, MP.s_dead, MP.g_divmod, MP.g_sorted, MP.g_allB, MP.g_anyB, MP.g_sumI, MP.g_zipT, MP.g_zipL, MP.e_pZip, MP.e_xZp, MP.g_abs, MP.g_intI, MP.g_intB, MP.g_repT, MP.e_pLRng, MP.e_xLR, MP.f_Pop, MP.f_xPop, MP.s_AppF, MP.s_xAF0, MP.s_xAF, MP.s_xAF2, MP.g_inI, MP.g_ninI, MP.g_inT, MP.g_ninT, MP.g_ninST, MP.e_c2, MP.e_c3, MP.e_c4, MP.e_c5, MP.e_pIsi, List.getElem?_cons_zero, List.getElem?_cons_succ, List.getElem?_nil, List.set_cons_zero, List.set_cons_succ, List.map_cons, List.map_nil, List.length_cons, List.length_nil, List.length_append, List.cons_append, List.nil_append, List.length_map, List.length_singleton, Nat.reduceBEq, Nat.reduceAdd, Nat.reduceSub, Nat.reduceMul, Nat.reduceEqDiff, Nat.reduceLeDiff, Nat.reduceLT, if_false, if_true, ite_true, ite_false, ↓reduceIte, Bool.not_true, Bool.not_false, Bool.false_eq_true, decide_true, decide_false, eq_self, and_true, true_and, and_self, Nat.zero_le, Nat.zero_add, Option.bind_some, Option.bind_none, Nat.lt_irrefl, Int.reduceToNat, Int.reducePow, Int.reduceNeg, Int.reduceMul, Int.reduceAdd, Int.reduceSub, Int.reduceLT, Int.reduceLE, Int.reduceEq, beq_self_eq_true, wipeE, MP.at0, MP.at1, MP.at2, MP.atLit, hs, ec, h1', hmx, et, h2]; rfl⟩
    · exact ⟨.non, trivial, by simp (disch := (first | assumption | with_reducible rfl | decide +kernel | exact Or.inl (by decide +kernel) | exact Or.inr (by decide +kernel) | omega | (simp only [List.length_cons, List.length_nil, List.length_append, List.length_map, List.length_replicate, List.length_range] <;> omega) | rfl)) only [MP.of_some, MP.map_some, MP.e_lv, MP.e_lo, MP.e_pD, MP.e_xDs, MP.e_xDf, MP.e_pC, MP.e_pYes, MP.e_pVar, MP.e_p2, MP.e_x2, MP.e_p1, MP.e_x1, MP.e_pB, MP.e_xB, MP.e_pNot, MP.e_xNot, MP.e_pAnd, MP.e_xAndT, MP.e_xAndF, MP.e_pOr, MP.e_xOrT, MP.e_xOrF, MP.e_pAndV, MP.e_xAndVT, MP.e_xAndVF, MP.e_pOrV, MP.e_xOrVT, MP.e_xOrVF, MP.e_pNotV, MP.e_xNotV, MP.e_pIf, MP.e_xIfT, MP.e_xIfF, MP.e_p3, MP.e_x3, MP.e_x3bT, MP.e_x3bF, MP.e_pNil, MP.e_pCons, MP.e_xCons, MP.e_pTup, MP.e_xTp, MP.e_pLst, MP.e_xLs, MP.e_pNo, MP.e_pSome, MP.e_xSo, MP.e_pSl, MP.e_xSl, MP.e_pCall, MP.e_xG, MP.e_pSeq, MP.e_xSq, MP.e_pSeqR, MP.e_xSqR, MP.e_pRng, MP.e_pEnum, MP.e_xEn, MP.e_pComp, MP.e_xC, MP.e_xC2, MP.e_pUser, MP.e_xU, MP.e_xFv, MP.e_xFo, MP.e_xFe, MP.e_pSeal, MP.e_xSe, MP.e_xSeFv, MP.e_xSeFo, MP.e_pLook, MP.e_xLo, MP.e_xLoF, MP.e_pFld, MP.e_xFd, MP.e_xOb, MP.e_xLk0, MP.e_xLk1, MP.e_c0, MP.e_c1, MP.g_add, MP.g_catS, MP.g_catL, MP.g_catT, MP.g_sub, MP.g_mul, MP.g_rep, MP.g_div, MP.g_mod, MP.g_pow, MP.g_shl, MP.g_shr, MP.g_and, MP.g_orI, MP.g_neg, MP.g_lt, MP.g_le, MP.g_gt, MP.g_ge, MP.g_eqI, MP.g_eqS, MP.g_eqBo, MP.g_neI, MP.g_neS, MP.g_neBo, MP.g_is, MP.g_isNot, MP.n_none, MP.n_int, MP.n_str, MP.n_tup, MP.n_list, MP.n_bool, MP.g_max, MP.g_min, MP.g_lenL, MP.g_lenK, MP.g_lenT, MP.g_listL, MP.g_listK, MP.g_listT, MP.g_tupL, MP.g_tupT, MP.q_list, MP.q_lk, MP.q_tup, MP.g_rng1, MP.g_rng2, MP.g_enumL, MP.g_enumK, MP.g_ixL, MP.g_ixK, MP.g_ixT, MP.g_slL, MP.g_slK, MP.g_slT, MP.s_Nil, MP.s_Brk, MP.s_Cont, MP.s_Seq, MP.s_xSn, MP.s_xSr, MP.s_xSb, MP.s_xSc, MP.s_xSe, MP.s_Expr, MP.s_xEx, MP.s_SetV, MP.s_xSV, MP.s_SetO, MP.s_xSOs, MP.s_xSOf, MP.s_Ret, MP.s_xRts, MP.s_xRtf, MP.s_RetN, MP.s_RetS, MP.s_xRSo, MP.s_xRSv, MP.s_If, MP.s_xIfT, MP.s_xIfF, MP.s_Tup, MP.s_xTu, MP.s_xTb, MP.s_For, MP.s_xFor, MP.s_App, MP.s_xAp, MP.s_Thaw, MP.s_xTh, MP.s_Frz, MP.s_xFzo, MP.s_xFzv, MP.s_ExprF, MP.s_xEF, MP.s_SetF, MP.s_xSF, MP.s_RetF, MP.s_xRF, MP.s_IfF, MP.s_xIFT, MP.s_xIFF, MP.s_FldN, MP.s_xN, MP.s_xN2, MP.s_xN3, MP.s_put0, MP.s_put1, MP.s_putN, MP.f_P, MP.f_xPs, MP.f_xPf, MP.f_User, MP.f_xFU, MP.f_Meth, MP.f_xM, MP.f_xM2, MP.f_Make, MP.f_xMk, MP.f_xMkF, MP.fe_ok, MP.r_run, MP.r_un, MP.r_un0, MP.r_nx, MP.r_ret, MP.r_exc, MP.t_nx, MP.t_cont, MP.t_brk, MP.t_ret, MP.b_nm, MP.b_tp2, MP.b_tp3, MP.t_bk, MP.fe_pop, MP.s_appF, MP.s_dead, MP.g_divmod, MP.g_sorted, MP.g_allB, MP.g_anyB, MP.g_sumI, MP.g_zipT, MP.g_zipL, MP.e_pZip, MP.e_xZp, MP.g_abs, MP.g_intI, MP.g_intB, MP.g_repT, MP.e_pLRng, MP.e_xLR, MP.f_Pop, MP.f_xPop, MP.s_AppF, MP.s_xAF0, MP.s_xAF, MP.s_xAF2, MP.g_inI, MP.g_ninI, MP.g_inT, MP.g_ninT, MP.g_ninST, MP.e_c2, MP.e_c3, MP.e_c4, MP.e_c5, MP.e_pIsi, List.getElem?_cons_zero, List.getElem?_cons_succ, List.getElem?_nil, List.set_cons_zero, List.set_cons_succ, List.map_cons, List.map_nil, List.length_cons, List.length_nil, List.length_append, List.cons_append, List.nil_append, List.length_map, List.length_singleton, Nat.reduceBEq, Nat.reduceAdd, Nat.reduceSub, Nat.reduceMul, Nat.reduceEqDiff, Nat.reduceLeDiff, Nat.reduceLT, if_false, if_true, ite_true, ite_false, ↓reduceIte, Bool.not_true, Bool.not_false, Bool.false_eq_true, decide_true, decide_false, eq_self, and_true, true_and, and_self, Nat.zero_le, Nat.zero_add, Option.bind_some, Option.bind_none, Nat.lt_irrefl, Int.reduceToNat, Int.reducePow, Int.reduceNeg, Int.reduceMul, Int.reduceAdd, Int.reduceSub, Int.reduceLT, Int.reduceLE, Int.reduceEq, beq_self_eq_true, wipeE, MP.at0, MP.at1, MP.at2, MP.atLit, hs, ec, h1', hmx, et]; rfl⟩
theorem m_meaning_of (x : Int) (i l : Nat) (hl : l = 1 ∨ l = 2 ∨ l = 3) : ∃ m : Mn, m.Ok i l ∧ sem_l_meaning_of [.int x, .int i, .int l] [] = .ok (.v m.D) [] := by
  obtain ⟨c, hc, ec⟩ := m_letter (x / 6)
  obtain ⟨t, et, ht1, ht2⟩ := there (x / 156) l hl
  have hm : (0 : Int) < (if (l : Int) - 1 > 1 then (l : Int) - 1 else 1) := by split <;> omega
  generalize hmx : (if (l : Int) - 1 > 1 then (l : Int) - 1 else 1) = mx at et hm
  have hs : x % 6 = 0 ∨ x % 6 = 1 ∨ x % 6 = 2 ∨ x % 6 = 3 ∨ x % 6 = 4 ∨ x % 6 = 5 := by omega
  have a1 : atI [Mn.D (.layer t), Mn.D (.tap c t), Mn.D (.once t)] 0 = some (Mn.D (.layer t)) := rfl
  unfold sem_l_meaning_of b_l_meaning_of
  by_cases h1 : (1 : Int) < l
  · have ht : t < l := ht2 (by omega)
    rcases hs with hs | hs | hs | hs | hs | hs
    · exact ⟨.letter c, hc, by simp (disch := (first | assumption | with_reducible rfl | decide +kernel | exact Or.inl (by decide +kernel) | exact Or.inr (by decide +kernel) | omega | (simp only [List.length_cons, List.length_nil, List.length_append, List.length_map, List.length_replicate, List.length_range] <;> omega) | rfl)) only [MP.of_some, MP.map_some, MP.e_lv, MP.e_lo, MP.e_pD, MP.e_xDs, MP.e_xDf, MP.e_pC, MP.e_pYes, MP.e_pVar, MP.e_p2, MP.e_x2, MP.e_p1, MP.e_x1, MP.e_pB, MP.e_xB, MP.e_pNot, MP.e_xNot, MP.e_pAnd, MP.e_xAndT, MP.e_xAndF, MP.e_pOr, MP.e_xOrT, MP.e_xOrF, MP.e_pAndV, MP.e_xAndVT, MP.e_xAndVF, MP.e_pOrV, MP.e_xOrVT, MP.e_xOrVF, MP.e_pNotV, MP.e_xNotV, MP.e_pIf, MP.e_xIfT, MP.e_xIfF, MP.e_p3, MP.e_x3, MP.e_x3bT, MP.e_x3bF, MP.e_pNil, MP.e_pCons, MP.e_xCons, MP.e_pTup, MP.e_xTp, MP.e_pLst, MP.e_xLs, MP.e_pNo, MP.e_pSome, MP.e_xSo, MP.e_pSl, MP.e_xSl, MP.e_pCall, MP.e_xG, MP.e_pSeq, MP.e_xSq, MP.e_pSeqR, MP.e_xSqR, MP.e_pRng, MP.e_pEnum, MP.e_xEn, MP.e_pComp, MP.e_xC, MP.e_xC2, MP.e_pUser, MP.e_xU, MP.e_xFv, MP.e_xFo, MP.e_xFe, MP.e_pSeal, MP.e_xSe, MP.e_xSeFv, MP.e_xSeFo, MP.e_pLook, MP.e_xLo, MP.e_xLoF, MP.e_pFld, MP.e_xFd, MP.e_xOb, MP.e_xLk0, MP.e_xLk1, MP.e_c0, MP.e_c1, MP.g_add, MP.g_catS, MP.g_catL, MP.g_catT, MP.g_sub, MP.g_mul, MP.g_rep, MP.g_div, MP.g_mod, MP.g_pow, MP.g_shl, MP.g_shr, MP.g_and, MP.g_orI, MP.g_neg, MP.g_lt, MP.g_le, MP.g_gt, MP.g_ge, MP.g_eqI, MP.g_eqS, MP.g_eqBo, MP.g_neI, MP.g_neS, MP.g_neBo, MP.g_is, MP.g_isNot, MP.n_none, MP.n_int, MP.n_str, MP.n_tup, MP.n_list, MP.n_bool, MP.g_max, MP.g_min, MP.g_lenL, MP.g_lenK, MP.g_lenT, MP.g_listL, MP.g_listK, MP.g_listT, MP.g_tupL, MP.g_tupT, MP.q_list, MP.q_lk, MP.q_tup, MP.g_rng1, MP.g_rng2, MP.g_enumL, MP.g_enumK, MP.g_ixL, MP.g_ixK, MP.g_ixT, MP.g_slL, MP.g_slK, MP.g_slT, MP.s_Nil, MP.s_Brk, MP.s_Cont, MP.s_Seq, MP.s_xSn, MP.s_xSr, MP.s_xSb, MP.s_xSc, MP.s_xSe, MP.s_Expr, MP.s_xEx, MP.s_SetV, MP.s_xSV, MP.s_SetO, MP.s_xSOs, MP.s_xSOf, MP.s_Ret, MP.s_xRts, MP.s_xRtf, MP.s_RetN, MP.s_RetS, MP.s_xRSo, MP.s_xRSv, MP.s_If, MP.s_xIfT, MP.s_xIfF, MP.s_Tup, MP.s_xTu, MP.s_xTb, MP.s_For, MP.s_xFor, MP.s_App, MP.s_xAp, MP.s_Thaw, MP.s_xTh, MP.s_Frz, MP.s_xFzo, MP.s_xFzv, MP.s_ExprF, MP.s_xEF, MP.s_SetF, MP.s_xSF, MP.s_RetF, MP.s_xRF, MP.s_IfF, MP.s_xIFT, MP.s_xIFF, MP.s_FldN, MP.s_xN, MP.s_xN2, MP.s_xN3, MP.s_put0, MP.s_put1, MP.s_putN, MP.f_P, MP.f_xPs, MP.f_xPf, MP.f_User, MP.f_xFU, MP.f_Meth, MP.f_xM, MP.f_xM2, MP.f_Make, MP.f_xMk, MP.f_xMkF, MP.fe_ok, MP.r_run, MP.r_un, MP.r_un0, MP.r_nx, MP.r_ret, MP.r_exc, MP.t_nx, MP.t_cont, MP.t_brk, MP.t_ret, MP.b_nm, MP.b_tp2, MP.b_tp3, MP.t_bk, MP.fe_pop, MP.s_appF, MP.s_dead, MP.g_divmod, MP.g_sorted, MP.g_allB, MP.g_anyB, MP.g_sumI, MP.g_zipT, MP.g_zipL, MP.e_pZip, MP.e_xZp, MP.g_abs, MP.g_intI, MP.g_intB, MP.g_repT, MP.e_pLRng, MP.e_xLR, MP.f_Pop, MP.f_xPop, MP.s_AppF, MP.s_xAF0, MP.s_xAF, MP.s_xAF2, MP.g_inI, MP.g_ninI, MP.g_inT, MP.g_ninT, MP.g_ninST, MP.e_c2, MP.e_c3, MP.e_c4, MP.e_c5, MP.e_pIsi, List.getElem?_cons_zero, List.getElem?_cons_succ, List.getElem?_nil, List.set_cons_zero, List.set_cons_succ, List.map_cons, List.map_nil, List.length_cons, List.length_nil, List.length_append, List.cons_append, List.nil_append, List.length_map, List.length_singleton, Nat.reduceBEq, Nat.reduceAdd, Nat.reduceSub, Nat.reduceMul, Nat.reduceEqDiff, Nat.reduceLeDiff, Nat.reduceLT, if_false, if_true, ite_true, ite_false, ↓reduceIte, Bool.not_true, Bool.not_false, Bool.false_eq_true, decide_true, decide_false, eq_self, and_true, true_and, and_self, Nat.zero_le, Nat.zero_add, Option.bind_some, Option.bind_none, Nat.lt_irrefl, Int.reduceToNat, Int.reducePow, Int.reduceNeg, Int.reduceMul, Int.reduceAdd, Int.reduceSub, Int.reduceLT, Int.reduceLE, Int.reduceEq, beq_self_eq_true, wipeE, MP.at0, MP.at1, MP.at2, MP.atLit, hs, ec, h1, hmx, et]; rfl⟩
    · exact ⟨.non, trivial, by simp (disch := (first | assumption | with_reducible rfl | decide +kernel | exact Or.inl (by decide +kernel) | exact Or.inr (by decide +kernel) | omega | (simp only [List.length_cons, List.length_nil, List.length_append, List.length_map, List.length_replicate, List.length_range] <;> omega) | rfl)) only [MP.of_some, MP.map_some, MP.e_lv, MP.e_lo, MP.e_pD, MP.e_xDs, MP.e_xDf, MP.e_pC, MP.e_pYes, MP.e_pVar, MP.e_p2, MP.e_x2, MP.e_p1, MP.e_x1, MP.e_pB, MP.e_xB, MP.e_pNot, MP.e_xNot, MP.e_pAnd, MP.e_xAndT, MP.e_xAndF, MP.e_pOr, MP.e_xOrT, MP.e_xOrF, MP.e_pAndV, MP.e_xAndVT, MP.e_xAndVF, MP.e_pOrV, MP.e_xOrVT, MP.e_xOrVF, MP.e_pNotV, MP.e_xNotV, MP.e_pIf, MP.e_xIfT, MP.e_xIfF, MP.e_p3, MP.e_x3, MP.e_x3bT, MP.e_x3bF, MP.e_pNil, MP.e_pCons, MP.e_xCons, MP.e_pTup, MP.e_xTp, MP.e_pLst, MP.e_xLs, MP.e_pNo, MP.e_pSome, MP.e_xSo, MP.e_pSl, MP.e_xSl, MP.e_pCall, MP.e_xG, MP.e_pSeq, MP.e_xSq, MP.e_pSeqR, MP.e_xSqR, MP.e_pRng, MP.e_pEnum, MP.e_xEn, MP.e_pComp, MP.e_xC, MP.e_xC2, MP.e_pUser, MP.e_xU, MP.e_xFv, MP.e_xFo, MP.e_xFe, MP.e_pSeal, MP.e_xSe, MP.e_xSeFv, MP.e_xSeFo, MP.e_pLook, MP.e_xLo, MP.e_xLoF, MP.e_pFld, MP.e_xFd, MP.e_xOb, MP.e_xLk0, MP.e_xLk1, MP.e_c0, MP.e_c1, MP.g_add, MP.g_catS, MP.g_catL, MP.g_catT, MP.g_sub, MP.g_mul, MP.g_rep, MP.g_div, MP.g_mod, MP.g_pow, MP.g_shl, MP.g_shr, MP.g_and, MP.g_orI, MP.g_neg, MP.g_lt, MP.g_le, MP.g_gt, MP.g_ge, MP.g_eqI, MP.g_eqS, MP.g_eqBo, MP.g_neI, MP.g_neS, MP.g_neBo, MP.g_is, MP.g_isNot, MP.n_none, MP.n_int, MP.n_str, MP.n_tup, MP.n_list, MP.n_bool, MP.g_max, MP.g_min, MP.g_lenL, MP.g_lenK, MP.g_lenT, MP.g_listL, MP.g_listK, MP.g_listT, MP.g_tupL, MP.g_tupT, MP.q_list, MP.q_lk, MP.q_tup, MP.g_rng1, MP.g_rng2, MP.g_enumL, MP.g_enumK, MP.g_ixL, MP.g_ixK, MP.g_ixT, MP.g_slL, MP.g_slK, MP.g_slT, MP.s_Nil, MP.s_Brk, MP.s_Cont, MP.s_Seq, MP.s_xSn, MP.s_xSr, MP.s_xSb, MP.s_xSc, MP.s_xSe, MP.s_Expr, MP.s_xEx, MP.s_SetV, MP.s_xSV, MP.s_SetO, MP.s_xSOs, MP.s_xSOf, MP.s_Ret, MP.s_xRts, MP.s_xRtf, MP.s_RetN, MP.s_RetS, MP.s_xRSo, MP.s_xRSv, MP.s_If, MP.s_xIfT, MP.s_xIfF, MP.s_Tup, MP.s_xTu, MP.s_xTb, MP.s_For, MP.s_xFor, MP.s_App, MP.s_xAp, MP.s_Thaw, MP.s_xTh, MP.s_Frz, MP.s_xFzo, MP.s_xFzv, MP.s_ExprF, MP.s_xEF, MP.s_SetF, MP.s_xSF, MP.s_RetF, MP.s_xRF, MP.s_IfF, MP.s_xIFT, MP.s_xIFF, MP.s_FldN, MP.s_xN, MP.s_xN2, MP.s_xN3, MP.s_put0, MP.s_put1, MP.s_putN, MP.f_P, MP.f_xPs, MP.f_xPf, MP.f_User, MP.f_xFU, MP.f_Meth, MP.f_xM, MP.f_xM2, MP.f_Make, MP.f_xMk, MP.f_xMkF, MP.fe_ok, MP.r_run, MP.r_un, MP.r_un0, MP.r_nx, MP.r_ret, MP.r_exc, MP.t_nx, MP.t_cont, MP.t_brk, MP.t_ret, MP.b_nm, MP.b_tp2, MP.b_tp3, MP.t_bk, MP.fe_pop, MP.s_appF, MP.s_dead, MP.g_divmod, MP.g_sorted, MP.g_allB, MP.g_anyB, MP.g_sumI, MP.g_zipT, MP.g_zipL, MP.e_pZip, MP.e_xZp, MP.g_abs, MP.g_intI, MP.g_intB, MP.g_repT, MP.e_pLRng, MP.e_xLR, MP.f_Pop, MP.f_xPop, MP.s_AppF, MP.s_xAF0, MP.s_xAF, MP.s_xAF2, MP.g_inI, MP.g_ninI, MP.g_inT, MP.g_ninT, MP.g_ninST, MP.e_c2, MP.e_c3, MP.e_c4, MP.e_c5, MP.e_pIsi, List.getElem?_cons_zero, List.getElem?_cons_succ, List.getElem?_nil, List.set_cons_zero, List.set_cons_succ, List.map_cons, List.map_nil, List.length_cons, List.length_nil, List.length_append, List.cons_append, List.nil_append, List.length_map, List.length_singleton, Nat.reduceBEq, Nat.reduceAdd, Nat.reduceSub, Nat.reduceMul, Nat.reduceEqDiff, Nat.reduceLeDiff, Nat.reduceLT, if_false, if_true, ite_true, ite_false, ↓reduceIte, Bool.not_true, Bool.not_false, Bool.false_eq_true, decide_true, decide_false, eq_self, and_true, true_and, and_self, Nat.zero_le, Nat.zero_add, Option.bind_some, Option.bind_none, Nat.lt_irrefl, Int.reduceToNat, Int.reducePow, Int.reduceNeg, Int.reduceMul, Int.reduceAdd, Int.reduceSub, Int.reduceLT, Int.reduceLE, Int.reduceEq, beq_self_eq_true, wipeE, MP.at0, MP.at1, MP.at2, MP.atLit, hs, ec, h1, hmx, et]; rfl⟩
    · by_cases h2 : ((i : Int) = 0)
      · have h2' : ((i : Int) = 0) = True := eq_true h2
        exact ⟨.non, trivial, by simp (disch := (first | assumption | with_reducible rfl | decide +kernel | exact Or.inl (by decide +kernel) | exact Or.inr (by decide +kernel) | omega | (simp only [List.length_cons, List.length_nil, List.length_append, List.length_map, List.length_replicate, List.length_range] <;> omega) | rfl)) only [MP.of_some, MP.map_some, MP.e_lv, MP.e_lo, MP.e_pD, MP.e_xDs, MP.e_xDf, MP.e_pC, MP.e_pYes, MP.e_pVar, MP.e_p2, MP.e_x2, MP.e_p1, MP.e_x1, MP.e_pB, MP.e_xB, MP.e_pNot, MP.e_xNot, MP.e_pAnd, MP.e_xAndT, MP.e_xAndF, MP.e_pOr, MP.e_xOrT, MP.e_xOrF, MP.e_pAndV, MP.e_xAndVT, MP.e_xAndVF, MP.e_pOrV, MP.e_xOrVT, MP.e_xOrVF, MP.e_pNotV, MP.e_xNotV, MP.e_pIf, MP.e_xIfT, MP.e_xIfF, MP.e_p3, MP.e_x3, MP.e_x3bT, MP.e_x3bF, MP.e_pNil, MP.e_pCons, MP.e_xCons, MP.e_pTup, MP.e_xTp, MP.e_pLst, MP.e_xLs, MP.e_pNo, MP.e_pSome, MP.e_xSo, MP.e_pSl, MP.e_xSl, MP.e_pCall, MP.e_xG, MP.e_pSeq, MP.e_xSq, MP.e_pSeqR, MP.e_xSqR, MP.e_pRng, MP.e_pEnum, MP.e_xEn, MP.e_pComp, MP.e_xC, MP.e_xC2, MP.e_pUser, MP.e_xU, MP.e_xFv, MP.e_xFo, MP.e_xFe, MP.e_pSeal, MP.e_xSe, MP.e_xSeFv, MP.e_xSeFo, MP.e_pLook, MP.e_xLo, MP.e_xLoF, MP.e_pFld, MP.e_xFd, MP.e_xOb, MP.e_xLk0, MP.e_xLk1, MP.e_c0, MP.e_c1, MP.g_add, MP.g_catS, MP.g_catL, MP.g_catT, MP.g_sub, MP.g_mul, MP.g_rep, MP.g_div, MP.g_mod, MP.g_pow, MP.g_shl, MP.g_shr, MP.g_and, MP.g_orI, MP.g_neg, MP.g_lt, MP.g_le, MP.g_gt, MP.g_ge, MP.g_eqI, MP.g_eqS, MP.g_eqBo, MP.g_neI, MP.g_neS, MP.g_neBo, MP.g_is, MP.g_isNot, MP.n_none, MP.n_int, MP.n_str, MP.n_tup, MP.n_list, MP.n_bool, MP.g_max, MP.g_min, MP.g_lenL, MP.g_lenK, MP.g_lenT, MP.g_listL, MP.g_listK, MP.g_listT, MP.g_tupL, MP.g_tupT, MP.q_list, MP.q_lk, MP.q_tup, MP.g_rng1, MP.g_rng2, MP.g_enumL, MP.g_enumK, MP.g_ixL, MP.g_ixK, MP.g_ixT, MP.g_slL, MP.g_slK, MP.g_slT, MP.s_Nil, MP.s_Brk, MP.s_Cont, MP.s_Seq, MP.s_xSn, MP.s_xSr, MP.s_xSb, MP.s_xSc, MP.s_xSe, MP.s_Expr, MP.s_xEx, MP.s_SetV, MP.s_xSV, MP.s_SetO, MP.s_xSOs, MP.s_xSOf, MP.s_Ret, MP.s_xRts, MP.s_xRtf, MP.s_RetN, MP.s_RetS, MP.s_xRSo, MP.s_xRSv, MP.s_If, MP.s_xIfT, MP.s_xIfF, MP.s_Tup, MP.s_xTu, MP.s_xTb, MP.s_For, MP.s_xFor, MP.s_App, MP.s_xAp, MP.s_Thaw, MP.s_xTh, MP.s_Frz, MP.s_xFzo, MP.s_xFzv, MP.s_ExprF, MP.s_xEF, MP.s_SetF, MP.s_xSF, MP.s_RetF, MP.s_xRF, MP.s_IfF, MP.s_xIFT, MP.s_xIFF, MP.s_FldN, MP.s_xN, MP.s_xN2, MP.s_xN3, MP.s_put0, MP.s_put1, MP.s_putN, MP.f_P, MP.f_xPs, MP.f_xPf, MP.f_User, MP.f_xFU, MP.f_Meth, MP.f_xM, MP.f_xM2, MP.f_Make, MP.f_xMk, MP.f_xMkF, MP.fe_ok, MP.r_run, MP.r_un, MP.r_un0, MP.r_nx, MP.r_ret, MP.r_exc, MP.t_nx, MP.t_cont, MP.t_brk, MP.t_ret, MP.b_nm, MP.b_tp2, MP.b_tp3, MP.t_bk, MP.fe_pop, MP.s_appF, MP.s_dead, MP.g_divmod, MP.g_sorted, MP.g_allB, MP.g_anyB, MP.g_sumI, MP.g_zipT, MP.g_zipL, MP.e_pZip, MP.e_xZp, MP.g_abs, MP.g_intI, MP.g_intB, MP.g_repT, MP.e_pLRng, MP.e_xLR, MP.f_Pop, MP.f_xPop, MP.s_AppF, MP.s_xAF0, MP.s_xAF, MP.s_xAF2, MP.g_inI, MP.g_ninI, MP.g_inT, MP.g_ninT, MP.g_ninST, MP.e_c2, MP.e_c3, MP.e_c4, MP.e_c5, MP.e_pIsi, List.getElem?_cons_zero, List.getElem?_cons_succ, List.getElem?_nil, List.set_cons_zero, List.set_cons_succ, List.map_cons, List.map_nil, List.length_cons, List.length_nil, List.length_append, List.cons_append, List.nil_append, List.length_map, List.length_singleton, Nat.reduceBEq, Nat.reduceAdd, Nat.reduceSub, Nat.reduceMul, Nat.reduceEqDiff, Nat.reduceLeDiff, Nat.reduceLT, if_false, if_true, ite_true, ite_false, ↓reduceIte, Bool.not_true, Bool.not_false, Bool.false_eq_true, decide_true, decide_false, eq_self, and_true, true_and, and_self, Nat.zero_le, Nat.zero_add, Option.bind_some, Option.bind_none, Nat.lt_irrefl, Int.reduceToNat, Int.reducePow, Int.reduceNeg, Int.reduceMul, Int.reduceAdd, Int.reduceSub, Int.reduceLT, Int.reduceLE, Int.reduceEq, beq_self_eq_true, wipeE, MP.at0, MP.at1, MP.at2, MP.atLit, hs, ec, h1, hmx, et, h2']; rfl⟩
      · exact ⟨.below, by show 0 < i; omega, by simp (disch := (first | assumption | with_reducible rfl | decide +kernel | exact Or.inl (by decide +kernel) | exact Or.inr (by decide +kernel) | omega | (simp only [List.length_cons, List.length_nil, List.length_append, List.length_map, List.length_replicate, List.length_range] <;> omega) | rfl)) only [MP.of_some, MP.map_some, MP.e_lv, MP.e_lo, MP.e_pD, MP.e_xDs, MP.e_xDf, MP.e_pC, MP.e_pYes, MP.e_pVar, MP.e_p2, MP.e_x2, MP.e_p1, MP.e_x1, MP.e_pB, MP.e_xB, MP.e_pNot, MP.e_xNot, MP.e_pAnd, MP.e_xAndT, MP.e_xAndF, MP.e_pOr, MP.e_xOrT, MP.e_xOrF, MP.e_pAndV, MP.e_xAndVT, MP.e_xAndVF, MP.e_pOrV, MP.e_xOrVT, MP.e_xOrVF, MP.e_pNotV, MP.e_xNotV, MP.e_pIf, MP.e_xIfT, MP.e_xIfF, MP.e_p3, MP.e_x3, MP.e_x3bT, MP.e_x3bF, MP.e_pNil, MP.e_pCons, MP.e_xCons, MP.e_pTup, MP.e_xTp, MP.e_pLst, MP.e_xLs, MP.e_pNo, MP.e_pSome, MP.e_xSo, MP.e_pSl, MP.e_xSl, MP.e_pCall, MP.e_xG, MP.e_pSeq, MP.e_xSq, MP.e_pSeqR, MP.e_xSqR, MP.e_pRng, MP.e_pEnum, MP.e_xEn, MP.e_pComp, MP.e_xC, MP.e_xC2, MP.e_pUser, MP.e_xU, MP.e_xFv, MP.e_xFo, MP.e_xFe, MP.e_pSeal, MP.e_xSe, MP.e_xSeFv, MP.e_xSeFo, MP.e_pLook, MP.e_xLo, MP.e_xLoF, MP.e_pFld, MP.e_xFd, MP.e_xOb, MP.e_xLk0, MP.e_xLk1, MP.e_c0, MP.e_c1, MP.g_add, MP.g_catS, MP.g_catL, MP.g_catT, MP.g_sub, MP.g_mul, MP.g_rep, MP.g_div, MP.g_mod, MP.g_pow, MP.g_shl, MP.g_shr, MP.g_and, MP.g_orI, MP.g_neg, MP.g_lt, MP.g_le, MP.g_gt, MP.g_ge, MP.g_eqI, MP.g_eqS, MP.g_eqBo, MP.g_neI, MP.g_neS, MP.g_neBo, MP.g_is, MP.g_isNot, MP.n_none, MP.n_int, MP.n_str, MP.n_tup, MP.n_list, MP.n_bool, MP.g_max, MP.g_min, MP.g_lenL, MP.g_lenK, MP.g_lenT, MP.g_listL, MP.g_listK, MP.g_listT, MP.g_tupL, MP.g_tupT, MP.q_list, MP.q_lk, MP.q_tup, MP.g_rng1, MP.g_rng2, MP.g_enumL, MP.g_enumK, MP.g_ixL, MP.g_ixK, MP.g_ixT, MP.g_slL, MP.g_slK, MP.g_slT, MP.s_Nil, MP.s_Brk, MP.s_Cont, MP.s_Seq, MP.s_xSn, MP.s_xSr, MP.s_xSb, MP.s_xSc, MP.s_xSe, MP.s_Expr, MP.s_xEx, MP.s_SetV, MP.s_xSV, MP.s_SetO, MP.s_xSOs, MP.s_xSOf, MP.s_Ret, MP.s_xRts, MP.s_xRtf, MP.s_RetN, MP.s_RetS, MP.s_xRSo, MP.s_xRSv, MP.s_If, MP.s_xIfT, MP.s_xIfF, MP.s_Tup, MP.s_xTu, MP.s_xTb, MP.s_For, MP.s_xFor, MP.s_App, MP.s_xAp, MP.s_Thaw, MP.s_xTh, MP.s_Frz, MP.s_xFzo, MP.s_xFzv, MP.s_ExprF, MP.s_xEF, MP.s_SetF, MP.s_xSF, MP.s_RetF, MP.s_xRF, MP.s_IfF, MP.s_xIFT, MP.s_xIFF, MP.s_FldN, MP.s_xN, MP.s_xN2, MP.s_xN3, MP.s_put0, MP.s_put1, MP.s_putN, MP.f_P, MP.f_xPs, MP.f_xPf, MP.f_User, MP.f_xFU, MP.f_Meth, MP.f_xM, MP.f_xM2, MP.f_Make, MP.f_xMk, MP.f_xMkF, MP.fe_ok, MP.r_run, MP.r_un, MP.r_un0, MP.r_nx, MP.r_ret, MP.r_exc, MP.t_nx, MP.t_cont, MP.t_brk, MP.t_ret, MP.b_nm, MP.b_tp2, MP.b_tp3, MP.t_bk, MP.fe_pop, MP.s_appF, MP.s_dead, MP.g_divmod, MP.g_sorted, MP.g_allB, MP.g_anyB, MP.g_sumI, MP.g_zipT, MP.g_zipL, MP.e_pZip, MP.e_xZp, MP.g_abs, MP.g_intI, MP.g_intB, MP.g_repT, MP.e_pLRng, MP.e_xLR, MP.f_Pop, MP.f_xPop, MP.s_AppF, MP.s_xAF0, MP.s_xAF, MP.s_xAF2, MP.g_inI, MP.g_ninI, MP.g_inT, MP.g_ninT, MP.g_ninST, MP.e_c2, MP.e_c3, MP.e_c4, MP.e_c5, MP.e_pIsi, List.getElem?_cons_zero, List.getElem?_cons_succ, List.getElem?_nil, List.set_cons_zero, List.set_cons_succ, List.map_cons, List.map_nil, List.length_cons, List.length_nil, List.length_append, List.cons_append, List.nil_append, List.length_map, List.length_singleton, Nat.reduceBEq, Nat.reduceAdd, Nat.reduceSub, Nat.reduceMul, Nat.reduceEqDiff, Nat.reduceLeDiff, Nat.reduceLT, if_false, if_true, ite_true, ite_false, ↓reduceIte, Bool.not_true, Bool.not_false, Bool.false_eq_true, decide_true, decide_false, eq_self, and_true, true_and, and_self, Nat.zero_le, Nat.zero_add, Option.bind_some, Option.bind_none, Nat.lt_irrefl, Int.reduceToNat, Int.reducePow, Int.reduceNeg, Int.reduceMul, Int.reduceAdd, Int.reduceSub, Int.reduceLT, Int.reduceLE, Int.reduceEq, beq_self_eq_true, wipeE, MP.at0, MP.at1, MP.at2, MP.atLit, hs, ec, h1, hmx, et, h2]; rfl⟩
    · exact ⟨.layer t, ⟨ht1, ht⟩, by simp (disch := (first | assumption | with_reducible rfl | decide +kernel | exact Or.inl (by decide +kernel) | exact Or.inr (by decide +kernel) | omega | (simp only [List.length_cons, List.length_nil, List.length_append, List.length_map, List.length_replicate, List.length_range] <;> omega) | rfl)) only [MP.of_some, MP.map_some, MP.e_lv, MP.e_lo, MP.e_pD, MP.e_xDs, MP.e_xDf, MP.e_pC, MP.e_pYes, MP.e_pVar, MP.e_p2, MP.e_x2, MP.e_p1, MP.e_x1, MP.e_pB, MP.e_xB, MP.e_pNot, MP.e_xNot, MP.e_pAnd, MP.e_xAndT, MP.e_xAndF, MP.e_pOr, MP.e_xOrT, MP.e_xOrF, MP.e_pAndV, MP.e_xAndVT, MP.e_xAndVF, MP.e_pOrV, MP.e_xOrVT, MP.e_xOrVF, MP.e_pNotV, MP.e_xNotV, MP.e_pIf, MP.e_xIfT, MP.e_xIfF, MP.e_p3, MP.e_x3, MP.e_x3bT, MP.e_x3bF, MP.e_pNil, MP.e_pCons, MP.e_xCons, MP.e_pTup, MP.e_xTp, MP.e_pLst, MP.e_xLs, MP.e_pNo, MP.e_pSome, MP.e_xSo, MP.e_pSl, MP.e_xSl, MP.e_pCall, MP.e_xG, MP.e_pSeq, MP.e_xSq, MP.e_pSeqR, MP.e_xSqR, MP.e_pRng, MP.e_pEnum, MP.e_xEn, MP.e_pComp, MP.e_xC, MP.e_xC2, MP.e_pUser, MP.e_xU, MP.e_xFv, MP.e_xFo, MP.e_xFe, MP.e_pSeal, MP.e_xSe, MP.e_xSeFv, MP.e_xSeFo, MP.e_pLook, MP.e_xLo, MP.e_xLoF, MP.e_pFld, MP.e_xFd, MP.e_xOb, MP.e_xLk0, MP.e_xLk1, MP.e_c0, MP.e_c1, MP.g_add, MP.g_catS, MP.g_catL, MP.g_catT, MP.g_sub, MP.g_mul, MP.g_rep, MP.g_div, MP.g_mod, MP.g_pow, MP.g_shl, MP.g_shr, MP.g_and, MP.g_orI, MP.g_neg, MP.g_lt, MP.g_le, MP.g_gt, MP.g_ge, MP.g_eqI, MP.g_eqS, MP.g_eqBo, MP.g_neI, MP.g_neS, MP.g_neBo, MP.g_is, MP.g_isNot, MP.n_none, MP.n_int, MP.n_str, MP.n_tup, MP.n_list, MP.n_bool, MP.g_max, MP.g_min, MP.g_lenL, MP.g_lenK, MP.g_lenT, MP.g_listL, MP.g_listK, MP.g_listT, MP.g_tupL, MP.g_tupT, MP.q_list, MP.q_lk, MP.q_tup, MP.g_rng1, MP.g_rng2, MP.g_enumL, MP.g_enumK, MP.g_ixL, MP.g_ixK, MP.g_ixT, MP.g_slL, MP.g_slK, MP.g_slT, MP.s_Nil, MP.s_Brk, MP.s_Cont, MP.s_Seq, MP.s_xSn, MP.s_xSr, MP.s_xSb, MP.s_xSc, MP.s_xSe, MP.s_Expr, MP.s_xEx, MP.s_SetV, MP.s_xSV, MP.s_SetO, MP.s_xSOs, MP.s_xSOf, MP.s_Ret, MP.s_xRts, MP.s_xRtf, MP.s_RetN, MP.s_RetS, MP.s_xRSo, MP.s_xRSv, MP.s_If, MP.s_xIfT, MP.s_xIfF, MP.s_Tup, MP.s_xTu, MP.s_xTb, MP.s_For, MP.s_xFor, MP.s_App, MP.s_xAp, MP.s_Thaw, MP.s_xTh, MP.s_Frz, MP.s_xFzo, MP.s_xFzv, MP.s_ExprF, MP.s_xEF, MP.s_SetF, MP.s_xSF, MP.s_RetF, MP.s_xRF, MP.s_IfF, MP.s_xIFT, MP.s_xIFF, MP.s_FldN, MP.s_xN, MP.s_xN2, MP.s_xN3, MP.s_put0, MP.s_put1, MP.s_putN, MP.f_P, MP.f_xPs, MP.f_xPf, MP.f_User, MP.f_xFU, MP.f_Meth, MP.f_xM, MP.f_xM2, MP.f_Make, MP.f_xMk, MP.f_xMkF, MP.fe_ok, MP.r_run, MP.r_un, MP.r_un0, MP.r_nx, MP.r_ret, MP.r_exc, MP.t_nx, MP.t_cont, MP.t_brk, MP.t_ret, MP.b_nm, MP.b_tp2, MP.b_tp3, MP.t_bk, MP.fe_pop, MP.s_appF, MP.s_dead, MP.g_divmod, MP.g_sorted, MP.g_allB, MP.g_anyB, MP.g_sumI, MP.g_zipT, MP.g_zipL, MP.e_pZip, MP.e_xZp, MP.g_abs, MP.g_intI, MP.g_intB, MP.g_repT, MP.e_pLRng, MP.e_xLR, MP.f_Pop, MP.f_xPop, MP.s_AppF, MP.s_xAF0, MP.s_xAF, MP.s_xAF2, MP.g_inI, MP.g_ninI, MP.g_inT, MP.g_ninT, MP.g_ninST, MP.e_c2, MP.e_c3, MP.e_c4, MP.e_c5, MP.e_pIsi, List.getElem?_cons_zero, List.getElem?_cons_succ, List.getElem?_nil, List.set_cons_zero, List.set_cons_succ, List.map_cons, List.map_nil, List.length_cons, List.length_nil, List.length_append, List.cons_append, List.nil_append, List.length_map, List.length_singleton, Nat.reduceBEq, Nat.reduceAdd, Nat.reduceSub, Nat.reduceMul, Nat.reduceEqDiff, Nat.reduceLeDiff, Nat.reduceLT, if_false, if_true, ite_true, ite_false, ↓reduceIte, Bool.not_true, Bool.not_false, Bool.false_eq_true, decide_true, decide_false, eq_self, and_true, true_and, and_self, Nat.zero_le, Nat.zero_add, Option.bind_some, Option.bind_none, Nat.lt_irrefl, Int.reduceToNat, Int.reducePow, Int.reduceNeg, Int.reduceMul, Int.reduceAdd, Int.reduceSub, Int.reduceLT, Int.reduceLE, Int.reduceEq, beq_self_eq_true, wipeE, MP.at0, MP.at1, MP.at2, MP.atLit, hs, ec, h1, hmx, et]; rfl⟩
    · exact ⟨.tap c t, ⟨hc, ht1, ht⟩, by simp (disch := (first | assumption | with_reducible rfl | decide +kernel | exact Or.inl (by decide +kernel) | exact Or.inr (by decide +kernel) | omega | (simp only [List.length_cons, List.length_nil, List.length_append, List.length_map, List.length_replicate, List.length_range] <;> omega) | rfl)) only [MP.of_some, MP.map_some, MP.e_lv, MP.e_lo, MP.e_pD, MP.e_xDs, MP.e_xDf, MP.e_pC, MP.e_pYes, MP.e_pVar, MP.e_p2, MP.e_x2, MP.e_p1, MP.e_x1, MP.e_pB, MP.e_xB, MP.e_pNot, MP.e_xNot, MP.e_pAnd, MP.e_xAndT, MP.e_xAndF, MP.e_pOr, MP.e_xOrT, MP.e_xOrF, MP.e_pAndV, MP.e_xAndVT, MP.e_xAndVF, MP.e_pOrV, MP.e_xOrVT, MP.e_xOrVF, MP.e_pNotV, MP.e_xNotV, MP.e_pIf, MP.e_xIfT, MP.e_xIfF, MP.e_p3, MP.e_x3, MP.e_x3bT, MP.e_x3bF, MP.e_pNil, MP.e_pCons, MP.e_xCons, MP.e_pTup, MP.e_xTp, MP.e_pLst, MP.e_xLs, MP.e_pNo, MP.e_pSome, MP.e_xSo, MP.e_pSl, MP.e_xSl, MP.e_pCall, MP.e_xG, MP.e_pSeq, MP.e_xSq, MP.e_pSeqR, MP.e_xSqR, MP.e_pRng, MP.e_pEnum, MP.e_xEn, MP.e_pComp, MP.e_xC, MP.e_xC2, MP.e_pUser, MP.e_xU, MP.e_xFv, MP.e_xFo, MP.e_xFe, MP.e_pSeal, MP.e_xSe, MP.e_xSeFv, MP.e_xSeFo, MP.e_pLook, MP.e_xLo, MP.e_xLoF, MP.e_pFld, MP.e_xFd, MP.e_xOb, MP.e_xLk0, MP.e_xLk1, MP.e_c0, MP.e_c1, MP.g_add, MP.g_catS, MP.g_catL, MP.g_catT, MP.g_sub, MP.g_mul, MP.g_rep, MP.g_div, MP.g_mod, MP.g_pow, MP.g_shl, MP.g_shr, MP.g_and, MP.g_orI, MP.g_neg, MP.g_lt, MP.g_le, MP.g_gt, MP.g_ge, MP.g_eqI, MP.g_eqS, MP.g_eqBo, MP.g_neI, MP.g_neS, MP.g_neBo, MP.g_is, MP.g_isNot, MP.n_none, MP.n_int, MP.n_str, MP.n_tup, MP.n_list, MP.n_bool, MP.g_max, MP.g_min, MP.g_lenL, MP.g_lenK, MP.g_lenT, MP.g_listL, MP.g_listK, MP.g_listT, MP.g_tupL, MP.g_tupT, MP.q_list, MP.q_lk, MP.q_tup, MP.g_rng1, MP.g_rng2, MP.g_enumL, MP.g_enumK, MP.g_ixL, MP.g_ixK, MP.g_ixT, MP.g_slL, MP.g_slK, MP.g_slT, MP.s_Nil, MP.s_Brk, MP.s_Cont, MP.s_Seq, MP.s_xSn, MP.s_xSr, MP.s_xSb, MP.s_xSc, MP.s_xSe, MP.s_Expr, MP.s_xEx, MP.s_SetV, MP.s_xSV, MP.s_SetO, MP.s_xSOs, MP.s_xSOf, MP.s_Ret, MP.s_xRts, MP.s_xRtf, MP.s_RetN, MP.s_RetS, MP.s_xRSo, MP.s_xRSv, MP.s_If, MP.s_xIfT, MP.s_xIfF, MP.s_Tup, MP.s_xTu, MP.s_xTb, MP.s_For, MP.s_xFor, MP.s_App, MP.s_xAp, MP.s_Thaw, MP.s_xTh, MP.s_Frz, MP.s_xFzo, MP.s_xFzv, MP.s_ExprF, MP.s_xEF, MP.s_SetF, MP.s_xSF, MP.s_RetF, MP.s_xRF, MP.s_IfF, MP.s_xIFT, MP.s_xIFF, MP.s_FldN, MP.s_xN, MP.s_xN2, MP.s_xN3, MP.s_put0, MP.s_put1, MP.s_putN, MP.f_P, MP.f_xPs, MP.f_xPf, MP.f_User, MP.f_xFU, MP.f_Meth, MP.f_xM, MP.f_xM2, MP.f_Make, MP.f_xMk, MP.f_xMkF, MP.fe_ok, MP.r_run, MP.r_un, MP.r_un0, MP.r_nx, MP.r_ret, MP.r_exc, MP.t_nx, MP.t_cont, MP.t_brk, MP.t_ret, MP.b_nm, MP.b_tp2, MP.b_tp3, MP.t_bk, MP.fe_pop, MP.s_appF, MP.s_dead, MP.g_divmod, MP.g_sorted, MP.g_allB, MP.g_anyB, MP.g_sumI, MP.g_zipT, MP.g_zipL, MP.e_pZip, MP.e_xZp, MP.g_abs, MP.g_intI, MP.g_intB, MP.g_repT, MP.e_pLRng, MP.e_xLR, MP.f_Pop, MP.f_xPop, MP.s_AppF, MP.s_xAF0, MP.s_xAF, MP.s_xAF2, MP.g_inI, MP.g_ninI, MP.g_inT, MP.g_ninT, MP.g_ninST, MP.e_c2, MP.e_c3, MP.e_c4, MP.e_c5, MP.e_pIsi, List.getElem?_cons_zero, List.getElem?_cons_succ, List.getElem?_nil, List.set_cons_zero, List.set_cons_succ, List.map_cons, List.map_nil, List.length_cons, List.length_nil, List.length_append, List.cons_append, List.nil_append, List.length_map, List.length_singleton, Nat.reduceBEq, Nat.reduceAdd, Nat.reduceSub, Nat.reduceMul, Nat.reduceEqDiff, Nat.reduceLeDiff, Nat.reduceLT, if_false, if_true, ite_true, ite_false, ↓reduceIte, Bool.not_true, Bool.not_false, Bool.false_eq_true, decide_true, decide_false, eq_self, and_true, true_and, and_self, Nat.zero_le, Nat.zero_add, Option.bind_some, Option.bind_none, Nat.lt_irrefl, Int.reduceToNat, Int.reducePow, Int.reduceNeg, Int.reduceMul, Int.reduceAdd, Int.reduceSub, Int.reduceLT, Int.reduceLE, Int.reduceEq, beq_self_eq_true, wipeE, MP.at0, MP.at1, MP.at2, MP.atLit, hs, ec, h1, hmx, et]; rfl⟩
    · exact ⟨.once t, ⟨ht1, ht⟩, by simp (disch := (first | assumption | with_reducible rfl | decide +kernel | exact Or.inl (by decide +kernel) | exact Or.inr (by decide +kernel) | omega | (simp only [List.length_cons, List.length_nil, List.length_append, List.length_map, List.length_replicate, List.length_range] <;> omega) | rfl)) only [MP.of_some, MP.map_some, MP.e_lv, MP.e_lo, MP.e_pD, MP.e_xDs, MP.e_xDf, MP.e_pC, MP.e_pYes, MP.e_pVar, MP.e_p2, MP.e_x2, MP.e_p1, MP.e_x1, MP.e_pB, MP.e_xB, MP.e_pNot, MP.e_xNot, MP.e_pAnd, MP.e_xAndT, MP.e_xAndF, MP.e_pOr, MP.e_xOrT, MP.e_xOrF, MP.e_pAndV, MP.e_xAndVT, MP.e_xAndVF, MP.e_pOrV, MP.e_xOrVT, MP.e_xOrVF, MP.e_pNotV, MP.e_xNotV, MP.e_pIf, MP.e_xIfT, MP.e_xIfF, MP.e_p3, MP.e_x3, MP.e_x3bT, MP.e_x3bF, MP.e_pNil, MP.e_pCons, MP.e_xCons, MP.e_pTup, MP.e_xTp, MP.e_pLst, MP.e_xLs, MP.e_pNo, MP.e_pSome, MP.e_xSo, MP.e_pSl, MP.e_xSl, MP.e_pCall, MP.e_xG, MP.e_pSeq, MP.e_xSq, MP.e_pSeqR, MP.e_xSqR, MP.e_pRng, MP.e_pEnum, MP.e_xEn, MP.e_pComp, MP.e_xC, MP.e_xC2, MP.e_pUser, MP.e_xU, MP.e_xFv, MP.e_xFo, MP.e_xFe, MP.e_pSeal, MP.e_xSe, MP.e_xSeFv, MP.e_xSeFo, MP.e_pLook, MP.e_xLo, MP.e_xLoF, MP.e_pFld, MP.e_xFd, MP.e_xOb, MP.e_xLk0, MP.e_xLk1, MP.e_c0, MP.e_c1, MP.g_add, MP.g_catS, MP.g_catL, MP.g_catT, MP.g_sub, MP.g_mul, MP.g_rep, MP.g_div, MP.g_mod, MP.g_pow, MP.g_shl, MP.g_shr, MP.g_and, MP.g_orI, MP.g_neg, MP.g_lt, MP.g_le, MP.g_gt, MP.g_ge, MP.g_eqI, MP.g_eqS, MP.g_eqBo, MP.g_neI, MP.g_neS, MP.g_neBo, MP.g_is, MP.g_isNot, MP.n_none, MP.n_int, MP.n_str, MP.n_tup, MP.n_list, MP.n_bool, MP.g_max, MP.g_min, MP.g_lenL, MP.g_lenK, MP.g_lenT, MP.g_listL, MP.g_listK, MP.g_listT, MP.g_tupL, MP.g_tupT, MP.q_list, MP.q_lk, MP.q_tup, MP.g_rng1, MP.g_rng2, MP.g_enumL, MP.g_enumK, MP.g_ixL, MP.g_ixK, MP.g_ixT, MP.g_slL, MP.g_slK, MP.g_slT, MP.s_Nil, MP.s_Brk, MP.s_Cont, MP.s_Seq, MP.s_xSn, MP.s_xSr, MP.s_xSb, MP.s_xSc, MP.s_xSe, MP.s_Expr, MP.s_xEx, MP.s_SetV, MP.s_xSV, MP.s_SetO, MP.s_xSOs, MP.s_xSOf, MP.s_Ret, MP.s_xRts, MP.s_xRtf, MP.s_RetN, MP.s_RetS, MP.s_xRSo, MP.s_xRSv, MP.s_If, MP.s_xIfT, MP.s_xIfF, MP.s_Tup, MP.s_xTu, MP.s_xTb, MP.s_For, MP.s_xFor, MP.s_App, MP.s_xAp, MP.s_Thaw, MP.s_xTh, MP.s_Frz, MP.s_xFzo, MP.s_xFzv, MP.s_ExprF, MP.s_xEF, MP.s_SetF, MP.s_xSF, MP.s_RetF, MP.s_xRF, MP.s_IfF, MP.s_xIFT, MP.s_xIFF, MP.s_FldN, MP.s_xN, MP.s_xN2, MP.s_xN3, MP.s_put0, MP.s_put1, MP.s_putN, MP.f_P, MP.f_xPs, MP.f_xPf, MP.f_User, MP.f_xFU, MP.f_Meth, MP.f_xM, MP.f_xM2, MP.f_Make, MP.f_xMk, MP.f_xMkF, MP.fe_ok, MP.r_run, MP.r_un, MP.r_un0, MP.r_nx, MP.r_ret, MP.r_exc, MP.t_nx, MP.t_cont, MP.t_brk, MP.t_ret, MP.b_nm, MP.b_tp2, MP.b_tp3, MP.t_bk, MP.fe_pop, MP.s_appF, MP.s_dead, MP.g_divmod, MP.g_sorted, MP.g_allB, MP.g_anyB, MP.g_sumI, MP.g_zipT, MP.g_zipL, MP.e_pZip, MP.e_xZp, MP.g_abs, MP.g_intI, MP.g_intB, MP.g_repT, MP.e_pLRng, MP.e_xLR, MP.f_Pop, MP.f_xPop, MP.s_AppF, MP.s_xAF0, MP.s_xAF, MP.s_xAF2, MP.g_inI, MP.g_ninI, MP.g_inT, MP.g_ninT, MP.g_ninST, MP.e_c2, MP.e_c3, MP.e_c4, MP.e_c5, MP.e_pIsi, List.getElem?_cons_zero, List.getElem?_cons_succ, List.getElem?_nil, List.set_cons_zero, List.set_cons_succ, List.map_cons, List.map_nil, List.length_cons, List.length_nil, List.length_append, List.cons_append, List.nil_append, List.length_map, List.length_singleton, Nat.reduceBEq, Nat.reduceAdd, Nat.reduceSub, Nat.reduceMul, Nat.reduceEqDiff, Nat.reduceLeDiff, Nat.reduceLT, if_false, if_true, ite_true, ite_false, ↓reduceIte, Bool.not_true, Bool.not_false, Bool.false_eq_true, decide_true, decide_false, eq_self, and_true, true_and, and_self, Nat.zero_le, Nat.zero_add, Option.bind_some, Option.bind_none, Nat.lt_irrefl, Int.reduceToNat, Int.reducePow, Int.reduceNeg, Int.reduceMul, Int.reduceAdd, Int.reduceSub, Int.reduceLT, Int.reduceLE, Int.reduceEq, beq_self_eq_true, wipeE, MP.at0, MP.at1, MP.at2, MP.atLit, hs, ec, h1, hmx, et]; rfl⟩
  · rcases hs with hs | hs | hs | hs | hs | hs
    · exact ⟨.letter c, hc, by simp (disch := (first | assumption | with_reducible rfl | decide +kernel | exact Or.inl (by decide +kernel) | exact Or.inr (by decide +kernel) | omega | (simp only [List.length_cons, List.length_nil, List.length_append, List.length_map, List.length_replicate, List.length_range] <;> omega) | rfl)) only [MP.of_some, MP.map_some, MP.e_lv, MP.e_lo, MP.e_pD, MP.e_xDs, MP.e_xDf, MP.e_pC, MP.e_pYes, MP.e_pVar, MP.e_p2, MP.e_x2, MP.e_p1, MP.e_x1, MP.e_pB, MP.e_xB, MP.e_pNot, MP.e_xNot, MP.e_pAnd, MP.e_xAndT, MP.e_xAndF, MP.e_pOr, MP.e_xOrT, MP.e_xOrF, MP.e_pAndV, MP.e_xAndVT, MP.e_xAndVF, MP.e_pOrV, MP.e_xOrVT, MP.e_xOrVF, MP.e_pNotV, MP.e_xNotV, MP.e_pIf, MP.e_xIfT, MP.e_xIfF, MP.e_p3, MP.e_x3, MP.e_x3bT, MP.e_x3bF, MP.e_pNil, MP.e_pCons, MP.e_xCons, MP.e_pTup, MP.e_xTp, MP.e_pLst, MP.e_xLs, MP.e_pNo, MP.e_pSome, MP.e_xSo, MP.e_pSl, MP.e_xSl, MP.e_pCall, MP.e_xG, MP.e_pSeq, MP.e_xSq, MP.e_pSeqR, MP.e_xSqR, MP.e_pRng, MP.e_pEnum, MP.e_xEn, MP.e_pComp, MP.e_xC, MP.e_xC2, MP.e_pUser, MP.e_xU, MP.e_xFv, MP.e_xFo, MP.e_xFe, MP.e_pSeal, MP.e_xSe, MP.e_xSeFv, MP.e_xSeFo, MP.e_pLook, MP.e_xLo, MP.e_xLoF, MP.e_pFld, MP.e_xFd, MP.e_xOb, MP.e_xLk0, MP.e_xLk1, MP.e_c0, MP.e_c1, MP.g_add, MP.g_catS, MP.g_catL, MP.g_catT, MP.g_sub, MP.g_mul, MP.g_rep, MP.g_div, MP.g_mod, MP.g_pow, MP.g_shl, MP.g_shr, MP.g_and, MP.g_orI, MP.g_neg, MP.g_lt, MP.g_le, MP.g_gt, MP.g_ge, MP.g_eqI, MP.g_eqS, MP.g_eqBo, MP.g_neI, MP.g_neS, MP.g_neBo, MP.g_is, MP.g_isNot, MP.n_none, MP.n_int, MP.n_str, MP.n_tup, MP.n_list, MP.n_bool, MP.g_max, MP.g_min, MP.g_lenL, MP.g_lenK, MP.g_lenT, MP.g_listL, MP.g_listK, MP.g_listT, MP.g_tupL, MP.g_tupT, MP.q_list, MP.q_lk, MP.q_tup, MP.g_rng1, MP.g_rng2, MP.g_enumL, MP.g_enumK, MP.g_ixL, MP.g_ixK, MP.g_ixT, MP.g_slL, MP.g_slK, MP.g_slT, MP.s_Nil, MP.s_Brk, MP.s_Cont, MP.s_Seq, MP.s_xSn, MP.s_xSr, MP.s_xSb, MP.s_xSc, MP.s_xSe, MP.s_Expr, MP.s_xEx, MP.s_SetV, MP.s_xSV, MP.s_SetO, MP.s_xSOs, MP.s_xSOf, MP.s_Ret, MP.s_xRts, MP.s_xRtf, MP.s_RetN, MP.s_RetS, MP.s_xRSo, MP.s_xRSv, MP.s_If, MP.s_xIfT, MP.s_xIfF, MP.s_Tup, MP.s_xTu, MP.s_xTb, MP.s_For, MP.s_xFor, MP.s_App, MP.s_xAp, MP.s_Thaw, MP.s_xTh, MP.s_Frz, MP.s_xFzo, MP.s_xFzv, MP.s_ExprF, MP.s_xEF, MP.s_SetF, MP.s_xSF, MP.s_RetF, MP.s_xRF, MP.s_IfF, MP.s_xIFT, MP.s_xIFF, MP.s_FldN, MP.s_xN, MP.s_xN2, MP.s_xN3, MP.s_put0, MP.s_put1, MP.s_putN, MP.f_P, MP.f_xPs, MP.f_xPf, MP.f_User, MP.f_xFU, MP.f_Meth, MP.f_xM, MP.f_xM2, MP.f_Make, MP.f_xMk, MP.f_xMkF, MP.fe_ok, MP.r_run, MP.r_un, MP.r_un0, MP.r_nx, MP.r_ret, MP.r_exc, MP.t_nx, MP.t_cont, MP.t_brk, MP.t_ret, MP.b_nm, MP.b_tp2, MP.b_tp3, MP.t_bk, MP.fe_pop, MP.s_appF, MP.s_dead, MP.g_divmod, MP.g_sorted, MP.g_allB, MP.g_anyB, MP.g_sumI, MP.g_zipT, MP.g_zipL, MP.e_pZip, MP.e_xZp, MP.g_abs, MP.g_intI, MP.g_intB, MP.g_repT, MP.e_pLRng, MP.e_xLR, MP.f_Pop, MP.f_xPop, MP.s_AppF, MP.s_xAF0, MP.s_xAF, MP.s_xAF2, MP.g_inI, MP.g_ninI, MP.g_inT, MP.g_ninT, MP.g_ninST, MP.e_c2, MP.e_c3, MP.e_c4, MP.e_c5, MP.e_pIsi, List.getElem?_cons_zero, List.getElem?_cons_succ, List.getElem?_nil, List.set_cons_zero, List.set_cons_succ, List.map_cons, List.map_nil, List.length_cons, List.length_nil, List.length_append, List.cons_append, List.nil_append, List.length_map, List.length_singleton, Nat.reduceBEq, Nat.reduceAdd, Nat.reduceSub, Nat.reduceMul, Nat.reduceEqDiff, Nat.reduceLeDiff, Nat.reduceLT, if_false, if_true, ite_true, ite_false, ↓reduceIte, Bool.not_true, Bool.not_false, Bool.false_eq_true, decide_true, decide_false, eq_self, and_true, true_and, and_self, Nat.zero_le, Nat.zero_add, Option.bind_some, Option.bind_none, Nat.lt_irrefl, Int.reduceToNat, Int.reducePow, Int.reduceNeg, Int.reduceMul, Int.reduceAdd, Int.reduceSub, Int.reduceLT, Int.reduceLE, Int.reduceEq, beq_self_eq_true, wipeE, MP.at0, MP.at1, MP.at2, MP.atLit, hs, ec, h1, hmx, et]; rfl⟩
    · exact ⟨.non, trivial, by simp (disch := (first | assumption | with_reducible rfl | decide +kernel | exact Or.inl (by decide +kernel) | exact Or.inr (by decide +kernel) | omega | (simp only [List.length_cons, List.length_nil, List.length_append, List.length_map, List.length_replicate, List.length_range] <;> omega) | rfl)) only [MP.of_some, MP.map_some, MP.e_lv, MP.e_lo, MP.e_pD, MP.e_xDs, MP.e_xDf, MP.e_pC, MP.e_pYes, MP.e_pVar, MP.e_p2, MP.e_x2, MP.e_p1, MP.e_x1, MP.e_pB, MP.e_xB, MP.e_pNot, MP.e_xNot, MP.e_pAnd, MP.e_xAndT, MP.e_xAndF, MP.e_pOr, MP.e_xOrT, MP.e_xOrF, MP.e_pAndV, MP.e_xAndVT, MP.e_xAndVF, MP.e_pOrV, MP.e_xOrVT, MP.e_xOrVF, MP.e_pNotV, MP.e_xNotV, MP.e_pIf, MP.e_xIfT, MP.e_xIfF, MP.e_p3, MP.e_x3, MP.e_x3bT, MP.e_x3bF, MP.e_pNil, MP.e_pCons, MP.e_xCons, MP.e_pTup, MP.e_xTp, MP.e_pLst, MP.e_xLs, MP.e_pNo, MP.e_pSome, MP.e_xSo, MP.e_pSl, MP.e_xSl, MP.e_pCall, MP.e_xG, MP.e_pSeq, MP.e_xSq, MP.e_pSeqR, MP.e_xSqR, MP.e_pRng, MP.e_pEnum, MP.e_xEn, MP.e_pComp, MP.e_xC, MP.e_xC2, MP.e_pUser, MP.e_xU, MP.e_xFv, MP.e_xFo, MP.e_xFe, MP.e_pSeal, MP.e_xSe, MP.e_xSeFv, MP.e_xSeFo, MP.e_pLook, MP.e_xLo, MP.e_xLoF, MP.e_pFld, MP.e_xFd, MP.e_xOb, MP.e_xLk0, MP.e_xLk1, MP.e_c0, MP.e_c1, MP.g_add, MP.g_catS, MP.g_catL, MP.g_catT, MP.g_sub, MP.g_mul, MP.g_rep, MP.g_div, MP.g_mod, MP.g_pow, MP.g_shl, MP.g_shr, MP.g_and, MP.g_orI, MP.g_neg, MP.g_lt, MP.g_le, MP.g_gt, MP.g_ge, MP.g_eqI, MP.g_eqS, MP.g_eqBo, MP.g_neI, MP.g_neS, MP.g_neBo, MP.g_is, MP.g_isNot, MP.n_none, MP.n_int, MP.n_str, MP.n_tup, MP.n_list, MP.n_bool, MP.g_max, MP.g_min, MP.g_lenL, MP.g_lenK, MP.g_lenT, MP.g_listL, MP.g_listK, MP.g_listT, MP.g_tupL, MP.g_tupT, MP.q_list, MP.q_lk, MP.q_tup, MP.g_rng1, MP.g_rng2, MP.g_enumL, MP.g_enumK, MP.g_ixL, MP.g_ixK, MP.g_ixT, MP.g_slL, MP.g_slK, MP.g_slT, MP.s_Nil, MP.s_Brk, MP.s_Cont, MP.s_Seq, MP.s_xSn, MP.s_xSr, MP.s_xSb, MP.s_xSc, MP.s_xSe, MP.s_Expr, MP.s_xEx, MP.s_SetV, MP.s_xSV, MP.s_SetO, MP.s_xSOs, MP.s_xSOf, MP.s_Ret, MP.s_xRts, MP.s_xRtf, MP.s_RetN, MP.s_RetS, MP.s_xRSo, MP.s_xRSv, MP.s_If, MP.s_xIfT, MP.s_xIfF, MP.s_Tup, MP.s_xTu, MP.s_xTb, MP.s_For, MP.s_xFor, MP.s_App, MP.s_xAp, MP.s_Thaw, MP.s_xTh, MP.s_Frz, MP.s_xFzo, MP.s_xFzv, MP.s_ExprF, MP.s_xEF, MP.s_SetF, MP.s_xSF, MP.s_RetF, MP.s_xRF, MP.s_IfF, MP.s_xIFT, MP.s_xIFF, MP.s_FldN, MP.s_xN, MP.s_xN2, MP.s_xN3, MP.s_put0, MP.s_put1, MP.s_putN, MP.f_P, MP.f_xPs, MP.f_xPf, MP.f_User, MP.f_xFU, MP.f_Meth, MP.f_xM, MP.f_xM2, MP.f_Make, MP.f_xMk, MP.f_xMkF, MP.fe_ok, MP.r_run, MP.r_un, MP.r_un0, MP.r_nx, MP.r_ret, MP.r_exc, MP.t_nx, MP.t_cont, MP.t_brk, MP.t_ret, MP.b_nm, MP.b_tp2, MP.b_tp3, MP.t_bk, MP.fe_pop, MP.s_appF, MP.s_dead, MP.g_divmod, MP.g_sorted, MP.g_allB, MP.g_anyB, MP.g_sumI, MP.g_zipT, MP.g_zipL, MP.e_pZip, MP.e_xZp, MP.g_abs, MP.g_intI, MP.g_intB, MP.g_repT, MP.e_pLRng, MP.e_xLR, MP.f_Pop, MP.f_xPop, MP.s_AppF, MP.s_xAF0, MP.s_xAF, MP.s_xAF2, MP.g_inI, MP.g_ninI, MP.g_inT, MP.g_ninT, MP.g_ninST, MP.e_c2, MP.e_c3, MP.e_c4, MP.e_c5, MP.e_pIsi, List.getElem?_cons_zero, List.getElem?_cons_succ, List.getElem?_nil, List.set_cons_zero, List.set_cons_succ, List.map_cons, List.map_nil, List.length_cons, List.length_nil, List.length_append, List.cons_append, List.nil_append, List.length_map, List.length_singleton, Nat.reduceBEq, Nat.reduceAdd, Nat.reduceSub, Nat.reduceMul, Nat.reduceEqDiff, Nat.reduceLeDiff, Nat.reduceLT, if_false, if_true, ite_true, ite_false, ↓reduceIte, Bool.not_true, Bool.not_false, Bool.false_eq_true, decide_true, decide_false, eq_self, and_true, true_and, and_self, Nat.zero_le, Nat.zero_add, Option.bind_some, Option.bind_none, Nat.lt_irrefl, Int.reduceToNat, Int.reducePow, Int.reduceNeg, Int.reduceMul, Int.reduceAdd, Int.reduceSub, Int.reduceLT, Int.reduceLE, Int.reduceEq, beq_self_eq_true, wipeE, MP.at0, MP.at1, MP.at2, MP.atLit, hs, ec, h1, hmx, et]; rfl⟩
    · by_cases h2 : ((i : Int) = 0)
      · have h2' : ((i : Int) = 0) = True := eq_true h2
        exact ⟨.non, trivial, by simp (disch := (first | assumption | with_reducible rfl | decide +kernel | exact Or.inl (by decide +kernel) | exact Or.inr (by decide +kernel) | omega | (simp only [List.length_cons, List.length_nil, List.length_append, List.length_map, List.length_replicate, List.length_range] <;> omega) | rfl)) only [MP.of_some, MP.map_some, MP.e_lv, MP.e_lo, MP.e_pD, MP.e_xDs, MP.e_xDf, MP.e_pC, MP.e_pYes, MP.e_pVar, MP.e_p2, MP.e_x2, MP.e_p1, MP.e_x1, MP.e_pB, MP.e_xB, MP.e_pNot, MP.e_xNot, MP.e_pAnd, MP.e_xAndT, MP.e_xAndF, MP.e_pOr, MP.e_xOrT, MP.e_xOrF, MP.e_pAndV, MP.e_xAndVT, MP.e_xAndVF, MP.e_pOrV, MP.e_xOrVT, MP.e_xOrVF, MP.e_pNotV, MP.e_xNotV, MP.e_pIf, MP.e_xIfT, MP.e_xIfF, MP.e_p3, MP.e_x3, MP.e_x3bT, MP.e_x3bF, MP.e_pNil, MP.e_pCons, MP.e_xCons, MP.e_pTup, MP.e_xTp, MP.e_pLst, MP.e_xLs, MP.e_pNo, MP.e_pSome, MP.e_xSo, MP.e_pSl, MP.e_xSl, MP.e_pCall, MP.e_xG, MP.e_pSeq, MP.e_xSq, MP.e_pSeqR, MP.e_xSqR, MP.e_pRng, MP.e_pEnum, MP.e_xEn, MP.e_pComp, MP.e_xC, MP.e_xC2, MP.e_pUser, MP.e_xU, MP.e_xFv, MP.e_xFo, MP.e_xFe, MP.e_pSeal, MP.e_xSe, MP.e_xSeFv, MP.e_xSeFo, MP.e_pLook, MP.e_xLo, MP.e_xLoF, MP.e_pFld, MP.e_xFd, MP.e_xOb, MP.e_xLk0, MP.e_xLk1, MP.e_c0, MP.e_c1, MP.g_add, MP.g_catS, MP.g_catL, MP.g_catT, MP.g_sub, MP.g_mul, MP.g_rep, MP.g_div, MP.g_mod, MP.g_pow, MP.g_shl, MP.g_shr, MP.g_and, MP.g_orI, MP.g_neg, MP.g_lt, MP.g_le, MP.g_gt, MP.g_ge, MP.g_eqI, MP.g_eqS, MP.g_eqBo, MP.g_neI, MP.g_neS, MP.g_neBo, MP.g_is, MP.g_isNot, MP.n_none, MP.n_int, MP.n_str, MP.n_tup, MP.n_list, MP.n_bool, MP.g_max, MP.g_min, MP.g_lenL, MP.g_lenK, MP.g_lenT, MP.g_listL, MP.g_listK, MP.g_listT, MP.g_tupL, MP.g_tupT, MP.q_list, MP.q_lk, MP.q_tup, MP.g_rng1, MP.g_rng2, MP.g_enumL, MP.g_enumK, MP.g_ixL, MP.g_ixK, MP.g_ixT, MP.g_slL, MP.g_slK, MP.g_slT, MP.s_Nil, MP.s_Brk, MP.s_Cont, MP.s_Seq, MP.s_xSn, MP.s_xSr, MP.s_xSb, MP.s_xSc, MP.s_xSe, MP.s_Expr, MP.s_xEx, MP.s_SetV, MP.s_xSV, MP.s_SetO, MP.s_xSOs, MP.s_xSOf, MP.s_Ret, MP.s_xRts, MP.s_xRtf, MP.s_RetN, MP.s_RetS, MP.s_xRSo, MP.s_xRSv, MP.s_If, MP.s_xIfT, MP.s_xIfF, MP.s_Tup, MP.s_xTu, MP.s_xTb, MP.s_For, MP.s_xFor, MP.s_App, MP.s_xAp, MP.s_Thaw, MP.s_xTh, MP.s_Frz, MP.s_xFzo, MP.s_xFzv, MP.s_ExprF, MP.s_xEF, MP.s_SetF, MP.s_xSF, MP.s_RetF, MP.s_xRF, MP.s_IfF, MP.s_xIFT, MP.s_xIFF, MP.s_FldN, MP.s_xN, MP.s_xN2, MP.s_xN3, MP.s_put0, MP.s_put1, MP.s_putN, MP.f_P, MP.f_xPs, MP.f_xPf, MP.f_User, MP.f_xFU, MP.f_Meth, MP.f_xM, MP.f_xM2, MP.f_Make, MP.f_xMk, MP.f_xMkF, MP.fe_ok, MP.r_run, MP.r_un, MP.r_un0, MP.r_nx, MP.r_ret, MP.r_exc, MP.t_nx, MP.t_cont, MP.t_brk, MP.t_ret, MP.b_nm, MP.b_tp2, MP.b_tp3, MP.t_bk, MP.fe_pop, MP.s_appF, MP.s_dead, MP.g_divmod, MP.g_sorted, MP.g_allB, MP.g_anyB, MP.g_sumI, MP.g_zipT, MP.g_zipL, MP.e_pZip, MP.e_xZp, MP.g_abs, MP.g_intI, MP.g_intB, MP.g_repT, MP.e_pLRng, MP.e_xLR, MP.f_Pop, MP.f_xPop, MP.s_AppF, MP.s_xAF0, MP.s_xAF, MP.s_xAF2, MP.g_inI, MP.g_ninI, MP.g_inT, MP.g_ninT, MP.g_ninST, MP.e_c2, MP.e_c3, MP.e_c4, MP.e_c5, MP.e_pIsi, List.getElem?_cons_zero, List.getElem?_cons_succ, List.getElem?_nil, List.set_cons_zero, List.set_cons_succ, List.map_cons, List.map_nil, List.length_cons, List.length_nil, List.length_append, List.cons_append, List.nil_append, List.length_map, List.length_singleton, Nat.reduceBEq, Nat.reduceAdd, Nat.reduceSub, Nat.reduceMul, Nat.reduceEqDiff, Nat.reduceLeDiff, Nat.reduceLT, if_false, if_true, ite_true, ite_false, ↓reduceIte, Bool.not_true, Bool.not_false, Bool.false_eq_true, decide_true, decide_false, eq_self, and_true, true_and, and_self, Nat.zero_le, Nat.zero_add, Option.bind_some, Option.bind_none, Nat.lt_irrefl, Int.reduceToNat, Int.reducePow, Int.reduceNeg, Int.reduceMul, Int.reduceAdd, Int.reduceSub, Int.reduceLT, Int.reduceLE, Int.reduceEq, beq_self_eq_true, wipeE, MP.at0, MP.at1, MP.at2, MP.atLit, hs, ec, h1, hmx, et, h2']; rfl⟩
      · exact ⟨.below, by show 0 < i; omega, by simp (disch := (first | assumption | with_reducible rfl | decide +kernel | exact Or.inl (by decide +kernel) | exact Or.inr (by decide +kernel) | omega | (simp only [List.length_cons, List.length_nil, List.length_append, List.length_map, List.length_replicate, List.length_range] <;> omega) | rfl)) only [MP.of_some, MP.map_some, MP.e_lv, MP.e_lo, MP.e_pD, MP.e_xDs, MP.e_xDf, MP.e_pC, MP.e_pYes, MP.e_pVar, MP.e_p2, MP.e_x2, MP.e_p1, MP.e_x1, MP.e_pB, MP.e_xB, MP.e_pNot, MP.e_xNot, MP.e_pAnd, MP.e_xAndT, MP.e_xAndF, MP.e_pOr, MP.e_xOrT, MP.e_xOrF, MP.e_pAndV, MP.e_xAndVT, MP.e_xAndVF, MP.e_pOrV, MP.e_xOrVT, MP.e_xOrVF, MP.e_pNotV, MP.e_xNotV, MP.e_pIf, MP.e_xIfT, MP.e_xIfF, MP.e_p3, MP.e_x3, MP.e_x3bT, MP.e_x3bF, MP.e_pNil, MP.e_pCons, MP.e_xCons, MP.e_pTup, MP.e_xTp, MP.e_pLst, MP.e_xLs, MP.e_pNo, MP.e_pSome, MP.e_xSo, MP.e_pSl, MP.e_xSl, MP.e_pCall, MP.e_xG, MP.e_pSeq, MP.e_xSq, MP.e_pSeqR, MP.e_xSqR, MP.e_pRng, MP.e_pEnum, MP.e_xEn, MP.e_pComp, MP.e_xC, MP.e_xC2, MP.e_pUser, MP.e_xU, MP.e_xFv, MP.e_xFo, MP.e_xFe, MP.e_pSeal, MP.e_xSe, MP.e_xSeFv, MP.e_xSeFo, MP.e_pLook, MP.e_xLo, MP.e_xLoF, MP.e_pFld, MP.e_xFd, MP.e_xOb, MP.e_xLk0, MP.e_xLk1, MP.e_c0, MP.e_c1, MP.g_add, MP.g_catS, MP.g_catL, MP.g_catT, MP.g_sub, MP.g_mul, MP.g_rep, MP.g_div, MP.g_mod, MP.g_pow, MP.g_shl, MP.g_shr, MP.g_and, MP.g_orI, MP.g_neg, MP.g_lt, MP.g_le, MP.g_gt, MP.g_ge, MP.g_eqI, MP.g_eqS, MP.g_eqBo, MP.g_neI, MP.g_neS, MP.g_neBo, MP.g_is, MP.g_isNot, MP.n_none, MP.n_int, MP.n_str, MP.n_tup, MP.n_list, MP.n_bool, MP.g_max, MP.g_min, MP.g_lenL, MP.g_lenK, MP.g_lenT, MP.g_listL, MP.g_listK, MP.g_listT, MP.g_tupL, MP.g_tupT, MP.q_list, MP.q_lk, MP.q_tup, MP.g_rng1, MP.g_rng2, MP.g_enumL, MP.g_enumK, MP.g_ixL, MP.g_ixK, MP.g_ixT, MP.g_slL, MP.g_slK, MP.g_slT, MP.s_Nil, MP.s_Brk, MP.s_Cont, MP.s_Seq, MP.s_xSn, MP.s_xSr, MP.s_xSb, MP.s_xSc, MP.s_xSe, MP.s_Expr, MP.s_xEx, MP.s_SetV, MP.s_xSV, MP.s_SetO, MP.s_xSOs, MP.s_xSOf, MP.s_Ret, MP.s_xRts, MP.s_xRtf, MP.s_RetN, MP.s_RetS, MP.s_xRSo, MP.s_xRSv, MP.s_If, MP.s_xIfT, MP.s_xIfF, MP.s_Tup, MP.s_xTu, MP.s_xTb, MP.s_For, MP.s_xFor, MP.s_App, MP.s_xAp, MP.s_Thaw, MP.s_xTh, MP.s_Frz, MP.s_xFzo, MP.s_xFzv, MP.s_ExprF, MP.s_xEF, MP.s_SetF, MP.s_xSF, MP.s_RetF, MP.s_xRF, MP.s_IfF, MP.s_xIFT, MP.s_xIFF, MP.s_FldN, MP.s_xN, MP.s_xN2, MP.s_xN3, MP.s_put0, MP.s_put1, MP.s_putN, MP.f_P, MP.f_xPs, MP.f_xPf, MP.f_User, MP.f_xFU, MP.f_Meth, MP.f_xM, MP.f_xM2, MP.f_Make, MP.f_xMk, MP.f_xMkF, MP.fe_ok, MP.r_run, MP.r_un, MP.r_un0, MP.r_nx, MP.r_ret, MP.r_exc, MP.t_nx, MP.t_cont, MP.t_brk, MP.t_ret, MP.b_nm, MP.b_tp2, MP.b_tp3, MP.t_bk, MP.fe_pop, MP.s_appF, MP.s_dead, MP.g_divmod, MP.g_sorted, MP.g_allB, MP.g_anyB, MP.g_sumI, MP.g_zipT, MP.g_zipL, MP.e_pZip, MP.e_xZp, MP.g_abs, MP.g_intI, MP.g_intB, MP.g_repT, MP.e_pLRng, MP.e_xLR, MP.f_Pop, MP.f_xPop, MP.s_AppF, MP.s_xAF0, MP.s_xAF, MP.s_xAF2, MP.g_inI, MP.g_ninI, MP.g_inT, MP.g_ninT, MP.g_ninST, MP.e_c2, MP.e_c3, MP.e_c4, MP.e_c5, MP.e_pIsi, List.getElem?_cons_zero, List.getElem?_cons_succ, List.getElem?_nil, List.set_cons_zero, List.set_cons_succ, List.map_cons, List.map_nil, List.length_cons, List.length_nil, List.length_append, List.cons_append, List.nil_append, List.length_map, List.length_singleton, Nat.reduceBEq, Nat.reduceAdd, Nat.reduceSub, Nat.reduceMul, Nat.reduceEqDiff, Nat.reduceLeDiff, Nat.reduceLT, if_false, if_true, ite_true, ite_false, ↓reduceIte, Bool.not_true, Bool.not_false, Bool.false_eq_true, decide_true, decide_false, eq_self, and_true, true_and, and_self, Nat.zero_le, Nat.zero_add, Option.bind_some, Option.bind_none, Nat.lt_irrefl, Int.reduceToNat, Int.reducePow, Int.reduceNeg, Int.reduceMul, Int.reduceAdd, Int.reduceSub, Int.reduceLT, Int.reduceLE, Int.reduceEq, beq_self_eq_true, wipeE, MP.at0, MP.at1, MP.at2, MP.atLit, hs, ec, h1, hmx, et, h2]; rfl⟩
    · exact ⟨.letter c, hc, by simp (disch := (first | assumption | with_reducible rfl | decide +kernel | exact Or.inl (by decide +kernel) | exact Or.inr (by decide +kernel) | omega | (simp only [List.length_cons, List.length_nil, List.length_append, List.length_map, List.length_replicate, List.length_range] <;> omega) | rfl)) only [MP.of_some, MP.map_some, MP.e_lv, MP.e_lo, MP.e_pD, MP.e_xDs, MP.e_xDf, MP.e_pC, MP.e_pYes, MP.e_pVar, MP.e_p2, MP.e_x2, MP.e_p1, MP.e_x1, MP.e_pB, MP.e_xB, MP.e_pNot, MP.e_xNot, MP.e_pAnd, MP.e_xAndT, MP.e_xAndF, MP.e_pOr, MP.e_xOrT, MP.e_xOrF, MP.e_pAndV, MP.e_xAndVT, MP.e_xAndVF, MP.e_pOrV, MP.e_xOrVT, MP.e_xOrVF, MP.e_pNotV, MP.e_xNotV, MP.e_pIf, MP.e_xIfT, MP.e_xIfF, MP.e_p3, MP.e_x3, MP.e_x3bT, MP.e_x3bF, MP.e_pNil, MP.e_pCons, MP.e_xCons, MP.e_pTup, MP.e_xTp, MP.e_pLst, MP.e_xLs, MP.e_pNo, MP.e_pSome, MP.e_xSo, MP.e_pSl, MP.e_xSl, MP.e_pCall, MP.e_xG, MP.e_pSeq, MP.e_xSq, MP.e_pSeqR, MP.e_xSqR, MP.e_pRng, MP.e_pEnum, MP.e_xEn, MP.e_pComp, MP.e_xC, MP.e_xC2, MP.e_pUser, MP.e_xU, MP.e_xFv, MP.e_xFo, MP.e_xFe, MP.e_pSeal, MP.e_xSe, MP.e_xSeFv, MP.e_xSeFo, MP.e_pLook, MP.e_xLo, MP.e_xLoF, MP.e_pFld, MP.e_xFd, MP.e_xOb, MP.e_xLk0, MP.e_xLk1, MP.e_c0, MP.e_c1, MP.g_add, MP.g_catS, MP.g_catL, MP.g_catT, MP.g_sub, MP.g_mul, MP.g_rep, MP.g_div, MP.g_mod, MP.g_pow, MP.g_shl, MP.g_shr, MP.g_and, MP.g_orI, MP.g_neg, MP.g_lt, MP.g_le, MP.g_gt, MP.g_ge, MP.g_eqI, MP.g_eqS, MP.g_eqBo, MP.g_neI, MP.g_neS, MP.g_neBo, MP.g_is, MP.g_isNot, MP.n_none, MP.n_int, MP.n_str, MP.n_tup, MP.n_list, MP.n_bool, MP.g_max, MP.g_min, MP.g_lenL, MP.g_lenK, MP.g_lenT, MP.g_listL, MP.g_listK, MP.g_listT, MP.g_tupL, MP.g_tupT, MP.q_list, MP.q_lk, MP.q_tup, MP.g_rng1, MP.g_rng2, MP.g_enumL, MP.g_enumK, MP.g_ixL, MP.g_ixK, MP.g_ixT, MP.g_slL, MP.g_slK, MP.g_slT, MP.s_Nil, MP.s_Brk, MP.s_Cont, MP.s_Seq, MP.s_xSn, MP.s_xSr, MP.s_xSb, MP.s_xSc, MP.s_xSe, MP.s_Expr, MP.s_xEx, MP.s_SetV, MP.s_xSV, MP.s_SetO, MP.s_xSOs, MP.s_xSOf, MP.s_Ret, MP.s_xRts, MP.s_xRtf, MP.s_RetN, MP.s_RetS, MP.s_xRSo, MP.s_xRSv, MP.s_If, MP.s_xIfT, MP.s_xIfF, MP.s_Tup, MP.s_xTu, MP.s_xTb, MP.s_For, MP.s_xFor, MP.s_App, MP.s_xAp, MP.s_Thaw, MP.s_xTh, MP.s_Frz, MP.s_xFzo, MP.s_xFzv, MP.s_ExprF, MP.s_xEF, MP.s_SetF, MP.s_xSF, MP.s_RetF, MP.s_xRF, MP.s_IfF, MP.s_xIFT, MP.s_xIFF, MP.s_FldN, MP.s_xN, MP.s_xN2, MP.s_xN3, MP.s_put0, MP.s_put1, MP.s_putN, MP.f_P, MP.f_xPs, MP.f_xPf, MP.f_User, MP.f_xFU, MP.f_Meth, MP.f_xM, MP.f_xM2, MP.f_Make, MP.f_xMk, MP.f_xMkF, MP.fe_ok, MP.r_run, MP.r_un, MP.r_un0, MP.r_nx, MP.r_ret, MP.r_exc, MP.t_nx, MP.t_cont, MP.t_brk, MP.t_ret, MP.b_nm, MP.b_tp2, MP.b_tp3, MP.t_bk, MP.fe_pop, MP.s_appF, MP.s_dead, MP.g_divmod, MP.g_sorted, MP.g_allB, MP.g_anyB, MP.g_sumI, MP.g_zipT, MP.g_zipL, MP.e_pZip, MP.e_xZp, MP.g_abs, MP.g_intI, MP.g_intB, MP.g_repT, MP.e_pLRng, MP.e_xLR, MP.f_Pop, MP.f_xPop, MP.s_AppF, MP.s_xAF0, MP.s_xAF, MP.s_xAF2, MP.g_inI, MP.g_ninI, MP.g_inT, MP.g_ninT, MP.g_ninST, MP.e_c2, MP.e_c3, MP.e_c4, MP.e_c5, MP.e_pIsi, List.getElem?_cons_zero, List.getElem?_cons_succ, List.getElem?_nil, List.set_cons_zero, List.set_cons_succ, List.map_cons, List.map_nil, List.length_cons, List.length_nil, List.length_append, List.cons_append, List.nil_append, List.length_map, List.length_singleton, Nat.reduceBEq, Nat.reduceAdd, Nat.reduceSub, Nat.reduceMul, Nat.reduceEqDiff, Nat.reduceLeDiff, Nat.reduceLT, if_false, if_true, ite_true, ite_false, ↓reduceIte, Bool.not_true, Bool.not_false, Bool.false_eq_true, decide_true, decide_false, eq_self, and_true, true_and, and_self, Nat.zero_le, Nat.zero_add, Option.bind_some, Option.bind_none, Nat.lt_irrefl, Int.reduceToNat, Int.reducePow, Int.reduceNeg, Int.reduceMul, Int.reduceAdd, Int.reduceSub, Int.reduceLT, Int.reduceLE, Int.reduceEq, beq_self_eq_true, wipeE, MP.at0, MP.at1, MP.at2, MP.atLit, hs, ec, h1, hmx, et]; rfl⟩
    · exact ⟨.letter c, hc, by simp (disch := (first | assumption | with_reducible rfl | decide +kernel | exact Or.inl (by decide +kernel) | exact Or.inr (by decide +kernel) | omega | (simp only [List.length_cons, List.length_nil, List.length_append, List.length_map, List.length_replicate, List.length_range] <;> omega) | rfl)) only [MP.of_some, MP.map_some, MP.e_lv, MP.e_lo, MP.e_pD, MP.e_xDs, MP.e_xDf, MP.e_pC, MP.e_pYes, MP.e_pVar, MP.e_p2, MP.e_x2, MP.e_p1, MP.e_x1, MP.e_pB, MP.e_xB, MP.e_pNot, MP.e_xNot, MP.e_pAnd, MP.e_xAndT, MP.e_xAndF, MP.e_pOr, MP.e_xOrT, MP.e_xOrF, MP.e_pAndV, MP.e_xAndVT, MP.e_xAndVF, MP.e_pOrV, MP.e_xOrVT, MP.e_xOrVF, MP.e_pNotV, MP.e_xNotV, MP.e_pIf, MP.e_xIfT, MP.e_xIfF, MP.e_p3, MP.e_x3, MP.e_x3bT, MP.e_x3bF, MP.e_pNil, MP.e_pCons, MP.e_xCons, MP.e_pTup, MP.e_xTp, MP.e_pLst, MP.e_xLs, MP.e_pNo, MP.e_pSome, MP.e_xSo, MP.e_pSl, MP.e_xSl, MP.e_pCall, MP.e_xG, MP.e_pSeq, MP.e_xSq, MP.e_pSeqR, MP.e_xSqR, MP.e_pRng, MP.e_pEnum, MP.e_xEn, MP.e_pComp, MP.e_xC, MP.e_xC2, MP.e_pUser, MP.e_xU, MP.e_xFv, MP.e_xFo, MP.e_xFe, MP.e_pSeal, MP.e_xSe, MP.e_xSeFv, MP.e_xSeFo, MP.e_pLook, MP.e_xLo, MP.e_xLoF, MP.e_pFld, MP.e_xFd, MP.e_xOb, MP.e_xLk0, MP.e_xLk1, MP.e_c0, MP.e_c1, MP.g_add, MP.g_catS, MP.g_catL, MP.g_catT, MP.g_sub, MP.g_mul, MP.g_rep, MP.g_div, MP.g_mod, MP.g_pow, MP.g_shl, MP.g_shr, MP.g_and, MP.g_orI, MP.g_neg, MP.g_lt, MP.g_le, MP.g_gt, MP.g_ge, MP.g_eqI, MP.g_eqS, MP.g_eqBo, MP.g_neI, MP.g_neS, MP.g_neBo, MP.g_is, MP.g_isNot, MP.n_none, MP.n_int, MP.n_str, MP.n_tup, MP.n_list, MP.n_bool, MP.g_max, MP.g_min, MP.g_lenL, MP.g_lenK, MP.g_lenT, MP.g_listL, MP.g_listK, MP.g_listT, MP.g_tupL, MP.g_tupT, MP.q_list, MP.q_lk, MP.q_tup, MP.g_rng1, MP.g_rng2, MP.g_enumL, MP.g_enumK, MP.g_ixL, MP.g_ixK, MP.g_ixT, MP.g_slL, MP.g_slK, MP.g_slT, MP.s_Nil, MP.s_Brk, MP.s_Cont, MP.s_Seq, MP.s_xSn, MP.s_xSr, MP.s_xSb, MP.s_xSc, MP.s_xSe, MP.s_Expr, MP.s_xEx, MP.s_SetV, MP.s_xSV, MP.s_SetO, MP.s_xSOs, MP.s_xSOf, MP.s_Ret, MP.s_xRts, MP.s_xRtf, MP.s_RetN, MP.s_RetS, MP.s_xRSo, MP.s_xRSv, MP.s_If, MP.s_xIfT, MP.s_xIfF, MP.s_Tup, MP.s_xTu, MP.s_xTb, MP.s_For, MP.s_xFor, MP.s_App, MP.s_xAp, MP.s_Thaw, MP.s_xTh, MP.s_Frz, MP.s_xFzo, MP.s_xFzv, MP.s_ExprF, MP.s_xEF, MP.s_SetF, MP.s_xSF, MP.s_RetF, MP.s_xRF, MP.s_IfF, MP.s_xIFT, MP.s_xIFF, MP.s_FldN, MP.s_xN, MP.s_xN2, MP.s_xN3, MP.s_put0, MP.s_put1, MP.s_putN, MP.f_P, MP.f_xPs, MP.f_xPf, MP.f_User, MP.f_xFU, MP.f_Meth, MP.f_xM, MP.f_xM2, MP.f_Make, MP.f_xMk, MP.f_xMkF, MP.fe_ok, MP.r_run, MP.r_un, MP.r_un0, MP.r_nx, MP.r_ret, MP.r_exc, MP.t_nx, MP.t_cont, MP.t_brk, MP.t_ret, MP.b_nm, MP.b_tp2, MP.b_tp3, MP.t_bk, MP.fe_pop, MP.s_appF, MP.s_dead, MP.g_divmod, MP.g_sorted, MP.g_allB, MP.g_anyB, MP.g_sumI, MP.g_zipT, MP.g_zipL, MP.e_pZip, MP.e_xZp, MP.g_abs, MP.g_intI, MP.g_intB, MP.g_repT, MP.e_pLRng, MP.e_xLR, MP.f_Pop, MP.f_xPop, MP.s_AppF, MP.s_xAF0, MP.s_xAF, MP.s_xAF2, MP.g_inI, MP.g_ninI, MP.g_inT, MP.g_ninT, MP.g_ninST, MP.e_c2, MP.e_c3, MP.e_c4, MP.e_c5, MP.e_pIsi, List.getElem?_cons_zero, List.getElem?_cons_succ, List.getElem?_nil, List.set_cons_zero, List.set_cons_succ, List.map_cons, List.map_nil, List.length_cons, List.length_nil, List.length_append, List.cons_append, List.nil_append, List.length_map, List.length_singleton, Nat.reduceBEq, Nat.reduceAdd, Nat.reduceSub, Nat.reduceMul, Nat.reduceEqDiff, Nat.reduceLeDiff, Nat.reduceLT, if_false, if_true, ite_true, ite_false, ↓reduceIte, Bool.not_true, Bool.not_false, Bool.false_eq_true, decide_true, decide_false, eq_self, and_true, true_and, and_self, Nat.zero_le, Nat.zero_add, Option.bind_some, Option.bind_none, Nat.lt_irrefl, Int.reduceToNat, Int.reducePow, Int.reduceNeg, Int.reduceMul, Int.reduceAdd, Int.reduceSub, Int.reduceLT, Int.reduceLE, Int.reduceEq, beq_self_eq_true, wipeE, MP.at0, MP.at1, MP.at2, MP.atLit, hs, ec, h1, hmx, et]; rfl⟩
    · exact ⟨.letter c, hc, by simp (disch := (first | assumption | with_reducible rfl | decide +kernel | exact Or.inl (by decide +kernel) | exact Or.inr (by decide +kernel) | omega | (simp only [List.length_cons, List.length_nil, List.length_append, List.length_map, List.length_replicate, List.length_range] <;> omega) | rfl)) only [MP.of_some, MP.map_some, MP.e_lv, MP.e_lo, MP.e_pD, MP.e_xDs, MP.e_xDf, MP.e_pC, MP.e_pYes, MP.e_pVar, MP.e_p2, MP.e_x2, MP.e_p1, MP.e_x1, MP.e_pB, MP.e_xB, MP.e_pNot, MP.e_xNot, MP.e_pAnd, MP.e_xAndT, MP.e_xAndF, MP.e_pOr, MP.e_xOrT, MP.e_xOrF, MP.e_pAndV, MP.e_xAndVT, MP.e_xAndVF, MP.e_pOrV, MP.e_xOrVT, MP.e_xOrVF, MP.e_pNotV, MP.e_xNotV, MP.e_pIf, MP.e_xIfT, MP.e_xIfF, MP.e_p3, MP.e_x3, MP.e_x3bT, MP.e_x3bF, MP.e_pNil, MP.e_pCons, MP.e_xCons, MP.e_pTup, MP.e_xTp, MP.e_pLst, MP.e_xLs, MP.e_pNo, MP.e_pSome, MP.e_xSo, MP.e_pSl, MP.e_xSl, MP.e_pCall, MP.e_xG, MP.e_pSeq, MP.e_xSq, MP.e_pSeqR, MP.e_xSqR, MP.e_pRng, MP.e_pEnum, MP.e_xEn, MP.e_pComp, MP.e_xC, MP.e_xC2, MP.e_pUser, MP.e_xU, MP.e_xFv, MP.e_xFo, MP.e_xFe, MP.e_pSeal, MP.e_xSe, MP.e_xSeFv, MP.e_xSeFo, MP.e_pLook, MP.e_xLo, MP.e_xLoF, MP.e_pFld, MP.e_xFd, MP.e_xOb, MP.e_xLk0, MP.e_xLk1, MP.e_c0, MP.e_c1, MP.g_add, MP.g_catS, MP.g_catL, MP.g_catT, MP.g_sub, MP.g_mul, MP.g_rep, MP.g_div, MP.g_mod, MP.g_pow, MP.g_shl, MP.g_shr, MP.g_and, MP.g_orI, MP.g_neg, MP.g_lt, MP.g_le, MP.g_gt, MP.g_ge, MP.g_eqI, MP.g_eqS, MP.g_eqBo, MP.g_neI, MP.g_neS, MP.g_neBo, MP.g_is, MP.g_isNot, MP.n_none, MP.n_int, MP.n_str, MP.n_tup, MP.n_list, MP.n_bool, MP.g_max, MP.g_min, MP.g_lenL, MP.g_lenK, MP.g_lenT, MP.g_listL, MP.g_listK, MP.g_listT, MP.g_tupL, MP.g_tupT, MP.q_list, MP.q_lk, MP.q_tup, MP.g_rng1, MP.g_rng2, MP.g_enumL, MP.g_enumK, MP.g_ixL, MP.g_ixK, MP.g_ixT, MP.g_slL, MP.g_slK, MP.g_slT, MP.s_Nil, MP.s_Brk, MP.s_Cont, MP.s_Seq, MP.s_xSn, MP.s_xSr, MP.s_xSb, MP.s_xSc, MP.s_xSe, MP.s_Expr, MP.s_xEx, MP.s_SetV, MP.s_xSV, MP.s_SetO, MP.s_xSOs, MP.s_xSOf, MP.s_Ret, MP.s_xRts, MP.s_xRtf, MP.s_RetN, MP.s_RetS, MP.s_xRSo, MP.s_xRSv, MP.s_If, MP.s_xIfT, MP.s_xIfF, MP.s_Tup, MP.s_xTu, MP.s_xTb, MP.s_For, MP.s_xFor, MP.s_App, MP.s_xAp, MP.s_Thaw, MP.s_xTh, MP.s_Frz, MP.s_xFzo, MP.s_xFzv, MP.s_ExprF, MP.s_xEF, MP.s_SetF, MP.s_xSF, MP.s_RetF, MP.s_xRF, MP.s_IfF, MP.s_xIFT, MP.s_xIFF, MP.s_FldN, MP.s_xN, MP.s_xN2, MP.s_xN3, MP.s_put0, MP.s_put1, MP.s_putN, MP.f_P, MP.f_xPs, MP.f_xPf, MP.f_User, MP.f_xFU, MP.f_Meth, MP.f_xM, MP.f_xM2, MP.f_Make, MP.f_xMk, MP.f_xMkF, MP.fe_ok, MP.r_run, MP.r_un, MP.r_un0, MP.r_nx, MP.r_ret, MP.r_exc, MP.t_nx, MP.t_cont, MP.t_brk, MP.t_ret, MP.b_nm, MP.b_tp2, MP.b_tp3, MP.t_bk, MP.fe_pop, MP.s_appF, MP.s_dead, MP.g_divmod, MP.g_sorted, MP.g_allB, MP.g_anyB, MP.g_sumI, MP.g_zipT, MP.g_zipL, MP.e_pZip, MP.e_xZp, MP.g_abs, MP.g_intI, MP.g_intB, MP.g_repT, MP.e_pLRng, MP.e_xLR, MP.f_Pop, MP.f_xPop, MP.s_AppF, MP.s_xAF0, MP.s_xAF, MP.s_xAF2, MP.g_inI, MP.g_ninI, MP.g_inT, MP.g_ninT, MP.g_ninST, MP.e_c2, MP.e_c3, MP.e_c4, MP.e_c5, MP.e_pIsi, List.getElem?_cons_zero, List.getElem?_cons_succ, List.getElem?_nil, List.set_cons_zero, List.set_cons_succ, List.map_cons, List.map_nil, List.length_cons, List.length_nil, List.length_append, List.cons_append, List.nil_append, List.length_map, List.length_singleton, Nat.reduceBEq, Nat.reduceAdd, Nat.reduceSub, Nat.reduceMul, Nat.reduceEqDiff, Nat.reduceLeDiff, Nat.reduceLT, if_false, if_true, ite_true, ite_false, ↓reduceIte, Bool.not_true, Bool.not_false, Bool.false_eq_true, decide_true, decide_false, eq_self, and_true, true_and, and_self, Nat.zero_le, Nat.zero_add, Option.bind_some, Option.bind_none, Nat.lt_irrefl, Int.reduceToNat, Int.reducePow, Int.reduceNeg, Int.reduceMul, Int.reduceAdd, Int.reduceSub, Int.reduceLT, Int.reduceLE, Int.reduceEq, beq_self_eq_true, wipeE, MP.at0, MP.at1, MP.at2, MP.atLit, hs, ec, h1, hmx, et]; rfl⟩
/-! ## alike -/
theorem m_whole (i : Int) : sem_l_whole [.int i] [] = .ok (.v (.bool true)) [] := by
  unfold sem_l_whole b_l_whole
  simp (disch := (first | assumption | with_reducible rfl | decide +kernel | exact Or.inl (by decide +kernel) | exact Or.inr (by decide +kernel) | omega | (simp only [List.length_cons, List.length_nil, List.length_append, List.length_map, List.length_replicate, List.length_range] <;> omega) | rfl)) only [MP.of_some, MP.map_some, MP.e_lv, MP.e_lo, MP.e_pD, MP.e_xDs, MP.e_xDf, MP.e_pC, MP.e_pYes, MP.e_pVar, MP.e_p2, MP.e_x2, MP.e_p1, MP.e_x1, MP.e_pB, MP.e_xB, MP.e_pNot, MP.e_xNot, MP.e_pAnd, MP.e_xAndT, MP.e_xAndF, MP.e_pOr, MP.e_xOrT, MP.e_xOrF, MP.e_pAndV, MP.e_xAndVT, MP.e_xAndVF, MP.e_pOrV, MP.e_xOrVT, MP.e_xOrVF, MP.e_pNotV, MP.e_xNotV, MP.e_pIf, MP.e_xIfT, MP.e_xIfF, MP.e_p3, MP.e_x3, MP.e_x3bT, MP.e_x3bF, MP.e_pNil, MP.e_pCons, MP.e_xCons, MP.e_pTup, MP.e_xTp, MP.e_pLst, MP.e_xLs, MP.e_pNo, MP.e_pSome, MP.e_xSo, MP.e_pSl, MP.e_xSl, MP.e_pCall, MP.e_xG, MP.e_pSeq, MP.e_xSq, MP.e_pSeqR, MP.e_xSqR, MP.e_pRng, MP.e_pEnum, MP.e_xEn, MP.e_pComp, MP.e_xC, MP.e_xC2, MP.e_pUser, MP.e_xU, MP.e_xFv, MP.e_xFo, MP.e_xFe, MP.e_pSeal, MP.e_xSe, MP.e_xSeFv, MP.e_xSeFo, MP.e_pLook, MP.e_xLo, MP.e_xLoF, MP.e_pFld, MP.e_xFd, MP.e_xOb, MP.e_xLk0, MP.e_xLk1, MP.e_c0, MP.e_c1, MP.g_add, MP.g_catS, MP.g_catL, MP.g_catT, MP.g_sub, MP.g_mul, MP.g_rep, MP.g_div, MP.g_mod, MP.g_pow, MP.g_shl, MP.g_shr, MP.g_and, MP.g_orI, MP.g_neg, MP.g_lt, MP.g_le, MP.g_gt, MP.g_ge, MP.g_eqI, MP.g_eqS, MP.g_eqBo, MP.g_neI, MP.g_neS, MP.g_neBo, MP.g_is, MP.g_isNot, MP.n_none, MP.n_int, MP.n_str, MP.n_tup, MP.n_list, MP.n_bool, MP.g_max, MP.g_min, MP.g_lenL, MP.g_lenK, MP.g_lenT, MP.g_listL, MP.g_listK, MP.g_listT, MP.g_tupL, MP.g_tupT, MP.q_list, MP.q_lk, MP.q_tup, MP.g_rng1, MP.g_rng2, MP.g_enumL, MP.g_enumK, MP.g_ixL, MP.g_ixK, MP.g_ixT, MP.g_slL, MP.g_slK, MP.g_slT, MP.s_Nil, MP.s_Brk, MP.s_Cont, MP.s_Seq, MP.s_xSn, MP.s_xSr, MP.s_xSb, MP.s_xSc, MP.s_xSe, MP.s_Expr, MP.s_xEx, MP.s_SetV, MP.s_xSV, MP.s_SetO, MP.s_xSOs, MP.s_xSOf, MP.s_Ret, MP.s_xRts, MP.s_xRtf, MP.s_RetN, MP.s_RetS, MP.s_xRSo, MP.s_xRSv, MP.s_If, MP.s_xIfT, MP.s_xIfF, MP.s_Tup, MP.s_xTu, MP.s_xTb, MP.s_For, MP.s_xFor, MP.s_App, MP.s_xAp, MP.s_Thaw, MP.s_xTh, MP.s_Frz, MP.s_xFzo, MP.s_xFzv, MP.s_ExprF, MP.s_xEF, MP.s_SetF, MP.s_xSF, MP.s_RetF, MP.s_xRF, MP.s_IfF, MP.s_xIFT, MP.s_xIFF, MP.s_FldN, MP.s_xN, MP.s_xN2, MP.s_xN3, MP.s_put0, MP.s_put1, MP.s_putN, MP.f_P, MP.f_xPs, MP.f_xPf, MP.f_User, MP.f_xFU, MP.f_Meth, MP.f_xM, MP.f_xM2, MP.f_Make, MP.f_xMk, MP.f_xMkF, MP.fe_ok, MP.r_run, MP.r_un, MP.r_un0, MP.r_nx, MP.r_ret, MP.r_exc, MP.t_nx, MP.t_cont, MP.t_brk, MP.t_ret, MP.b_nm, MP.b_tp2, MP.b_tp3, MP.t_bk, MP.fe_pop, MP.s_appF, MP.s_dead, MP.g_divmod, MP.g_sorted, MP.g_allB, MP.g_anyB, MP.g_sumI, MP.g_zipT, MP.g_zipL, MP.e_pZip, MP.e_xZp, MP.g_abs, MP.g_intI, MP.g_intB, MP.g_repT, MP.e_pLRng, MP.e_xLR, MP.f_Pop, MP.f_xPop, MP.s_AppF, MP.s_xAF0, MP.s_xAF, MP.s_xAF2, MP.g_inI, MP.g_ninI, MP.g_inT, MP.g_ninT, MP.g_ninST, MP.e_c2, MP.e_c3, MP.e_c4, MP.e_c5, MP.e_pIsi, List.getElem?_cons_zero, List.getElem?_cons_succ, List.getElem?_nil, List.set_cons_zero, List.set_cons_succ, List.map_cons, List.map_nil, List.length_cons, List.length_nil, List.length_append, List.cons_append, List.nil_append, List.length_map, List.length_singleton, Nat.reduceBEq, Nat.reduceAdd, Nat.reduceSub, Nat.reduceMul, Nat.reduceEqDiff, Nat.reduceLeDiff, Nat.reduceLT, if_false, if_true, ite_true, ite_false, ↓reduceIte, Bool.not_true, Bool.not_false, Bool.false_eq_true, decide_true, decide_false, eq_self, and_true, true_and, and_self, Nat.zero_le, Nat.zero_add, Option.bind_some, Option.bind_none, Nat.lt_irrefl, Int.reduceToNat, Int.reducePow, Int.reduceNeg, Int.reduceMul, Int.reduceAdd, Int.reduceSub, Int.reduceLT, Int.reduceLE, Int.reduceEq, beq_self_eq_true, wipeE, MP.at0, MP.at1, MP.at2, MP.atLit, isiB, tyN]
  rfl
/-- tuples of tuples .. of ints and texts -/
def Tre : Nat → D → Prop
  | _, .int _ => True
  | _, .str _ => True
  | 0, .tup _ => False
  | n + 1, .tup xs => xs.length ≤ 1000 ∧ ∀ x ∈ xs, Tre n x
  | _, _ => False
theorem zip_same : ∀ xs : List D, zipD xs xs = xs.map fun x => D.tup [x, x]
  | [] => rfl
  | x :: xs => by show _ :: zipD xs xs = _; rw [zip_same xs]; rfl
theorem isi_tt (x : List D) : isiB "tuple" (.tup x) = some true := rfl
theorem isi_ti (i : Int) : isiB "tuple" (.int i) = some false := rfl
theorem isi_ts (x : Str) : isiB "tuple" (.str x) = some false := rfl
theorem isi_ss (x : Str) : isiB "str" (.str x) = some true := rfl
theorem isi_si (i : Int) : isiB "str" (.int i) = some false := rfl
theorem like_step (n : Nat) (sem : MP.Sem) (b : Sta → Fl) (hb : b = sSeq (sIf (pB (pIsi "tuple" (pVar 1))) (sSeq (sIf (pOr (pNot (pB (pIsi "tuple" (pVar 0)))) (pB (p2 gNe (pCall gLen (pCons (pVar 0) (pNil))) (pCall gLen (pCons (pVar 1) (pNil)))))) (sRet (pC (.bool false))) (sNil)) (sRet (pCall gAll (pCons (pComp (pZip (pCons (pD (pVar 0)) (pCons (pD (pVar 1)) (pNil)))) (.tp [2, 3]) [2, 3] (pYes) (pD (pUser 2 sem (pCons (pD (pVar 2)) (pCons (pD (pVar 3)) (pNil)))))) (pNil))))) (sNil)) (sSeq (sIf (pB (pIsi "str" (pVar 1))) (sRet (pAndV (pIsi "str" (pVar 0)) (p2 gEq (pVar 0) (pVar 1)))) (sNil)) (sRet (pAndV (pUser 1 sem_l_whole (pCons (pD (pVar 0)) (pNil))) (p2 gEq (pVar 0) (pVar 1))))))
    (ih : ∀ d, Tre n d → sem [d, d] [] = .ok (.v (.bool true)) []) (d : D) (h : Tre (n + 1) d) : runB 4 b [d, d] [] = .ok (.v (.bool true)) [] := by
  subst hb
  cases d with
  | int i =>
    have hw := m_whole i
    simp (disch := (first | assumption | with_reducible rfl | decide +kernel | exact Or.inl (by decide +kernel) | exact Or.inr (by decide +kernel) | omega | (simp only [List.length_cons, List.length_nil, List.length_append, List.length_map, List.length_replicate, List.length_range] <;> omega) | rfl)) only [MP.of_some, MP.map_some, MP.e_lv, MP.e_lo, MP.e_pD, MP.e_xDs, MP.e_xDf, MP.e_pC, MP.e_pYes, MP.e_pVar, MP.e_p2, MP.e_x2, MP.e_p1, MP.e_x1, MP.e_pB, MP.e_xB, MP.e_pNot, MP.e_xNot, MP.e_pAnd, MP.e_xAndT, MP.e_xAndF, MP.e_pOr, MP.e_xOrT, MP.e_xOrF, MP.e_pAndV, MP.e_xAndVT, MP.e_xAndVF, MP.e_pOrV, MP.e_xOrVT, MP.e_xOrVF, MP.e_pNotV, MP.e_xNotV, MP.e_pIf, MP.e_xIfT, MP.e_xIfF, MP.e_p3, MP.e_x3, MP.e_x3bT, MP.e_x3bF, MP.e_pNil, MP.e_pCons, MP.e_xCons, MP.e_pTup, MP.e_xTp, MP.e_pLst, MP.e_xLs, MP.e_pNo, MP.e_pSome, MP.e_xSo, MP.e_pSl, MP.e_xSl, MP.e_pCall, MP.e_xG, MP.e_pSeq, MP.e_xSq, MP.e_pSeqR, MP.e_xSqR, MP.e_pRng, MP.e_pEnum, MP.e_xEn, MP.e_pComp, MP.e_xC, MP.e_xC2, MP.e_pUser, MP.e_xU, MP.e_xFv, MP.e_xFo, MP.e_xFe, MP.e_pSeal, MP.e_xSe, MP.e_xSeFv, MP.e_xSeFo, MP.e_pLook, MP.e_xLo, MP.e_xLoF, MP.e_pFld, MP.e_xFd, MP.e_xOb, MP.e_xLk0, MP.e_xLk1, MP.e_c0, MP.e_c1, MP.g_add, MP.g_catS, MP.g_catL, MP.g_catT, MP.g_sub, MP.g_mul, MP.g_rep, MP.g_div, MP.g_mod, MP.g_pow, MP.g_shl, MP.g_shr, MP.g_and, MP.g_orI, MP.g_neg, MP.g_lt, MP.g_le, MP.g_gt, MP.g_ge, MP.g_eqI, MP.g_eqS, MP.g_eqBo, MP.g_neI, MP.g_neS, MP.g_neBo, MP.g_is, MP.g_isNot, MP.n_none, MP.n_int, MP.n_str, MP.n_tup, MP.n_list, MP.n_bool, MP.g_max, MP.g_min, MP.g_lenL, MP.g_lenK, MP.g_lenT, MP.g_listL, MP.g_listK, MP.g_listT, MP.g_tupL, MP.g_tupT, MP.q_list, MP.q_lk, MP.q_tup, MP.g_rng1, MP.g_rng2, MP.g_enumL, MP.g_enumK, MP.g_ixL, MP.g_ixK, MP.g_ixT, MP.g_slL, MP.g_slK, MP.g_slT, MP.s_Nil, MP.s_Brk, MP.s_Cont, MP.s_Seq, MP.s_xSn, MP.s_xSr, MP.s_xSb, MP.s_xSc, MP.s_xSe, MP.s_Expr, MP.s_xEx, MP.s_SetV, MP.s_xSV, MP.s_SetO, MP.s_xSOs, MP.s_xSOf, MP.s_Ret, MP.s_xRts, MP.s_xRtf, MP.s_RetN, MP.s_RetS, MP.s_xRSo, MP.s_xRSv, MP.s_If, MP.s_xIfT, MP.s_xIfF, MP.s_Tup, MP.s_xTu, MP.s_xTb, MP.s_For, MP.s_xFor, MP.s_App, MP.s_xAp, MP.s_Thaw, MP.s_xTh, MP.s_Frz, MP.s_xFzo, MP.s_xFzv, MP.s_ExprF, MP.s_xEF, MP.s_SetF, MP.s_xSF, MP.s_RetF, MP.s_xRF, MP.s_IfF, MP.s_xIFT, MP.s_xIFF, MP.s_FldN, MP.s_xN, MP.s_xN2, MP.s_xN3, MP.s_put0, MP.s_put1, MP.s_putN, MP.f_P, MP.f_xPs, MP.f_xPf, MP.f_User, MP.f_xFU, MP.f_Meth, MP.f_xM, MP.f_xM2, MP.f_Make, MP.f_xMk, MP.f_xMkF, MP.fe_ok, MP.r_run, MP.r_un, MP.r_un0, MP.r_nx, MP.r_ret, MP.r_exc, MP.t_nx, MP.t_cont, MP.t_brk, MP.t_ret, MP.b_nm, MP.b_tp2, MP.b_tp3, MP.t_bk, MP.fe_pop, MP.s_appF, MP.s_dead, MP.g_divmod, MP.g_sorted, MP.g_allB, MP.g_anyB, MP.g_sumI, MP.g_zipT, MP.g_zipL, MP.e_pZip, MP.e_xZp, MP.g_abs, MP.g_intI, MP.g_intB, MP.g_repT, MP.e_pLRng, MP.e_xLR, MP.f_Pop, MP.f_xPop, MP.s_AppF, MP.s_xAF0, MP.s_xAF, MP.s_xAF2, MP.g_inI, MP.g_ninI, MP.g_inT, MP.g_ninT, MP.g_ninST, MP.e_c2, MP.e_c3, MP.e_c4, MP.e_c5, MP.e_pIsi, List.getElem?_cons_zero, List.getElem?_cons_succ, List.getElem?_nil, List.set_cons_zero, List.set_cons_succ, List.map_cons, List.map_nil, List.length_cons, List.length_nil, List.length_append, List.cons_append, List.nil_append, List.length_map, List.length_singleton, Nat.reduceBEq, Nat.reduceAdd, Nat.reduceSub, Nat.reduceMul, Nat.reduceEqDiff, Nat.reduceLeDiff, Nat.reduceLT, if_false, if_true, ite_true, ite_false, ↓reduceIte, Bool.not_true, Bool.not_false, Bool.false_eq_true, decide_true, decide_false, eq_self, and_true, true_and, and_self, Nat.zero_le, Nat.zero_add, Option.bind_some, Option.bind_none, Nat.lt_irrefl, Int.reduceToNat, Int.reducePow, Int.reduceNeg, Int.reduceMul, Int.reduceAdd, Int.reduceSub, Int.reduceLT, Int.reduceLE, Int.reduceEq, beq_self_eq_true, wipeE, MP.at0, MP.at1, MP.at2, MP.atLit, isi_ti, isi_si, hw]
  | str x =>
    simp (disch := (first | assumption | with_reducible rfl | decide +kernel | exact Or.inl (by decide +kernel) | exact Or.inr (by decide +kernel) | omega | (simp only [List.length_cons, List.length_nil, List.length_append, List.length_map, List.length_replicate, List.length_range] <;> omega) | rfl)) only [MP.of_some, MP.map_some, MP.e_lv, MP.e_lo, MP.e_pD, MP.e_xDs, MP.e_xDf, MP.e_pC, MP.e_pYes, MP.e_pVar, MP.e_p2, MP.e_x2, MP.e_p1, MP.e_x1, MP.e_pB, MP.e_xB, MP.e_pNot, MP.e_xNot, MP.e_pAnd, MP.e_xAndT, MP.e_xAndF, MP.e_pOr, MP.e_xOrT, MP.e_xOrF, MP.e_pAndV, MP.e_xAndVT, MP.e_xAndVF, MP.e_pOrV, MP.e_xOrVT, MP.e_xOrVF, MP.e_pNotV, MP.e_xNotV, MP.e_pIf, MP.e_xIfT, MP.e_xIfF, MP.e_p3, MP.e_x3, MP.e_x3bT, MP.e_x3bF, MP.e_pNil, MP.e_pCons, MP.e_xCons, MP.e_pTup, MP.e_xTp, MP.e_pLst, MP.e_xLs, MP.e_pNo, MP.e_pSome, MP.e_xSo, MP.e_pSl, MP.e_xSl, MP.e_pCall, MP.e_xG, MP.e_pSeq, MP.e_xSq, MP.e_pSeqR, MP.e_xSqR, MP.e_pRng, MP.e_pEnum, MP.e_xEn, MP.e_pComp, MP.e_xC, MP.e_xC2, MP.e_pUser, MP.e_xU, MP.e_xFv, MP.e_xFo, MP.e_xFe, MP.e_pSeal, MP.e_xSe, MP.e_xSeFv, MP.e_xSeFo, MP.e_pLook, MP.e_xLo, MP.e_xLoF, MP.e_pFld, MP.e_xFd, MP.e_xOb, MP.e_xLk0, MP.e_xLk1, MP.e_c0, MP.e_c1, MP.g_add, MP.g_catS, MP.g_catL, MP.g_catT, MP.g_sub, MP.g_mul, MP.g_rep, MP.g_div, MP.g_mod, MP.g_pow, MP.g_shl, MP.g_shr, MP.g_and, MP.g_orI, MP.g_neg, MP.g_lt, MP.g_le, MP.g_gt, MP.g_ge, MP.g_eqI, MP.g_eqS, MP.g_eqBo, MP.g_neI, MP.g_neS, MP.g_neBo, MP.g_is, MP.g_isNot, MP.n_none, MP.n_int, MP.n_str, MP.n_tup, MP.n_list, MP.n_bool, MP.g_max, MP.g_min, MP.g_lenL, MP.g_lenK, MP.g_lenT, MP.g_listL, MP.g_listK, MP.g_listT, MP.g_tupL, MP.g_tupT, MP.q_list, MP.q_lk, MP.q_tup, MP.g_rng1, MP.g_rng2, MP.g_enumL, MP.g_enumK, MP.g_ixL, MP.g_ixK, MP.g_ixT, MP.g_slL, MP.g_slK, MP.g_slT, MP.s_Nil, MP.s_Brk, MP.s_Cont, MP.s_Seq, MP.s_xSn, MP.s_xSr, MP.s_xSb, MP.s_xSc, MP.s_xSe, MP.s_Expr, MP.s_xEx, MP.s_SetV, MP.s_xSV, MP.s_SetO, MP.s_xSOs, MP.s_xSOf, MP.s_Ret, MP.s_xRts, MP.s_xRtf, MP.s_RetN, MP.s_RetS, MP.s_xRSo, MP.s_xRSv, MP.s_If, MP.s_xIfT, MP.s_xIfF, MP.s_Tup, MP.s_xTu, MP.s_xTb, MP.s_For, MP.s_xFor, MP.s_App, MP.s_xAp, MP.s_Thaw, MP.s_xTh, MP.s_Frz, MP.s_xFzo, MP.s_xFzv, MP.s_ExprF, MP.s_xEF, MP.s_SetF, MP.s_xSF, MP.s_RetF, MP.s_xRF, MP.s_IfF, MP.s_xIFT, MP.s_xIFF, MP.s_FldN, MP.s_xN, MP.s_xN2, MP.s_xN3, MP.s_put0, MP.s_put1, MP.s_putN, MP.f_P, MP.f_xPs, MP.f_xPf, MP.f_User, MP.f_xFU, MP.f_Meth, MP.f_xM, MP.f_xM2, MP.f_Make, MP.f_xMk, MP.f_xMkF, MP.fe_ok, MP.r_run, MP.r_un, MP.r_un0, MP.r_nx, MP.r_ret, MP.r_exc, MP.t_nx, MP.t_cont, MP.t_brk, MP.t_ret, MP.b_nm, MP.b_tp2, MP.b_tp3, MP.t_bk, MP.fe_pop, MP.s_appF, MP.s_dead, MP.g_divmod, MP.g_sorted, MP.g_allB, MP.g_anyB, MP.g_sumI, MP.g_zipT, MP.g_zipL, MP.e_pZip, MP.e_xZp, MP.g_abs, MP.g_intI, MP.g_intB, MP.g_repT, MP.e_pLRng, MP.e_xLR, MP.f_Pop, MP.f_xPop, MP.s_AppF, MP.s_xAF0, MP.s_xAF, MP.s_xAF2, MP.g_inI, MP.g_ninI, MP.g_inT, MP.g_ninT, MP.g_ninST, MP.e_c2, MP.e_c3, MP.e_c4, MP.e_c5, MP.e_pIsi, List.getElem?_cons_zero, List.getElem?_cons_succ, List.getElem?_nil, List.set_cons_zero, List.set_cons_succ, List.map_cons, List.map_nil, List.length_cons, List.length_nil, List.length_append, List.cons_append, List.nil_append, List.length_map, List.length_singleton, Nat.reduceBEq, Nat.reduceAdd, Nat.reduceSub, Nat.reduceMul, Nat.reduceEqDiff, Nat.reduceLeDiff, Nat.reduceLT, if_false, if_true, ite_true, ite_false, ↓reduceIte, Bool.not_true, Bool.not_false, Bool.false_eq_true, decide_true, decide_false, eq_self, and_true, true_and, and_self, Nat.zero_le, Nat.zero_add, Option.bind_some, Option.bind_none, Nat.lt_irrefl, Int.reduceToNat, Int.reducePow, Int.reduceNeg, Int.reduceMul, Int.reduceAdd, Int.reduceSub, Int.reduceLT, Int.reduceLE, Int.reduceEq, beq_self_eq_true, wipeE, MP.at0, MP.at1, MP.at2, MP.atLit, isi_ts, isi_ss]
  | tup xs =>
    obtain ⟨hl, hx⟩ : xs.length ≤ 1000 ∧ ∀ x ∈ xs, Tre n x := h
    have hc : compL (.tp [2, 3]) pYes (pD (pUser 2 sem (pCons (pD (pVar 2)) (pCons (pD (pVar 3)) (pNil))))) ⟨[.v (.tup xs), .v (.tup xs), .un, .un], []⟩ (zipD xs xs) = .ok ((xs.map fun _ => true).map D.bool) := by
      rw [zip_same, List.map_map]
      refine compA _ _ _ fun x hxm => ⟨_, b_tp2 .., ?_⟩
      have e := ih x (hx x hxm)
      simp (disch := (first | assumption | with_reducible rfl | decide +kernel | exact Or.inl (by decide +kernel) | exact Or.inr (by decide +kernel) | omega | (simp only [List.length_cons, List.length_nil, List.length_append, List.length_map, List.length_replicate, List.length_range] <;> omega) | rfl)) only [MP.of_some, MP.map_some, MP.e_lv, MP.e_lo, MP.e_pD, MP.e_xDs, MP.e_xDf, MP.e_pC, MP.e_pYes, MP.e_pVar, MP.e_p2, MP.e_x2, MP.e_p1, MP.e_x1, MP.e_pB, MP.e_xB, MP.e_pNot, MP.e_xNot, MP.e_pAnd, MP.e_xAndT, MP.e_xAndF, MP.e_pOr, MP.e_xOrT, MP.e_xOrF, MP.e_pAndV, MP.e_xAndVT, MP.e_xAndVF, MP.e_pOrV, MP.e_xOrVT, MP.e_xOrVF, MP.e_pNotV, MP.e_xNotV, MP.e_pIf, MP.e_xIfT, MP.e_xIfF, MP.e_p3, MP.e_x3, MP.e_x3bT, MP.e_x3bF, MP.e_pNil, MP.e_pCons, MP.e_xCons, MP.e_pTup, MP.e_xTp, MP.e_pLst, MP.e_xLs, MP.e_pNo, MP.e_pSome, MP.e_xSo, MP.e_pSl, MP.e_xSl, MP.e_pCall, MP.e_xG, MP.e_pSeq, MP.e_xSq, MP.e_pSeqR, MP.e_xSqR, MP.e_pRng, MP.e_pEnum, MP.e_xEn, MP.e_pComp, MP.e_xC, MP.e_xC2, MP.e_pUser, MP.e_xU, MP.e_xFv, MP.e_xFo, MP.e_xFe, MP.e_pSeal, MP.e_xSe, MP.e_xSeFv, MP.e_xSeFo, MP.e_pLook, MP.e_xLo, MP.e_xLoF, MP.e_pFld, MP.e_xFd, MP.e_xOb, MP.e_xLk0, MP.e_xLk1, MP.e_c0, MP.e_c1, MP.g_add, MP.g_catS, MP.g_catL, MP.g_catT, MP.g_sub, MP.g_mul, MP.g_rep, MP.g_div, MP.g_mod, MP.g_pow, MP.g_shl, MP.g_shr, MP.g_and, MP.g_orI, MP.g_neg, MP.g_lt, MP.g_le, MP.g_gt, MP.g_ge, MP.g_eqI, MP.g_eqS, MP.g_eqBo, MP.g_neI, MP.g_neS, MP.g_neBo, MP.g_is, MP.g_isNot, MP.n_none, MP.n_int, MP.n_str, MP.n_tup, MP.n_list, MP.n_bool, MP.g_max, MP.g_min, MP.g_lenL, MP.g_lenK, MP.g_lenT, MP.g_listL, MP.g_listK, MP.g_listT, MP.g_tupL, MP.g_tupT, MP.q_list, MP.q_lk, MP.q_tup, MP.g_rng1, MP.g_rng2, MP.g_enumL, MP.g_enumK, MP.g_ixL, MP.g_ixK, MP.g_ixT, MP.g_slL, MP.g_slK, MP.g_slT, MP.s_Nil, MP.s_Brk, MP.s_Cont, MP.s_Seq, MP.s_xSn, MP.s_xSr, MP.s_xSb, MP.s_xSc, MP.s_xSe, MP.s_Expr, MP.s_xEx, MP.s_SetV, MP.s_xSV, MP.s_SetO, MP.s_xSOs, MP.s_xSOf, MP.s_Ret, MP.s_xRts, MP.s_xRtf, MP.s_RetN, MP.s_RetS, MP.s_xRSo, MP.s_xRSv, MP.s_If, MP.s_xIfT, MP.s_xIfF, MP.s_Tup, MP.s_xTu, MP.s_xTb, MP.s_For, MP.s_xFor, MP.s_App, MP.s_xAp, MP.s_Thaw, MP.s_xTh, MP.s_Frz, MP.s_xFzo, MP.s_xFzv, MP.s_ExprF, MP.s_xEF, MP.s_SetF, MP.s_xSF, MP.s_RetF, MP.s_xRF, MP.s_IfF, MP.s_xIFT, MP.s_xIFF, MP.s_FldN, MP.s_xN, MP.s_xN2, MP.s_xN3, MP.s_put0, MP.s_put1, MP.s_putN, MP.f_P, MP.f_xPs, MP.f_xPf, MP.f_User, MP.f_xFU, MP.f_Meth, MP.f_xM, MP.f_xM2, MP.f_Make, MP.f_xMk, MP.f_xMkF, MP.fe_ok, MP.r_run, MP.r_un, MP.r_un0, MP.r_nx, MP.r_ret, MP.r_exc, MP.t_nx, MP.t_cont, MP.t_brk, MP.t_ret, MP.b_nm, MP.b_tp2, MP.b_tp3, MP.t_bk, MP.fe_pop, MP.s_appF, MP.s_dead, MP.g_divmod, MP.g_sorted, MP.g_allB, MP.g_anyB, MP.g_sumI, MP.g_zipT, MP.g_zipL, MP.e_pZip, MP.e_xZp, MP.g_abs, MP.g_intI, MP.g_intB, MP.g_repT, MP.e_pLRng, MP.e_xLR, MP.f_Pop, MP.f_xPop, MP.s_AppF, MP.s_xAF0, MP.s_xAF, MP.s_xAF2, MP.g_inI, MP.g_ninI, MP.g_inT, MP.g_ninT, MP.g_ninST, MP.e_c2, MP.e_c3, MP.e_c4, MP.e_c5, MP.e_pIsi, List.getElem?_cons_zero, List.getElem?_cons_succ, List.getElem?_nil, List.set_cons_zero, List.set_cons_succ, List.map_cons, List.map_nil, List.length_cons, List.length_nil, List.length_append, List.cons_append, List.nil_append, List.length_map, List.length_singleton, Nat.reduceBEq, Nat.reduceAdd, Nat.reduceSub, Nat.reduceMul, Nat.reduceEqDiff, Nat.reduceLeDiff, Nat.reduceLT, if_false, if_true, ite_true, ite_false, ↓reduceIte, Bool.not_true, Bool.not_false, Bool.false_eq_true, decide_true, decide_false, eq_self, and_true, true_and, and_self, Nat.zero_le, Nat.zero_add, Option.bind_some, Option.bind_none, Nat.lt_irrefl, Int.reduceToNat, Int.reducePow, Int.reduceNeg, Int.reduceMul, Int.reduceAdd, Int.reduceSub, Int.reduceLT, Int.reduceLE, Int.reduceEq, beq_self_eq_true, wipeE, MP.at0, MP.at1, MP.at2, MP.atLit, e]
      rfl
    have hzl : (zipD xs xs).length ≤ 1000 := by rw [zipD_len]; omega
    have ha : (xs.map fun _ => true).all id = true := by rw [List.all_map]; exact List.all_eq_true.mpr fun _ _ => rfl
    simp (disch := (first | assumption | with_reducible rfl | decide +kernel | exact Or.inl (by decide +kernel) | exact Or.inr (by decide +kernel) | omega | (simp only [List.length_cons, List.length_nil, List.length_append, List.length_map, List.length_replicate, List.length_range] <;> omega) | rfl)) only [MP.of_some, MP.map_some, MP.e_lv, MP.e_lo, MP.e_pD, MP.e_xDs, MP.e_xDf, MP.e_pC, MP.e_pYes, MP.e_pVar, MP.e_p2, MP.e_x2, MP.e_p1, MP.e_x1, MP.e_pB, MP.e_xB, MP.e_pNot, MP.e_xNot, MP.e_pAnd, MP.e_xAndT, MP.e_xAndF, MP.e_pOr, MP.e_xOrT, MP.e_xOrF, MP.e_pAndV, MP.e_xAndVT, MP.e_xAndVF, MP.e_pOrV, MP.e_xOrVT, MP.e_xOrVF, MP.e_pNotV, MP.e_xNotV, MP.e_pIf, MP.e_xIfT, MP.e_xIfF, MP.e_p3, MP.e_x3, MP.e_x3bT, MP.e_x3bF, MP.e_pNil, MP.e_pCons, MP.e_xCons, MP.e_pTup, MP.e_xTp, MP.e_pLst, MP.e_xLs, MP.e_pNo, MP.e_pSome, MP.e_xSo, MP.e_pSl, MP.e_xSl, MP.e_pCall, MP.e_xG, MP.e_pSeq, MP.e_xSq, MP.e_pSeqR, MP.e_xSqR, MP.e_pRng, MP.e_pEnum, MP.e_xEn, MP.e_pComp, MP.e_xC, MP.e_xC2, MP.e_pUser, MP.e_xU, MP.e_xFv, MP.e_xFo, MP.e_xFe, MP.e_pSeal, MP.e_xSe, MP.e_xSeFv, MP.e_xSeFo, MP.e_pLook, MP.e_xLo, MP.e_xLoF, MP.e_pFld, MP.e_xFd, MP.e_xOb, MP.e_xLk0, MP.e_xLk1, MP.e_c0, MP.e_c1, MP.g_add, MP.g_catS, MP.g_catL, MP.g_catT, MP.g_sub, MP.g_mul, MP.g_rep, MP.g_div, MP.g_mod, MP.g_pow, MP.g_shl, MP.g_shr, MP.g_and, MP.g_orI, MP.g_neg, MP.g_lt, MP.g_le, MP.g_gt, MP.g_ge, MP.g_eqI, MP.g_eqS, MP.g_eqBo, MP.g_neI, MP.g_neS, MP.g_neBo, MP.g_is, MP.g_isNot, MP.n_none, MP.n_int, MP.n_str, MP.n_tup, MP.n_list, MP.n_bool, MP.g_max, MP.g_min, MP.g_lenL, MP.g_lenK, MP.g_lenT, MP.g_listL, MP.g_listK, MP.g_listT, MP.g_tupL, MP.g_tupT, MP.q_list, MP.q_lk, MP.q_tup, MP.g_rng1, MP.g_rng2, MP.g_enumL, MP.g_enumK, MP.g_ixL, MP.g_ixK, MP.g_ixT, MP.g_slL, MP.g_slK, MP.g_slT, MP.s_Nil, MP.s_Brk, MP.s_Cont, MP.s_Seq, MP.s_xSn, MP.s_xSr, MP.s_xSb, MP.s_xSc, MP.s_xSe, MP.s_Expr, MP.s_xEx, MP.s_SetV, MP.s_xSV, MP.s_SetO, MP.s_xSOs, MP.s_xSOf, MP.s_Ret, MP.s_xRts, MP.s_xRtf, MP.s_RetN, MP.s_RetS, MP.s_xRSo, MP.s_xRSv, MP.s_If, MP.s_xIfT, MP.s_xIfF, MP.s_Tup, MP.s_xTu, MP.s_xTb, MP.s_For, MP.s_xFor, MP.s_App, MP.s_xAp, MP.s_Thaw, MP.s_xTh, MP.s_Frz, MP.s_xFzo, MP.s_xFzv, MP.s_ExprF, MP.s_xEF, MP.s_SetF, MP.s_xSF, MP.s_RetF, MP.s_xRF, MP.s_IfF, MP.s_xIFT, MP.s_xIFF, MP.s_FldN, MP.s_xN, MP.s_xN2, MP.s_xN3, MP.s_put0, MP.s_put1, MP.s_putN, MP.f_P, MP.f_xPs, MP.f_xPf, MP.f_User, MP.f_xFU, MP.f_Meth, MP.f_xM, MP.f_xM2, MP.f_Make, MP.f_xMk, MP.f_xMkF, MP.fe_ok, MP.r_run, MP.r_un, MP.r_un0, MP.r_nx, MP.r_ret, MP.r_exc, MP.t_nx, MP.t_cont, MP.t_brk, MP.t_ret, MP.b_nm, MP.b_tp2, MP.b_tp3, MP.t_bk, MP.fe_pop, MP.s_appF, MP.s_dead, MP.g_divmod, MP.g_sorted, MP.g_allB, MP.g_anyB, MP.g_sumI, MP.g_zipT, MP.g_zipL, MP.e_pZip, MP.e_xZp, MP.g_abs, MP.g_intI, MP.g_intB, MP.g_repT, MP.e_pLRng, MP.e_xLR, MP.f_Pop, MP.f_xPop, MP.s_AppF, MP.s_xAF0, MP.s_xAF, MP.s_xAF2, MP.g_inI, MP.g_ninI, MP.g_inT, MP.g_ninT, MP.g_ninST, MP.e_c2, MP.e_c3, MP.e_c4, MP.e_c5, MP.e_pIsi, List.getElem?_cons_zero, List.getElem?_cons_succ, List.getElem?_nil, List.set_cons_zero, List.set_cons_succ, List.map_cons, List.map_nil, List.length_cons, List.length_nil, List.length_append, List.cons_append, List.nil_append, List.length_map, List.length_singleton, Nat.reduceBEq, Nat.reduceAdd, Nat.reduceSub, Nat.reduceMul, Nat.reduceEqDiff, Nat.reduceLeDiff, Nat.reduceLT, if_false, if_true, ite_true, ite_false, ↓reduceIte, Bool.not_true, Bool.not_false, Bool.false_eq_true, decide_true, decide_false, eq_self, and_true, true_and, and_self, Nat.zero_le, Nat.zero_add, Option.bind_some, Option.bind_none, Nat.lt_irrefl, Int.reduceToNat, Int.reducePow, Int.reduceNeg, Int.reduceMul, Int.reduceAdd, Int.reduceSub, Int.reduceLT, Int.reduceLE, Int.reduceEq, beq_self_eq_true, wipeE, MP.at0, MP.at1, MP.at2, MP.atLit, isi_tt, hc, ha]
  | _ => exact h.elim
theorem like_1 (d : D) (h : Tre 0 d) : sem_l_like_1 [d, d] [] = .ok (.v (.bool true)) [] := by
  cases d with
  | int i =>
    have hw := m_whole i
    unfold sem_l_like_1 b_l_like_1
    simp (disch := (first | assumption | with_reducible rfl | decide +kernel | exact Or.inl (by decide +kernel) | exact Or.inr (by decide +kernel) | omega | (simp only [List.length_cons, List.length_nil, List.length_append, List.length_map, List.length_replicate, List.length_range] <;> omega) | rfl)) only [MP.of_some, MP.map_some, MP.e_lv, MP.e_lo, MP.e_pD, MP.e_xDs, MP.e_xDf, MP.e_pC, MP.e_pYes, MP.e_pVar, MP.e_p2, MP.e_x2, MP.e_p1, MP.e_x1, MP.e_pB, MP.e_xB, MP.e_pNot, MP.e_xNot, MP.e_pAnd, MP.e_xAndT, MP.e_xAndF, MP.e_pOr, MP.e_xOrT, MP.e_xOrF, MP.e_pAndV, MP.e_xAndVT, MP.e_xAndVF, MP.e_pOrV, MP.e_xOrVT, MP.e_xOrVF, MP.e_pNotV, MP.e_xNotV, MP.e_pIf, MP.e_xIfT, MP.e_xIfF, MP.e_p3, MP.e_x3, MP.e_x3bT, MP.e_x3bF, MP.e_pNil, MP.e_pCons, MP.e_xCons, MP.e_pTup, MP.e_xTp, MP.e_pLst, MP.e_xLs, MP.e_pNo, MP.e_pSome, MP.e_xSo, MP.e_pSl, MP.e_xSl, MP.e_pCall, MP.e_xG, MP.e_pSeq, MP.e_xSq, MP.e_pSeqR, MP.e_xSqR, MP.e_pRng, MP.e_pEnum, MP.e_xEn, MP.e_pComp, MP.e_xC, MP.e_xC2, MP.e_pUser, MP.e_xU, MP.e_xFv, MP.e_xFo, MP.e_xFe, MP.e_pSeal, MP.e_xSe, MP.e_xSeFv, MP.e_xSeFo, MP.e_pLook, MP.e_xLo, MP.e_xLoF, MP.e_pFld, MP.e_xFd, MP.e_xOb, MP.e_xLk0, MP.e_xLk1, MP.e_c0, MP.e_c1, MP.g_add, MP.g_catS, MP.g_catL, MP.g_catT, MP.g_sub, MP.g_mul, MP.g_rep, MP.g_div, MP.g_mod, MP.g_pow, MP.g_shl, MP.g_shr, MP.g_and, MP.g_orI, MP.g_neg, MP.g_lt, MP.g_le, MP.g_gt, MP.g_ge, MP.g_eqI, MP.g_eqS, MP.g_eqBo, MP.g_neI, MP.g_neS, MP.g_neBo, MP.g_is, MP.g_isNot, MP.n_none, MP.n_int, MP.n_str, MP.n_tup, MP.n_list, MP.n_bool, MP.g_max, MP.g_min, MP.g_lenL, MP.g_lenK, MP.g_lenT, MP.g_listL, MP.g_listK, MP.g_listT, MP.g_tupL, MP.g_tupT, MP.q_list, MP.q_lk, MP.q_tup, MP.g_rng1, MP.g_rng2, MP.g_enumL, MP.g_enumK, MP.g_ixL, MP.g_ixK, MP.g_ixT, MP.g_slL, MP.g_slK, MP.g_slT, MP.s_Nil, MP.s_Brk, MP.s_Cont, MP.s_Seq, MP.s_xSn, MP.s_xSr, MP.s_xSb, MP.s_xSc, MP.s_xSe, MP.s_Expr, MP.s_xEx, MP.s_SetV, MP.s_xSV, MP.s_SetO, MP.s_xSOs, MP.s_xSOf, MP.s_Ret, MP.s_xRts, MP.s_xRtf, MP.s_RetN, MP.s_RetS, MP.s_xRSo, MP.s_xRSv, MP.s_If, MP.s_xIfT, MP.s_xIfF, MP.s_Tup, MP.s_xTu, MP.s_xTb, MP.s_For, MP.s_xFor, MP.s_App, MP.s_xAp, MP.s_Thaw, MP.s_xTh, MP.s_Frz, MP.s_xFzo, MP.s_xFzv, MP.s_ExprF, MP.s_xEF, MP.s_SetF, MP.s_xSF, MP.s_RetF, MP.s_xRF, MP.s_IfF, MP.s_xIFT, MP.s_xIFF, MP.s_FldN, MP.s_xN, MP.s_xN2, MP.s_xN3, MP.s_put0, MP.s_put1, MP.s_putN, MP.f_P, MP.f_xPs, MP.f_xPf, MP.f_User, MP.f_xFU, MP.f_Meth, MP.f_xM, MP.f_xM2, MP.f_Make, MP.f_xMk, MP.f_xMkF, MP.fe_ok, MP.r_run, MP.r_un, MP.r_un0, MP.r_nx, MP.r_ret, MP.r_exc, MP.t_nx, MP.t_cont, MP.t_brk, MP.t_ret, MP.b_nm, MP.b_tp2, MP.b_tp3, MP.t_bk, MP.fe_pop, MP.s_appF, MP.s_dead, MP.g_divmod, MP.g_sorted, MP.g_allB, MP.g_anyB, MP.g_sumI, MP.g_zipT, MP.g_zipL, MP.e_pZip, MP.e_xZp, MP.g_abs, MP.g_intI, MP.g_intB, MP.g_repT, MP.e_pLRng, MP.e_xLR, MP.f_Pop, MP.f_xPop, MP.s_AppF, MP.s_xAF0, MP.s_xAF, MP.s_xAF2, MP.g_inI, MP.g_ninI, MP.g_inT, MP.g_ninT, MP.g_ninST, MP.e_c2, MP.e_c3, MP.e_c4, MP.e_c5, MP.e_pIsi, List.getElem?_cons_zero, List.getElem?_cons_succ, List.getElem?_nil, List.set_cons_zero, List.set_cons_succ, List.map_cons, List.map_nil, List.length_cons, List.length_nil, List.length_append, List.cons_append, List.nil_append, List.length_map, List.length_singleton, Nat.reduceBEq, Nat.reduceAdd, Nat.reduceSub, Nat.reduceMul, Nat.reduceEqDiff, Nat.reduceLeDiff, Nat.reduceLT, if_false, if_true, ite_true, ite_false, ↓reduceIte, Bool.not_true, Bool.not_false, Bool.false_eq_true, decide_true, decide_false, eq_self, and_true, true_and, and_self, Nat.zero_le, Nat.zero_add, Option.bind_some, Option.bind_none, Nat.lt_irrefl, Int.reduceToNat, Int.reducePow, Int.reduceNeg, Int.reduceMul, Int.reduceAdd, Int.reduceSub, Int.reduceLT, Int.reduceLE, Int.reduceEq, beq_self_eq_true, wipeE, MP.at0, MP.at1, MP.at2, MP.atLit, isi_ti, isi_si, hw]
  | str x =>
    unfold sem_l_like_1 b_l_like_1
    simp (disch := (first | assumption | with_reducible rfl | decide +kernel | exact Or.inl (by decide +kernel) | exact Or.inr (by decide +kernel) | omega | (simp only [List.length_cons, List.length_nil, List.length_append, List.length_map, List.length_replicate, List.length_range] <;> omega) | rfl)) only [MP.of_some, MP.map_some, MP.e_lv, MP.e_lo, MP.e_pD, MP.e_xDs, MP.e_xDf, MP.e_pC, MP.e_pYes, MP.e_pVar, MP.e_p2, MP.e_x2, MP.e_p1, MP.e_x1, MP.e_pB, MP.e_xB, MP.e_pNot, MP.e_xNot, MP.e_pAnd, MP.e_xAndT, MP.e_xAndF, MP.e_pOr, MP.e_xOrT, MP.e_xOrF, MP.e_pAndV, MP.e_xAndVT, MP.e_xAndVF, MP.e_pOrV, MP.e_xOrVT, MP.e_xOrVF, MP.e_pNotV, MP.e_xNotV, MP.e_pIf, MP.e_xIfT, MP.e_xIfF, MP.e_p3, MP.e_x3, MP.e_x3bT, MP.e_x3bF, MP.e_pNil, MP.e_pCons, MP.e_xCons, MP.e_pTup, MP.e_xTp, MP.e_pLst, MP.e_xLs, MP.e_pNo, MP.e_pSome, MP.e_xSo, MP.e_pSl, MP.e_xSl, MP.e_pCall, MP.e_xG, MP.e_pSeq, MP.e_xSq, MP.e_pSeqR, MP.e_xSqR, MP.e_pRng, MP.e_pEnum, MP.e_xEn, MP.e_pComp, MP.e_xC, MP.e_xC2, MP.e_pUser, MP.e_xU, MP.e_xFv, MP.e_xFo, MP.e_xFe, MP.e_pSeal, MP.e_xSe, MP.e_xSeFv, MP.e_xSeFo, MP.e_pLook, MP.e_xLo, MP.e_xLoF, MP.e_pFld, MP.e_xFd, MP.e_xOb, MP.e_xLk0, MP.e_xLk1, MP.e_c0, MP.e_c1, MP.g_add, MP.g_catS, MP.g_catL, MP.g_catT, MP.g_sub, MP.g_mul, MP.g_rep, MP.g_div, MP.g_mod, MP.g_pow, MP.g_shl, MP.g_shr, MP.g_and, MP.g_orI, MP.g_neg, MP.g_lt, MP.g_le, MP.g_gt, MP.g_ge, MP.g_eqI, MP.g_eqS, MP.g_eqBo, MP.g_neI, MP.g_neS, MP.g_neBo, MP.g_is, MP.g_isNot, MP.n_none, MP.n_int, MP.n_str, MP.n_tup, MP.n_list, MP.n_bool, MP.g_max, MP.g_min, MP.g_lenL, MP.g_lenK, MP.g_lenT, MP.g_listL, MP.g_listK, MP.g_listT, MP.g_tupL, MP.g_tupT, MP.q_list, MP.q_lk, MP.q_tup, MP.g_rng1, MP.g_rng2, MP.g_enumL, MP.g_enumK, MP.g_ixL, MP.g_ixK, MP.g_ixT, MP.g_slL, MP.g_slK, MP.g_slT, MP.s_Nil, MP.s_Brk, MP.s_Cont, MP.s_Seq, MP.s_xSn, MP.s_xSr, MP.s_xSb, MP.s_xSc, MP.s_xSe, MP.s_Expr, MP.s_xEx, MP.s_SetV, MP.s_xSV, MP.s_SetO, MP.s_xSOs, MP.s_xSOf, MP.s_Ret, MP.s_xRts, MP.s_xRtf, MP.s_RetN, MP.s_RetS, MP.s_xRSo, MP.s_xRSv, MP.s_If, MP.s_xIfT, MP.s_xIfF, MP.s_Tup, MP.s_xTu, MP.s_xTb, MP.s_For, MP.s_xFor, MP.s_App, MP.s_xAp, MP.s_Thaw, MP.s_xTh, MP.s_Frz, MP.s_xFzo, MP.s_xFzv, MP.s_ExprF, MP.s_xEF, MP.s_SetF, MP.s_xSF, MP.s_RetF, MP.s_xRF, MP.s_IfF, MP.s_xIFT, MP.s_xIFF, MP.s_FldN, MP.s_xN, MP.s_xN2, MP.s_xN3, MP.s_put0, MP.s_put1, MP.s_putN, MP.f_P, MP.f_xPs, MP.f_xPf, MP.f_User, MP.f_xFU, MP.f_Meth, MP.f_xM, MP.f_xM2, MP.f_Make, MP.f_xMk, MP.f_xMkF, MP.fe_ok, MP.r_run, MP.r_un, MP.r_un0, MP.r_nx, MP.r_ret, MP.r_exc, MP.t_nx, MP.t_cont, MP.t_brk, MP.t_ret, MP.b_nm, MP.b_tp2, MP.b_tp3, MP.t_bk, MP.fe_pop, MP.s_appF, MP.s_dead, MP.g_divmod, MP.g_sorted, MP.g_allB, MP.g_anyB, MP.g_sumI, MP.g_zipT, MP.g_zipL, MP.e_pZip, MP.e_xZp, MP.g_abs, MP.g_intI, MP.g_intB, MP.g_repT, MP.e_pLRng, MP.e_xLR, MP.f_Pop, MP.f_xPop, MP.s_AppF, MP.s_xAF0, MP.s_xAF, MP.s_xAF2, MP.g_inI, MP.g_ninI, MP.g_inT, MP.g_ninT, MP.g_ninST, MP.e_c2, MP.e_c3, MP.e_c4, MP.e_c5, MP.e_pIsi, List.getElem?_cons_zero, List.getElem?_cons_succ, List.getElem?_nil, List.set_cons_zero, List.set_cons_succ, List.map_cons, List.map_nil, List.length_cons, List.length_nil, List.length_append, List.cons_append, List.nil_append, List.length_map, List.length_singleton, Nat.reduceBEq, Nat.reduceAdd, Nat.reduceSub, Nat.reduceMul, Nat.reduceEqDiff, Nat.reduceLeDiff, Nat.reduceLT, if_false, if_true, ite_true, ite_false, ↓reduceIte, Bool.not_true, Bool.not_false, Bool.false_eq_true, decide_true, decide_false, eq_self, and_true, true_and, and_self, Nat.zero_le, Nat.zero_add, Option.bind_some, Option.bind_none, Nat.lt_irrefl, Int.reduceToNat, Int.reducePow, Int.reduceNeg, Int.reduceMul, Int.reduceAdd, Int.reduceSub, Int.reduceLT, Int.reduceLE, Int.reduceEq, beq_self_eq_true, wipeE, MP.at0, MP.at1, MP.at2, MP.atLit, isi_ts, isi_ss]
  | _ => exact h.elim
theorem like_2 : ∀ d : D, Tre 1 d → sem_l_like_2 [d, d] [] = .ok (.v (.bool true)) [] := like_step 0 sem_l_like_1 b_l_like_2 rfl like_1
theorem like_3 : ∀ d : D, Tre 2 d → sem_l_like_3 [d, d] [] = .ok (.v (.bool true)) [] := like_step 1 sem_l_like_2 b_l_like_3 rfl like_2
theorem like_4 : ∀ d : D, Tre 3 d → sem_l_like_4 [d, d] [] = .ok (.v (.bool true)) [] := like_step 2 sem_l_like_3 b_l_like_4 rfl like_3
theorem like_5 : ∀ d : D, Tre 4 d → sem_l_like_5 [d, d] [] = .ok (.v (.bool true)) [] := like_step 3 sem_l_like_4 b_l_like_5 rfl like_4
/-! ## beds -/
structure Bed where
  K : Nat
  ls : List (List Mn)
  cs : List (List Nat × Nat)
  w : Nat
def rowD (r : List Mn) : D := .tup (r.map Mn.D)
def chD (c : List Nat × Nat) : D := .tup [.tup (nD c.1), .str (ltr c.2)]
def bedD (b : Bed) : D := .tup [.int (b.K : Nat), .tup (b.ls.map rowD), .tup (b.cs.map chD), .int (b.w : Nat)]
structure ChOk (K : Nat) (r0 : List Mn) (c : List Nat × Nat) : Prop where
  c26 : c.2 < 26
  len : 2 ≤ c.1.length
  l5 : c.1.length ≤ 5
  up : c.1.Pairwise (· < ·)
  ok : ∀ k ∈ c.1, k < K ∧ (r0.getD k .non).isL = true
structure Good (b : Bed) : Prop where
  k1 : 1 ≤ b.K
  k5 : b.K ≤ 5
  l1 : 1 ≤ b.ls.length
  l3 : b.ls.length ≤ 3
  len : ∀ r ∈ b.ls, r.length = b.K
  ok : ∀ (i : Nat) (r : List Mn), b.ls[i]? = some r → ∀ m ∈ r, Mn.Ok i b.ls.length m
  c4 : b.cs.length ≤ 4
  ch : ∀ c ∈ b.cs, ChOk b.K (b.ls.getD 0 []) c
  nd : (b.cs.map Prod.fst).Nodup
  w1 : 1 ≤ b.w
  w4 : b.w ≤ 4
theorem tre_mn (m : Mn) : Tre 1 m.D := by
  cases m <;> refine ⟨by simp, fun x hx => ?_⟩ <;> simp only [List.mem_cons, List.not_mem_nil, or_false] at hx
  · rcases hx with rfl | rfl <;> exact trivial
  · rcases hx with rfl | rfl <;> exact trivial
  · rcases hx with rfl | rfl | rfl <;> exact trivial
  · rcases hx with rfl | rfl <;> exact trivial
  · rcases hx with rfl; exact trivial
  · rcases hx with rfl; exact trivial
theorem Good.tre {b : Bed} (g : Good b) : Tre 4 (bedD b) := by
  refine ⟨by simp, fun x hx => ?_⟩
  simp only [List.mem_cons, List.not_mem_nil, or_false] at hx
  rcases hx with rfl | rfl | rfl | rfl
  · exact trivial
  · refine ⟨by have := g.l3; simp; omega, fun x hx => ?_⟩
    obtain ⟨r, hr, rfl⟩ := List.mem_map.mp hx
    refine ⟨by have := g.len r hr; have := g.k5; simp; omega, fun x hx => ?_⟩
    obtain ⟨m, hm, rfl⟩ := List.mem_map.mp hx
    exact tre_mn m
  · refine ⟨by have := g.c4; simp; omega, fun x hx => ?_⟩
    obtain ⟨c, hc, rfl⟩ := List.mem_map.mp hx
    refine ⟨by simp, fun x hx => ?_⟩
    simp only [List.mem_cons, List.not_mem_nil, or_false] at hx
    rcases hx with rfl | rfl
    · refine ⟨by have := (g.ch c hc).l5; rw [nD_len]; omega, fun x hx => ?_⟩
      unfold nD at hx
      obtain ⟨k, _, rfl⟩ := List.mem_map.mp hx
      exact trivial
    · exact trivial
  · exact trivial
theorem m_checklayers {b : Bed} (g : Good b) : sem_check_layers [.int (b.K : Nat), .tup (b.ls.map rowD)] [] = .ok (.v .none) [] := by
  have hll : (b.ls.map rowD).length = b.ls.length := by simp
  have hl3 := g.l3
  have hk5 := g.k5
  unfold sem_check_layers
  refine run_ex (Q := fun r => r = .ok (.v .none) []) [.v (.int (b.K : Nat)), .v (.tup (b.ls.map rowD)), .un, .un] rfl ?_
  unfold b_check_layers
  obtain ⟨s', e1, x2, x3, rfl⟩ := forE (f := pRng gRng1 (pCons (pCall gLen (pCons (pVar 1) (pNil))) (pNil))) (t := .nm 2) (g := lp_check_layers_2) (s := ⟨[.v (.int (b.K : Nat)), .v (.tup (b.ls.map rowD)), .un, .un], []⟩) (rng 0 (b.ls.length : Int))
    (fun i s => ∃ x2 x3, s = ⟨[.v (.int (b.K : Nat)), .v (.tup (b.ls.map rowD)), x2, x3], []⟩) (by simp (disch := (first | assumption | with_reducible rfl | decide +kernel | exact Or.inl (by decide +kernel) | exact Or.inr (by decide +kernel) | omega | (simp only [List.length_cons, List.length_nil, List.length_append, List.length_map, List.length_replicate, List.length_range] <;> omega) | rfl)) only [MP.of_some, MP.map_some, MP.e_lv, MP.e_lo, MP.e_pD, MP.e_xDs, MP.e_xDf, MP.e_pC, MP.e_pYes, MP.e_pVar, MP.e_p2, MP.e_x2, MP.e_p1, MP.e_x1, MP.e_pB, MP.e_xB, MP.e_pNot, MP.e_xNot, MP.e_pAnd, MP.e_xAndT, MP.e_xAndF, MP.e_pOr, MP.e_xOrT, MP.e_xOrF, MP.e_pAndV, MP.e_xAndVT, MP.e_xAndVF, MP.e_pOrV, MP.e_xOrVT, MP.e_xOrVF, MP.e_pNotV, MP.e_xNotV, MP.e_pIf, MP.e_xIfT, MP.e_xIfF, MP.e_p3, MP.e_x3, MP.e_x3bT, MP.e_x3bF, MP.e_pNil, MP.e_pCons, MP.e_xCons, MP.e_pTup, MP.e_xTp, MP.e_pLst, MP.e_xLs, MP.e_pNo, MP.e_pSome, MP.e_xSo, MP.e_pSl, MP.e_xSl, MP.e_pCall, MP.e_xG, MP.e_pSeq, MP.e_xSq, MP.e_pSeqR, MP.e_xSqR, MP.e_pRng, MP.e_pEnum, MP.e_xEn, MP.e_pComp, MP.e_xC, MP.e_xC2, MP.e_pUser, MP.e_xU, MP.e_xFv, MP.e_xFo, MP.e_xFe, MP.e_pSeal, MP.e_xSe, MP.e_xSeFv, MP.e_xSeFo, MP.e_pLook, MP.e_xLo, MP.e_xLoF, MP.e_pFld, MP.e_xFd, MP.e_xOb, MP.e_xLk0, MP.e_xLk1, MP.e_c0, MP.e_c1, MP.g_add, MP.g_catS, MP.g_catL, MP.g_catT, MP.g_sub, MP.g_mul, MP.g_rep, MP.g_div, MP.g_mod, MP.g_pow, MP.g_shl, MP.g_shr, MP.g_and, MP.g_orI, MP.g_neg, MP.g_lt, MP.g_le, MP.g_gt, MP.g_ge, MP.g_eqI, MP.g_eqS, MP.g_eqBo, MP.g_neI, MP.g_neS, MP.g_neBo, MP.g_is, MP.g_isNot, MP.n_none, MP.n_int, MP.n_str, MP.n_tup, MP.n_list, MP.n_bool, MP.g_max, MP.g_min, MP.g_lenL, MP.g_lenK, MP.g_lenT, MP.g_listL, MP.g_listK, MP.g_listT, MP.g_tupL, MP.g_tupT, MP.q_list, MP.q_lk, MP.q_tup, MP.g_rng1, MP.g_rng2, MP.g_enumL, MP.g_enumK, MP.g_ixL, MP.g_ixK, MP.g_ixT, MP.g_slL, MP.g_slK, MP.g_slT, MP.s_Nil, MP.s_Brk, MP.s_Cont, MP.s_Seq, MP.s_xSn, MP.s_xSr, MP.s_xSb, MP.s_xSc, MP.s_xSe, MP.s_Expr, MP.s_xEx, MP.s_SetV, MP.s_xSV, MP.s_SetO, MP.s_xSOs, MP.s_xSOf, MP.s_Ret, MP.s_xRts, MP.s_xRtf, MP.s_RetN, MP.s_RetS, MP.s_xRSo, MP.s_xRSv, MP.s_If, MP.s_xIfT, MP.s_xIfF, MP.s_Tup, MP.s_xTu, MP.s_xTb, MP.s_For, MP.s_xFor, MP.s_App, MP.s_xAp, MP.s_Thaw, MP.s_xTh, MP.s_Frz, MP.s_xFzo, MP.s_xFzv, MP.s_ExprF, MP.s_xEF, MP.s_SetF, MP.s_xSF, MP.s_RetF, MP.s_xRF, MP.s_IfF, MP.s_xIFT, MP.s_xIFF, MP.s_FldN, MP.s_xN, MP.s_xN2, MP.s_xN3, MP.s_put0, MP.s_put1, MP.s_putN, MP.f_P, MP.f_xPs, MP.f_xPf, MP.f_User, MP.f_xFU, MP.f_Meth, MP.f_xM, MP.f_xM2, MP.f_Make, MP.f_xMk, MP.f_xMkF, MP.fe_ok, MP.r_run, MP.r_un, MP.r_un0, MP.r_nx, MP.r_ret, MP.r_exc, MP.t_nx, MP.t_cont, MP.t_brk, MP.t_ret, MP.b_nm, MP.b_tp2, MP.b_tp3, MP.t_bk, MP.fe_pop, MP.s_appF, MP.s_dead, MP.g_divmod, MP.g_sorted, MP.g_allB, MP.g_anyB, MP.g_sumI, MP.g_zipT, MP.g_zipL, MP.e_pZip, MP.e_xZp, MP.g_abs, MP.g_intI, MP.g_intB, MP.g_repT, MP.e_pLRng, MP.e_xLR, MP.f_Pop, MP.f_xPop, MP.s_AppF, MP.s_xAF0, MP.s_xAF, MP.s_xAF2, MP.g_inI, MP.g_ninI, MP.g_inT, MP.g_ninT, MP.g_ninST, MP.e_c2, MP.e_c3, MP.e_c4, MP.e_c5, MP.e_pIsi, List.getElem?_cons_zero, List.getElem?_cons_succ, List.getElem?_nil, List.set_cons_zero, List.set_cons_succ, List.map_cons, List.map_nil, List.length_cons, List.length_nil, List.length_append, List.cons_append, List.nil_append, List.length_map, List.length_singleton, Nat.reduceBEq, Nat.reduceAdd, Nat.reduceSub, Nat.reduceMul, Nat.reduceEqDiff, Nat.reduceLeDiff, Nat.reduceLT, if_false, if_true, ite_true, ite_false, ↓reduceIte, Bool.not_true, Bool.not_false, Bool.false_eq_true, decide_true, decide_false, eq_self, and_true, true_and, and_self, Nat.zero_le, Nat.zero_add, Option.bind_some, Option.bind_none, Nat.lt_irrefl, Int.reduceToNat, Int.reducePow, Int.reduceNeg, Int.reduceMul, Int.reduceAdd, Int.reduceSub, Int.reduceLT, Int.reduceLE, Int.reduceEq, beq_self_eq_true, wipeE, MP.at0, MP.at1, MP.at2, MP.atLit, hll]) ⟨_, _, rfl⟩ (by
    rintro i d s hd ⟨x2, x3, rfl⟩
    obtain ⟨rfl, hi⟩ := rngAt hd
    have hat : b.ls[i]? = some (b.ls[i]'(by omega)) := by simp
    generalize b.ls[i]'(by omega) = r at hat
    have hrl := g.len r (List.mem_of_getElem? hat)
    have hat2 : (b.ls.map rowD)[i]? = some (.tup (r.map Mn.D)) := by rw [List.getElem?_map, hat]; rfl
    have hrl2 : (((r.map Mn.D).length : Nat) : Int) = (b.K : Nat) := by simp [hrl]
    have hin : ∃ x3', loopL (.nm 3) lp_check_layers_1 (rng 0 (b.K : Int)) ⟨[.v (.int (b.K : Nat)), .v (.tup (b.ls.map rowD)), .v (.int (i : Nat)), x3], []⟩ = .nx ⟨[.v (.int (b.K : Nat)), .v (.tup (b.ls.map rowD)), .v (.int (i : Nat)), x3'], []⟩ := by
      obtain ⟨s', e1, x3', rfl⟩ := loopE (t := .nm 3) (g := lp_check_layers_1) (s := ⟨[.v (.int (b.K : Nat)), .v (.tup (b.ls.map rowD)), .v (.int (i : Nat)), x3], []⟩) (rng 0 (b.K : Int)) (fun _ s => ∃ x3', s = ⟨[.v (.int (b.K : Nat)), .v (.tup (b.ls.map rowD)), .v (.int (i : Nat)), x3'], []⟩) ⟨_, rfl⟩ (by
        rintro k d s hd ⟨x3', rfl⟩
        obtain ⟨rfl, hk⟩ := rngAt hd
        have hk2 : k < r.length := by omega
        have hm : r[k]? = some r[k] := by simp
        generalize r[k] = m at hm
        have hm2 : (r.map Mn.D)[k]? = some m.D := by rw [List.getElem?_map, hm]; rfl
        have he := m_ismeaning m i b.ls.length (g.ok i r hat m (List.mem_of_getElem? hm))
        refine ⟨_, b_nm .., ?_⟩
        unfold lp_check_layers_1
        simp (disch := (first | assumption | with_reducible rfl | decide +kernel | exact Or.inl (by decide +kernel) | exact Or.inr (by decide +kernel) | omega | (simp only [List.length_cons, List.length_nil, List.length_append, List.length_map, List.length_replicate, List.length_range] <;> omega) | rfl)) only [MP.of_some, MP.map_some, MP.e_lv, MP.e_lo, MP.e_pD, MP.e_xDs, MP.e_xDf, MP.e_pC, MP.e_pYes, MP.e_pVar, MP.e_p2, MP.e_x2, MP.e_p1, MP.e_x1, MP.e_pB, MP.e_xB, MP.e_pNot, MP.e_xNot, MP.e_pAnd, MP.e_xAndT, MP.e_xAndF, MP.e_pOr, MP.e_xOrT, MP.e_xOrF, MP.e_pAndV, MP.e_xAndVT, MP.e_xAndVF, MP.e_pOrV, MP.e_xOrVT, MP.e_xOrVF, MP.e_pNotV, MP.e_xNotV, MP.e_pIf, MP.e_xIfT, MP.e_xIfF, MP.e_p3, MP.e_x3, MP.e_x3bT, MP.e_x3bF, MP.e_pNil, MP.e_pCons, MP.e_xCons, MP.e_pTup, MP.e_xTp, MP.e_pLst, MP.e_xLs, MP.e_pNo, MP.e_pSome, MP.e_xSo, MP.e_pSl, MP.e_xSl, MP.e_pCall, MP.e_xG, MP.e_pSeq, MP.e_xSq, MP.e_pSeqR, MP.e_xSqR, MP.e_pRng, MP.e_pEnum, MP.e_xEn, MP.e_pComp, MP.e_xC, MP.e_xC2, MP.e_pUser, MP.e_xU, MP.e_xFv, MP.e_xFo, MP.e_xFe, MP.e_pSeal, MP.e_xSe, MP.e_xSeFv, MP.e_xSeFo, MP.e_pLook, MP.e_xLo, MP.e_xLoF, MP.e_pFld, MP.e_xFd, MP.e_xOb, MP.e_xLk0, MP.e_xLk1, MP.e_c0, MP.e_c1, MP.g_add, MP.g_catS, MP.g_catL, MP.g_catT, MP.g_sub, MP.g_mul, MP.g_rep, MP.g_div, MP.g_mod, MP.g_pow, MP.g_shl, MP.g_shr, MP.g_and, MP.g_orI, MP.g_neg, MP.g_lt, MP.g_le, MP.g_gt, MP.g_ge, MP.g_eqI, MP.g_eqS, MP.g_eqBo, MP.g_neI, MP.g_neS, MP.g_neBo, MP.g_is, MP.g_isNot, MP.n_none, MP.n_int, MP.n_str, MP.n_tup, MP.n_list, MP.n_bool, MP.g_max, MP.g_min, MP.g_lenL, MP.g_lenK, MP.g_lenT, MP.g_listL, MP.g_listK, MP.g_listT, MP.g_tupL, MP.g_tupT, MP.q_list, MP.q_lk, MP.q_tup, MP.g_rng1, MP.g_rng2, MP.g_enumL, MP.g_enumK, MP.g_ixL, MP.g_ixK, MP.g_ixT, MP.g_slL, MP.g_slK, MP.g_slT, MP.s_Nil, MP.s_Brk, MP.s_Cont, MP.s_Seq, MP.s_xSn, MP.s_xSr, MP.s_xSb, MP.s_xSc, MP.s_xSe, MP.s_Expr, MP.s_xEx, MP.s_SetV, MP.s_xSV, MP.s_SetO, MP.s_xSOs, MP.s_xSOf, MP.s_Ret, MP.s_xRts, MP.s_xRtf, MP.s_RetN, MP.s_RetS, MP.s_xRSo, MP.s_xRSv, MP.s_If, MP.s_xIfT, MP.s_xIfF, MP.s_Tup, MP.s_xTu, MP.s_xTb, MP.s_For, MP.s_xFor, MP.s_App, MP.s_xAp, MP.s_Thaw, MP.s_xTh, MP.s_Frz, MP.s_xFzo, MP.s_xFzv, MP.s_ExprF, MP.s_xEF, MP.s_SetF, MP.s_xSF, MP.s_RetF, MP.s_xRF, MP.s_IfF, MP.s_xIFT, MP.s_xIFF, MP.s_FldN, MP.s_xN, MP.s_xN2, MP.s_xN3, MP.s_put0, MP.s_put1, MP.s_putN, MP.f_P, MP.f_xPs, MP.f_xPf, MP.f_User, MP.f_xFU, MP.f_Meth, MP.f_xM, MP.f_xM2, MP.f_Make, MP.f_xMk, MP.f_xMkF, MP.fe_ok, MP.r_run, MP.r_un, MP.r_un0, MP.r_nx, MP.r_ret, MP.r_exc, MP.t_nx, MP.t_cont, MP.t_brk, MP.t_ret, MP.b_nm, MP.b_tp2, MP.b_tp3, MP.t_bk, MP.fe_pop, MP.s_appF, MP.s_dead, MP.g_divmod, MP.g_sorted, MP.g_allB, MP.g_anyB, MP.g_sumI, MP.g_zipT, MP.g_zipL, MP.e_pZip, MP.e_xZp, MP.g_abs, MP.g_intI, MP.g_intB, MP.g_repT, MP.e_pLRng, MP.e_xLR, MP.f_Pop, MP.f_xPop, MP.s_AppF, MP.s_xAF0, MP.s_xAF, MP.s_xAF2, MP.g_inI, MP.g_ninI, MP.g_inT, MP.g_ninT, MP.g_ninST, MP.e_c2, MP.e_c3, MP.e_c4, MP.e_c5, MP.e_pIsi, List.getElem?_cons_zero, List.getElem?_cons_succ, List.getElem?_nil, List.set_cons_zero, List.set_cons_succ, List.map_cons, List.map_nil, List.length_cons, List.length_nil, List.length_append, List.cons_append, List.nil_append, List.length_map, List.length_singleton, Nat.reduceBEq, Nat.reduceAdd, Nat.reduceSub, Nat.reduceMul, Nat.reduceEqDiff, Nat.reduceLeDiff, Nat.reduceLT, if_false, if_true, ite_true, ite_false, ↓reduceIte, Bool.not_true, Bool.not_false, Bool.false_eq_true, decide_true, decide_false, eq_self, and_true, true_and, and_self, Nat.zero_le, Nat.zero_add, Option.bind_some, Option.bind_none, Nat.lt_irrefl, Int.reduceToNat, Int.reducePow, Int.reduceNeg, Int.reduceMul, Int.reduceAdd, Int.reduceSub, Int.reduceLT, Int.reduceLE, Int.reduceEq, beq_self_eq_true, wipeE, MP.at0, MP.at1, MP.at2, MP.atLit, atN, hat2, hm2, hll, he]
        exact ⟨_, rfl⟩)
      exact ⟨x3', e1⟩
    obtain ⟨x3', hin⟩ := hin
    have hrl3 : ((b.K : Nat) : Int) < 4611686018427387904 := by omega
    refine ⟨_, b_nm .., ?_⟩
    unfold lp_check_layers_2
    generalize hrm : r.map Mn.D = rm at hat2 hrl2
    simp (disch := (first | assumption | with_reducible rfl | decide +kernel | exact Or.inl (by decide +kernel) | exact Or.inr (by decide +kernel) | omega | (simp only [List.length_cons, List.length_nil, List.length_append, List.length_map, List.length_replicate, List.length_range] <;> omega) | rfl)) only [MP.of_some, MP.map_some, MP.e_lv, MP.e_lo, MP.e_pD, MP.e_xDs, MP.e_xDf, MP.e_pC, MP.e_pYes, MP.e_pVar, MP.e_p2, MP.e_x2, MP.e_p1, MP.e_x1, MP.e_pB, MP.e_xB, MP.e_pNot, MP.e_xNot, MP.e_pAnd, MP.e_xAndT, MP.e_xAndF, MP.e_pOr, MP.e_xOrT, MP.e_xOrF, MP.e_pAndV, MP.e_xAndVT, MP.e_xAndVF, MP.e_pOrV, MP.e_xOrVT, MP.e_xOrVF, MP.e_pNotV, MP.e_xNotV, MP.e_pIf, MP.e_xIfT, MP.e_xIfF, MP.e_p3, MP.e_x3, MP.e_x3bT, MP.e_x3bF, MP.e_pNil, MP.e_pCons, MP.e_xCons, MP.e_pTup, MP.e_xTp, MP.e_pLst, MP.e_xLs, MP.e_pNo, MP.e_pSome, MP.e_xSo, MP.e_pSl, MP.e_xSl, MP.e_pCall, MP.e_xG, MP.e_pSeq, MP.e_xSq, MP.e_pSeqR, MP.e_xSqR, MP.e_pRng, MP.e_pEnum, MP.e_xEn, MP.e_pComp, MP.e_xC, MP.e_xC2, MP.e_pUser, MP.e_xU, MP.e_xFv, MP.e_xFo, MP.e_xFe, MP.e_pSeal, MP.e_xSe, MP.e_xSeFv, MP.e_xSeFo, MP.e_pLook, MP.e_xLo, MP.e_xLoF, MP.e_pFld, MP.e_xFd, MP.e_xOb, MP.e_xLk0, MP.e_xLk1, MP.e_c0, MP.e_c1, MP.g_add, MP.g_catS, MP.g_catL, MP.g_catT, MP.g_sub, MP.g_mul, MP.g_rep, MP.g_div, MP.g_mod, MP.g_pow, MP.g_shl, MP.g_shr, MP.g_and, MP.g_orI, MP.g_neg, MP.g_lt, MP.g_le, MP.g_gt, MP.g_ge, MP.g_eqI, MP.g_eqS, MP.g_eqBo, MP.g_neI, MP.g_neS, MP.g_neBo, MP.g_is, MP.g_isNot, MP.n_none, MP.n_int, MP.n_str, MP.n_tup, MP.n_list, MP.n_bool, MP.g_max, MP.g_min, MP.g_lenL, MP.g_lenK, MP.g_lenT, MP.g_listL, MP.g_listK, MP.g_listT, MP.g_tupL, MP.g_tupT, MP.q_list, MP.q_lk, MP.q_tup, MP.g_rng1, MP.g_rng2, MP.g_enumL, MP.g_enumK, MP.g_ixL, MP.g_ixK, MP.g_ixT, MP.g_slL, MP.g_slK, MP.g_slT, MP.s_Nil, MP.s_Brk, MP.s_Cont, MP.s_Seq, MP.s_xSn, MP.s_xSr, MP.s_xSb, MP.s_xSc, MP.s_xSe, MP.s_Expr, MP.s_xEx, MP.s_SetV, MP.s_xSV, MP.s_SetO, MP.s_xSOs, MP.s_xSOf, MP.s_Ret, MP.s_xRts, MP.s_xRtf, MP.s_RetN, MP.s_RetS, MP.s_xRSo, MP.s_xRSv, MP.s_If, MP.s_xIfT, MP.s_xIfF, MP.s_Tup, MP.s_xTu, MP.s_xTb, MP.s_For, MP.s_xFor, MP.s_App, MP.s_xAp, MP.s_Thaw, MP.s_xTh, MP.s_Frz, MP.s_xFzo, MP.s_xFzv, MP.s_ExprF, MP.s_xEF, MP.s_SetF, MP.s_xSF, MP.s_RetF, MP.s_xRF, MP.s_IfF, MP.s_xIFT, MP.s_xIFF, MP.s_FldN, MP.s_xN, MP.s_xN2, MP.s_xN3, MP.s_put0, MP.s_put1, MP.s_putN, MP.f_P, MP.f_xPs, MP.f_xPf, MP.f_User, MP.f_xFU, MP.f_Meth, MP.f_xM, MP.f_xM2, MP.f_Make, MP.f_xMk, MP.f_xMkF, MP.fe_ok, MP.r_run, MP.r_un, MP.r_un0, MP.r_nx, MP.r_ret, MP.r_exc, MP.t_nx, MP.t_cont, MP.t_brk, MP.t_ret, MP.b_nm, MP.b_tp2, MP.b_tp3, MP.t_bk, MP.fe_pop, MP.s_appF, MP.s_dead, MP.g_divmod, MP.g_sorted, MP.g_allB, MP.g_anyB, MP.g_sumI, MP.g_zipT, MP.g_zipL, MP.e_pZip, MP.e_xZp, MP.g_abs, MP.g_intI, MP.g_intB, MP.g_repT, MP.e_pLRng, MP.e_xLR, MP.f_Pop, MP.f_xPop, MP.s_AppF, MP.s_xAF0, MP.s_xAF, MP.s_xAF2, MP.g_inI, MP.g_ninI, MP.g_inT, MP.g_ninT, MP.g_ninST, MP.e_c2, MP.e_c3, MP.e_c4, MP.e_c5, MP.e_pIsi, List.getElem?_cons_zero, List.getElem?_cons_succ, List.getElem?_nil, List.set_cons_zero, List.set_cons_succ, List.map_cons, List.map_nil, List.length_cons, List.length_nil, List.length_append, List.cons_append, List.nil_append, List.length_map, List.length_singleton, Nat.reduceBEq, Nat.reduceAdd, Nat.reduceSub, Nat.reduceMul, Nat.reduceEqDiff, Nat.reduceLeDiff, Nat.reduceLT, if_false, if_true, ite_true, ite_false, ↓reduceIte, Bool.not_true, Bool.not_false, Bool.false_eq_true, decide_true, decide_false, eq_self, and_true, true_and, and_self, Nat.zero_le, Nat.zero_add, Option.bind_some, Option.bind_none, Nat.lt_irrefl, Int.reduceToNat, Int.reducePow, Int.reduceNeg, Int.reduceMul, Int.reduceAdd, Int.reduceSub, Int.reduceLT, Int.reduceLE, Int.reduceEq, beq_self_eq_true, wipeE, MP.at0, MP.at1, MP.at2, MP.atLit, atN, hat2, hrl2, hin]
    exact ⟨_, _, rfl⟩)
  rw [e1]
  simp (disch := (first | assumption | with_reducible rfl | decide +kernel | exact Or.inl (by decide +kernel) | exact Or.inr (by decide +kernel) | omega | (simp only [List.length_cons, List.length_nil, List.length_append, List.length_map, List.length_replicate, List.length_range] <;> omega) | rfl)) only [MP.of_some, MP.map_some, MP.e_lv, MP.e_lo, MP.e_pD, MP.e_xDs, MP.e_xDf, MP.e_pC, MP.e_pYes, MP.e_pVar, MP.e_p2, MP.e_x2, MP.e_p1, MP.e_x1, MP.e_pB, MP.e_xB, MP.e_pNot, MP.e_xNot, MP.e_pAnd, MP.e_xAndT, MP.e_xAndF, MP.e_pOr, MP.e_xOrT, MP.e_xOrF, MP.e_pAndV, MP.e_xAndVT, MP.e_xAndVF, MP.e_pOrV, MP.e_xOrVT, MP.e_xOrVF, MP.e_pNotV, MP.e_xNotV, MP.e_pIf, MP.e_xIfT, MP.e_xIfF, MP.e_p3, MP.e_x3, MP.e_x3bT, MP.e_x3bF, MP.e_pNil, MP.e_pCons, MP.e_xCons, MP.e_pTup, MP.e_xTp, MP.e_pLst, MP.e_xLs, MP.e_pNo, MP.e_pSome, MP.e_xSo, MP.e_pSl, MP.e_xSl, MP.e_pCall, MP.e_xG, MP.e_pSeq, MP.e_xSq, MP.e_pSeqR, MP.e_xSqR, MP.e_pRng, MP.e_pEnum, MP.e_xEn, MP.e_pComp, MP.e_xC, MP.e_xC2, MP.e_pUser, MP.e_xU, MP.e_xFv, MP.e_xFo, MP.e_xFe, MP.e_pSeal, MP.e_xSe, MP.e_xSeFv, MP.e_xSeFo, MP.e_pLook, MP.e_xLo, MP.e_xLoF, MP.e_pFld, MP.e_xFd, MP.e_xOb, MP.e_xLk0, MP.e_xLk1, MP.e_c0, MP.e_c1, MP.g_add, MP.g_catS, MP.g_catL, MP.g_catT, MP.g_sub, MP.g_mul, MP.g_rep, MP.g_div, MP.g_mod, MP.g_pow, MP.g_shl, MP.g_shr, MP.g_and, MP.g_orI, MP.g_neg, MP.g_lt, MP.g_le, MP.g_gt, MP.g_ge, MP.g_eqI, MP.g_eqS, MP.g_eqBo, MP.g_neI, MP.g_neS, MP.g_neBo, MP.g_is, MP.g_isNot, MP.n_none, MP.n_int, MP.n_str, MP.n_tup, MP.n_list, MP.n_bool, MP.g_max, MP.g_min, MP.g_lenL, MP.g_lenK, MP.g_lenT, MP.g_listL, MP.g_listK, MP.g_listT, MP.g_tupL, MP.g_tupT, MP.q_list, MP.q_lk, MP.q_tup, MP.g_rng1, MP.g_rng2, MP.g_enumL, MP.g_enumK, MP.g_ixL, MP.g_ixK, MP.g_ixT, MP.g_slL, MP.g_slK, MP.g_slT, MP.s_Nil, MP.s_Brk, MP.s_Cont, MP.s_Seq, MP.s_xSn, MP.s_xSr, MP.s_xSb, MP.s_xSc, MP.s_xSe, MP.s_Expr, MP.s_xEx, MP.s_SetV, MP.s_xSV, MP.s_SetO, MP.s_xSOs, MP.s_xSOf, MP.s_Ret, MP.s_xRts, MP.s_xRtf, MP.s_RetN, MP.s_RetS, MP.s_xRSo, MP.s_xRSv, MP.s_If, MP.s_xIfT, MP.s_xIfF, MP.s_Tup, MP.s_xTu, MP.s_xTb, MP.s_For, MP.s_xFor, MP.s_App, MP.s_xAp, MP.s_Thaw, MP.s_xTh, MP.s_Frz, MP.s_xFzo, MP.s_xFzv, MP.s_ExprF, MP.s_xEF, MP.s_SetF, MP.s_xSF, MP.s_RetF, MP.s_xRF, MP.s_IfF, MP.s_xIFT, MP.s_xIFF, MP.s_FldN, MP.s_xN, MP.s_xN2, MP.s_xN3, MP.s_put0, MP.s_put1, MP.s_putN, MP.f_P, MP.f_xPs, MP.f_xPf, MP.f_User, MP.f_xFU, MP.f_Meth, MP.f_xM, MP.f_xM2, MP.f_Make, MP.f_xMk, MP.f_xMkF, MP.fe_ok, MP.r_run, MP.r_un, MP.r_un0, MP.r_nx, MP.r_ret, MP.r_exc, MP.t_nx, MP.t_cont, MP.t_brk, MP.t_ret, MP.b_nm, MP.b_tp2, MP.b_tp3, MP.t_bk, MP.fe_pop, MP.s_appF, MP.s_dead, MP.g_divmod, MP.g_sorted, MP.g_allB, MP.g_anyB, MP.g_sumI, MP.g_zipT, MP.g_zipL, MP.e_pZip, MP.e_xZp, MP.g_abs, MP.g_intI, MP.g_intB, MP.g_repT, MP.e_pLRng, MP.e_xLR, MP.f_Pop, MP.f_xPop, MP.s_AppF, MP.s_xAF0, MP.s_xAF, MP.s_xAF2, MP.g_inI, MP.g_ninI, MP.g_inT, MP.g_ninT, MP.g_ninST, MP.e_c2, MP.e_c3, MP.e_c4, MP.e_c5, MP.e_pIsi, List.getElem?_cons_zero, List.getElem?_cons_succ, List.getElem?_nil, List.set_cons_zero, List.set_cons_succ, List.map_cons, List.map_nil, List.length_cons, List.length_nil, List.length_append, List.cons_append, List.nil_append, List.length_map, List.length_singleton, Nat.reduceBEq, Nat.reduceAdd, Nat.reduceSub, Nat.reduceMul, Nat.reduceEqDiff, Nat.reduceLeDiff, Nat.reduceLT, if_false, if_true, ite_true, ite_false, ↓reduceIte, Bool.not_true, Bool.not_false, Bool.false_eq_true, decide_true, decide_false, eq_self, and_true, true_and, and_self, Nat.zero_le, Nat.zero_add, Option.bind_some, Option.bind_none, Nat.lt_irrefl, Int.reduceToNat, Int.reducePow, Int.reduceNeg, Int.reduceMul, Int.reduceAdd, Int.reduceSub, Int.reduceLT, Int.reduceLE, Int.reduceEq, beq_self_eq_true, wipeE, MP.at0, MP.at1, MP.at2, MP.atLit]
theorem zip_nD : ∀ (a b : List Nat), zipD (nD a) (nD b) = (a.zip b).map fun p => D.tup [.int (p.1 : Nat), .int (p.2 : Nat)]
  | [], b => by cases b <;> rfl
  | x :: a, [] => rfl
  | x :: a, y :: b => by
    show _ :: zipD (nD a) (nD b) = _
    rw [zip_nD a b]
    rfl
theorem rise_zip : ∀ (l : List Nat), l.Pairwise (· < ·) → ∀ p ∈ l.zip (l.drop 1), p.1 < p.2
  | [], _, p, hp => by cases hp
  | [x], _, p, hp => by cases hp
  | x :: y :: l, h, p, hp => by
    have h1 := List.pairwise_cons.mp h
    show p.1 < p.2
    have hp' : p ∈ (x, y) :: ((y :: l).zip l) := hp
    rcases List.mem_cons.mp hp' with rfl | hp'
    · exact h1.1 y (List.mem_cons_self ..)
    · exact rise_zip (y :: l) h1.2 p hp'
theorem m_isset (ks : List Nat) (K : Nat) (h2 : 2 ≤ ks.length) (h5 : ks.length ≤ 5) (up : ks.Pairwise (· < ·)) (hk : ∀ k ∈ ks, k < K) : sem_is_set [.tup (nD ks), .int (K : Nat)] [] = .ok (.v (.bool true)) [] := by
  have hl := nD_len ks
  have h0 : (nD ks)[0]? = some (.int (ks.getD 0 0 : Nat)) := by
    unfold nD
    rw [List.getElem?_map, List.getElem?_eq_getElem (by omega), List.getD_eq_getElem?_getD, List.getElem?_eq_getElem (by omega)]
    rfl
  have hlast : ∃ z ∈ ks, (nD ks).getLast? = some (.int (z : Nat)) := by
    cases hg : ks.getLast? with
    | none =>
      have := List.getLast?_eq_none_iff.mp hg
      subst this
      simp at h2
    | some z =>
      refine ⟨z, List.mem_of_getLast? hg, ?_⟩
      unfold nD
      rw [List.getLast?_map, hg]
      rfl
  obtain ⟨z, hz, hlast⟩ := hlast
  have hzk := hk z hz
  have e1 : ¬ ((ks.length : Int) < 2) := by omega
  have e2 : (0 : Int) ≤ ((ks.getD 0 0 : Nat) : Int) := by omega
  have e3 : (z : Int) < (K : Int) := by omega
  have hcut : cutD (nD ks) (some 1) none = nD (ks.drop 1) := by
    rw [cut_lo _ (by decide)]
    unfold nD
    rw [List.map_drop]
    rfl
  have hc : compL (.tp [2, 3]) pYes (pD (p2 gLt (pVar 2) (pVar 3))) ⟨[.v (.tup (nD ks)), .v (.int (K : Nat)), .un, .un], []⟩ (zipD (nD ks) (nD (ks.drop 1))) = .ok (((ks.zip (ks.drop 1)).map fun _ => true).map D.bool) := by
    rw [zip_nD, List.map_map]
    refine compA _ _ _ fun p hp => ⟨_, b_tp2 .., ?_⟩
    have := rise_zip ks up p hp
    have h' : ((p.1 : Nat) : Int) < (p.2 : Nat) := by omega
    simp (disch := (first | assumption | with_reducible rfl | decide +kernel | exact Or.inl (by decide +kernel) | exact Or.inr (by decide +kernel) | omega | (simp only [List.length_cons, List.length_nil, List.length_append, List.length_map, List.length_replicate, List.length_range] <;> omega) | rfl)) only [MP.of_some, MP.map_some, MP.e_lv, MP.e_lo, MP.e_pD, MP.e_xDs, MP.e_xDf, MP.e_pC, MP.e_pYes, MP.e_pVar, MP.e_p2, MP.e_x2, MP.e_p1, MP.e_x1, MP.e_pB, MP.e_xB, MP.e_pNot, MP.e_xNot, MP.e_pAnd, MP.e_xAndT, MP.e_xAndF, MP.e_pOr, MP.e_xOrT, MP.e_xOrF, MP.e_pAndV, MP.e_xAndVT, MP.e_xAndVF, MP.e_pOrV, MP.e_xOrVT, MP.e_xOrVF, MP.e_pNotV, MP.e_xNotV, MP.e_pIf, MP.e_xIfT, MP.e_xIfF, MP.e_p3, MP.e_x3, MP.e_x3bT, MP.e_x3bF, MP.e_pNil, MP.e_pCons, MP.e_xCons, MP.e_pTup, MP.e_xTp, MP.e_pLst, MP.e_xLs, MP.e_pNo, MP.e_pSome, MP.e_xSo, MP.e_pSl, MP.e_xSl, MP.e_pCall, MP.e_xG, MP.e_pSeq, MP.e_xSq, MP.e_pSeqR, MP.e_xSqR, MP.e_pRng, MP.e_pEnum, MP.e_xEn, MP.e_pComp, MP.e_xC, MP.e_xC2, MP.e_pUser, MP.e_xU, MP.e_xFv, MP.e_xFo, MP.e_xFe, MP.e_pSeal, MP.e_xSe, MP.e_xSeFv, MP.e_xSeFo, MP.e_pLook, MP.e_xLo, MP.e_xLoF, MP.e_pFld, MP.e_xFd, MP.e_xOb, MP.e_xLk0, MP.e_xLk1, MP.e_c0, MP.e_c1, MP.g_add, MP.g_catS, MP.g_catL, MP.g_catT, MP.g_sub, MP.g_mul, MP.g_rep, MP.g_div, MP.g_mod, MP.g_pow, MP.g_shl, MP.g_shr, MP.g_and, MP.g_orI, MP.g_neg, MP.g_lt, MP.g_le, MP.g_gt, MP.g_ge, MP.g_eqI, MP.g_eqS, MP.g_eqBo, MP.g_neI, MP.g_neS, MP.g_neBo, MP.g_is, MP.g_isNot, MP.n_none, MP.n_int, MP.n_str, MP.n_tup, MP.n_list, MP.n_bool, MP.g_max, MP.g_min, MP.g_lenL, MP.g_lenK, MP.g_lenT, MP.g_listL, MP.g_listK, MP.g_listT, MP.g_tupL, MP.g_tupT, MP.q_list, MP.q_lk, MP.q_tup, MP.g_rng1, MP.g_rng2, MP.g_enumL, MP.g_enumK, MP.g_ixL, MP.g_ixK, MP.g_ixT, MP.g_slL, MP.g_slK, MP.g_slT, MP.s_Nil, MP.s_Brk, MP.s_Cont, MP.s_Seq, MP.s_xSn, MP.s_xSr, MP.s_xSb, MP.s_xSc, MP.s_xSe, MP.s_Expr, MP.s_xEx, MP.s_SetV, MP.s_xSV, MP.s_SetO, MP.s_xSOs, MP.s_xSOf, MP.s_Ret, MP.s_xRts, MP.s_xRtf, MP.s_RetN, MP.s_RetS, MP.s_xRSo, MP.s_xRSv, MP.s_If, MP.s_xIfT, MP.s_xIfF, MP.s_Tup, MP.s_xTu, MP.s_xTb, MP.s_For, MP.s_xFor, MP.s_App, MP.s_xAp, MP.s_Thaw, MP.s_xTh, MP.s_Frz, MP.s_xFzo, MP.s_xFzv, MP.s_ExprF, MP.s_xEF, MP.s_SetF, MP.s_xSF, MP.s_RetF, MP.s_xRF, MP.s_IfF, MP.s_xIFT, MP.s_xIFF, MP.s_FldN, MP.s_xN, MP.s_xN2, MP.s_xN3, MP.s_put0, MP.s_put1, MP.s_putN, MP.f_P, MP.f_xPs, MP.f_xPf, MP.f_User, MP.f_xFU, MP.f_Meth, MP.f_xM, MP.f_xM2, MP.f_Make, MP.f_xMk, MP.f_xMkF, MP.fe_ok, MP.r_run, MP.r_un, MP.r_un0, MP.r_nx, MP.r_ret, MP.r_exc, MP.t_nx, MP.t_cont, MP.t_brk, MP.t_ret, MP.b_nm, MP.b_tp2, MP.b_tp3, MP.t_bk, MP.fe_pop, MP.s_appF, MP.s_dead, MP.g_divmod, MP.g_sorted, MP.g_allB, MP.g_anyB, MP.g_sumI, MP.g_zipT, MP.g_zipL, MP.e_pZip, MP.e_xZp, MP.g_abs, MP.g_intI, MP.g_intB, MP.g_repT, MP.e_pLRng, MP.e_xLR, MP.f_Pop, MP.f_xPop, MP.s_AppF, MP.s_xAF0, MP.s_xAF, MP.s_xAF2, MP.g_inI, MP.g_ninI, MP.g_inT, MP.g_ninT, MP.g_ninST, MP.e_c2, MP.e_c3, MP.e_c4, MP.e_c5, MP.e_pIsi, List.getElem?_cons_zero, List.getElem?_cons_succ, List.getElem?_nil, List.set_cons_zero, List.set_cons_succ, List.map_cons, List.map_nil, List.length_cons, List.length_nil, List.length_append, List.cons_append, List.nil_append, List.length_map, List.length_singleton, Nat.reduceBEq, Nat.reduceAdd, Nat.reduceSub, Nat.reduceMul, Nat.reduceEqDiff, Nat.reduceLeDiff, Nat.reduceLT, if_false, if_true, ite_true, ite_false, ↓reduceIte, Bool.not_true, Bool.not_false, Bool.false_eq_true, decide_true, decide_false, eq_self, and_true, true_and, and_self, Nat.zero_le, Nat.zero_add, Option.bind_some, Option.bind_none, Nat.lt_irrefl, Int.reduceToNat, Int.reducePow, Int.reduceNeg, Int.reduceMul, Int.reduceAdd, Int.reduceSub, Int.reduceLT, Int.reduceLE, Int.reduceEq, beq_self_eq_true, wipeE, MP.at0, MP.at1, MP.at2, MP.atLit, h']
    rfl
  have hzl : (zipD (nD ks) (nD (ks.drop 1))).length ≤ 5 := by rw [zipD_len]; omega
  have ha : ((ks.zip (ks.drop 1)).map fun _ => true).all id = true := by rw [List.all_map]; exact List.all_eq_true.mpr fun _ _ => rfl
  unfold sem_is_set b_is_set
  simp (disch := (first | assumption | with_reducible rfl | decide +kernel | exact Or.inl (by decide +kernel) | exact Or.inr (by decide +kernel) | omega | (simp only [List.length_cons, List.length_nil, List.length_append, List.length_map, List.length_replicate, List.length_range] <;> omega) | rfl)) only [MP.of_some, MP.map_some, MP.e_lv, MP.e_lo, MP.e_pD, MP.e_xDs, MP.e_xDf, MP.e_pC, MP.e_pYes, MP.e_pVar, MP.e_p2, MP.e_x2, MP.e_p1, MP.e_x1, MP.e_pB, MP.e_xB, MP.e_pNot, MP.e_xNot, MP.e_pAnd, MP.e_xAndT, MP.e_xAndF, MP.e_pOr, MP.e_xOrT, MP.e_xOrF, MP.e_pAndV, MP.e_xAndVT, MP.e_xAndVF, MP.e_pOrV, MP.e_xOrVT, MP.e_xOrVF, MP.e_pNotV, MP.e_xNotV, MP.e_pIf, MP.e_xIfT, MP.e_xIfF, MP.e_p3, MP.e_x3, MP.e_x3bT, MP.e_x3bF, MP.e_pNil, MP.e_pCons, MP.e_xCons, MP.e_pTup, MP.e_xTp, MP.e_pLst, MP.e_xLs, MP.e_pNo, MP.e_pSome, MP.e_xSo, MP.e_pSl, MP.e_xSl, MP.e_pCall, MP.e_xG, MP.e_pSeq, MP.e_xSq, MP.e_pSeqR, MP.e_xSqR, MP.e_pRng, MP.e_pEnum, MP.e_xEn, MP.e_pComp, MP.e_xC, MP.e_xC2, MP.e_pUser, MP.e_xU, MP.e_xFv, MP.e_xFo, MP.e_xFe, MP.e_pSeal, MP.e_xSe, MP.e_xSeFv, MP.e_xSeFo, MP.e_pLook, MP.e_xLo, MP.e_xLoF, MP.e_pFld, MP.e_xFd, MP.e_xOb, MP.e_xLk0, MP.e_xLk1, MP.e_c0, MP.e_c1, MP.g_add, MP.g_catS, MP.g_catL, MP.g_catT, MP.g_sub, MP.g_mul, MP.g_rep, MP.g_div, MP.g_mod, MP.g_pow, MP.g_shl, MP.g_shr, MP.g_and, MP.g_orI, MP.g_neg, MP.g_lt, MP.g_le, MP.g_gt, MP.g_ge, MP.g_eqI, MP.g_eqS, MP.g_eqBo, MP.g_neI, MP.g_neS, MP.g_neBo, MP.g_is, MP.g_isNot, MP.n_none, MP.n_int, MP.n_str, MP.n_tup, MP.n_list, MP.n_bool, MP.g_max, MP.g_min, MP.g_lenL, MP.g_lenK, MP.g_lenT, MP.g_listL, MP.g_listK, MP.g_listT, MP.g_tupL, MP.g_tupT, MP.q_list, MP.q_lk, MP.q_tup, MP.g_rng1, MP.g_rng2, MP.g_enumL, MP.g_enumK, MP.g_ixL, MP.g_ixK, MP.g_ixT, MP.g_slL, MP.g_slK, MP.g_slT, MP.s_Nil, MP.s_Brk, MP.s_Cont, MP.s_Seq, MP.s_xSn, MP.s_xSr, MP.s_xSb, MP.s_xSc, MP.s_xSe, MP.s_Expr, MP.s_xEx, MP.s_SetV, MP.s_xSV, MP.s_SetO, MP.s_xSOs, MP.s_xSOf, MP.s_Ret, MP.s_xRts, MP.s_xRtf, MP.s_RetN, MP.s_RetS, MP.s_xRSo, MP.s_xRSv, MP.s_If, MP.s_xIfT, MP.s_xIfF, MP.s_Tup, MP.s_xTu, MP.s_xTb, MP.s_For, MP.s_xFor, MP.s_App, MP.s_xAp, MP.s_Thaw, MP.s_xTh, MP.s_Frz, MP.s_xFzo, MP.s_xFzv, MP.s_ExprF, MP.s_xEF, MP.s_SetF, MP.s_xSF, MP.s_RetF, MP.s_xRF, MP.s_IfF, MP.s_xIFT, MP.s_xIFF, MP.s_FldN, MP.s_xN, MP.s_xN2, MP.s_xN3, MP.s_put0, MP.s_put1, MP.s_putN, MP.f_P, MP.f_xPs, MP.f_xPf, MP.f_User, MP.f_xFU, MP.f_Meth, MP.f_xM, MP.f_xM2, MP.f_Make, MP.f_xMk, MP.f_xMkF, MP.fe_ok, MP.r_run, MP.r_un, MP.r_un0, MP.r_nx, MP.r_ret, MP.r_exc, MP.t_nx, MP.t_cont, MP.t_brk, MP.t_ret, MP.b_nm, MP.b_tp2, MP.b_tp3, MP.t_bk, MP.fe_pop, MP.s_appF, MP.s_dead, MP.g_divmod, MP.g_sorted, MP.g_allB, MP.g_anyB, MP.g_sumI, MP.g_zipT, MP.g_zipL, MP.e_pZip, MP.e_xZp, MP.g_abs, MP.g_intI, MP.g_intB, MP.g_repT, MP.e_pLRng, MP.e_xLR, MP.f_Pop, MP.f_xPop, MP.s_AppF, MP.s_xAF0, MP.s_xAF, MP.s_xAF2, MP.g_inI, MP.g_ninI, MP.g_inT, MP.g_ninT, MP.g_ninST, MP.e_c2, MP.e_c3, MP.e_c4, MP.e_c5, MP.e_pIsi, List.getElem?_cons_zero, List.getElem?_cons_succ, List.getElem?_nil, List.set_cons_zero, List.set_cons_succ, List.map_cons, List.map_nil, List.length_cons, List.length_nil, List.length_append, List.cons_append, List.nil_append, List.length_map, List.length_singleton, Nat.reduceBEq, Nat.reduceAdd, Nat.reduceSub, Nat.reduceMul, Nat.reduceEqDiff, Nat.reduceLeDiff, Nat.reduceLT, if_false, if_true, ite_true, ite_false, ↓reduceIte, Bool.not_true, Bool.not_false, Bool.false_eq_true, decide_true, decide_false, eq_self, and_true, true_and, and_self, Nat.zero_le, Nat.zero_add, Option.bind_some, Option.bind_none, Nat.lt_irrefl, Int.reduceToNat, Int.reducePow, Int.reduceNeg, Int.reduceMul, Int.reduceAdd, Int.reduceSub, Int.reduceLT, Int.reduceLE, Int.reduceEq, beq_self_eq_true, wipeE, MP.at0, MP.at1, MP.at2, MP.atLit, hl, e1, h0, e2, atLast, hlast, e3, hcut, hc, ha]
theorem any_none {α : Type} (l : List α) (f : α → Bool) (h : ∀ x ∈ l, f x = false) : ((l.map f).any id) = false := by
  rw [List.any_map]
  refine List.any_eq_false.mpr fun x hx => ?_
  show ¬ f x = true
  rw [h x hx]
  decide
theorem bed_0 (b : Bed) (i : Nat) (r : List Mn) (h : b.ls[i]? = some r) : (b.ls.map rowD)[i]? = some (.tup (r.map Mn.D)) := by rw [List.getElem?_map, h]; rfl
theorem m_checked {b : Bed} (g : Good b) : sem_checked [bedD b] [] = .ok (.v (bedD b)) [] := by
  have hcl := m_checklayers g
  have hll : (b.ls.map rowD).length = b.ls.length := by simp
  have hcc : (b.cs.map chD).length = b.cs.length := by simp
  have h1 : (1 : Int) ≤ (b.K : Nat) := by have := g.k1; omega
  have h2 : ((b.K : Nat) : Int) ≤ 5 := by have := g.k5; omega
  have h3 : (1 : Int) ≤ (b.ls.length : Nat) := by have := g.l1; omega
  have h4 : ((b.ls.length : Nat) : Int) ≤ 3 := by have := g.l3; omega
  have h5 : ¬ ((4 : Int) < (b.cs.length : Nat)) := by have := g.c4; omega
  have h6 : (1 : Int) ≤ (b.w : Nat) := by have := g.w1; omega
  have h7 : ((b.w : Nat) : Int) ≤ 4 := by have := g.w4; omega
  have h8 : b.cs.length ≤ 4 := g.c4
  obtain ⟨r0, hr0⟩ : ∃ r0, b.ls[0]? = some r0 := ⟨_, List.getElem?_eq_getElem (by have := g.l1; omega)⟩
  have hr0d : b.ls.getD 0 [] = r0 := by rw [List.getD_eq_getElem?_getD, hr0]; rfl
  have hat0 := bed_0 b 0 r0 hr0
  have hr0l := g.len r0 (List.mem_of_getElem? hr0)
  have hch := g.ch
  rw [hr0d] at hch
  have hnd := g.nd
  obtain ⟨K, ls, cs, w⟩ := b
  simp only at *
  unfold sem_checked
  refine run_ex (Q := fun r => r = .ok (.v (bedD ⟨K, ls, cs, w⟩)) []) [.v (bedD ⟨K, ls, cs, w⟩), .un, .un, .un, .un, .un, .un, .un, .un, .un] rfl ?_
  unfold b_checked
  refine sqR (s' := ⟨[.v (bedD ⟨K, ls, cs, w⟩), .un, .v (.int (K : Nat)), .v (.tup (ls.map rowD)), .v (.tup (cs.map chD)), .v (.int (w : Nat)), .un, .un, .un, .un], []⟩) (by unfold st_checked_1; simp (disch := (first | assumption | with_reducible rfl | decide +kernel | exact Or.inl (by decide +kernel) | exact Or.inr (by decide +kernel) | omega | (simp only [List.length_cons, List.length_nil, List.length_append, List.length_map, List.length_replicate, List.length_range] <;> omega) | rfl)) only [MP.of_some, MP.map_some, MP.e_lv, MP.e_lo, MP.e_pD, MP.e_xDs, MP.e_xDf, MP.e_pC, MP.e_pYes, MP.e_pVar, MP.e_p2, MP.e_x2, MP.e_p1, MP.e_x1, MP.e_pB, MP.e_xB, MP.e_pNot, MP.e_xNot, MP.e_pAnd, MP.e_xAndT, MP.e_xAndF, MP.e_pOr, MP.e_xOrT, MP.e_xOrF, MP.e_pAndV, MP.e_xAndVT, MP.e_xAndVF, MP.e_pOrV, MP.e_xOrVT, MP.e_xOrVF, MP.e_pNotV, MP.e_xNotV, MP.e_pIf, MP.e_xIfT, MP.e_xIfF, MP.e_p3, MP.e_x3, MP.e_x3bT, MP.e_x3bF, MP.e_pNil, MP.e_pCons, MP.e_xCons, MP.e_pTup, MP.e_xTp, MP.e_pLst, MP.e_xLs, MP.e_pNo, MP.e_pSome, MP.e_xSo, MP.e_pSl, MP.e_xSl, MP.e_pCall, MP.e_xG, MP.e_pSeq, MP.e_xSq, MP.e_pSeqR, MP.e_xSqR, MP.e_pRng, MP.e_pEnum, MP.e_xEn, MP.e_pComp, MP.e_xC, MP.e_xC2, MP.e_pUser, MP.e_xU, MP.e_xFv, MP.e_xFo, MP.e_xFe, MP.e_pSeal, MP.e_xSe, MP.e_xSeFv, MP.e_xSeFo, MP.e_pLook, MP.e_xLo, MP.e_xLoF, MP.e_pFld, MP.e_xFd, MP.e_xOb, MP.e_xLk0, MP.e_xLk1, MP.e_c0, MP.e_c1, MP.g_add, MP.g_catS, MP.g_catL, MP.g_catT, MP.g_sub, MP.g_mul, MP.g_rep, MP.g_div, MP.g_mod, MP.g_pow, MP.g_shl, MP.g_shr, MP.g_and, MP.g_orI, MP.g_neg, MP.g_lt, MP.g_le, MP.g_gt, MP.g_ge, MP.g_eqI, MP.g_eqS, MP.g_eqBo, MP.g_neI, MP.g_neS, MP.g_neBo, MP.g_is, MP.g_isNot, MP.n_none, MP.n_int, MP.n_str, MP.n_tup, MP.n_list, MP.n_bool, MP.g_max, MP.g_min, MP.g_lenL, MP.g_lenK, MP.g_lenT, MP.g_listL, MP.g_listK, MP.g_listT, MP.g_tupL, MP.g_tupT, MP.q_list, MP.q_lk, MP.q_tup, MP.g_rng1, MP.g_rng2, MP.g_enumL, MP.g_enumK, MP.g_ixL, MP.g_ixK, MP.g_ixT, MP.g_slL, MP.g_slK, MP.g_slT, MP.s_Nil, MP.s_Brk, MP.s_Cont, MP.s_Seq, MP.s_xSn, MP.s_xSr, MP.s_xSb, MP.s_xSc, MP.s_xSe, MP.s_Expr, MP.s_xEx, MP.s_SetV, MP.s_xSV, MP.s_SetO, MP.s_xSOs, MP.s_xSOf, MP.s_Ret, MP.s_xRts, MP.s_xRtf, MP.s_RetN, MP.s_RetS, MP.s_xRSo, MP.s_xRSv, MP.s_If, MP.s_xIfT, MP.s_xIfF, MP.s_Tup, MP.s_xTu, MP.s_xTb, MP.s_For, MP.s_xFor, MP.s_App, MP.s_xAp, MP.s_Thaw, MP.s_xTh, MP.s_Frz, MP.s_xFzo, MP.s_xFzv, MP.s_ExprF, MP.s_xEF, MP.s_SetF, MP.s_xSF, MP.s_RetF, MP.s_xRF, MP.s_IfF, MP.s_xIFT, MP.s_xIFF, MP.s_FldN, MP.s_xN, MP.s_xN2, MP.s_xN3, MP.s_put0, MP.s_put1, MP.s_putN, MP.f_P, MP.f_xPs, MP.f_xPf, MP.f_User, MP.f_xFU, MP.f_Meth, MP.f_xM, MP.f_xM2, MP.f_Make, MP.f_xMk, MP.f_xMkF, MP.fe_ok, MP.r_run, MP.r_un, MP.r_un0, MP.r_nx, MP.r_ret, MP.r_exc, MP.t_nx, MP.t_cont, MP.t_brk, MP.t_ret, MP.b_nm, MP.b_tp2, MP.b_tp3, MP.t_bk, MP.fe_pop, MP.s_appF, MP.s_dead, MP.g_divmod, MP.g_sorted, MP.g_allB, MP.g_anyB, MP.g_sumI, MP.g_zipT, MP.g_zipL, MP.e_pZip, MP.e_xZp, MP.g_abs, MP.g_intI, MP.g_intB, MP.g_repT, MP.e_pLRng, MP.e_xLR, MP.f_Pop, MP.f_xPop, MP.s_AppF, MP.s_xAF0, MP.s_xAF, MP.s_xAF2, MP.g_inI, MP.g_ninI, MP.g_inT, MP.g_ninT, MP.g_ninST, MP.e_c2, MP.e_c3, MP.e_c4, MP.e_c5, MP.e_pIsi, List.getElem?_cons_zero, List.getElem?_cons_succ, List.getElem?_nil, List.set_cons_zero, List.set_cons_succ, List.map_cons, List.map_nil, List.length_cons, List.length_nil, List.length_append, List.cons_append, List.nil_append, List.length_map, List.length_singleton, Nat.reduceBEq, Nat.reduceAdd, Nat.reduceSub, Nat.reduceMul, Nat.reduceEqDiff, Nat.reduceLeDiff, Nat.reduceLT, if_false, if_true, ite_true, ite_false, ↓reduceIte, Bool.not_true, Bool.not_false, Bool.false_eq_true, decide_true, decide_false, eq_self, and_true, true_and, and_self, Nat.zero_le, Nat.zero_add, Option.bind_some, Option.bind_none, Nat.lt_irrefl, Int.reduceToNat, Int.reducePow, Int.reduceNeg, Int.reduceMul, Int.reduceAdd, Int.reduceSub, Int.reduceLT, Int.reduceLE, Int.reduceEq, beq_self_eq_true, wipeE, MP.at0, MP.at1, MP.at2, MP.atLit]; rfl) ?_
  refine sqR (s' := ⟨[.v (bedD ⟨K, ls, cs, w⟩), .un, .v (.int (K : Nat)), .v (.tup (ls.map rowD)), .v (.tup (cs.map chD)), .v (.int (w : Nat)), .un, .un, .un, .un], []⟩) (by unfold st_checked_2; simp (disch := (first | assumption | with_reducible rfl | decide +kernel | exact Or.inl (by decide +kernel) | exact Or.inr (by decide +kernel) | omega | (simp only [List.length_cons, List.length_nil, List.length_append, List.length_map, List.length_replicate, List.length_range] <;> omega) | rfl)) only [MP.of_some, MP.map_some, MP.e_lv, MP.e_lo, MP.e_pD, MP.e_xDs, MP.e_xDf, MP.e_pC, MP.e_pYes, MP.e_pVar, MP.e_p2, MP.e_x2, MP.e_p1, MP.e_x1, MP.e_pB, MP.e_xB, MP.e_pNot, MP.e_xNot, MP.e_pAnd, MP.e_xAndT, MP.e_xAndF, MP.e_pOr, MP.e_xOrT, MP.e_xOrF, MP.e_pAndV, MP.e_xAndVT, MP.e_xAndVF, MP.e_pOrV, MP.e_xOrVT, MP.e_xOrVF, MP.e_pNotV, MP.e_xNotV, MP.e_pIf, MP.e_xIfT, MP.e_xIfF, MP.e_p3, MP.e_x3, MP.e_x3bT, MP.e_x3bF, MP.e_pNil, MP.e_pCons, MP.e_xCons, MP.e_pTup, MP.e_xTp, MP.e_pLst, MP.e_xLs, MP.e_pNo, MP.e_pSome, MP.e_xSo, MP.e_pSl, MP.e_xSl, MP.e_pCall, MP.e_xG, MP.e_pSeq, MP.e_xSq, MP.e_pSeqR, MP.e_xSqR, MP.e_pRng, MP.e_pEnum, MP.e_xEn, MP.e_pComp, MP.e_xC, MP.e_xC2, MP.e_pUser, MP.e_xU, MP.e_xFv, MP.e_xFo, MP.e_xFe, MP.e_pSeal, MP.e_xSe, MP.e_xSeFv, MP.e_xSeFo, MP.e_pLook, MP.e_xLo, MP.e_xLoF, MP.e_pFld, MP.e_xFd, MP.e_xOb, MP.e_xLk0, MP.e_xLk1, MP.e_c0, MP.e_c1, MP.g_add, MP.g_catS, MP.g_catL, MP.g_catT, MP.g_sub, MP.g_mul, MP.g_rep, MP.g_div, MP.g_mod, MP.g_pow, MP.g_shl, MP.g_shr, MP.g_and, MP.g_orI, MP.g_neg, MP.g_lt, MP.g_le, MP.g_gt, MP.g_ge, MP.g_eqI, MP.g_eqS, MP.g_eqBo, MP.g_neI, MP.g_neS, MP.g_neBo, MP.g_is, MP.g_isNot, MP.n_none, MP.n_int, MP.n_str, MP.n_tup, MP.n_list, MP.n_bool, MP.g_max, MP.g_min, MP.g_lenL, MP.g_lenK, MP.g_lenT, MP.g_listL, MP.g_listK, MP.g_listT, MP.g_tupL, MP.g_tupT, MP.q_list, MP.q_lk, MP.q_tup, MP.g_rng1, MP.g_rng2, MP.g_enumL, MP.g_enumK, MP.g_ixL, MP.g_ixK, MP.g_ixT, MP.g_slL, MP.g_slK, MP.g_slT, MP.s_Nil, MP.s_Brk, MP.s_Cont, MP.s_Seq, MP.s_xSn, MP.s_xSr, MP.s_xSb, MP.s_xSc, MP.s_xSe, MP.s_Expr, MP.s_xEx, MP.s_SetV, MP.s_xSV, MP.s_SetO, MP.s_xSOs, MP.s_xSOf, MP.s_Ret, MP.s_xRts, MP.s_xRtf, MP.s_RetN, MP.s_RetS, MP.s_xRSo, MP.s_xRSv, MP.s_If, MP.s_xIfT, MP.s_xIfF, MP.s_Tup, MP.s_xTu, MP.s_xTb, MP.s_For, MP.s_xFor, MP.s_App, MP.s_xAp, MP.s_Thaw, MP.s_xTh, MP.s_Frz, MP.s_xFzo, MP.s_xFzv, MP.s_ExprF, MP.s_xEF, MP.s_SetF, MP.s_xSF, MP.s_RetF, MP.s_xRF, MP.s_IfF, MP.s_xIFT, MP.s_xIFF, MP.s_FldN, MP.s_xN, MP.s_xN2, MP.s_xN3, MP.s_put0, MP.s_put1, MP.s_putN, MP.f_P, MP.f_xPs, MP.f_xPf, MP.f_User, MP.f_xFU, MP.f_Meth, MP.f_xM, MP.f_xM2, MP.f_Make, MP.f_xMk, MP.f_xMkF, MP.fe_ok, MP.r_run, MP.r_un, MP.r_un0, MP.r_nx, MP.r_ret, MP.r_exc, MP.t_nx, MP.t_cont, MP.t_brk, MP.t_ret, MP.b_nm, MP.b_tp2, MP.b_tp3, MP.t_bk, MP.fe_pop, MP.s_appF, MP.s_dead, MP.g_divmod, MP.g_sorted, MP.g_allB, MP.g_anyB, MP.g_sumI, MP.g_zipT, MP.g_zipL, MP.e_pZip, MP.e_xZp, MP.g_abs, MP.g_intI, MP.g_intB, MP.g_repT, MP.e_pLRng, MP.e_xLR, MP.f_Pop, MP.f_xPop, MP.s_AppF, MP.s_xAF0, MP.s_xAF, MP.s_xAF2, MP.g_inI, MP.g_ninI, MP.g_inT, MP.g_ninT, MP.g_ninST, MP.e_c2, MP.e_c3, MP.e_c4, MP.e_c5, MP.e_pIsi, List.getElem?_cons_zero, List.getElem?_cons_succ, List.getElem?_nil, List.set_cons_zero, List.set_cons_succ, List.map_cons, List.map_nil, List.length_cons, List.length_nil, List.length_append, List.cons_append, List.nil_append, List.length_map, List.length_singleton, Nat.reduceBEq, Nat.reduceAdd, Nat.reduceSub, Nat.reduceMul, Nat.reduceEqDiff, Nat.reduceLeDiff, Nat.reduceLT, if_false, if_true, ite_true, ite_false, ↓reduceIte, Bool.not_true, Bool.not_false, Bool.false_eq_true, decide_true, decide_false, eq_self, and_true, true_and, and_self, Nat.zero_le, Nat.zero_add, Option.bind_some, Option.bind_none, Nat.lt_irrefl, Int.reduceToNat, Int.reducePow, Int.reduceNeg, Int.reduceMul, Int.reduceAdd, Int.reduceSub, Int.reduceLT, Int.reduceLE, Int.reduceEq, beq_self_eq_true, wipeE, MP.at0, MP.at1, MP.at2, MP.atLit, h1, h2, hll, h3, h4, hcc, h5, h6, h7]) ?_
  refine sqR (s' := ⟨[.v (bedD ⟨K, ls, cs, w⟩), .un, .v (.int (K : Nat)), .v (.tup (ls.map rowD)), .v (.tup (cs.map chD)), .v (.int (w : Nat)), .un, .un, .un, .un], []⟩) (by unfold st_checked_3; simp (disch := (first | assumption | with_reducible rfl | decide +kernel | exact Or.inl (by decide +kernel) | exact Or.inr (by decide +kernel) | omega | (simp only [List.length_cons, List.length_nil, List.length_append, List.length_map, List.length_replicate, List.length_range] <;> omega) | rfl)) only [MP.of_some, MP.map_some, MP.e_lv, MP.e_lo, MP.e_pD, MP.e_xDs, MP.e_xDf, MP.e_pC, MP.e_pYes, MP.e_pVar, MP.e_p2, MP.e_x2, MP.e_p1, MP.e_x1, MP.e_pB, MP.e_xB, MP.e_pNot, MP.e_xNot, MP.e_pAnd, MP.e_xAndT, MP.e_xAndF, MP.e_pOr, MP.e_xOrT, MP.e_xOrF, MP.e_pAndV, MP.e_xAndVT, MP.e_xAndVF, MP.e_pOrV, MP.e_xOrVT, MP.e_xOrVF, MP.e_pNotV, MP.e_xNotV, MP.e_pIf, MP.e_xIfT, MP.e_xIfF, MP.e_p3, MP.e_x3, MP.e_x3bT, MP.e_x3bF, MP.e_pNil, MP.e_pCons, MP.e_xCons, MP.e_pTup, MP.e_xTp, MP.e_pLst, MP.e_xLs, MP.e_pNo, MP.e_pSome, MP.e_xSo, MP.e_pSl, MP.e_xSl, MP.e_pCall, MP.e_xG, MP.e_pSeq, MP.e_xSq, MP.e_pSeqR, MP.e_xSqR, MP.e_pRng, MP.e_pEnum, MP.e_xEn, MP.e_pComp, MP.e_xC, MP.e_xC2, MP.e_pUser, MP.e_xU, MP.e_xFv, MP.e_xFo, MP.e_xFe, MP.e_pSeal, MP.e_xSe, MP.e_xSeFv, MP.e_xSeFo, MP.e_pLook, MP.e_xLo, MP.e_xLoF, MP.e_pFld, MP.e_xFd, MP.e_xOb, MP.e_xLk0, MP.e_xLk1, MP.e_c0, MP.e_c1, MP.g_add, MP.g_catS, MP.g_catL, MP.g_catT, MP.g_sub, MP.g_mul, MP.g_rep, MP.g_div, MP.g_mod, MP.g_pow, MP.g_shl, MP.g_shr, MP.g_and, MP.g_orI, MP.g_neg, MP.g_lt, MP.g_le, MP.g_gt, MP.g_ge, MP.g_eqI, MP.g_eqS, MP.g_eqBo, MP.g_neI, MP.g_neS, MP.g_neBo, MP.g_is, MP.g_isNot, MP.n_none, MP.n_int, MP.n_str, MP.n_tup, MP.n_list, MP.n_bool, MP.g_max, MP.g_min, MP.g_lenL, MP.g_lenK, MP.g_lenT, MP.g_listL, MP.g_listK, MP.g_listT, MP.g_tupL, MP.g_tupT, MP.q_list, MP.q_lk, MP.q_tup, MP.g_rng1, MP.g_rng2, MP.g_enumL, MP.g_enumK, MP.g_ixL, MP.g_ixK, MP.g_ixT, MP.g_slL, MP.g_slK, MP.g_slT, MP.s_Nil, MP.s_Brk, MP.s_Cont, MP.s_Seq, MP.s_xSn, MP.s_xSr, MP.s_xSb, MP.s_xSc, MP.s_xSe, MP.s_Expr, MP.s_xEx, MP.s_SetV, MP.s_xSV, MP.s_SetO, MP.s_xSOs, MP.s_xSOf, MP.s_Ret, MP.s_xRts, MP.s_xRtf, MP.s_RetN, MP.s_RetS, MP.s_xRSo, MP.s_xRSv, MP.s_If, MP.s_xIfT, MP.s_xIfF, MP.s_Tup, MP.s_xTu, MP.s_xTb, MP.s_For, MP.s_xFor, MP.s_App, MP.s_xAp, MP.s_Thaw, MP.s_xTh, MP.s_Frz, MP.s_xFzo, MP.s_xFzv, MP.s_ExprF, MP.s_xEF, MP.s_SetF, MP.s_xSF, MP.s_RetF, MP.s_xRF, MP.s_IfF, MP.s_xIFT, MP.s_xIFF, MP.s_FldN, MP.s_xN, MP.s_xN2, MP.s_xN3, MP.s_put0, MP.s_put1, MP.s_putN, MP.f_P, MP.f_xPs, MP.f_xPf, MP.f_User, MP.f_xFU, MP.f_Meth, MP.f_xM, MP.f_xM2, MP.f_Make, MP.f_xMk, MP.f_xMkF, MP.fe_ok, MP.r_run, MP.r_un, MP.r_un0, MP.r_nx, MP.r_ret, MP.r_exc, MP.t_nx, MP.t_cont, MP.t_brk, MP.t_ret, MP.b_nm, MP.b_tp2, MP.b_tp3, MP.t_bk, MP.fe_pop, MP.s_appF, MP.s_dead, MP.g_divmod, MP.g_sorted, MP.g_allB, MP.g_anyB, MP.g_sumI, MP.g_zipT, MP.g_zipL, MP.e_pZip, MP.e_xZp, MP.g_abs, MP.g_intI, MP.g_intB, MP.g_repT, MP.e_pLRng, MP.e_xLR, MP.f_Pop, MP.f_xPop, MP.s_AppF, MP.s_xAF0, MP.s_xAF, MP.s_xAF2, MP.g_inI, MP.g_ninI, MP.g_inT, MP.g_ninT, MP.g_ninST, MP.e_c2, MP.e_c3, MP.e_c4, MP.e_c5, MP.e_pIsi, List.getElem?_cons_zero, List.getElem?_cons_succ, List.getElem?_nil, List.set_cons_zero, List.set_cons_succ, List.map_cons, List.map_nil, List.length_cons, List.length_nil, List.length_append, List.cons_append, List.nil_append, List.length_map, List.length_singleton, Nat.reduceBEq, Nat.reduceAdd, Nat.reduceSub, Nat.reduceMul, Nat.reduceEqDiff, Nat.reduceLeDiff, Nat.reduceLT, if_false, if_true, ite_true, ite_false, ↓reduceIte, Bool.not_true, Bool.not_false, Bool.false_eq_true, decide_true, decide_false, eq_self, and_true, true_and, and_self, Nat.zero_le, Nat.zero_add, Option.bind_some, Option.bind_none, Nat.lt_irrefl, Int.reduceToNat, Int.reducePow, Int.reduceNeg, Int.reduceMul, Int.reduceAdd, Int.reduceSub, Int.reduceLT, Int.reduceLE, Int.reduceEq, beq_self_eq_true, wipeE, MP.at0, MP.at1, MP.at2, MP.atLit, hcl]) ?_
  unfold st_checked_4
  refine forR (rng 0 (cs.length : Int)) (fun i s => ∃ x1 x6 x7, s = ⟨[.v (bedD ⟨K, ls, cs, w⟩), x1, .v (.int (K : Nat)), .v (.tup (ls.map rowD)), .v (.tup (cs.map chD)), .v (.int (w : Nat)), x6, x7, .un, .un], []⟩) (by simp (disch := (first | assumption | with_reducible rfl | decide +kernel | exact Or.inl (by decide +kernel) | exact Or.inr (by decide +kernel) | omega | (simp only [List.length_cons, List.length_nil, List.length_append, List.length_map, List.length_replicate, List.length_range] <;> omega) | rfl)) only [MP.of_some, MP.map_some, MP.e_lv, MP.e_lo, MP.e_pD, MP.e_xDs, MP.e_xDf, MP.e_pC, MP.e_pYes, MP.e_pVar, MP.e_p2, MP.e_x2, MP.e_p1, MP.e_x1, MP.e_pB, MP.e_xB, MP.e_pNot, MP.e_xNot, MP.e_pAnd, MP.e_xAndT, MP.e_xAndF, MP.e_pOr, MP.e_xOrT, MP.e_xOrF, MP.e_pAndV, MP.e_xAndVT, MP.e_xAndVF, MP.e_pOrV, MP.e_xOrVT, MP.e_xOrVF, MP.e_pNotV, MP.e_xNotV, MP.e_pIf, MP.e_xIfT, MP.e_xIfF, MP.e_p3, MP.e_x3, MP.e_x3bT, MP.e_x3bF, MP.e_pNil, MP.e_pCons, MP.e_xCons, MP.e_pTup, MP.e_xTp, MP.e_pLst, MP.e_xLs, MP.e_pNo, MP.e_pSome, MP.e_xSo, MP.e_pSl, MP.e_xSl, MP.e_pCall, MP.e_xG, MP.e_pSeq, MP.e_xSq, MP.e_pSeqR, MP.e_xSqR, MP.e_pRng, MP.e_pEnum, MP.e_xEn, MP.e_pComp, MP.e_xC, MP.e_xC2, MP.e_pUser, MP.e_xU, MP.e_xFv, MP.e_xFo, MP.e_xFe, MP.e_pSeal, MP.e_xSe, MP.e_xSeFv, MP.e_xSeFo, MP.e_pLook, MP.e_xLo, MP.e_xLoF, MP.e_pFld, MP.e_xFd, MP.e_xOb, MP.e_xLk0, MP.e_xLk1, MP.e_c0, MP.e_c1, MP.g_add, MP.g_catS, MP.g_catL, MP.g_catT, MP.g_sub, MP.g_mul, MP.g_rep, MP.g_div, MP.g_mod, MP.g_pow, MP.g_shl, MP.g_shr, MP.g_and, MP.g_orI, MP.g_neg, MP.g_lt, MP.g_le, MP.g_gt, MP.g_ge, MP.g_eqI, MP.g_eqS, MP.g_eqBo, MP.g_neI, MP.g_neS, MP.g_neBo, MP.g_is, MP.g_isNot, MP.n_none, MP.n_int, MP.n_str, MP.n_tup, MP.n_list, MP.n_bool, MP.g_max, MP.g_min, MP.g_lenL, MP.g_lenK, MP.g_lenT, MP.g_listL, MP.g_listK, MP.g_listT, MP.g_tupL, MP.g_tupT, MP.q_list, MP.q_lk, MP.q_tup, MP.g_rng1, MP.g_rng2, MP.g_enumL, MP.g_enumK, MP.g_ixL, MP.g_ixK, MP.g_ixT, MP.g_slL, MP.g_slK, MP.g_slT, MP.s_Nil, MP.s_Brk, MP.s_Cont, MP.s_Seq, MP.s_xSn, MP.s_xSr, MP.s_xSb, MP.s_xSc, MP.s_xSe, MP.s_Expr, MP.s_xEx, MP.s_SetV, MP.s_xSV, MP.s_SetO, MP.s_xSOs, MP.s_xSOf, MP.s_Ret, MP.s_xRts, MP.s_xRtf, MP.s_RetN, MP.s_RetS, MP.s_xRSo, MP.s_xRSv, MP.s_If, MP.s_xIfT, MP.s_xIfF, MP.s_Tup, MP.s_xTu, MP.s_xTb, MP.s_For, MP.s_xFor, MP.s_App, MP.s_xAp, MP.s_Thaw, MP.s_xTh, MP.s_Frz, MP.s_xFzo, MP.s_xFzv, MP.s_ExprF, MP.s_xEF, MP.s_SetF, MP.s_xSF, MP.s_RetF, MP.s_xRF, MP.s_IfF, MP.s_xIFT, MP.s_xIFF, MP.s_FldN, MP.s_xN, MP.s_xN2, MP.s_xN3, MP.s_put0, MP.s_put1, MP.s_putN, MP.f_P, MP.f_xPs, MP.f_xPf, MP.f_User, MP.f_xFU, MP.f_Meth, MP.f_xM, MP.f_xM2, MP.f_Make, MP.f_xMk, MP.f_xMkF, MP.fe_ok, MP.r_run, MP.r_un, MP.r_un0, MP.r_nx, MP.r_ret, MP.r_exc, MP.t_nx, MP.t_cont, MP.t_brk, MP.t_ret, MP.b_nm, MP.b_tp2, MP.b_tp3, MP.t_bk, MP.fe_pop, MP.s_appF, MP.s_dead, MP.g_divmod, MP.g_sorted, MP.g_allB, MP.g_anyB, MP.g_sumI, MP.g_zipT, MP.g_zipL, MP.e_pZip, MP.e_xZp, MP.g_abs, MP.g_intI, MP.g_intB, MP.g_repT, MP.e_pLRng, MP.e_xLR, MP.f_Pop, MP.f_xPop, MP.s_AppF, MP.s_xAF0, MP.s_xAF, MP.s_xAF2, MP.g_inI, MP.g_ninI, MP.g_inT, MP.g_ninT, MP.g_ninST, MP.e_c2, MP.e_c3, MP.e_c4, MP.e_c5, MP.e_pIsi, List.getElem?_cons_zero, List.getElem?_cons_succ, List.getElem?_nil, List.set_cons_zero, List.set_cons_succ, List.map_cons, List.map_nil, List.length_cons, List.length_nil, List.length_append, List.cons_append, List.nil_append, List.length_map, List.length_singleton, Nat.reduceBEq, Nat.reduceAdd, Nat.reduceSub, Nat.reduceMul, Nat.reduceEqDiff, Nat.reduceLeDiff, Nat.reduceLT, if_false, if_true, ite_true, ite_false, ↓reduceIte, Bool.not_true, Bool.not_false, Bool.false_eq_true, decide_true, decide_false, eq_self, and_true, true_and, and_self, Nat.zero_le, Nat.zero_add, Option.bind_some, Option.bind_none, Nat.lt_irrefl, Int.reduceToNat, Int.reducePow, Int.reduceNeg, Int.reduceMul, Int.reduceAdd, Int.reduceSub, Int.reduceLT, Int.reduceLE, Int.reduceEq, beq_self_eq_true, wipeE, MP.at0, MP.at1, MP.at2, MP.atLit, hcc]) ⟨_, _, _, rfl⟩ ?_ ?_
  · rintro p d s hd ⟨x1, x6, x7, rfl⟩
    obtain ⟨rfl, hp⟩ := rngAt hd
    have hc : cs[p]? = some (cs[p]'(by omega)) := by simp
    generalize cs[p]'(by omega) = c at hc
    have ho := hch c (List.mem_of_getElem? hc)
    have hcd : (cs.map chD)[p]? = some (.tup [.tup (nD c.1), .str (ltr c.2)]) := by rw [List.getElem?_map, hc]; rfl
    have e1 := m_isletter c.2 ho.c26
    have e2 := m_isset c.1 K ho.len ho.l5 ho.up fun k hk => (ho.ok k hk).1
    have hkl := nD_len c.1
    have h5 := ho.l5
    have hany : compL (.nm 8) pYes (pD (p2 gNe (p2 gIx (p2 gIx (p2 gIx (pVar 3) (pC (.int 0))) (pVar 8)) (pC (.int 0))) (pC (.str "letter")))) ⟨[.v (bedD ⟨K, ls, cs, w⟩), .v (.int (p : Nat)), .v (.int (K : Nat)), .v (.tup (ls.map rowD)), .v (.tup (cs.map chD)), .v (.int (w : Nat)), .v (.tup (nD c.1)), .v (.str (ltr c.2)), .un, .un], []⟩ (nD c.1) = .ok ((c.1.map fun k => !(r0.getD k .non).isL).map D.bool) := by
      rw [List.map_map]
      refine compM _ _ fun k hk => ⟨_, b_nm .., ?_⟩
      have hk2 : k < r0.length := by rw [hr0l]; exact (ho.ok k hk).1
      have hm : (r0.map Mn.D)[k]? = some (r0.getD k .non).D := by
        rw [List.getElem?_map, List.getD_eq_getElem?_getD, List.getElem?_eq_getElem hk2]; rfl
      have h0 := mn_0 (r0.getD k .non)
      have hb : gNe (.str (r0.getD k .non).name) (.str "letter") = some ⟨.sh, .bool (!(r0.getD k .non).isL)⟩ := by rw [MP.g_neS, mn_l]
      show pD _ _ = PR.ok (D.bool (!(r0.getD k .non).isL))
      generalize r0.getD k .non = m at *
      have hb2 := mn_l m
      simp (disch := (first | assumption | with_reducible rfl | decide +kernel | exact Or.inl (by decide +kernel) | exact Or.inr (by decide +kernel) | omega | (simp only [List.length_cons, List.length_nil, List.length_append, List.length_map, List.length_replicate, List.length_range] <;> omega) | rfl)) only [MP.of_some, MP.map_some, MP.e_lv, MP.e_lo, MP.e_pD, MP.e_xDs, MP.e_xDf, MP.e_pC, MP.e_pYes, MP.e_pVar, MP.e_p2, MP.e_x2, MP.e_p1, MP.e_x1, MP.e_pB, MP.e_xB, MP.e_pNot, MP.e_xNot, MP.e_pAnd, MP.e_xAndT, MP.e_xAndF, MP.e_pOr, MP.e_xOrT, MP.e_xOrF, MP.e_pAndV, MP.e_xAndVT, MP.e_xAndVF, MP.e_pOrV, MP.e_xOrVT, MP.e_xOrVF, MP.e_pNotV, MP.e_xNotV, MP.e_pIf, MP.e_xIfT, MP.e_xIfF, MP.e_p3, MP.e_x3, MP.e_x3bT, MP.e_x3bF, MP.e_pNil, MP.e_pCons, MP.e_xCons, MP.e_pTup, MP.e_xTp, MP.e_pLst, MP.e_xLs, MP.e_pNo, MP.e_pSome, MP.e_xSo, MP.e_pSl, MP.e_xSl, MP.e_pCall, MP.e_xG, MP.e_pSeq, MP.e_xSq, MP.e_pSeqR, MP.e_xSqR, MP.e_pRng, MP.e_pEnum, MP.e_xEn, MP.e_pComp, MP.e_xC, MP.e_xC2, MP.e_pUser, MP.e_xU, MP.e_xFv, MP.e_xFo, MP.e_xFe, MP.e_pSeal, MP.e_xSe, MP.e_xSeFv, MP.e_xSeFo, MP.e_pLook, MP.e_xLo, MP.e_xLoF, MP.e_pFld, MP.e_xFd, MP.e_xOb, MP.e_xLk0, MP.e_xLk1, MP.e_c0, MP.e_c1, MP.g_add, MP.g_catS, MP.g_catL, MP.g_catT, MP.g_sub, MP.g_mul, MP.g_rep, MP.g_div, MP.g_mod, MP.g_pow, MP.g_shl, MP.g_shr, MP.g_and, MP.g_orI, MP.g_neg, MP.g_lt, MP.g_le, MP.g_gt, MP.g_ge, MP.g_eqI, MP.g_eqS, MP.g_eqBo, MP.g_neI, MP.g_neS, MP.g_neBo, MP.g_is, MP.g_isNot, MP.n_none, MP.n_int, MP.n_str, MP.n_tup, MP.n_list, MP.n_bool, MP.g_max, MP.g_min, MP.g_lenL, MP.g_lenK, MP.g_lenT, MP.g_listL, MP.g_listK, MP.g_listT, MP.g_tupL, MP.g_tupT, MP.q_list, MP.q_lk, MP.q_tup, MP.g_rng1, MP.g_rng2, MP.g_enumL, MP.g_enumK, MP.g_ixL, MP.g_ixK, MP.g_ixT, MP.g_slL, MP.g_slK, MP.g_slT, MP.s_Nil, MP.s_Brk, MP.s_Cont, MP.s_Seq, MP.s_xSn, MP.s_xSr, MP.s_xSb, MP.s_xSc, MP.s_xSe, MP.s_Expr, MP.s_xEx, MP.s_SetV, MP.s_xSV, MP.s_SetO, MP.s_xSOs, MP.s_xSOf, MP.s_Ret, MP.s_xRts, MP.s_xRtf, MP.s_RetN, MP.s_RetS, MP.s_xRSo, MP.s_xRSv, MP.s_If, MP.s_xIfT, MP.s_xIfF, MP.s_Tup, MP.s_xTu, MP.s_xTb, MP.s_For, MP.s_xFor, MP.s_App, MP.s_xAp, MP.s_Thaw, MP.s_xTh, MP.s_Frz, MP.s_xFzo, MP.s_xFzv, MP.s_ExprF, MP.s_xEF, MP.s_SetF, MP.s_xSF, MP.s_RetF, MP.s_xRF, MP.s_IfF, MP.s_xIFT, MP.s_xIFF, MP.s_FldN, MP.s_xN, MP.s_xN2, MP.s_xN3, MP.s_put0, MP.s_put1, MP.s_putN, MP.f_P, MP.f_xPs, MP.f_xPf, MP.f_User, MP.f_xFU, MP.f_Meth, MP.f_xM, MP.f_xM2, MP.f_Make, MP.f_xMk, MP.f_xMkF, MP.fe_ok, MP.r_run, MP.r_un, MP.r_un0, MP.r_nx, MP.r_ret, MP.r_exc, MP.t_nx, MP.t_cont, MP.t_brk, MP.t_ret, MP.b_nm, MP.b_tp2, MP.b_tp3, MP.t_bk, MP.fe_pop, MP.s_appF, MP.s_dead, MP.g_divmod, MP.g_sorted, MP.g_allB, MP.g_anyB, MP.g_sumI, MP.g_zipT, MP.g_zipL, MP.e_pZip, MP.e_xZp, MP.g_abs, MP.g_intI, MP.g_intB, MP.g_repT, MP.e_pLRng, MP.e_xLR, MP.f_Pop, MP.f_xPop, MP.s_AppF, MP.s_xAF0, MP.s_xAF, MP.s_xAF2, MP.g_inI, MP.g_ninI, MP.g_inT, MP.g_ninT, MP.g_ninST, MP.e_c2, MP.e_c3, MP.e_c4, MP.e_c5, MP.e_pIsi, List.getElem?_cons_zero, List.getElem?_cons_succ, List.getElem?_nil, List.set_cons_zero, List.set_cons_succ, List.map_cons, List.map_nil, List.length_cons, List.length_nil, List.length_append, List.cons_append, List.nil_append, List.length_map, List.length_singleton, Nat.reduceBEq, Nat.reduceAdd, Nat.reduceSub, Nat.reduceMul, Nat.reduceEqDiff, Nat.reduceLeDiff, Nat.reduceLT, if_false, if_true, ite_true, ite_false, ↓reduceIte, Bool.not_true, Bool.not_false, Bool.false_eq_true, decide_true, decide_false, eq_self, and_true, true_and, and_self, Nat.zero_le, Nat.zero_add, Option.bind_some, Option.bind_none, Nat.lt_irrefl, Int.reduceToNat, Int.reducePow, Int.reduceNeg, Int.reduceMul, Int.reduceAdd, Int.reduceSub, Int.reduceLT, Int.reduceLE, Int.reduceEq, beq_self_eq_true, wipeE, MP.at0, MP.at1, MP.at2, MP.atLit, hat0, atN, hm, h0, hb2]
    have ha := any_none c.1 (fun k => !(r0.getD k .non).isL) fun k hk => by rw [(ho.ok k hk).2]; rfl
    have hcut : cutD (cs.map chD) none (some (p : Int)) = (cs.take p).map chD := by
      rw [cut_hi _ (by omega), Int.toNat_natCast, List.map_take]
    have htl : ((cs.take p).map chD).length ≤ 4 := by simp; omega
    have hin : compL (.nm 9) pYes (pD (p2 gIx (pVar 9) (pC (.int 0)))) ⟨[.v (bedD ⟨K, ls, cs, w⟩), .v (.int (p : Nat)), .v (.int (K : Nat)), .v (.tup (ls.map rowD)), .v (.tup (cs.map chD)), .v (.int (w : Nat)), .v (.tup (nD c.1)), .v (.str (ltr c.2)), .un, .un], []⟩ ((cs.take p).map chD) = .ok (((cs.take p).map Prod.fst).map fun a => D.tup (nD a)) := by
      rw [List.map_map]
      refine compA _ _ _ fun a _ => ⟨_, b_nm .., ?_⟩
      have h0 : gIx (chD a) (.int 0) = some ⟨.sh, .tup (nD a.1)⟩ := rfl
      simp (disch := (first | assumption | with_reducible rfl | decide +kernel | exact Or.inl (by decide +kernel) | exact Or.inr (by decide +kernel) | omega | (simp only [List.length_cons, List.length_nil, List.length_append, List.length_map, List.length_replicate, List.length_range] <;> omega) | rfl)) only [MP.of_some, MP.map_some, MP.e_lv, MP.e_lo, MP.e_pD, MP.e_xDs, MP.e_xDf, MP.e_pC, MP.e_pYes, MP.e_pVar, MP.e_p2, MP.e_x2, MP.e_p1, MP.e_x1, MP.e_pB, MP.e_xB, MP.e_pNot, MP.e_xNot, MP.e_pAnd, MP.e_xAndT, MP.e_xAndF, MP.e_pOr, MP.e_xOrT, MP.e_xOrF, MP.e_pAndV, MP.e_xAndVT, MP.e_xAndVF, MP.e_pOrV, MP.e_xOrVT, MP.e_xOrVF, MP.e_pNotV, MP.e_xNotV, MP.e_pIf, MP.e_xIfT, MP.e_xIfF, MP.e_p3, MP.e_x3, MP.e_x3bT, MP.e_x3bF, MP.e_pNil, MP.e_pCons, MP.e_xCons, MP.e_pTup, MP.e_xTp, MP.e_pLst, MP.e_xLs, MP.e_pNo, MP.e_pSome, MP.e_xSo, MP.e_pSl, MP.e_xSl, MP.e_pCall, MP.e_xG, MP.e_pSeq, MP.e_xSq, MP.e_pSeqR, MP.e_xSqR, MP.e_pRng, MP.e_pEnum, MP.e_xEn, MP.e_pComp, MP.e_xC, MP.e_xC2, MP.e_pUser, MP.e_xU, MP.e_xFv, MP.e_xFo, MP.e_xFe, MP.e_pSeal, MP.e_xSe, MP.e_xSeFv, MP.e_xSeFo, MP.e_pLook, MP.e_xLo, MP.e_xLoF, MP.e_pFld, MP.e_xFd, MP.e_xOb, MP.e_xLk0, MP.e_xLk1, MP.e_c0, MP.e_c1, MP.g_add, MP.g_catS, MP.g_catL, MP.g_catT, MP.g_sub, MP.g_mul, MP.g_rep, MP.g_div, MP.g_mod, MP.g_pow, MP.g_shl, MP.g_shr, MP.g_and, MP.g_orI, MP.g_neg, MP.g_lt, MP.g_le, MP.g_gt, MP.g_ge, MP.g_eqI, MP.g_eqS, MP.g_eqBo, MP.g_neI, MP.g_neS, MP.g_neBo, MP.g_is, MP.g_isNot, MP.n_none, MP.n_int, MP.n_str, MP.n_tup, MP.n_list, MP.n_bool, MP.g_max, MP.g_min, MP.g_lenL, MP.g_lenK, MP.g_lenT, MP.g_listL, MP.g_listK, MP.g_listT, MP.g_tupL, MP.g_tupT, MP.q_list, MP.q_lk, MP.q_tup, MP.g_rng1, MP.g_rng2, MP.g_enumL, MP.g_enumK, MP.g_ixL, MP.g_ixK, MP.g_ixT, MP.g_slL, MP.g_slK, MP.g_slT, MP.s_Nil, MP.s_Brk, MP.s_Cont, MP.s_Seq, MP.s_xSn, MP.s_xSr, MP.s_xSb, MP.s_xSc, MP.s_xSe, MP.s_Expr, MP.s_xEx, MP.s_SetV, MP.s_xSV, MP.s_SetO, MP.s_xSOs, MP.s_xSOf, MP.s_Ret, MP.s_xRts, MP.s_xRtf, MP.s_RetN, MP.s_RetS, MP.s_xRSo, MP.s_xRSv, MP.s_If, MP.s_xIfT, MP.s_xIfF, MP.s_Tup, MP.s_xTu, MP.s_xTb, MP.s_For, MP.s_xFor, MP.s_App, MP.s_xAp, MP.s_Thaw, MP.s_xTh, MP.s_Frz, MP.s_xFzo, MP.s_xFzv, MP.s_ExprF, MP.s_xEF, MP.s_SetF, MP.s_xSF, MP.s_RetF, MP.s_xRF, MP.s_IfF, MP.s_xIFT, MP.s_xIFF, MP.s_FldN, MP.s_xN, MP.s_xN2, MP.s_xN3, MP.s_put0, MP.s_put1, MP.s_putN, MP.f_P, MP.f_xPs, MP.f_xPf, MP.f_User, MP.f_xFU, MP.f_Meth, MP.f_xM, MP.f_xM2, MP.f_Make, MP.f_xMk, MP.f_xMkF, MP.fe_ok, MP.r_run, MP.r_un, MP.r_un0, MP.r_nx, MP.r_ret, MP.r_exc, MP.t_nx, MP.t_cont, MP.t_brk, MP.t_ret, MP.b_nm, MP.b_tp2, MP.b_tp3, MP.t_bk, MP.fe_pop, MP.s_appF, MP.s_dead, MP.g_divmod, MP.g_sorted, MP.g_allB, MP.g_anyB, MP.g_sumI, MP.g_zipT, MP.g_zipL, MP.e_pZip, MP.e_xZp, MP.g_abs, MP.g_intI, MP.g_intB, MP.g_repT, MP.e_pLRng, MP.e_xLR, MP.f_Pop, MP.f_xPop, MP.s_AppF, MP.s_xAF0, MP.s_xAF, MP.s_xAF2, MP.g_inI, MP.g_ninI, MP.g_inT, MP.g_ninT, MP.g_ninST, MP.e_c2, MP.e_c3, MP.e_c4, MP.e_c5, MP.e_pIsi, List.getElem?_cons_zero, List.getElem?_cons_succ, List.getElem?_nil, List.set_cons_zero, List.set_cons_succ, List.map_cons, List.map_nil, List.length_cons, List.length_nil, List.length_append, List.cons_append, List.nil_append, List.length_map, List.length_singleton, Nat.reduceBEq, Nat.reduceAdd, Nat.reduceSub, Nat.reduceMul, Nat.reduceEqDiff, Nat.reduceLeDiff, Nat.reduceLT, if_false, if_true, ite_true, ite_false, ↓reduceIte, Bool.not_true, Bool.not_false, Bool.false_eq_true, decide_true, decide_false, eq_self, and_true, true_and, and_self, Nat.zero_le, Nat.zero_add, Option.bind_some, Option.bind_none, Nat.lt_irrefl, Int.reduceToNat, Int.reducePow, Int.reduceNeg, Int.reduceMul, Int.reduceAdd, Int.reduceSub, Int.reduceLT, Int.reduceLE, Int.reduceEq, beq_self_eq_true, wipeE, MP.at0, MP.at1, MP.at2, MP.atLit, h0]
      rfl
    have hnot : decide (c.1 ∈ (cs.take p).map Prod.fst) = false := by
      refine decide_eq_false fun hm => ?_
      have hs : cs = cs.take p ++ c :: cs.drop (p + 1) := by
        have hpl : p < cs.length := by omega
        have : cs[p] = c := by rw [List.getElem?_eq_getElem hpl] at hc; exact Option.some.inj hc
        rw [← this, List.getElem_cons_drop, List.take_append_drop]
      rw [hs, List.map_append, List.map_cons] at hnd
      exact (List.nodup_append.mp hnd).2.2 _ hm _ (List.mem_cons_self ..) rfl
    have hgin := gIn_many c.1 ((cs.take p).map Prod.fst)
    rw [hnot] at hgin
    have hgin : gIn (.tup (nD c.1)) (.list (((cs.take p).map Prod.fst).map fun a => D.tup (nD a))) = some ⟨.sh, .bool false⟩ := hgin
    generalize hcm : cs.map chD = csd at *
    generalize hlm : ls.map rowD = lsd at *
    generalize hbd : bedD ⟨K, ls, cs, w⟩ = bd at *
    refine ⟨_, b_nm .., ?_⟩
    unfold lp_checked_1
    simp (disch := (first | assumption | with_reducible rfl | decide +kernel | exact Or.inl (by decide +kernel) | exact Or.inr (by decide +kernel) | omega | (simp only [List.length_cons, List.length_nil, List.length_append, List.length_map, List.length_replicate, List.length_range] <;> omega) | rfl)) only [MP.of_some, MP.map_some, MP.e_lv, MP.e_lo, MP.e_pD, MP.e_xDs, MP.e_xDf, MP.e_pC, MP.e_pYes, MP.e_pVar, MP.e_p2, MP.e_x2, MP.e_p1, MP.e_x1, MP.e_pB, MP.e_xB, MP.e_pNot, MP.e_xNot, MP.e_pAnd, MP.e_xAndT, MP.e_xAndF, MP.e_pOr, MP.e_xOrT, MP.e_xOrF, MP.e_pAndV, MP.e_xAndVT, MP.e_xAndVF, MP.e_pOrV, MP.e_xOrVT, MP.e_xOrVF, MP.e_pNotV, MP.e_xNotV, MP.e_pIf, MP.e_xIfT, MP.e_xIfF, MP.e_p3, MP.e_x3, MP.e_x3bT, MP.e_x3bF, MP.e_pNil, MP.e_pCons, MP.e_xCons, MP.e_pTup, MP.e_xTp, MP.e_pLst, MP.e_xLs, MP.e_pNo, MP.e_pSome, MP.e_xSo, MP.e_pSl, MP.e_xSl, MP.e_pCall, MP.e_xG, MP.e_pSeq, MP.e_xSq, MP.e_pSeqR, MP.e_xSqR, MP.e_pRng, MP.e_pEnum, MP.e_xEn, MP.e_pComp, MP.e_xC, MP.e_xC2, MP.e_pUser, MP.e_xU, MP.e_xFv, MP.e_xFo, MP.e_xFe, MP.e_pSeal, MP.e_xSe, MP.e_xSeFv, MP.e_xSeFo, MP.e_pLook, MP.e_xLo, MP.e_xLoF, MP.e_pFld, MP.e_xFd, MP.e_xOb, MP.e_xLk0, MP.e_xLk1, MP.e_c0, MP.e_c1, MP.g_add, MP.g_catS, MP.g_catL, MP.g_catT, MP.g_sub, MP.g_mul, MP.g_rep, MP.g_div, MP.g_mod, MP.g_pow, MP.g_shl, MP.g_shr, MP.g_and, MP.g_orI, MP.g_neg, MP.g_lt, MP.g_le, MP.g_gt, MP.g_ge, MP.g_eqI, MP.g_eqS, MP.g_eqBo, MP.g_neI, MP.g_neS, MP.g_neBo, MP.g_is, MP.g_isNot, MP.n_none, MP.n_int, MP.n_str, MP.n_tup, MP.n_list, MP.n_bool, MP.g_max, MP.g_min, MP.g_lenL, MP.g_lenK, MP.g_lenT, MP.g_listL, MP.g_listK, MP.g_listT, MP.g_tupL, MP.g_tupT, MP.q_list, MP.q_lk, MP.q_tup, MP.g_rng1, MP.g_rng2, MP.g_enumL, MP.g_enumK, MP.g_ixL, MP.g_ixK, MP.g_ixT, MP.g_slL, MP.g_slK, MP.g_slT, MP.s_Nil, MP.s_Brk, MP.s_Cont, MP.s_Seq, MP.s_xSn, MP.s_xSr, MP.s_xSb, MP.s_xSc, MP.s_xSe, MP.s_Expr, MP.s_xEx, MP.s_SetV, MP.s_xSV, MP.s_SetO, MP.s_xSOs, MP.s_xSOf, MP.s_Ret, MP.s_xRts, MP.s_xRtf, MP.s_RetN, MP.s_RetS, MP.s_xRSo, MP.s_xRSv, MP.s_If, MP.s_xIfT, MP.s_xIfF, MP.s_Tup, MP.s_xTu, MP.s_xTb, MP.s_For, MP.s_xFor, MP.s_App, MP.s_xAp, MP.s_Thaw, MP.s_xTh, MP.s_Frz, MP.s_xFzo, MP.s_xFzv, MP.s_ExprF, MP.s_xEF, MP.s_SetF, MP.s_xSF, MP.s_RetF, MP.s_xRF, MP.s_IfF, MP.s_xIFT, MP.s_xIFF, MP.s_FldN, MP.s_xN, MP.s_xN2, MP.s_xN3, MP.s_put0, MP.s_put1, MP.s_putN, MP.f_P, MP.f_xPs, MP.f_xPf, MP.f_User, MP.f_xFU, MP.f_Meth, MP.f_xM, MP.f_xM2, MP.f_Make, MP.f_xMk, MP.f_xMkF, MP.fe_ok, MP.r_run, MP.r_un, MP.r_un0, MP.r_nx, MP.r_ret, MP.r_exc, MP.t_nx, MP.t_cont, MP.t_brk, MP.t_ret, MP.b_nm, MP.b_tp2, MP.b_tp3, MP.t_bk, MP.fe_pop, MP.s_appF, MP.s_dead, MP.g_divmod, MP.g_sorted, MP.g_allB, MP.g_anyB, MP.g_sumI, MP.g_zipT, MP.g_zipL, MP.e_pZip, MP.e_xZp, MP.g_abs, MP.g_intI, MP.g_intB, MP.g_repT, MP.e_pLRng, MP.e_xLR, MP.f_Pop, MP.f_xPop, MP.s_AppF, MP.s_xAF0, MP.s_xAF, MP.s_xAF2, MP.g_inI, MP.g_ninI, MP.g_inT, MP.g_ninT, MP.g_ninST, MP.e_c2, MP.e_c3, MP.e_c4, MP.e_c5, MP.e_pIsi, List.getElem?_cons_zero, List.getElem?_cons_succ, List.getElem?_nil, List.set_cons_zero, List.set_cons_succ, List.map_cons, List.map_nil, List.length_cons, List.length_nil, List.length_append, List.cons_append, List.nil_append, List.length_map, List.length_singleton, Nat.reduceBEq, Nat.reduceAdd, Nat.reduceSub, Nat.reduceMul, Nat.reduceEqDiff, Nat.reduceLeDiff, Nat.reduceLT, if_false, if_true, ite_true, ite_false, ↓reduceIte, Bool.not_true, Bool.not_false, Bool.false_eq_true, decide_true, decide_false, eq_self, and_true, true_and, and_self, Nat.zero_le, Nat.zero_add, Option.bind_some, Option.bind_none, Nat.lt_irrefl, Int.reduceToNat, Int.reducePow, Int.reduceNeg, Int.reduceMul, Int.reduceAdd, Int.reduceSub, Int.reduceLT, Int.reduceLE, Int.reduceEq, beq_self_eq_true, wipeE, MP.at0, MP.at1, MP.at2, MP.atLit, atN, hcd, e1, e2, hany, ha, hcut, hin, hgin]
    exact ⟨_, _, _, rfl⟩
  · rintro s ⟨x1, x6, x7, rfl⟩
    unfold st_checked_5
    simp (disch := (first | assumption | with_reducible rfl | decide +kernel | exact Or.inl (by decide +kernel) | exact Or.inr (by decide +kernel) | omega | (simp only [List.length_cons, List.length_nil, List.length_append, List.length_map, List.length_replicate, List.length_range] <;> omega) | rfl)) only [MP.of_some, MP.map_some, MP.e_lv, MP.e_lo, MP.e_pD, MP.e_xDs, MP.e_xDf, MP.e_pC, MP.e_pYes, MP.e_pVar, MP.e_p2, MP.e_x2, MP.e_p1, MP.e_x1, MP.e_pB, MP.e_xB, MP.e_pNot, MP.e_xNot, MP.e_pAnd, MP.e_xAndT, MP.e_xAndF, MP.e_pOr, MP.e_xOrT, MP.e_xOrF, MP.e_pAndV, MP.e_xAndVT, MP.e_xAndVF, MP.e_pOrV, MP.e_xOrVT, MP.e_xOrVF, MP.e_pNotV, MP.e_xNotV, MP.e_pIf, MP.e_xIfT, MP.e_xIfF, MP.e_p3, MP.e_x3, MP.e_x3bT, MP.e_x3bF, MP.e_pNil, MP.e_pCons, MP.e_xCons, MP.e_pTup, MP.e_xTp, MP.e_pLst, MP.e_xLs, MP.e_pNo, MP.e_pSome, MP.e_xSo, MP.e_pSl, MP.e_xSl, MP.e_pCall, MP.e_xG, MP.e_pSeq, MP.e_xSq, MP.e_pSeqR, MP.e_xSqR, MP.e_pRng, MP.e_pEnum, MP.e_xEn, MP.e_pComp, MP.e_xC, MP.e_xC2, MP.e_pUser, MP.e_xU, MP.e_xFv, MP.e_xFo, MP.e_xFe, MP.e_pSeal, MP.e_xSe, MP.e_xSeFv, MP.e_xSeFo, MP.e_pLook, MP.e_xLo, MP.e_xLoF, MP.e_pFld, MP.e_xFd, MP.e_xOb, MP.e_xLk0, MP.e_xLk1, MP.e_c0, MP.e_c1, MP.g_add, MP.g_catS, MP.g_catL, MP.g_catT, MP.g_sub, MP.g_mul, MP.g_rep, MP.g_div, MP.g_mod, MP.g_pow, MP.g_shl, MP.g_shr, MP.g_and, MP.g_orI, MP.g_neg, MP.g_lt, MP.g_le, MP.g_gt, MP.g_ge, MP.g_eqI, MP.g_eqS, MP.g_eqBo, MP.g_neI, MP.g_neS, MP.g_neBo, MP.g_is, MP.g_isNot, MP.n_none, MP.n_int, MP.n_str, MP.n_tup, MP.n_list, MP.n_bool, MP.g_max, MP.g_min, MP.g_lenL, MP.g_lenK, MP.g_lenT, MP.g_listL, MP.g_listK, MP.g_listT, MP.g_tupL, MP.g_tupT, MP.q_list, MP.q_lk, MP.q_tup, MP.g_rng1, MP.g_rng2, MP.g_enumL, MP.g_enumK, MP.g_ixL, MP.g_ixK, MP.g_ixT, MP.g_slL, MP.g_slK, MP.g_slT, MP.s_Nil, MP.s_Brk, MP.s_Cont, MP.s_Seq, MP.s_xSn, MP.s_xSr, MP.s_xSb, MP.s_xSc, MP.s_xSe, MP.s_Expr, MP.s_xEx, MP.s_SetV, MP.s_xSV, MP.s_SetO, MP.s_xSOs, MP.s_xSOf, MP.s_Ret, MP.s_xRts, MP.s_xRtf, MP.s_RetN, MP.s_RetS, MP.s_xRSo, MP.s_xRSv, MP.s_If, MP.s_xIfT, MP.s_xIfF, MP.s_Tup, MP.s_xTu, MP.s_xTb, MP.s_For, MP.s_xFor, MP.s_App, MP.s_xAp, MP.s_Thaw, MP.s_xTh, MP.s_Frz, MP.s_xFzo, MP.s_xFzv, MP.s_ExprF, MP.s_xEF, MP.s_SetF, MP.s_xSF, MP.s_RetF, MP.s_xRF, MP.s_IfF, MP.s_xIFT, MP.s_xIFF, MP.s_FldN, MP.s_xN, MP.s_xN2, MP.s_xN3, MP.s_put0, MP.s_put1, MP.s_putN, MP.f_P, MP.f_xPs, MP.f_xPf, MP.f_User, MP.f_xFU, MP.f_Meth, MP.f_xM, MP.f_xM2, MP.f_Make, MP.f_xMk, MP.f_xMkF, MP.fe_ok, MP.r_run, MP.r_un, MP.r_un0, MP.r_nx, MP.r_ret, MP.r_exc, MP.t_nx, MP.t_cont, MP.t_brk, MP.t_ret, MP.b_nm, MP.b_tp2, MP.b_tp3, MP.t_bk, MP.fe_pop, MP.s_appF, MP.s_dead, MP.g_divmod, MP.g_sorted, MP.g_allB, MP.g_anyB, MP.g_sumI, MP.g_zipT, MP.g_zipL, MP.e_pZip, MP.e_xZp, MP.g_abs, MP.g_intI, MP.g_intB, MP.g_repT, MP.e_pLRng, MP.e_xLR, MP.f_Pop, MP.f_xPop, MP.s_AppF, MP.s_xAF0, MP.s_xAF, MP.s_xAF2, MP.g_inI, MP.g_ninI, MP.g_inT, MP.g_ninT, MP.g_ninST, MP.e_c2, MP.e_c3, MP.e_c4, MP.e_c5, MP.e_pIsi, List.getElem?_cons_zero, List.getElem?_cons_succ, List.getElem?_nil, List.set_cons_zero, List.set_cons_succ, List.map_cons, List.map_nil, List.length_cons, List.length_nil, List.length_append, List.cons_append, List.nil_append, List.length_map, List.length_singleton, Nat.reduceBEq, Nat.reduceAdd, Nat.reduceSub, Nat.reduceMul, Nat.reduceEqDiff, Nat.reduceLeDiff, Nat.reduceLT, if_false, if_true, ite_true, ite_false, ↓reduceIte, Bool.not_true, Bool.not_false, Bool.false_eq_true, decide_true, decide_false, eq_self, and_true, true_and, and_self, Nat.zero_le, Nat.zero_add, Option.bind_some, Option.bind_none, Nat.lt_irrefl, Int.reduceToNat, Int.reducePow, Int.reduceNeg, Int.reduceMul, Int.reduceAdd, Int.reduceSub, Int.reduceLT, Int.reduceLE, Int.reduceEq, beq_self_eq_true, wipeE, MP.at0, MP.at1, MP.at2, MP.atLit]
/-! ## beds that are drawn -/
structure KsOk (K : Nat) (r0 : List Mn) (ks : List Nat) : Prop where
  l5 : ks.length ≤ 5
  up : ks.Pairwise (· < ·)
  ok : ∀ k ∈ ks, k < K ∧ (r0.getD k .non).isL = true
structure ChsOk (K : Nat) (r0 : List Mn) (cs : List (List Nat × Nat)) : Prop where
  ch : ∀ c ∈ cs, ChOk K r0 c
  nd : (cs.map Prod.fst).Nodup
theorem ChsOk.add {K : Nat} {r0 : List Mn} {cs : List (List Nat × Nat)} (g : ChsOk K r0 cs) {ks : List Nat} (h : KsOk K r0 ks) (h2 : 2 ≤ ks.length) (hn : ks ∉ cs.map Prod.fst) {n : Nat} (hc : n < 26) : ChsOk K r0 (cs ++ [(ks, n)]) := by
  refine ⟨fun c hm => ?_, ?_⟩
  · rcases List.mem_append.mp hm with hm | hm
    · exact g.ch c hm
    · rw [List.mem_singleton] at hm
      subst hm
      exact ⟨hc, h2, h.l5, h.up, h.ok⟩
  · rw [List.map_append]
    refine List.nodup_append.mpr ⟨g.nd, by simp, fun a ha b hb => ?_⟩
    have hb : b = ks := by simpa using hb
    subst hb
    exact fun e => hn (e ▸ ha)
def plainF (K : Nat) (r0 : List Mn) : List Nat := (List.range K).filter fun k => (r0.getD k .non).isL
theorem plain_ok {K : Nat} (hK : K ≤ 5) {r0 : List Mn} (q : Nat → Bool) : KsOk K r0 ((plainF K r0).filter q) := by
  refine ⟨?_, ?_, fun k hk => ?_⟩
  · refine Nat.le_trans (List.length_filter_le ..) ?_
    unfold plainF
    exact Nat.le_trans (List.length_filter_le ..) (by simp; omega)
  · exact ((List.pairwise_lt_range).filter _).filter _
  · have h1 := (List.mem_filter.mp hk).1
    unfold plainF at h1
    have h2 := List.mem_filter.mp h1
    exact ⟨List.mem_range.mp h2.1, h2.2⟩
theorem pw_at : ∀ k : Fin 5, atI [D.int 1, D.int 2, D.int 4, D.int 8, D.int 16] ((k.val : Nat) : Int) = some (.int ([1, 2, 4, 8, 16].getD k.val 1)) := by
  intro k
  match k with
  | ⟨0, _⟩ => rfl
  | ⟨1, _⟩ => rfl
  | ⟨2, _⟩ => rfl
  | ⟨3, _⟩ => rfl
  | ⟨4, _⟩ => rfl
theorem pw_pos : ∀ k : Fin 5, (0 : Int) < [1, 2, 4, 8, 16].getD k.val 1 ∧ ([1, 2, 4, 8, 16] : List Int).getD k.val 1 < 100 := by decide
def someQ (x : Int) (k : Nat) : Bool := decide (x / ([1, 2, 4, 8, 16] : List Int).getD k 1 % 2 = 1)
theorem m_someT (x : Int) (k : Nat) (hk : k < 5) : (MP.x2 gEq (MP.x2 gMod (MP.x2 gDiv (.ok ⟨.sh, .int x⟩) (PR.of ((atI [D.int 1, D.int 2, D.int 4, D.int 8, D.int 16] (k : Int)).map (RV.mk .sh)))) (.ok ⟨.sh, .int 2⟩)) (.ok ⟨.sh, .int 1⟩)) = .ok ⟨.sh, .bool (someQ x k)⟩ := by
  have h1 := pw_at ⟨k, hk⟩
  have h2 := pw_pos ⟨k, hk⟩
  simp only at h1 h2
  unfold someQ
  generalize ([1, 2, 4, 8, 16] : List Int).getD k 1 = p at h1 h2
  rw [h1]
  simp (disch := (first | assumption | with_reducible rfl | decide +kernel | exact Or.inl (by decide +kernel) | exact Or.inr (by decide +kernel) | omega | (simp only [List.length_cons, List.length_nil, List.length_append, List.length_map, List.length_replicate, List.length_range] <;> omega) | rfl)) only [MP.of_some, MP.map_some, MP.e_lv, MP.e_lo, MP.e_pD, MP.e_xDs, MP.e_xDf, MP.e_pC, MP.e_pYes, MP.e_pVar, MP.e_p2, MP.e_x2, MP.e_p1, MP.e_x1, MP.e_pB, MP.e_xB, MP.e_pNot, MP.e_xNot, MP.e_pAnd, MP.e_xAndT, MP.e_xAndF, MP.e_pOr, MP.e_xOrT, MP.e_xOrF, MP.e_pAndV, MP.e_xAndVT, MP.e_xAndVF, MP.e_pOrV, MP.e_xOrVT, MP.e_xOrVF, MP.e_pNotV, MP.e_xNotV, MP.e_pIf, MP.e_xIfT, MP.e_xIfF, MP.e_p3, MP.e_x3, MP.e_x3bT, MP.e_x3bF, MP.e_pNil, MP.e_pCons, MP.e_xCons, MP.e_pTup, MP.e_xTp, MP.e_pLst, MP.e_xLs, MP.e_pNo, MP.e_pSome, MP.e_xSo, MP.e_pSl, MP.e_xSl, MP.e_pCall, MP.e_xG, MP.e_pSeq, MP.e_xSq, MP.e_pSeqR, MP.e_xSqR, MP.e_pRng, MP.e_pEnum, MP.e_xEn, MP.e_pComp, MP.e_xC, MP.e_xC2, MP.e_pUser, MP.e_xU, MP.e_xFv, MP.e_xFo, MP.e_xFe, MP.e_pSeal, MP.e_xSe, MP.e_xSeFv, MP.e_xSeFo, MP.e_pLook, MP.e_xLo, MP.e_xLoF, MP.e_pFld, MP.e_xFd, MP.e_xOb, MP.e_xLk0, MP.e_xLk1, MP.e_c0, MP.e_c1, MP.g_add, MP.g_catS, MP.g_catL, MP.g_catT, MP.g_sub, MP.g_mul, MP.g_rep, MP.g_div, MP.g_mod, MP.g_pow, MP.g_shl, MP.g_shr, MP.g_and, MP.g_orI, MP.g_neg, MP.g_lt, MP.g_le, MP.g_gt, MP.g_ge, MP.g_eqI, MP.g_eqS, MP.g_eqBo, MP.g_neI, MP.g_neS, MP.g_neBo, MP.g_is, MP.g_isNot, MP.n_none, MP.n_int, MP.n_str, MP.n_tup, MP.n_list, MP.n_bool, MP.g_max, MP.g_min, MP.g_lenL, MP.g_lenK, MP.g_lenT, MP.g_listL, MP.g_listK, MP.g_listT, MP.g_tupL, MP.g_tupT, MP.q_list, MP.q_lk, MP.q_tup, MP.g_rng1, MP.g_rng2, MP.g_enumL, MP.g_enumK, MP.g_ixL, MP.g_ixK, MP.g_ixT, MP.g_slL, MP.g_slK, MP.g_slT, MP.s_Nil, MP.s_Brk, MP.s_Cont, MP.s_Seq, MP.s_xSn, MP.s_xSr, MP.s_xSb, MP.s_xSc, MP.s_xSe, MP.s_Expr, MP.s_xEx, MP.s_SetV, MP.s_xSV, MP.s_SetO, MP.s_xSOs, MP.s_xSOf, MP.s_Ret, MP.s_xRts, MP.s_xRtf, MP.s_RetN, MP.s_RetS, MP.s_xRSo, MP.s_xRSv, MP.s_If, MP.s_xIfT, MP.s_xIfF, MP.s_Tup, MP.s_xTu, MP.s_xTb, MP.s_For, MP.s_xFor, MP.s_App, MP.s_xAp, MP.s_Thaw, MP.s_xTh, MP.s_Frz, MP.s_xFzo, MP.s_xFzv, MP.s_ExprF, MP.s_xEF, MP.s_SetF, MP.s_xSF, MP.s_RetF, MP.s_xRF, MP.s_IfF, MP.s_xIFT, MP.s_xIFF, MP.s_FldN, MP.s_xN, MP.s_xN2, MP.s_xN3, MP.s_put0, MP.s_put1, MP.s_putN, MP.f_P, MP.f_xPs, MP.f_xPf, MP.f_User, MP.f_xFU, MP.f_Meth, MP.f_xM, MP.f_xM2, MP.f_Make, MP.f_xMk, MP.f_xMkF, MP.fe_ok, MP.r_run, MP.r_un, MP.r_un0, MP.r_nx, MP.r_ret, MP.r_exc, MP.t_nx, MP.t_cont, MP.t_brk, MP.t_ret, MP.b_nm, MP.b_tp2, MP.b_tp3, MP.t_bk, MP.fe_pop, MP.s_appF, MP.s_dead, MP.g_divmod, MP.g_sorted, MP.g_allB, MP.g_anyB, MP.g_sumI, MP.g_zipT, MP.g_zipL, MP.e_pZip, MP.e_xZp, MP.g_abs, MP.g_intI, MP.g_intB, MP.g_repT, MP.e_pLRng, MP.e_xLR, MP.f_Pop, MP.f_xPop, MP.s_AppF, MP.s_xAF0, MP.s_xAF, MP.s_xAF2, MP.g_inI, MP.g_ninI, MP.g_inT, MP.g_ninT, MP.g_ninST, MP.e_c2, MP.e_c3, MP.e_c4, MP.e_c5, MP.e_pIsi, List.getElem?_cons_zero, List.getElem?_cons_succ, List.getElem?_nil, List.set_cons_zero, List.set_cons_succ, List.map_cons, List.map_nil, List.length_cons, List.length_nil, List.length_append, List.cons_append, List.nil_append, List.length_map, List.length_singleton, Nat.reduceBEq, Nat.reduceAdd, Nat.reduceSub, Nat.reduceMul, Nat.reduceEqDiff, Nat.reduceLeDiff, Nat.reduceLT, if_false, if_true, ite_true, ite_false, ↓reduceIte, Bool.not_true, Bool.not_false, Bool.false_eq_true, decide_true, decide_false, eq_self, and_true, true_and, and_self, Nat.zero_le, Nat.zero_add, Option.bind_some, Option.bind_none, Nat.lt_irrefl, Int.reduceToNat, Int.reducePow, Int.reduceNeg, Int.reduceMul, Int.reduceAdd, Int.reduceSub, Int.reduceLT, Int.reduceLE, Int.reduceEq, beq_self_eq_true, wipeE, MP.at0, MP.at1, MP.at2, MP.atLit]
theorem m_plainC {K : Nat} {r0 : List Mn} (hl : r0.length = K) (k : Nat) (hk : k < K) : (r0.map Mn.D)[k]? = some (r0.getD k .non).D := by
  rw [List.getElem?_map, List.getD_eq_getElem?_getD, List.getElem?_eq_getElem (by omega)]; rfl
structure RowsOk (K L i : Nat) (ls : List (List Mn)) : Prop where
  n : ls.length = i
  len : ∀ r ∈ ls, r.length = K
  ok : ∀ (j : Nat) (r : List Mn), ls[j]? = some r → ∀ m ∈ r, Mn.Ok j L m
theorem RowsOk.add {K L i : Nat} {ls : List (List Mn)} (g : RowsOk K L i ls) {r : List Mn} (h1 : r.length = K) (h2 : ∀ m ∈ r, Mn.Ok i L m) : RowsOk K L (i + 1) (ls ++ [r]) := by
  refine ⟨by simp [g.n], fun a ha => ?_, fun j a ha => ?_⟩
  · rcases List.mem_append.mp ha with ha | ha
    · exact g.len a ha
    · rw [List.mem_singleton] at ha; subst ha; exact h1
  · have hn := g.n
    by_cases hj : j < ls.length
    · rw [List.getElem?_append_left hj] at ha
      exact g.ok j a ha
    · have hj2 : j = ls.length := by
        have := (List.getElem?_eq_some_iff.mp ha).1
        simp at this
        omega
      subst hj2
      rw [List.getElem?_append_right (Nat.le_refl _), Nat.sub_self] at ha
      cases ha
      rw [hn]
      exact h2
theorem m_rowC (xs : List Int) (hx : xs.length = 20) (K L i : Nat) (hK : K ≤ 5) (hL : L = 1 ∨ L = 2 ∨ L = 3) (hi : i < L) (x3 x5 x6 x7 x8 x10 : Slot) :
    ∃ r : List Mn, r.length = K ∧ (∀ m ∈ r, Mn.Ok i L m) ∧ compL (.nm 9) pYes (pD (pUser 3 sem_l_meaning_of (pCons (pD (p2 gIx (pVar 0) (p2 gPlus (p2 gPlus (pC (.int 1)) (p2 gTimes (pC (.int 5)) (pVar 4))) (pVar 9)))) (pCons (pD (pVar 4)) (pCons (pD (pVar 2)) (pNil))))))
      ⟨[.v (.list (zs xs)), .v (.int (K : Nat)), .v (.int (L : Nat)), x3, .v (.int (i : Nat)), x5, x6, x7, x8, .un, x10], []⟩ (rng 0 (K : Int)) = .ok (r.map Mn.D) := by
  obtain ⟨r, h1, h2, h3⟩ := compE (t := .nm 9) (te := pD (pUser 3 sem_l_meaning_of (pCons (pD (p2 gIx (pVar 0) (p2 gPlus (p2 gPlus (pC (.int 1)) (p2 gTimes (pC (.int 5)) (pVar 4))) (pVar 9)))) (pCons (pD (pVar 4)) (pCons (pD (pVar 2)) (pNil))))))
    (s := ⟨[.v (.list (zs xs)), .v (.int (K : Nat)), .v (.int (L : Nat)), x3, .v (.int (i : Nat)), x5, x6, x7, x8, .un, x10], []⟩) (fun m => Mn.Ok i L m) Mn.D (rng 0 (K : Int)) (fun d hd => by
    rw [rng_0] at hd
    obtain ⟨k, hk, rfl⟩ := List.mem_map.mp hd
    have hk := List.mem_range.mp hk
    have hat := zs_at xs (1 + 5 * i + k) (by omega)
    generalize xs.getD (1 + 5 * i + k) 0 = x at hat
    obtain ⟨m, hm, em⟩ := m_meaning_of x i L hL
    have e1 : (1 : Int) + 5 * (i : Nat) + (k : Nat) = ((1 + 5 * i + k : Nat) : Int) := by omega
    refine ⟨m, hm, _, b_nm .., ?_⟩
    simp (disch := (first | assumption | with_reducible rfl | decide +kernel | exact Or.inl (by decide +kernel) | exact Or.inr (by decide +kernel) | omega | (simp only [List.length_cons, List.length_nil, List.length_append, List.length_map, List.length_replicate, List.length_range] <;> omega) | rfl)) only [MP.of_some, MP.map_some, MP.e_lv, MP.e_lo, MP.e_pD, MP.e_xDs, MP.e_xDf, MP.e_pC, MP.e_pYes, MP.e_pVar, MP.e_p2, MP.e_x2, MP.e_p1, MP.e_x1, MP.e_pB, MP.e_xB, MP.e_pNot, MP.e_xNot, MP.e_pAnd, MP.e_xAndT, MP.e_xAndF, MP.e_pOr, MP.e_xOrT, MP.e_xOrF, MP.e_pAndV, MP.e_xAndVT, MP.e_xAndVF, MP.e_pOrV, MP.e_xOrVT, MP.e_xOrVF, MP.e_pNotV, MP.e_xNotV, MP.e_pIf, MP.e_xIfT, MP.e_xIfF, MP.e_p3, MP.e_x3, MP.e_x3bT, MP.e_x3bF, MP.e_pNil, MP.e_pCons, MP.e_xCons, MP.e_pTup, MP.e_xTp, MP.e_pLst, MP.e_xLs, MP.e_pNo, MP.e_pSome, MP.e_xSo, MP.e_pSl, MP.e_xSl, MP.e_pCall, MP.e_xG, MP.e_pSeq, MP.e_xSq, MP.e_pSeqR, MP.e_xSqR, MP.e_pRng, MP.e_pEnum, MP.e_xEn, MP.e_pComp, MP.e_xC, MP.e_xC2, MP.e_pUser, MP.e_xU, MP.e_xFv, MP.e_xFo, MP.e_xFe, MP.e_pSeal, MP.e_xSe, MP.e_xSeFv, MP.e_xSeFo, MP.e_pLook, MP.e_xLo, MP.e_xLoF, MP.e_pFld, MP.e_xFd, MP.e_xOb, MP.e_xLk0, MP.e_xLk1, MP.e_c0, MP.e_c1, MP.g_add, MP.g_catS, MP.g_catL, MP.g_catT, MP.g_sub, MP.g_mul, MP.g_rep, MP.g_div, MP.g_mod, MP.g_pow, MP.g_shl, MP.g_shr, MP.g_and, MP.g_orI, MP.g_neg, MP.g_lt, MP.g_le, MP.g_gt, MP.g_ge, MP.g_eqI, MP.g_eqS, MP.g_eqBo, MP.g_neI, MP.g_neS, MP.g_neBo, MP.g_is, MP.g_isNot, MP.n_none, MP.n_int, MP.n_str, MP.n_tup, MP.n_list, MP.n_bool, MP.g_max, MP.g_min, MP.g_lenL, MP.g_lenK, MP.g_lenT, MP.g_listL, MP.g_listK, MP.g_listT, MP.g_tupL, MP.g_tupT, MP.q_list, MP.q_lk, MP.q_tup, MP.g_rng1, MP.g_rng2, MP.g_enumL, MP.g_enumK, MP.g_ixL, MP.g_ixK, MP.g_ixT, MP.g_slL, MP.g_slK, MP.g_slT, MP.s_Nil, MP.s_Brk, MP.s_Cont, MP.s_Seq, MP.s_xSn, MP.s_xSr, MP.s_xSb, MP.s_xSc, MP.s_xSe, MP.s_Expr, MP.s_xEx, MP.s_SetV, MP.s_xSV, MP.s_SetO, MP.s_xSOs, MP.s_xSOf, MP.s_Ret, MP.s_xRts, MP.s_xRtf, MP.s_RetN, MP.s_RetS, MP.s_xRSo, MP.s_xRSv, MP.s_If, MP.s_xIfT, MP.s_xIfF, MP.s_Tup, MP.s_xTu, MP.s_xTb, MP.s_For, MP.s_xFor, MP.s_App, MP.s_xAp, MP.s_Thaw, MP.s_xTh, MP.s_Frz, MP.s_xFzo, MP.s_xFzv, MP.s_ExprF, MP.s_xEF, MP.s_SetF, MP.s_xSF, MP.s_RetF, MP.s_xRF, MP.s_IfF, MP.s_xIFT, MP.s_xIFF, MP.s_FldN, MP.s_xN, MP.s_xN2, MP.s_xN3, MP.s_put0, MP.s_put1, MP.s_putN, MP.f_P, MP.f_xPs, MP.f_xPf, MP.f_User, MP.f_xFU, MP.f_Meth, MP.f_xM, MP.f_xM2, MP.f_Make, MP.f_xMk, MP.f_xMkF, MP.fe_ok, MP.r_run, MP.r_un, MP.r_un0, MP.r_nx, MP.r_ret, MP.r_exc, MP.t_nx, MP.t_cont, MP.t_brk, MP.t_ret, MP.b_nm, MP.b_tp2, MP.b_tp3, MP.t_bk, MP.fe_pop, MP.s_appF, MP.s_dead, MP.g_divmod, MP.g_sorted, MP.g_allB, MP.g_anyB, MP.g_sumI, MP.g_zipT, MP.g_zipL, MP.e_pZip, MP.e_xZp, MP.g_abs, MP.g_intI, MP.g_intB, MP.g_repT, MP.e_pLRng, MP.e_xLR, MP.f_Pop, MP.f_xPop, MP.s_AppF, MP.s_xAF0, MP.s_xAF, MP.s_xAF2, MP.g_inI, MP.g_ninI, MP.g_inT, MP.g_ninT, MP.g_ninST, MP.e_c2, MP.e_c3, MP.e_c4, MP.e_c5, MP.e_pIsi, List.getElem?_cons_zero, List.getElem?_cons_succ, List.getElem?_nil, List.set_cons_zero, List.set_cons_succ, List.map_cons, List.map_nil, List.length_cons, List.length_nil, List.length_append, List.cons_append, List.nil_append, List.length_map, List.length_singleton, Nat.reduceBEq, Nat.reduceAdd, Nat.reduceSub, Nat.reduceMul, Nat.reduceEqDiff, Nat.reduceLeDiff, Nat.reduceLT, if_false, if_true, ite_true, ite_false, ↓reduceIte, Bool.not_true, Bool.not_false, Bool.false_eq_true, decide_true, decide_false, eq_self, and_true, true_and, and_self, Nat.zero_le, Nat.zero_add, Option.bind_some, Option.bind_none, Nat.lt_irrefl, Int.reduceToNat, Int.reducePow, Int.reduceNeg, Int.reduceMul, Int.reduceAdd, Int.reduceSub, Int.reduceLT, Int.reduceLE, Int.reduceEq, beq_self_eq_true, wipeE, MP.at0, MP.at1, MP.at2, MP.atLit, e1, atN, hat, em])
  refine ⟨r, by rw [h1, rngLenN], h2, h3⟩
theorem m_read_bed (xs : List Int) (hx : xs.length = 20) : ∃ b, Good b ∧ sem_l_read_bed [.list (zs xs)] [] = .ok (.v (bedD b)) [] := by
  have h0 := zs_at xs 0 (by omega)
  generalize xs.getD 0 0 = a at h0
  obtain ⟨K, hK⟩ : ∃ K : Nat, 1 + a % 5 = (K : Int) := ⟨(1 + a % 5).toNat, by omega⟩
  obtain ⟨L, hL⟩ : ∃ L : Nat, 1 + a / 5 % 3 = (L : Int) := ⟨(1 + a / 5 % 3).toNat, by omega⟩
  obtain ⟨w, hw⟩ : ∃ w : Nat, 1 + a / 15 % 4 = (w : Int) := ⟨(1 + a / 15 % 4).toNat, by omega⟩
  obtain ⟨n, hn⟩ : ∃ n : Nat, a / 60 % 5 = (n : Int) := ⟨(a / 60 % 5).toNat, by omega⟩
  have hL3 : L = 1 ∨ L = 2 ∨ L = 3 := by omega
  unfold sem_l_read_bed
  refine run_ex (Q := fun r => ∃ b, Good b ∧ r = .ok (.v (bedD b)) []) [.v (.list (zs xs)), .un, .un, .un, .un, .un, .un, .un, .un, .un, .un] rfl ?_
  unfold b_l_read_bed
  refine sq (P := fun fl => ∃ b, Good b ∧ fl.fr = .ok (.v (bedD b)) []) (s' := ⟨[.v (.list (zs xs)), .v (.int (K : Nat)), .un, .un, .un, .un, .un, .un, .un, .un, .un], []⟩) (by unfold st_l_read_bed_1; simp (disch := (first | assumption | with_reducible rfl | decide +kernel | exact Or.inl (by decide +kernel) | exact Or.inr (by decide +kernel) | omega | (simp only [List.length_cons, List.length_nil, List.length_append, List.length_map, List.length_replicate, List.length_range] <;> omega) | rfl)) only [MP.of_some, MP.map_some, MP.e_lv, MP.e_lo, MP.e_pD, MP.e_xDs, MP.e_xDf, MP.e_pC, MP.e_pYes, MP.e_pVar, MP.e_p2, MP.e_x2, MP.e_p1, MP.e_x1, MP.e_pB, MP.e_xB, MP.e_pNot, MP.e_xNot, MP.e_pAnd, MP.e_xAndT, MP.e_xAndF, MP.e_pOr, MP.e_xOrT, MP.e_xOrF, MP.e_pAndV, MP.e_xAndVT, MP.e_xAndVF, MP.e_pOrV, MP.e_xOrVT, MP.e_xOrVF, MP.e_pNotV, MP.e_xNotV, MP.e_pIf, MP.e_xIfT, MP.e_xIfF, MP.e_p3, MP.e_x3, MP.e_x3bT, MP.e_x3bF, MP.e_pNil, MP.e_pCons, MP.e_xCons, MP.e_pTup, MP.e_xTp, MP.e_pLst, MP.e_xLs, MP.e_pNo, MP.e_pSome, MP.e_xSo, MP.e_pSl, MP.e_xSl, MP.e_pCall, MP.e_xG, MP.e_pSeq, MP.e_xSq, MP.e_pSeqR, MP.e_xSqR, MP.e_pRng, MP.e_pEnum, MP.e_xEn, MP.e_pComp, MP.e_xC, MP.e_xC2, MP.e_pUser, MP.e_xU, MP.e_xFv, MP.e_xFo, MP.e_xFe, MP.e_pSeal, MP.e_xSe, MP.e_xSeFv, MP.e_xSeFo, MP.e_pLook, MP.e_xLo, MP.e_xLoF, MP.e_pFld, MP.e_xFd, MP.e_xOb, MP.e_xLk0, MP.e_xLk1, MP.e_c0, MP.e_c1, MP.g_add, MP.g_catS, MP.g_catL, MP.g_catT, MP.g_sub, MP.g_mul, MP.g_rep, MP.g_div, MP.g_mod, MP.g_pow, MP.g_shl, MP.g_shr, MP.g_and, MP.g_orI, MP.g_neg, MP.g_lt, MP.g_le, MP.g_gt, MP.g_ge, MP.g_eqI, MP.g_eqS, MP.g_eqBo, MP.g_neI, MP.g_neS, MP.g_neBo, MP.g_is, MP.g_isNot, MP.n_none, MP.n_int, MP.n_str, MP.n_tup, MP.n_list, MP.n_bool, MP.g_max, MP.g_min, MP.g_lenL, MP.g_lenK, MP.g_lenT, MP.g_listL, MP.g_listK, MP.g_listT, MP.g_tupL, MP.g_tupT, MP.q_list, MP.q_lk, MP.q_tup, MP.g_rng1, MP.g_rng2, MP.g_enumL, MP.g_enumK, MP.g_ixL, MP.g_ixK, MP.g_ixT, MP.g_slL, MP.g_slK, MP.g_slT, MP.s_Nil, MP.s_Brk, MP.s_Cont, MP.s_Seq, MP.s_xSn, MP.s_xSr, MP.s_xSb, MP.s_xSc, MP.s_xSe, MP.s_Expr, MP.s_xEx, MP.s_SetV, MP.s_xSV, MP.s_SetO, MP.s_xSOs, MP.s_xSOf, MP.s_Ret, MP.s_xRts, MP.s_xRtf, MP.s_RetN, MP.s_RetS, MP.s_xRSo, MP.s_xRSv, MP.s_If, MP.s_xIfT, MP.s_xIfF, MP.s_Tup, MP.s_xTu, MP.s_xTb, MP.s_For, MP.s_xFor, MP.s_App, MP.s_xAp, MP.s_Thaw, MP.s_xTh, MP.s_Frz, MP.s_xFzo, MP.s_xFzv, MP.s_ExprF, MP.s_xEF, MP.s_SetF, MP.s_xSF, MP.s_RetF, MP.s_xRF, MP.s_IfF, MP.s_xIFT, MP.s_xIFF, MP.s_FldN, MP.s_xN, MP.s_xN2, MP.s_xN3, MP.s_put0, MP.s_put1, MP.s_putN, MP.f_P, MP.f_xPs, MP.f_xPf, MP.f_User, MP.f_xFU, MP.f_Meth, MP.f_xM, MP.f_xM2, MP.f_Make, MP.f_xMk, MP.f_xMkF, MP.fe_ok, MP.r_run, MP.r_un, MP.r_un0, MP.r_nx, MP.r_ret, MP.r_exc, MP.t_nx, MP.t_cont, MP.t_brk, MP.t_ret, MP.b_nm, MP.b_tp2, MP.b_tp3, MP.t_bk, MP.fe_pop, MP.s_appF, MP.s_dead, MP.g_divmod, MP.g_sorted, MP.g_allB, MP.g_anyB, MP.g_sumI, MP.g_zipT, MP.g_zipL, MP.e_pZip, MP.e_xZp, MP.g_abs, MP.g_intI, MP.g_intB, MP.g_repT, MP.e_pLRng, MP.e_xLR, MP.f_Pop, MP.f_xPop, MP.s_AppF, MP.s_xAF0, MP.s_xAF, MP.s_xAF2, MP.g_inI, MP.g_ninI, MP.g_inT, MP.g_ninT, MP.g_ninST, MP.e_c2, MP.e_c3, MP.e_c4, MP.e_c5, MP.e_pIsi, List.getElem?_cons_zero, List.getElem?_cons_succ, List.getElem?_nil, List.set_cons_zero, List.set_cons_succ, List.map_cons, List.map_nil, List.length_cons, List.length_nil, List.length_append, List.cons_append, List.nil_append, List.length_map, List.length_singleton, Nat.reduceBEq, Nat.reduceAdd, Nat.reduceSub, Nat.reduceMul, Nat.reduceEqDiff, Nat.reduceLeDiff, Nat.reduceLT, if_false, if_true, ite_true, ite_false, ↓reduceIte, Bool.not_true, Bool.not_false, Bool.false_eq_true, decide_true, decide_false, eq_self, and_true, true_and, and_self, Nat.zero_le, Nat.zero_add, Option.bind_some, Option.bind_none, Nat.lt_irrefl, Int.reduceToNat, Int.reducePow, Int.reduceNeg, Int.reduceMul, Int.reduceAdd, Int.reduceSub, Int.reduceLT, Int.reduceLE, Int.reduceEq, beq_self_eq_true, wipeE, MP.at0, MP.at1, MP.at2, MP.atLit, h0, hK]) ?_
  refine sq (P := fun fl => ∃ b, Good b ∧ fl.fr = .ok (.v (bedD b)) []) (s' := ⟨[.v (.list (zs xs)), .v (.int (K : Nat)), .v (.int (L : Nat)), .un, .un, .un, .un, .un, .un, .un, .un], []⟩) (by unfold st_l_read_bed_2; simp (disch := (first | assumption | with_reducible rfl | decide +kernel | exact Or.inl (by decide +kernel) | exact Or.inr (by decide +kernel) | omega | (simp only [List.length_cons, List.length_nil, List.length_append, List.length_map, List.length_replicate, List.length_range] <;> omega) | rfl)) only [MP.of_some, MP.map_some, MP.e_lv, MP.e_lo, MP.e_pD, MP.e_xDs, MP.e_xDf, MP.e_pC, MP.e_pYes, MP.e_pVar, MP.e_p2, MP.e_x2, MP.e_p1, MP.e_x1, MP.e_pB, MP.e_xB, MP.e_pNot, MP.e_xNot, MP.e_pAnd, MP.e_xAndT, MP.e_xAndF, MP.e_pOr, MP.e_xOrT, MP.e_xOrF, MP.e_pAndV, MP.e_xAndVT, MP.e_xAndVF, MP.e_pOrV, MP.e_xOrVT, MP.e_xOrVF, MP.e_pNotV, MP.e_xNotV, MP.e_pIf, MP.e_xIfT, MP.e_xIfF, MP.e_p3, MP.e_x3, MP.e_x3bT, MP.e_x3bF, MP.e_pNil, MP.e_pCons, MP.e_xCons, MP.e_pTup, MP.e_xTp, MP.e_pLst, MP.e_xLs, MP.e_pNo, MP.e_pSome, MP.e_xSo, MP.e_pSl, MP.e_xSl, MP.e_pCall, MP.e_xG, MP.e_pSeq, MP.e_xSq, MP.e_pSeqR, MP.e_xSqR, MP.e_pRng, MP.e_pEnum, MP.e_xEn, MP.e_pComp, MP.e_xC, MP.e_xC2, MP.e_pUser, MP.e_xU, MP.e_xFv, MP.e_xFo, MP.e_xFe, MP.e_pSeal, MP.e_xSe, MP.e_xSeFv, MP.e_xSeFo, MP.e_pLook, MP.e_xLo, MP.e_xLoF, MP.e_pFld, MP.e_xFd, MP.e_xOb, MP.e_xLk0, MP.e_xLk1, MP.e_c0, MP.e_c1, MP.g_add, MP.g_catS, MP.g_catL, MP.g_catT, MP.g_sub, MP.g_mul, MP.g_rep, MP.g_div, MP.g_mod, MP.g_pow, MP.g_shl, MP.g_shr, MP.g_and, MP.g_orI, MP.g_neg, MP.g_lt, MP.g_le, MP.g_gt, MP.g_ge, MP.g_eqI, MP.g_eqS, MP.g_eqBo, MP.g_neI, MP.g_neS, MP.g_neBo, MP.g_is, MP.g_isNot, MP.n_none, MP.n_int, MP.n_str, MP.n_tup, MP.n_list, MP.n_bool, MP.g_max, MP.g_min, MP.g_lenL, MP.g_lenK, MP.g_lenT, MP.g_listL, MP.g_listK, MP.g_listT, MP.g_tupL, MP.g_tupT, MP.q_list, MP.q_lk, MP.q_tup, MP.g_rng1, MP.g_rng2, MP.g_enumL, MP.g_enumK, MP.g_ixL, MP.g_ixK, MP.g_ixT, MP.g_slL, MP.g_slK, MP.g_slT, MP.s_Nil, MP.s_Brk, MP.s_Cont, MP.s_Seq, MP.s_xSn, MP.s_xSr, MP.s_xSb, MP.s_xSc, MP.s_xSe, MP.s_Expr, MP.s_xEx, MP.s_SetV, MP.s_xSV, MP.s_SetO, MP.s_xSOs, MP.s_xSOf, MP.s_Ret, MP.s_xRts, MP.s_xRtf, MP.s_RetN, MP.s_RetS, MP.s_xRSo, MP.s_xRSv, MP.s_If, MP.s_xIfT, MP.s_xIfF, MP.s_Tup, MP.s_xTu, MP.s_xTb, MP.s_For, MP.s_xFor, MP.s_App, MP.s_xAp, MP.s_Thaw, MP.s_xTh, MP.s_Frz, MP.s_xFzo, MP.s_xFzv, MP.s_ExprF, MP.s_xEF, MP.s_SetF, MP.s_xSF, MP.s_RetF, MP.s_xRF, MP.s_IfF, MP.s_xIFT, MP.s_xIFF, MP.s_FldN, MP.s_xN, MP.s_xN2, MP.s_xN3, MP.s_put0, MP.s_put1, MP.s_putN, MP.f_P, MP.f_xPs, MP.f_xPf, MP.f_User, MP.f_xFU, MP.f_Meth, MP.f_xM, MP.f_xM2, MP.f_Make, MP.f_xMk, MP.f_xMkF, MP.fe_ok, MP.r_run, MP.r_un, MP.r_un0, MP.r_nx, MP.r_ret, MP.r_exc, MP.t_nx, MP.t_cont, MP.t_brk, MP.t_ret, MP.b_nm, MP.b_tp2, MP.b_tp3, MP.t_bk, MP.fe_pop, MP.s_appF, MP.s_dead, MP.g_divmod, MP.g_sorted, MP.g_allB, MP.g_anyB, MP.g_sumI, MP.g_zipT, MP.g_zipL, MP.e_pZip, MP.e_xZp, MP.g_abs, MP.g_intI, MP.g_intB, MP.g_repT, MP.e_pLRng, MP.e_xLR, MP.f_Pop, MP.f_xPop, MP.s_AppF, MP.s_xAF0, MP.s_xAF, MP.s_xAF2, MP.g_inI, MP.g_ninI, MP.g_inT, MP.g_ninT, MP.g_ninST, MP.e_c2, MP.e_c3, MP.e_c4, MP.e_c5, MP.e_pIsi, List.getElem?_cons_zero, List.getElem?_cons_succ, List.getElem?_nil, List.set_cons_zero, List.set_cons_succ, List.map_cons, List.map_nil, List.length_cons, List.length_nil, List.length_append, List.cons_append, List.nil_append, List.length_map, List.length_singleton, Nat.reduceBEq, Nat.reduceAdd, Nat.reduceSub, Nat.reduceMul, Nat.reduceEqDiff, Nat.reduceLeDiff, Nat.reduceLT, if_false, if_true, ite_true, ite_false, ↓reduceIte, Bool.not_true, Bool.not_false, Bool.false_eq_true, decide_true, decide_false, eq_self, and_true, true_and, and_self, Nat.zero_le, Nat.zero_add, Option.bind_some, Option.bind_none, Nat.lt_irrefl, Int.reduceToNat, Int.reducePow, Int.reduceNeg, Int.reduceMul, Int.reduceAdd, Int.reduceSub, Int.reduceLT, Int.reduceLE, Int.reduceEq, beq_self_eq_true, wipeE, MP.at0, MP.at1, MP.at2, MP.atLit, h0, hL]) ?_
  refine sq (P := fun fl => ∃ b, Good b ∧ fl.fr = .ok (.v (bedD b)) []) (s' := ⟨[.v (.list (zs xs)), .v (.int (K : Nat)), .v (.int (L : Nat)), .own (.list []), .un, .un, .un, .un, .un, .un, .un], []⟩) (by unfold st_l_read_bed_3; simp (disch := (first | assumption | with_reducible rfl | decide +kernel | exact Or.inl (by decide +kernel) | exact Or.inr (by decide +kernel) | omega | (simp only [List.length_cons, List.length_nil, List.length_append, List.length_map, List.length_replicate, List.length_range] <;> omega) | rfl)) only [MP.of_some, MP.map_some, MP.e_lv, MP.e_lo, MP.e_pD, MP.e_xDs, MP.e_xDf, MP.e_pC, MP.e_pYes, MP.e_pVar, MP.e_p2, MP.e_x2, MP.e_p1, MP.e_x1, MP.e_pB, MP.e_xB, MP.e_pNot, MP.e_xNot, MP.e_pAnd, MP.e_xAndT, MP.e_xAndF, MP.e_pOr, MP.e_xOrT, MP.e_xOrF, MP.e_pAndV, MP.e_xAndVT, MP.e_xAndVF, MP.e_pOrV, MP.e_xOrVT, MP.e_xOrVF, MP.e_pNotV, MP.e_xNotV, MP.e_pIf, MP.e_xIfT, MP.e_xIfF, MP.e_p3, MP.e_x3, MP.e_x3bT, MP.e_x3bF, MP.e_pNil, MP.e_pCons, MP.e_xCons, MP.e_pTup, MP.e_xTp, MP.e_pLst, MP.e_xLs, MP.e_pNo, MP.e_pSome, MP.e_xSo, MP.e_pSl, MP.e_xSl, MP.e_pCall, MP.e_xG, MP.e_pSeq, MP.e_xSq, MP.e_pSeqR, MP.e_xSqR, MP.e_pRng, MP.e_pEnum, MP.e_xEn, MP.e_pComp, MP.e_xC, MP.e_xC2, MP.e_pUser, MP.e_xU, MP.e_xFv, MP.e_xFo, MP.e_xFe, MP.e_pSeal, MP.e_xSe, MP.e_xSeFv, MP.e_xSeFo, MP.e_pLook, MP.e_xLo, MP.e_xLoF, MP.e_pFld, MP.e_xFd, MP.e_xOb, MP.e_xLk0, MP.e_xLk1, MP.e_c0, MP.e_c1, MP.g_add, MP.g_catS, MP.g_catL, MP.g_catT, MP.g_sub, MP.g_mul, MP.g_rep, MP.g_div, MP.g_mod, MP.g_pow, MP.g_shl, MP.g_shr, MP.g_and, MP.g_orI, MP.g_neg, MP.g_lt, MP.g_le, MP.g_gt, MP.g_ge, MP.g_eqI, MP.g_eqS, MP.g_eqBo, MP.g_neI, MP.g_neS, MP.g_neBo, MP.g_is, MP.g_isNot, MP.n_none, MP.n_int, MP.n_str, MP.n_tup, MP.n_list, MP.n_bool, MP.g_max, MP.g_min, MP.g_lenL, MP.g_lenK, MP.g_lenT, MP.g_listL, MP.g_listK, MP.g_listT, MP.g_tupL, MP.g_tupT, MP.q_list, MP.q_lk, MP.q_tup, MP.g_rng1, MP.g_rng2, MP.g_enumL, MP.g_enumK, MP.g_ixL, MP.g_ixK, MP.g_ixT, MP.g_slL, MP.g_slK, MP.g_slT, MP.s_Nil, MP.s_Brk, MP.s_Cont, MP.s_Seq, MP.s_xSn, MP.s_xSr, MP.s_xSb, MP.s_xSc, MP.s_xSe, MP.s_Expr, MP.s_xEx, MP.s_SetV, MP.s_xSV, MP.s_SetO, MP.s_xSOs, MP.s_xSOf, MP.s_Ret, MP.s_xRts, MP.s_xRtf, MP.s_RetN, MP.s_RetS, MP.s_xRSo, MP.s_xRSv, MP.s_If, MP.s_xIfT, MP.s_xIfF, MP.s_Tup, MP.s_xTu, MP.s_xTb, MP.s_For, MP.s_xFor, MP.s_App, MP.s_xAp, MP.s_Thaw, MP.s_xTh, MP.s_Frz, MP.s_xFzo, MP.s_xFzv, MP.s_ExprF, MP.s_xEF, MP.s_SetF, MP.s_xSF, MP.s_RetF, MP.s_xRF, MP.s_IfF, MP.s_xIFT, MP.s_xIFF, MP.s_FldN, MP.s_xN, MP.s_xN2, MP.s_xN3, MP.s_put0, MP.s_put1, MP.s_putN, MP.f_P, MP.f_xPs, MP.f_xPf, MP.f_User, MP.f_xFU, MP.f_Meth, MP.f_xM, MP.f_xM2, MP.f_Make, MP.f_xMk, MP.f_xMkF, MP.fe_ok, MP.r_run, MP.r_un, MP.r_un0, MP.r_nx, MP.r_ret, MP.r_exc, MP.t_nx, MP.t_cont, MP.t_brk, MP.t_ret, MP.b_nm, MP.b_tp2, MP.b_tp3, MP.t_bk, MP.fe_pop, MP.s_appF, MP.s_dead, MP.g_divmod, MP.g_sorted, MP.g_allB, MP.g_anyB, MP.g_sumI, MP.g_zipT, MP.g_zipL, MP.e_pZip, MP.e_xZp, MP.g_abs, MP.g_intI, MP.g_intB, MP.g_repT, MP.e_pLRng, MP.e_xLR, MP.f_Pop, MP.f_xPop, MP.s_AppF, MP.s_xAF0, MP.s_xAF, MP.s_xAF2, MP.g_inI, MP.g_ninI, MP.g_inT, MP.g_ninT, MP.g_ninST, MP.e_c2, MP.e_c3, MP.e_c4, MP.e_c5, MP.e_pIsi, List.getElem?_cons_zero, List.getElem?_cons_succ, List.getElem?_nil, List.set_cons_zero, List.set_cons_succ, List.map_cons, List.map_nil, List.length_cons, List.length_nil, List.length_append, List.cons_append, List.nil_append, List.length_map, List.length_singleton, Nat.reduceBEq, Nat.reduceAdd, Nat.reduceSub, Nat.reduceMul, Nat.reduceEqDiff, Nat.reduceLeDiff, Nat.reduceLT, if_false, if_true, ite_true, ite_false, ↓reduceIte, Bool.not_true, Bool.not_false, Bool.false_eq_true, decide_true, decide_false, eq_self, and_true, true_and, and_self, Nat.zero_le, Nat.zero_add, Option.bind_some, Option.bind_none, Nat.lt_irrefl, Int.reduceToNat, Int.reducePow, Int.reduceNeg, Int.reduceMul, Int.reduceAdd, Int.reduceSub, Int.reduceLT, Int.reduceLE, Int.reduceEq, beq_self_eq_true, wipeE, MP.at0, MP.at1, MP.at2, MP.atLit]) ?_
  unfold st_l_read_bed_4
  refine forP (P := fun fl => ∃ b, Good b ∧ fl.fr = .ok (.v (bedD b)) []) (rng 0 (L : Int)) (fun i s => ∃ ls x4, RowsOk K L i ls ∧ s = ⟨[.v (.list (zs xs)), .v (.int (K : Nat)), .v (.int (L : Nat)), .own (.list (ls.map rowD)), x4, .un, .un, .un, .un, .un, .un], []⟩) (by simp (disch := (first | assumption | with_reducible rfl | decide +kernel | exact Or.inl (by decide +kernel) | exact Or.inr (by decide +kernel) | omega | (simp only [List.length_cons, List.length_nil, List.length_append, List.length_map, List.length_replicate, List.length_range] <;> omega) | rfl)) only [MP.of_some, MP.map_some, MP.e_lv, MP.e_lo, MP.e_pD, MP.e_xDs, MP.e_xDf, MP.e_pC, MP.e_pYes, MP.e_pVar, MP.e_p2, MP.e_x2, MP.e_p1, MP.e_x1, MP.e_pB, MP.e_xB, MP.e_pNot, MP.e_xNot, MP.e_pAnd, MP.e_xAndT, MP.e_xAndF, MP.e_pOr, MP.e_xOrT, MP.e_xOrF, MP.e_pAndV, MP.e_xAndVT, MP.e_xAndVF, MP.e_pOrV, MP.e_xOrVT, MP.e_xOrVF, MP.e_pNotV, MP.e_xNotV, MP.e_pIf, MP.e_xIfT, MP.e_xIfF, MP.e_p3, MP.e_x3, MP.e_x3bT, MP.e_x3bF, MP.e_pNil, MP.e_pCons, MP.e_xCons, MP.e_pTup, MP.e_xTp, MP.e_pLst, MP.e_xLs, MP.e_pNo, MP.e_pSome, MP.e_xSo, MP.e_pSl, MP.e_xSl, MP.e_pCall, MP.e_xG, MP.e_pSeq, MP.e_xSq, MP.e_pSeqR, MP.e_xSqR, MP.e_pRng, MP.e_pEnum, MP.e_xEn, MP.e_pComp, MP.e_xC, MP.e_xC2, MP.e_pUser, MP.e_xU, MP.e_xFv, MP.e_xFo, MP.e_xFe, MP.e_pSeal, MP.e_xSe, MP.e_xSeFv, MP.e_xSeFo, MP.e_pLook, MP.e_xLo, MP.e_xLoF, MP.e_pFld, MP.e_xFd, MP.e_xOb, MP.e_xLk0, MP.e_xLk1, MP.e_c0, MP.e_c1, MP.g_add, MP.g_catS, MP.g_catL, MP.g_catT, MP.g_sub, MP.g_mul, MP.g_rep, MP.g_div, MP.g_mod, MP.g_pow, MP.g_shl, MP.g_shr, MP.g_and, MP.g_orI, MP.g_neg, MP.g_lt, MP.g_le, MP.g_gt, MP.g_ge, MP.g_eqI, MP.g_eqS, MP.g_eqBo, MP.g_neI, MP.g_neS, MP.g_neBo, MP.g_is, MP.g_isNot, MP.n_none, MP.n_int, MP.n_str, MP.n_tup, MP.n_list, MP.n_bool, MP.g_max, MP.g_min, MP.g_lenL, MP.g_lenK, MP.g_lenT, MP.g_listL, MP.g_listK, MP.g_listT, MP.g_tupL, MP.g_tupT, MP.q_list, MP.q_lk, MP.q_tup, MP.g_rng1, MP.g_rng2, MP.g_enumL, MP.g_enumK, MP.g_ixL, MP.g_ixK, MP.g_ixT, MP.g_slL, MP.g_slK, MP.g_slT, MP.s_Nil, MP.s_Brk, MP.s_Cont, MP.s_Seq, MP.s_xSn, MP.s_xSr, MP.s_xSb, MP.s_xSc, MP.s_xSe, MP.s_Expr, MP.s_xEx, MP.s_SetV, MP.s_xSV, MP.s_SetO, MP.s_xSOs, MP.s_xSOf, MP.s_Ret, MP.s_xRts, MP.s_xRtf, MP.s_RetN, MP.s_RetS, MP.s_xRSo, MP.s_xRSv, MP.s_If, MP.s_xIfT, MP.s_xIfF, MP.s_Tup, MP.s_xTu, MP.s_xTb, MP.s_For, MP.s_xFor, MP.s_App, MP.s_xAp, MP.s_Thaw, MP.s_xTh, MP.s_Frz, MP.s_xFzo, MP.s_xFzv, MP.s_ExprF, MP.s_xEF, MP.s_SetF, MP.s_xSF, MP.s_RetF, MP.s_xRF, MP.s_IfF, MP.s_xIFT, MP.s_xIFF, MP.s_FldN, MP.s_xN, MP.s_xN2, MP.s_xN3, MP.s_put0, MP.s_put1, MP.s_putN, MP.f_P, MP.f_xPs, MP.f_xPf, MP.f_User, MP.f_xFU, MP.f_Meth, MP.f_xM, MP.f_xM2, MP.f_Make, MP.f_xMk, MP.f_xMkF, MP.fe_ok, MP.r_run, MP.r_un, MP.r_un0, MP.r_nx, MP.r_ret, MP.r_exc, MP.t_nx, MP.t_cont, MP.t_brk, MP.t_ret, MP.b_nm, MP.b_tp2, MP.b_tp3, MP.t_bk, MP.fe_pop, MP.s_appF, MP.s_dead, MP.g_divmod, MP.g_sorted, MP.g_allB, MP.g_anyB, MP.g_sumI, MP.g_zipT, MP.g_zipL, MP.e_pZip, MP.e_xZp, MP.g_abs, MP.g_intI, MP.g_intB, MP.g_repT, MP.e_pLRng, MP.e_xLR, MP.f_Pop, MP.f_xPop, MP.s_AppF, MP.s_xAF0, MP.s_xAF, MP.s_xAF2, MP.g_inI, MP.g_ninI, MP.g_inT, MP.g_ninT, MP.g_ninST, MP.e_c2, MP.e_c3, MP.e_c4, MP.e_c5, MP.e_pIsi, List.getElem?_cons_zero, List.getElem?_cons_succ, List.getElem?_nil, List.set_cons_zero, List.set_cons_succ, List.map_cons, List.map_nil, List.length_cons, List.length_nil, List.length_append, List.cons_append, List.nil_append, List.length_map, List.length_singleton, Nat.reduceBEq, Nat.reduceAdd, Nat.reduceSub, Nat.reduceMul, Nat.reduceEqDiff, Nat.reduceLeDiff, Nat.reduceLT, if_false, if_true, ite_true, ite_false, ↓reduceIte, Bool.not_true, Bool.not_false, Bool.false_eq_true, decide_true, decide_false, eq_self, and_true, true_and, and_self, Nat.zero_le, Nat.zero_add, Option.bind_some, Option.bind_none, Nat.lt_irrefl, Int.reduceToNat, Int.reducePow, Int.reduceNeg, Int.reduceMul, Int.reduceAdd, Int.reduceSub, Int.reduceLT, Int.reduceLE, Int.reduceEq, beq_self_eq_true, wipeE, MP.at0, MP.at1, MP.at2, MP.atLit]) ⟨[], _, ⟨rfl, (fun r hr => by cases hr), fun j r hr => by simp at hr⟩, rfl⟩ ?_ ?_
  · rintro i d s hd ⟨ls, x4, g, rfl⟩
    obtain ⟨rfl, hi⟩ := rngAt hd
    obtain ⟨r, h1, h2, h3⟩ := m_rowC xs hx K L i (by omega) hL3 (by omega) (.own (.list (ls.map rowD))) .un .un .un .un .un
    have hrl := rngLenN K
    have hgn := g.n
    have hml : (ls.map rowD).length = ls.length := by simp
    have hsn : ls.map rowD ++ [.tup (r.map Mn.D)] = (ls ++ [r]).map rowD := by rw [List.map_append]; rfl
    generalize hlm : ls.map rowD = lsd at *
    generalize hrm : r.map Mn.D = rd at *
    refine ⟨_, b_nm .., ?_⟩
    unfold lp_l_read_bed_1
    simp (disch := (first | assumption | with_reducible rfl | decide +kernel | exact Or.inl (by decide +kernel) | exact Or.inr (by decide +kernel) | omega | (simp only [List.length_cons, List.length_nil, List.length_append, List.length_map, List.length_replicate, List.length_range] <;> omega) | rfl)) only [MP.of_some, MP.map_some, MP.e_lv, MP.e_lo, MP.e_pD, MP.e_xDs, MP.e_xDf, MP.e_pC, MP.e_pYes, MP.e_pVar, MP.e_p2, MP.e_x2, MP.e_p1, MP.e_x1, MP.e_pB, MP.e_xB, MP.e_pNot, MP.e_xNot, MP.e_pAnd, MP.e_xAndT, MP.e_xAndF, MP.e_pOr, MP.e_xOrT, MP.e_xOrF, MP.e_pAndV, MP.e_xAndVT, MP.e_xAndVF, MP.e_pOrV, MP.e_xOrVT, MP.e_xOrVF, MP.e_pNotV, MP.e_xNotV, MP.e_pIf, MP.e_xIfT, MP.e_xIfF, MP.e_p3, MP.e_x3, MP.e_x3bT, MP.e_x3bF, MP.e_pNil, MP.e_pCons, MP.e_xCons, MP.e_pTup, MP.e_xTp, MP.e_pLst, MP.e_xLs, MP.e_pNo, MP.e_pSome, MP.e_xSo, MP.e_pSl, MP.e_xSl, MP.e_pCall, MP.e_xG, MP.e_pSeq, MP.e_xSq, MP.e_pSeqR, MP.e_xSqR, MP.e_pRng, MP.e_pEnum, MP.e_xEn, MP.e_pComp, MP.e_xC, MP.e_xC2, MP.e_pUser, MP.e_xU, MP.e_xFv, MP.e_xFo, MP.e_xFe, MP.e_pSeal, MP.e_xSe, MP.e_xSeFv, MP.e_xSeFo, MP.e_pLook, MP.e_xLo, MP.e_xLoF, MP.e_pFld, MP.e_xFd, MP.e_xOb, MP.e_xLk0, MP.e_xLk1, MP.e_c0, MP.e_c1, MP.g_add, MP.g_catS, MP.g_catL, MP.g_catT, MP.g_sub, MP.g_mul, MP.g_rep, MP.g_div, MP.g_mod, MP.g_pow, MP.g_shl, MP.g_shr, MP.g_and, MP.g_orI, MP.g_neg, MP.g_lt, MP.g_le, MP.g_gt, MP.g_ge, MP.g_eqI, MP.g_eqS, MP.g_eqBo, MP.g_neI, MP.g_neS, MP.g_neBo, MP.g_is, MP.g_isNot, MP.n_none, MP.n_int, MP.n_str, MP.n_tup, MP.n_list, MP.n_bool, MP.g_max, MP.g_min, MP.g_lenL, MP.g_lenK, MP.g_lenT, MP.g_listL, MP.g_listK, MP.g_listT, MP.g_tupL, MP.g_tupT, MP.q_list, MP.q_lk, MP.q_tup, MP.g_rng1, MP.g_rng2, MP.g_enumL, MP.g_enumK, MP.g_ixL, MP.g_ixK, MP.g_ixT, MP.g_slL, MP.g_slK, MP.g_slT, MP.s_Nil, MP.s_Brk, MP.s_Cont, MP.s_Seq, MP.s_xSn, MP.s_xSr, MP.s_xSb, MP.s_xSc, MP.s_xSe, MP.s_Expr, MP.s_xEx, MP.s_SetV, MP.s_xSV, MP.s_SetO, MP.s_xSOs, MP.s_xSOf, MP.s_Ret, MP.s_xRts, MP.s_xRtf, MP.s_RetN, MP.s_RetS, MP.s_xRSo, MP.s_xRSv, MP.s_If, MP.s_xIfT, MP.s_xIfF, MP.s_Tup, MP.s_xTu, MP.s_xTb, MP.s_For, MP.s_xFor, MP.s_App, MP.s_xAp, MP.s_Thaw, MP.s_xTh, MP.s_Frz, MP.s_xFzo, MP.s_xFzv, MP.s_ExprF, MP.s_xEF, MP.s_SetF, MP.s_xSF, MP.s_RetF, MP.s_xRF, MP.s_IfF, MP.s_xIFT, MP.s_xIFF, MP.s_FldN, MP.s_xN, MP.s_xN2, MP.s_xN3, MP.s_put0, MP.s_put1, MP.s_putN, MP.f_P, MP.f_xPs, MP.f_xPf, MP.f_User, MP.f_xFU, MP.f_Meth, MP.f_xM, MP.f_xM2, MP.f_Make, MP.f_xMk, MP.f_xMkF, MP.fe_ok, MP.r_run, MP.r_un, MP.r_un0, MP.r_nx, MP.r_ret, MP.r_exc, MP.t_nx, MP.t_cont, MP.t_brk, MP.t_ret, MP.b_nm, MP.b_tp2, MP.b_tp3, MP.t_bk, MP.fe_pop, MP.s_appF, MP.s_dead, MP.g_divmod, MP.g_sorted, MP.g_allB, MP.g_anyB, MP.g_sumI, MP.g_zipT, MP.g_zipL, MP.e_pZip, MP.e_xZp, MP.g_abs, MP.g_intI, MP.g_intB, MP.g_repT, MP.e_pLRng, MP.e_xLR, MP.f_Pop, MP.f_xPop, MP.s_AppF, MP.s_xAF0, MP.s_xAF, MP.s_xAF2, MP.g_inI, MP.g_ninI, MP.g_inT, MP.g_ninT, MP.g_ninST, MP.e_c2, MP.e_c3, MP.e_c4, MP.e_c5, MP.e_pIsi, List.getElem?_cons_zero, List.getElem?_cons_succ, List.getElem?_nil, List.set_cons_zero, List.set_cons_succ, List.map_cons, List.map_nil, List.length_cons, List.length_nil, List.length_append, List.cons_append, List.nil_append, List.length_map, List.length_singleton, Nat.reduceBEq, Nat.reduceAdd, Nat.reduceSub, Nat.reduceMul, Nat.reduceEqDiff, Nat.reduceLeDiff, Nat.reduceLT, if_false, if_true, ite_true, ite_false, ↓reduceIte, Bool.not_true, Bool.not_false, Bool.false_eq_true, decide_true, decide_false, eq_self, and_true, true_and, and_self, Nat.zero_le, Nat.zero_add, Option.bind_some, Option.bind_none, Nat.lt_irrefl, Int.reduceToNat, Int.reducePow, Int.reduceNeg, Int.reduceMul, Int.reduceAdd, Int.reduceSub, Int.reduceLT, Int.reduceLE, Int.reduceEq, beq_self_eq_true, wipeE, MP.at0, MP.at1, MP.at2, MP.atLit, h3, hsn]
    exact ⟨ls ++ [r], _, g.add h1 h2, rfl⟩
  rintro s ⟨ls, x4, g, rfl⟩
  rw [rngLenN] at g
  have hgn := g.n
  obtain ⟨r0, hr0⟩ : ∃ r0, ls[0]? = some r0 := ⟨_, List.getElem?_eq_getElem (by omega)⟩
  have hr0d : ls.getD 0 [] = r0 := by rw [List.getD_eq_getElem?_getD, hr0]; rfl
  have hr0l := g.len r0 (List.mem_of_getElem? hr0)
  have hat0 : (ls.map rowD)[0]? = some (.tup (r0.map Mn.D)) := by rw [List.getElem?_map, hr0]; rfl
  have hrl := rngLenN K
  have hpc : compL (.nm 9) (pB (p2 gEq (p2 gIx (p2 gIx (p2 gIx (pVar 3) (pC (.int 0))) (pVar 9)) (pC (.int 0))) (pC (.str "letter")))) (pD (pVar 9)) ⟨[.v (.list (zs xs)), .v (.int (K : Nat)), .v (.int (L : Nat)), .own (.list (ls.map rowD)), x4, .un, .un, .un, .un, .un, .un], []⟩ (rng 0 (K : Int)) = .ok (nD (plainF K r0)) := by
    rw [rng_nD]
    unfold plainF
    refine compN _ _ fun k hk => ⟨_, b_nm .., ?_, fun _ => ?_⟩
    · have hm := m_plainC hr0l k (List.mem_range.mp hk)
      have h0 := mn_0 (r0.getD k .non)
      have hb2 := mn_l (r0.getD k .non)
      generalize r0.getD k .non = m at *
      simp (disch := (first | assumption | with_reducible rfl | decide +kernel | exact Or.inl (by decide +kernel) | exact Or.inr (by decide +kernel) | omega | (simp only [List.length_cons, List.length_nil, List.length_append, List.length_map, List.length_replicate, List.length_range] <;> omega) | rfl)) only [MP.of_some, MP.map_some, MP.e_lv, MP.e_lo, MP.e_pD, MP.e_xDs, MP.e_xDf, MP.e_pC, MP.e_pYes, MP.e_pVar, MP.e_p2, MP.e_x2, MP.e_p1, MP.e_x1, MP.e_pB, MP.e_xB, MP.e_pNot, MP.e_xNot, MP.e_pAnd, MP.e_xAndT, MP.e_xAndF, MP.e_pOr, MP.e_xOrT, MP.e_xOrF, MP.e_pAndV, MP.e_xAndVT, MP.e_xAndVF, MP.e_pOrV, MP.e_xOrVT, MP.e_xOrVF, MP.e_pNotV, MP.e_xNotV, MP.e_pIf, MP.e_xIfT, MP.e_xIfF, MP.e_p3, MP.e_x3, MP.e_x3bT, MP.e_x3bF, MP.e_pNil, MP.e_pCons, MP.e_xCons, MP.e_pTup, MP.e_xTp, MP.e_pLst, MP.e_xLs, MP.e_pNo, MP.e_pSome, MP.e_xSo, MP.e_pSl, MP.e_xSl, MP.e_pCall, MP.e_xG, MP.e_pSeq, MP.e_xSq, MP.e_pSeqR, MP.e_xSqR, MP.e_pRng, MP.e_pEnum, MP.e_xEn, MP.e_pComp, MP.e_xC, MP.e_xC2, MP.e_pUser, MP.e_xU, MP.e_xFv, MP.e_xFo, MP.e_xFe, MP.e_pSeal, MP.e_xSe, MP.e_xSeFv, MP.e_xSeFo, MP.e_pLook, MP.e_xLo, MP.e_xLoF, MP.e_pFld, MP.e_xFd, MP.e_xOb, MP.e_xLk0, MP.e_xLk1, MP.e_c0, MP.e_c1, MP.g_add, MP.g_catS, MP.g_catL, MP.g_catT, MP.g_sub, MP.g_mul, MP.g_rep, MP.g_div, MP.g_mod, MP.g_pow, MP.g_shl, MP.g_shr, MP.g_and, MP.g_orI, MP.g_neg, MP.g_lt, MP.g_le, MP.g_gt, MP.g_ge, MP.g_eqI, MP.g_eqS, MP.g_eqBo, MP.g_neI, MP.g_neS, MP.g_neBo, MP.g_is, MP.g_isNot, MP.n_none, MP.n_int, MP.n_str, MP.n_tup, MP.n_list, MP.n_bool, MP.g_max, MP.g_min, MP.g_lenL, MP.g_lenK, MP.g_lenT, MP.g_listL, MP.g_listK, MP.g_listT, MP.g_tupL, MP.g_tupT, MP.q_list, MP.q_lk, MP.q_tup, MP.g_rng1, MP.g_rng2, MP.g_enumL, MP.g_enumK, MP.g_ixL, MP.g_ixK, MP.g_ixT, MP.g_slL, MP.g_slK, MP.g_slT, MP.s_Nil, MP.s_Brk, MP.s_Cont, MP.s_Seq, MP.s_xSn, MP.s_xSr, MP.s_xSb, MP.s_xSc, MP.s_xSe, MP.s_Expr, MP.s_xEx, MP.s_SetV, MP.s_xSV, MP.s_SetO, MP.s_xSOs, MP.s_xSOf, MP.s_Ret, MP.s_xRts, MP.s_xRtf, MP.s_RetN, MP.s_RetS, MP.s_xRSo, MP.s_xRSv, MP.s_If, MP.s_xIfT, MP.s_xIfF, MP.s_Tup, MP.s_xTu, MP.s_xTb, MP.s_For, MP.s_xFor, MP.s_App, MP.s_xAp, MP.s_Thaw, MP.s_xTh, MP.s_Frz, MP.s_xFzo, MP.s_xFzv, MP.s_ExprF, MP.s_xEF, MP.s_SetF, MP.s_xSF, MP.s_RetF, MP.s_xRF, MP.s_IfF, MP.s_xIFT, MP.s_xIFF, MP.s_FldN, MP.s_xN, MP.s_xN2, MP.s_xN3, MP.s_put0, MP.s_put1, MP.s_putN, MP.f_P, MP.f_xPs, MP.f_xPf, MP.f_User, MP.f_xFU, MP.f_Meth, MP.f_xM, MP.f_xM2, MP.f_Make, MP.f_xMk, MP.f_xMkF, MP.fe_ok, MP.r_run, MP.r_un, MP.r_un0, MP.r_nx, MP.r_ret, MP.r_exc, MP.t_nx, MP.t_cont, MP.t_brk, MP.t_ret, MP.b_nm, MP.b_tp2, MP.b_tp3, MP.t_bk, MP.fe_pop, MP.s_appF, MP.s_dead, MP.g_divmod, MP.g_sorted, MP.g_allB, MP.g_anyB, MP.g_sumI, MP.g_zipT, MP.g_zipL, MP.e_pZip, MP.e_xZp, MP.g_abs, MP.g_intI, MP.g_intB, MP.g_repT, MP.e_pLRng, MP.e_xLR, MP.f_Pop, MP.f_xPop, MP.s_AppF, MP.s_xAF0, MP.s_xAF, MP.s_xAF2, MP.g_inI, MP.g_ninI, MP.g_inT, MP.g_ninT, MP.g_ninST, MP.e_c2, MP.e_c3, MP.e_c4, MP.e_c5, MP.e_pIsi, List.getElem?_cons_zero, List.getElem?_cons_succ, List.getElem?_nil, List.set_cons_zero, List.set_cons_succ, List.map_cons, List.map_nil, List.length_cons, List.length_nil, List.length_append, List.cons_append, List.nil_append, List.length_map, List.length_singleton, Nat.reduceBEq, Nat.reduceAdd, Nat.reduceSub, Nat.reduceMul, Nat.reduceEqDiff, Nat.reduceLeDiff, Nat.reduceLT, if_false, if_true, ite_true, ite_false, ↓reduceIte, Bool.not_true, Bool.not_false, Bool.false_eq_true, decide_true, decide_false, eq_self, and_true, true_and, and_self, Nat.zero_le, Nat.zero_add, Option.bind_some, Option.bind_none, Nat.lt_irrefl, Int.reduceToNat, Int.reducePow, Int.reduceNeg, Int.reduceMul, Int.reduceAdd, Int.reduceSub, Int.reduceLT, Int.reduceLE, Int.reduceEq, beq_self_eq_true, wipeE, MP.at0, MP.at1, MP.at2, MP.atLit, hat0, atN, hm, h0, hb2]
    · simp (disch := (first | assumption | with_reducible rfl | decide +kernel | exact Or.inl (by decide +kernel) | exact Or.inr (by decide +kernel) | omega | (simp only [List.length_cons, List.length_nil, List.length_append, List.length_map, List.length_replicate, List.length_range] <;> omega) | rfl)) only [MP.of_some, MP.map_some, MP.e_lv, MP.e_lo, MP.e_pD, MP.e_xDs, MP.e_xDf, MP.e_pC, MP.e_pYes, MP.e_pVar, MP.e_p2, MP.e_x2, MP.e_p1, MP.e_x1, MP.e_pB, MP.e_xB, MP.e_pNot, MP.e_xNot, MP.e_pAnd, MP.e_xAndT, MP.e_xAndF, MP.e_pOr, MP.e_xOrT, MP.e_xOrF, MP.e_pAndV, MP.e_xAndVT, MP.e_xAndVF, MP.e_pOrV, MP.e_xOrVT, MP.e_xOrVF, MP.e_pNotV, MP.e_xNotV, MP.e_pIf, MP.e_xIfT, MP.e_xIfF, MP.e_p3, MP.e_x3, MP.e_x3bT, MP.e_x3bF, MP.e_pNil, MP.e_pCons, MP.e_xCons, MP.e_pTup, MP.e_xTp, MP.e_pLst, MP.e_xLs, MP.e_pNo, MP.e_pSome, MP.e_xSo, MP.e_pSl, MP.e_xSl, MP.e_pCall, MP.e_xG, MP.e_pSeq, MP.e_xSq, MP.e_pSeqR, MP.e_xSqR, MP.e_pRng, MP.e_pEnum, MP.e_xEn, MP.e_pComp, MP.e_xC, MP.e_xC2, MP.e_pUser, MP.e_xU, MP.e_xFv, MP.e_xFo, MP.e_xFe, MP.e_pSeal, MP.e_xSe, MP.e_xSeFv, MP.e_xSeFo, MP.e_pLook, MP.e_xLo, MP.e_xLoF, MP.e_pFld, MP.e_xFd, MP.e_xOb, MP.e_xLk0, MP.e_xLk1, MP.e_c0, MP.e_c1, MP.g_add, MP.g_catS, MP.g_catL, MP.g_catT, MP.g_sub, MP.g_mul, MP.g_rep, MP.g_div, MP.g_mod, MP.g_pow, MP.g_shl, MP.g_shr, MP.g_and, MP.g_orI, MP.g_neg, MP.g_lt, MP.g_le, MP.g_gt, MP.g_ge, MP.g_eqI, MP.g_eqS, MP.g_eqBo, MP.g_neI, MP.g_neS, MP.g_neBo, MP.g_is, MP.g_isNot, MP.n_none, MP.n_int, MP.n_str, MP.n_tup, MP.n_list, MP.n_bool, MP.g_max, MP.g_min, MP.g_lenL, MP.g_lenK, MP.g_lenT, MP.g_listL, MP.g_listK, MP.g_listT, MP.g_tupL, MP.g_tupT, MP.q_list, MP.q_lk, MP.q_tup, MP.g_rng1, MP.g_rng2, MP.g_enumL, MP.g_enumK, MP.g_ixL, MP.g_ixK, MP.g_ixT, MP.g_slL, MP.g_slK, MP.g_slT, MP.s_Nil, MP.s_Brk, MP.s_Cont, MP.s_Seq, MP.s_xSn, MP.s_xSr, MP.s_xSb, MP.s_xSc, MP.s_xSe, MP.s_Expr, MP.s_xEx, MP.s_SetV, MP.s_xSV, MP.s_SetO, MP.s_xSOs, MP.s_xSOf, MP.s_Ret, MP.s_xRts, MP.s_xRtf, MP.s_RetN, MP.s_RetS, MP.s_xRSo, MP.s_xRSv, MP.s_If, MP.s_xIfT, MP.s_xIfF, MP.s_Tup, MP.s_xTu, MP.s_xTb, MP.s_For, MP.s_xFor, MP.s_App, MP.s_xAp, MP.s_Thaw, MP.s_xTh, MP.s_Frz, MP.s_xFzo, MP.s_xFzv, MP.s_ExprF, MP.s_xEF, MP.s_SetF, MP.s_xSF, MP.s_RetF, MP.s_xRF, MP.s_IfF, MP.s_xIFT, MP.s_xIFF, MP.s_FldN, MP.s_xN, MP.s_xN2, MP.s_xN3, MP.s_put0, MP.s_put1, MP.s_putN, MP.f_P, MP.f_xPs, MP.f_xPf, MP.f_User, MP.f_xFU, MP.f_Meth, MP.f_xM, MP.f_xM2, MP.f_Make, MP.f_xMk, MP.f_xMkF, MP.fe_ok, MP.r_run, MP.r_un, MP.r_un0, MP.r_nx, MP.r_ret, MP.r_exc, MP.t_nx, MP.t_cont, MP.t_brk, MP.t_ret, MP.b_nm, MP.b_tp2, MP.b_tp3, MP.t_bk, MP.fe_pop, MP.s_appF, MP.s_dead, MP.g_divmod, MP.g_sorted, MP.g_allB, MP.g_anyB, MP.g_sumI, MP.g_zipT, MP.g_zipL, MP.e_pZip, MP.e_xZp, MP.g_abs, MP.g_intI, MP.g_intB, MP.g_repT, MP.e_pLRng, MP.e_xLR, MP.f_Pop, MP.f_xPop, MP.s_AppF, MP.s_xAF0, MP.s_xAF, MP.s_xAF2, MP.g_inI, MP.g_ninI, MP.g_inT, MP.g_ninT, MP.g_ninST, MP.e_c2, MP.e_c3, MP.e_c4, MP.e_c5, MP.e_pIsi, List.getElem?_cons_zero, List.getElem?_cons_succ, List.getElem?_nil, List.set_cons_zero, List.set_cons_succ, List.map_cons, List.map_nil, List.length_cons, List.length_nil, List.length_append, List.cons_append, List.nil_append, List.length_map, List.length_singleton, Nat.reduceBEq, Nat.reduceAdd, Nat.reduceSub, Nat.reduceMul, Nat.reduceEqDiff, Nat.reduceLeDiff, Nat.reduceLT, if_false, if_true, ite_true, ite_false, ↓reduceIte, Bool.not_true, Bool.not_false, Bool.false_eq_true, decide_true, decide_false, eq_self, and_true, true_and, and_self, Nat.zero_le, Nat.zero_add, Option.bind_some, Option.bind_none, Nat.lt_irrefl, Int.reduceToNat, Int.reducePow, Int.reduceNeg, Int.reduceMul, Int.reduceAdd, Int.reduceSub, Int.reduceLT, Int.reduceLE, Int.reduceEq, beq_self_eq_true, wipeE, MP.at0, MP.at1, MP.at2, MP.atLit]
  have hll : (ls.map rowD).length = ls.length := by simp
  refine sq (P := fun fl => ∃ b, Good b ∧ fl.fr = .ok (.v (bedD b)) []) (s' := ⟨[.v (.list (zs xs)), .v (.int (K : Nat)), .v (.int (L : Nat)), .own (.list (ls.map rowD)), x4, .v (.list (nD (plainF K r0))), .un, .un, .un, .un, .un], []⟩) (by unfold st_l_read_bed_5; generalize hlm : ls.map rowD = lsd at *; simp (disch := (first | assumption | with_reducible rfl | decide +kernel | exact Or.inl (by decide +kernel) | exact Or.inr (by decide +kernel) | omega | (simp only [List.length_cons, List.length_nil, List.length_append, List.length_map, List.length_replicate, List.length_range] <;> omega) | rfl)) only [MP.of_some, MP.map_some, MP.e_lv, MP.e_lo, MP.e_pD, MP.e_xDs, MP.e_xDf, MP.e_pC, MP.e_pYes, MP.e_pVar, MP.e_p2, MP.e_x2, MP.e_p1, MP.e_x1, MP.e_pB, MP.e_xB, MP.e_pNot, MP.e_xNot, MP.e_pAnd, MP.e_xAndT, MP.e_xAndF, MP.e_pOr, MP.e_xOrT, MP.e_xOrF, MP.e_pAndV, MP.e_xAndVT, MP.e_xAndVF, MP.e_pOrV, MP.e_xOrVT, MP.e_xOrVF, MP.e_pNotV, MP.e_xNotV, MP.e_pIf, MP.e_xIfT, MP.e_xIfF, MP.e_p3, MP.e_x3, MP.e_x3bT, MP.e_x3bF, MP.e_pNil, MP.e_pCons, MP.e_xCons, MP.e_pTup, MP.e_xTp, MP.e_pLst, MP.e_xLs, MP.e_pNo, MP.e_pSome, MP.e_xSo, MP.e_pSl, MP.e_xSl, MP.e_pCall, MP.e_xG, MP.e_pSeq, MP.e_xSq, MP.e_pSeqR, MP.e_xSqR, MP.e_pRng, MP.e_pEnum, MP.e_xEn, MP.e_pComp, MP.e_xC, MP.e_xC2, MP.e_pUser, MP.e_xU, MP.e_xFv, MP.e_xFo, MP.e_xFe, MP.e_pSeal, MP.e_xSe, MP.e_xSeFv, MP.e_xSeFo, MP.e_pLook, MP.e_xLo, MP.e_xLoF, MP.e_pFld, MP.e_xFd, MP.e_xOb, MP.e_xLk0, MP.e_xLk1, MP.e_c0, MP.e_c1, MP.g_add, MP.g_catS, MP.g_catL, MP.g_catT, MP.g_sub, MP.g_mul, MP.g_rep, MP.g_div, MP.g_mod, MP.g_pow, MP.g_shl, MP.g_shr, MP.g_and, MP.g_orI, MP.g_neg, MP.g_lt, MP.g_le, MP.g_gt, MP.g_ge, MP.g_eqI, MP.g_eqS, MP.g_eqBo, MP.g_neI, MP.g_neS, MP.g_neBo, MP.g_is, MP.g_isNot, MP.n_none, MP.n_int, MP.n_str, MP.n_tup, MP.n_list, MP.n_bool, MP.g_max, MP.g_min, MP.g_lenL, MP.g_lenK, MP.g_lenT, MP.g_listL, MP.g_listK, MP.g_listT, MP.g_tupL, MP.g_tupT, MP.q_list, MP.q_lk, MP.q_tup, MP.g_rng1, MP.g_rng2, MP.g_enumL, MP.g_enumK, MP.g_ixL, MP.g_ixK, MP.g_ixT, MP.g_slL, MP.g_slK, MP.g_slT, MP.s_Nil, MP.s_Brk, MP.s_Cont, MP.s_Seq, MP.s_xSn, MP.s_xSr, MP.s_xSb, MP.s_xSc, MP.s_xSe, MP.s_Expr, MP.s_xEx, MP.s_SetV, MP.s_xSV, MP.s_SetO, MP.s_xSOs, MP.s_xSOf, MP.s_Ret, MP.s_xRts, MP.s_xRtf, MP.s_RetN, MP.s_RetS, MP.s_xRSo, MP.s_xRSv, MP.s_If, MP.s_xIfT, MP.s_xIfF, MP.s_Tup, MP.s_xTu, MP.s_xTb, MP.s_For, MP.s_xFor, MP.s_App, MP.s_xAp, MP.s_Thaw, MP.s_xTh, MP.s_Frz, MP.s_xFzo, MP.s_xFzv, MP.s_ExprF, MP.s_xEF, MP.s_SetF, MP.s_xSF, MP.s_RetF, MP.s_xRF, MP.s_IfF, MP.s_xIFT, MP.s_xIFF, MP.s_FldN, MP.s_xN, MP.s_xN2, MP.s_xN3, MP.s_put0, MP.s_put1, MP.s_putN, MP.f_P, MP.f_xPs, MP.f_xPf, MP.f_User, MP.f_xFU, MP.f_Meth, MP.f_xM, MP.f_xM2, MP.f_Make, MP.f_xMk, MP.f_xMkF, MP.fe_ok, MP.r_run, MP.r_un, MP.r_un0, MP.r_nx, MP.r_ret, MP.r_exc, MP.t_nx, MP.t_cont, MP.t_brk, MP.t_ret, MP.b_nm, MP.b_tp2, MP.b_tp3, MP.t_bk, MP.fe_pop, MP.s_appF, MP.s_dead, MP.g_divmod, MP.g_sorted, MP.g_allB, MP.g_anyB, MP.g_sumI, MP.g_zipT, MP.g_zipL, MP.e_pZip, MP.e_xZp, MP.g_abs, MP.g_intI, MP.g_intB, MP.g_repT, MP.e_pLRng, MP.e_xLR, MP.f_Pop, MP.f_xPop, MP.s_AppF, MP.s_xAF0, MP.s_xAF, MP.s_xAF2, MP.g_inI, MP.g_ninI, MP.g_inT, MP.g_ninT, MP.g_ninST, MP.e_c2, MP.e_c3, MP.e_c4, MP.e_c5, MP.e_pIsi, List.getElem?_cons_zero, List.getElem?_cons_succ, List.getElem?_nil, List.set_cons_zero, List.set_cons_succ, List.map_cons, List.map_nil, List.length_cons, List.length_nil, List.length_append, List.cons_append, List.nil_append, List.length_map, List.length_singleton, Nat.reduceBEq, Nat.reduceAdd, Nat.reduceSub, Nat.reduceMul, Nat.reduceEqDiff, Nat.reduceLeDiff, Nat.reduceLT, if_false, if_true, ite_true, ite_false, ↓reduceIte, Bool.not_true, Bool.not_false, Bool.false_eq_true, decide_true, decide_false, eq_self, and_true, true_and, and_self, Nat.zero_le, Nat.zero_add, Option.bind_some, Option.bind_none, Nat.lt_irrefl, Int.reduceToNat, Int.reducePow, Int.reduceNeg, Int.reduceMul, Int.reduceAdd, Int.reduceSub, Int.reduceLT, Int.reduceLE, Int.reduceEq, beq_self_eq_true, wipeE, MP.at0, MP.at1, MP.at2, MP.atLit, hpc]) ?_
  refine sq (P := fun fl => ∃ b, Good b ∧ fl.fr = .ok (.v (bedD b)) []) (s' := ⟨[.v (.list (zs xs)), .v (.int (K : Nat)), .v (.int (L : Nat)), .own (.list (ls.map rowD)), x4, .v (.list (nD (plainF K r0))), .own (.list []), .un, .un, .un, .un], []⟩) (by unfold st_l_read_bed_6; simp (disch := (first | assumption | with_reducible rfl | decide +kernel | exact Or.inl (by decide +kernel) | exact Or.inr (by decide +kernel) | omega | (simp only [List.length_cons, List.length_nil, List.length_append, List.length_map, List.length_replicate, List.length_range] <;> omega) | rfl)) only [MP.of_some, MP.map_some, MP.e_lv, MP.e_lo, MP.e_pD, MP.e_xDs, MP.e_xDf, MP.e_pC, MP.e_pYes, MP.e_pVar, MP.e_p2, MP.e_x2, MP.e_p1, MP.e_x1, MP.e_pB, MP.e_xB, MP.e_pNot, MP.e_xNot, MP.e_pAnd, MP.e_xAndT, MP.e_xAndF, MP.e_pOr, MP.e_xOrT, MP.e_xOrF, MP.e_pAndV, MP.e_xAndVT, MP.e_xAndVF, MP.e_pOrV, MP.e_xOrVT, MP.e_xOrVF, MP.e_pNotV, MP.e_xNotV, MP.e_pIf, MP.e_xIfT, MP.e_xIfF, MP.e_p3, MP.e_x3, MP.e_x3bT, MP.e_x3bF, MP.e_pNil, MP.e_pCons, MP.e_xCons, MP.e_pTup, MP.e_xTp, MP.e_pLst, MP.e_xLs, MP.e_pNo, MP.e_pSome, MP.e_xSo, MP.e_pSl, MP.e_xSl, MP.e_pCall, MP.e_xG, MP.e_pSeq, MP.e_xSq, MP.e_pSeqR, MP.e_xSqR, MP.e_pRng, MP.e_pEnum, MP.e_xEn, MP.e_pComp, MP.e_xC, MP.e_xC2, MP.e_pUser, MP.e_xU, MP.e_xFv, MP.e_xFo, MP.e_xFe, MP.e_pSeal, MP.e_xSe, MP.e_xSeFv, MP.e_xSeFo, MP.e_pLook, MP.e_xLo, MP.e_xLoF, MP.e_pFld, MP.e_xFd, MP.e_xOb, MP.e_xLk0, MP.e_xLk1, MP.e_c0, MP.e_c1, MP.g_add, MP.g_catS, MP.g_catL, MP.g_catT, MP.g_sub, MP.g_mul, MP.g_rep, MP.g_div, MP.g_mod, MP.g_pow, MP.g_shl, MP.g_shr, MP.g_and, MP.g_orI, MP.g_neg, MP.g_lt, MP.g_le, MP.g_gt, MP.g_ge, MP.g_eqI, MP.g_eqS, MP.g_eqBo, MP.g_neI, MP.g_neS, MP.g_neBo, MP.g_is, MP.g_isNot, MP.n_none, MP.n_int, MP.n_str, MP.n_tup, MP.n_list, MP.n_bool, MP.g_max, MP.g_min, MP.g_lenL, MP.g_lenK, MP.g_lenT, MP.g_listL, MP.g_listK, MP.g_listT, MP.g_tupL, MP.g_tupT, MP.q_list, MP.q_lk, MP.q_tup, MP.g_rng1, MP.g_rng2, MP.g_enumL, MP.g_enumK, MP.g_ixL, MP.g_ixK, MP.g_ixT, MP.g_slL, MP.g_slK, MP.g_slT, MP.s_Nil, MP.s_Brk, MP.s_Cont, MP.s_Seq, MP.s_xSn, MP.s_xSr, MP.s_xSb, MP.s_xSc, MP.s_xSe, MP.s_Expr, MP.s_xEx, MP.s_SetV, MP.s_xSV, MP.s_SetO, MP.s_xSOs, MP.s_xSOf, MP.s_Ret, MP.s_xRts, MP.s_xRtf, MP.s_RetN, MP.s_RetS, MP.s_xRSo, MP.s_xRSv, MP.s_If, MP.s_xIfT, MP.s_xIfF, MP.s_Tup, MP.s_xTu, MP.s_xTb, MP.s_For, MP.s_xFor, MP.s_App, MP.s_xAp, MP.s_Thaw, MP.s_xTh, MP.s_Frz, MP.s_xFzo, MP.s_xFzv, MP.s_ExprF, MP.s_xEF, MP.s_SetF, MP.s_xSF, MP.s_RetF, MP.s_xRF, MP.s_IfF, MP.s_xIFT, MP.s_xIFF, MP.s_FldN, MP.s_xN, MP.s_xN2, MP.s_xN3, MP.s_put0, MP.s_put1, MP.s_putN, MP.f_P, MP.f_xPs, MP.f_xPf, MP.f_User, MP.f_xFU, MP.f_Meth, MP.f_xM, MP.f_xM2, MP.f_Make, MP.f_xMk, MP.f_xMkF, MP.fe_ok, MP.r_run, MP.r_un, MP.r_un0, MP.r_nx, MP.r_ret, MP.r_exc, MP.t_nx, MP.t_cont, MP.t_brk, MP.t_ret, MP.b_nm, MP.b_tp2, MP.b_tp3, MP.t_bk, MP.fe_pop, MP.s_appF, MP.s_dead, MP.g_divmod, MP.g_sorted, MP.g_allB, MP.g_anyB, MP.g_sumI, MP.g_zipT, MP.g_zipL, MP.e_pZip, MP.e_xZp, MP.g_abs, MP.g_intI, MP.g_intB, MP.g_repT, MP.e_pLRng, MP.e_xLR, MP.f_Pop, MP.f_xPop, MP.s_AppF, MP.s_xAF0, MP.s_xAF, MP.s_xAF2, MP.g_inI, MP.g_ninI, MP.g_inT, MP.g_ninT, MP.g_ninST, MP.e_c2, MP.e_c3, MP.e_c4, MP.e_c5, MP.e_pIsi, List.getElem?_cons_zero, List.getElem?_cons_succ, List.getElem?_nil, List.set_cons_zero, List.set_cons_succ, List.map_cons, List.map_nil, List.length_cons, List.length_nil, List.length_append, List.cons_append, List.nil_append, List.length_map, List.length_singleton, Nat.reduceBEq, Nat.reduceAdd, Nat.reduceSub, Nat.reduceMul, Nat.reduceEqDiff, Nat.reduceLeDiff, Nat.reduceLT, if_false, if_true, ite_true, ite_false, ↓reduceIte, Bool.not_true, Bool.not_false, Bool.false_eq_true, decide_true, decide_false, eq_self, and_true, true_and, and_self, Nat.zero_le, Nat.zero_add, Option.bind_some, Option.bind_none, Nat.lt_irrefl, Int.reduceToNat, Int.reducePow, Int.reduceNeg, Int.reduceMul, Int.reduceAdd, Int.reduceSub, Int.reduceLT, Int.reduceLE, Int.reduceEq, beq_self_eq_true, wipeE, MP.at0, MP.at1, MP.at2, MP.atLit]) ?_
  have hz : ∃ ys : List Int, ys.length ≤ 4 ∧ cutD (zs xs) (some 16) (some (16 + (n : Int))) = zs ys := by
    refine ⟨(xs.drop 16).take n, by simp; omega, ?_⟩
    rw [cut_eq _ (by decide) (by omega), show (16 + (n : Int)).toNat - (16 : Int).toNat = n by omega]
    unfold zs
    rw [List.map_take, List.map_drop]
    rfl
  obtain ⟨ys, hy, hz⟩ := hz
  have hyl := zs_len ys
  unfold st_l_read_bed_7
  refine forP (P := fun fl => ∃ b, Good b ∧ fl.fr = .ok (.v (bedD b)) []) (zs ys) (fun i s => ∃ cs x7 x8, cs.length ≤ i ∧ ChsOk K r0 cs ∧ s = ⟨[.v (.list (zs xs)), .v (.int (K : Nat)), .v (.int (L : Nat)), .own (.list (ls.map rowD)), x4, .v (.list (nD (plainF K r0))), .own (.list (cs.map chD)), x7, x8, .un, .un], []⟩) (by simp (disch := (first | assumption | with_reducible rfl | decide +kernel | exact Or.inl (by decide +kernel) | exact Or.inr (by decide +kernel) | omega | (simp only [List.length_cons, List.length_nil, List.length_append, List.length_map, List.length_replicate, List.length_range] <;> omega) | rfl)) only [MP.of_some, MP.map_some, MP.e_lv, MP.e_lo, MP.e_pD, MP.e_xDs, MP.e_xDf, MP.e_pC, MP.e_pYes, MP.e_pVar, MP.e_p2, MP.e_x2, MP.e_p1, MP.e_x1, MP.e_pB, MP.e_xB, MP.e_pNot, MP.e_xNot, MP.e_pAnd, MP.e_xAndT, MP.e_xAndF, MP.e_pOr, MP.e_xOrT, MP.e_xOrF, MP.e_pAndV, MP.e_xAndVT, MP.e_xAndVF, MP.e_pOrV, MP.e_xOrVT, MP.e_xOrVF, MP.e_pNotV, MP.e_xNotV, MP.e_pIf, MP.e_xIfT, MP.e_xIfF, MP.e_p3, MP.e_x3, MP.e_x3bT, MP.e_x3bF, MP.e_pNil, MP.e_pCons, MP.e_xCons, MP.e_pTup, MP.e_xTp, MP.e_pLst, MP.e_xLs, MP.e_pNo, MP.e_pSome, MP.e_xSo, MP.e_pSl, MP.e_xSl, MP.e_pCall, MP.e_xG, MP.e_pSeq, MP.e_xSq, MP.e_pSeqR, MP.e_xSqR, MP.e_pRng, MP.e_pEnum, MP.e_xEn, MP.e_pComp, MP.e_xC, MP.e_xC2, MP.e_pUser, MP.e_xU, MP.e_xFv, MP.e_xFo, MP.e_xFe, MP.e_pSeal, MP.e_xSe, MP.e_xSeFv, MP.e_xSeFo, MP.e_pLook, MP.e_xLo, MP.e_xLoF, MP.e_pFld, MP.e_xFd, MP.e_xOb, MP.e_xLk0, MP.e_xLk1, MP.e_c0, MP.e_c1, MP.g_add, MP.g_catS, MP.g_catL, MP.g_catT, MP.g_sub, MP.g_mul, MP.g_rep, MP.g_div, MP.g_mod, MP.g_pow, MP.g_shl, MP.g_shr, MP.g_and, MP.g_orI, MP.g_neg, MP.g_lt, MP.g_le, MP.g_gt, MP.g_ge, MP.g_eqI, MP.g_eqS, MP.g_eqBo, MP.g_neI, MP.g_neS, MP.g_neBo, MP.g_is, MP.g_isNot, MP.n_none, MP.n_int, MP.n_str, MP.n_tup, MP.n_list, MP.n_bool, MP.g_max, MP.g_min, MP.g_lenL, MP.g_lenK, MP.g_lenT, MP.g_listL, MP.g_listK, MP.g_listT, MP.g_tupL, MP.g_tupT, MP.q_list, MP.q_lk, MP.q_tup, MP.g_rng1, MP.g_rng2, MP.g_enumL, MP.g_enumK, MP.g_ixL, MP.g_ixK, MP.g_ixT, MP.g_slL, MP.g_slK, MP.g_slT, MP.s_Nil, MP.s_Brk, MP.s_Cont, MP.s_Seq, MP.s_xSn, MP.s_xSr, MP.s_xSb, MP.s_xSc, MP.s_xSe, MP.s_Expr, MP.s_xEx, MP.s_SetV, MP.s_xSV, MP.s_SetO, MP.s_xSOs, MP.s_xSOf, MP.s_Ret, MP.s_xRts, MP.s_xRtf, MP.s_RetN, MP.s_RetS, MP.s_xRSo, MP.s_xRSv, MP.s_If, MP.s_xIfT, MP.s_xIfF, MP.s_Tup, MP.s_xTu, MP.s_xTb, MP.s_For, MP.s_xFor, MP.s_App, MP.s_xAp, MP.s_Thaw, MP.s_xTh, MP.s_Frz, MP.s_xFzo, MP.s_xFzv, MP.s_ExprF, MP.s_xEF, MP.s_SetF, MP.s_xSF, MP.s_RetF, MP.s_xRF, MP.s_IfF, MP.s_xIFT, MP.s_xIFF, MP.s_FldN, MP.s_xN, MP.s_xN2, MP.s_xN3, MP.s_put0, MP.s_put1, MP.s_putN, MP.f_P, MP.f_xPs, MP.f_xPf, MP.f_User, MP.f_xFU, MP.f_Meth, MP.f_xM, MP.f_xM2, MP.f_Make, MP.f_xMk, MP.f_xMkF, MP.fe_ok, MP.r_run, MP.r_un, MP.r_un0, MP.r_nx, MP.r_ret, MP.r_exc, MP.t_nx, MP.t_cont, MP.t_brk, MP.t_ret, MP.b_nm, MP.b_tp2, MP.b_tp3, MP.t_bk, MP.fe_pop, MP.s_appF, MP.s_dead, MP.g_divmod, MP.g_sorted, MP.g_allB, MP.g_anyB, MP.g_sumI, MP.g_zipT, MP.g_zipL, MP.e_pZip, MP.e_xZp, MP.g_abs, MP.g_intI, MP.g_intB, MP.g_repT, MP.e_pLRng, MP.e_xLR, MP.f_Pop, MP.f_xPop, MP.s_AppF, MP.s_xAF0, MP.s_xAF, MP.s_xAF2, MP.g_inI, MP.g_ninI, MP.g_inT, MP.g_ninT, MP.g_ninST, MP.e_c2, MP.e_c3, MP.e_c4, MP.e_c5, MP.e_pIsi, List.getElem?_cons_zero, List.getElem?_cons_succ, List.getElem?_nil, List.set_cons_zero, List.set_cons_succ, List.map_cons, List.map_nil, List.length_cons, List.length_nil, List.length_append, List.cons_append, List.nil_append, List.length_map, List.length_singleton, Nat.reduceBEq, Nat.reduceAdd, Nat.reduceSub, Nat.reduceMul, Nat.reduceEqDiff, Nat.reduceLeDiff, Nat.reduceLT, if_false, if_true, ite_true, ite_false, ↓reduceIte, Bool.not_true, Bool.not_false, Bool.false_eq_true, decide_true, decide_false, eq_self, and_true, true_and, and_self, Nat.zero_le, Nat.zero_add, Option.bind_some, Option.bind_none, Nat.lt_irrefl, Int.reduceToNat, Int.reducePow, Int.reduceNeg, Int.reduceMul, Int.reduceAdd, Int.reduceSub, Int.reduceLT, Int.reduceLE, Int.reduceEq, beq_self_eq_true, wipeE, MP.at0, MP.at1, MP.at2, MP.atLit, h0, hn, hz]) ⟨[], _, _, Nat.le_refl _, ⟨(fun c hc => by cases hc), List.nodup_nil⟩, rfl⟩ ?_ ?_
  · rintro i d s hd ⟨cs, x7, x8, hcl, gc, rfl⟩
    have hi : i < ys.length := by have := (List.getElem?_eq_some_iff.mp hd).1; omega
    unfold zs at hd
    rw [List.getElem?_map] at hd
    cases hxx : ys[i]? with
    | none => rw [hxx] at hd; cases hd
    | some x =>
      rw [hxx] at hd
      cases hd
      have hK5 : K ≤ 5 := by omega
      have hko := plain_ok hK5 (r0 := r0) (someQ x)
      have hkl := nD_len ((plainF K r0).filter (someQ x))
      have hk5 := hko.l5
      have hsc : compL (.nm 9) (pB (p2 gEq (p2 gMod (p2 gDiv (pVar 7) (p2 gIx (pLst (pCons (pD (pC (.int 1))) (pCons (pD (pC (.int 2))) (pCons (pD (pC (.int 4))) (pCons (pD (pC (.int 8))) (pCons (pD (pC (.int 16))) (pNil))))))) (pVar 9))) (pC (.int 2))) (pC (.int 1)))) (pD (pVar 9)) ⟨[.v (.list (zs xs)), .v (.int (K : Nat)), .v (.int (L : Nat)), .own (.list (ls.map rowD)), x4, .v (.list (nD (plainF K r0))), .own (.list (cs.map chD)), .v (.int x), x8, .un, .un], []⟩ (nD (plainF K r0)) = .ok (nD ((plainF K r0).filter (someQ x))) := by
        refine compN _ _ fun k hk => ⟨_, b_nm .., ?_, fun _ => ?_⟩
        · have hk2 : k < 5 := by
            unfold plainF at hk
            have := List.mem_range.mp (List.mem_filter.mp hk).1
            omega
          have ht := m_someT x k hk2
          simp (disch := (first | assumption | with_reducible rfl | decide +kernel | exact Or.inl (by decide +kernel) | exact Or.inr (by decide +kernel) | omega | (simp only [List.length_cons, List.length_nil, List.length_append, List.length_map, List.length_replicate, List.length_range] <;> omega) | rfl)) only [MP.of_some, MP.map_some, MP.e_lv, MP.e_lo, MP.e_pD, MP.e_xDs, MP.e_xDf, MP.e_pC, MP.e_pYes, MP.e_pVar, MP.e_p2, MP.e_x2, MP.e_p1, MP.e_x1, MP.e_pB, MP.e_xB, MP.e_pNot, MP.e_xNot, MP.e_pAnd, MP.e_xAndT, MP.e_xAndF, MP.e_pOr, MP.e_xOrT, MP.e_xOrF, MP.e_pAndV, MP.e_xAndVT, MP.e_xAndVF, MP.e_pOrV, MP.e_xOrVT, MP.e_xOrVF, MP.e_pNotV, MP.e_xNotV, MP.e_pIf, MP.e_xIfT, MP.e_xIfF, MP.e_p3, MP.e_x3, MP.e_x3bT, MP.e_x3bF, MP.e_pNil, MP.e_pCons, MP.e_xCons, MP.e_pTup, MP.e_xTp, MP.e_pLst, MP.e_xLs, MP.e_pNo, MP.e_pSome, MP.e_xSo, MP.e_pSl, MP.e_xSl, MP.e_pCall, MP.e_xG, MP.e_pSeq, MP.e_xSq, MP.e_pSeqR, MP.e_xSqR, MP.e_pRng, MP.e_pEnum, MP.e_xEn, MP.e_pComp, MP.e_xC, MP.e_xC2, MP.e_pUser, MP.e_xU, MP.e_xFv, MP.e_xFo, MP.e_xFe, MP.e_pSeal, MP.e_xSe, MP.e_xSeFv, MP.e_xSeFo, MP.e_pLook, MP.e_xLo, MP.e_xLoF, MP.e_pFld, MP.e_xFd, MP.e_xOb, MP.e_xLk0, MP.e_xLk1, MP.e_c0, MP.e_c1, MP.g_add, MP.g_catS, MP.g_catL, MP.g_catT, MP.g_sub, MP.g_mul, MP.g_rep, MP.g_div, MP.g_mod, MP.g_pow, MP.g_shl, MP.g_shr, MP.g_and, MP.g_orI, MP.g_neg, MP.g_lt, MP.g_le, MP.g_gt, MP.g_ge, MP.g_eqI, MP.g_eqS, MP.g_eqBo, MP.g_neI, MP.g_neS, MP.g_neBo, MP.g_is, MP.g_isNot, MP.n_none, MP.n_int, MP.n_str, MP.n_tup, MP.n_list, MP.n_bool, MP.g_max, MP.g_min, MP.g_lenL, MP.g_lenK, MP.g_lenT, MP.g_listL, MP.g_listK, MP.g_listT, MP.g_tupL, MP.g_tupT, MP.q_list, MP.q_lk, MP.q_tup, MP.g_rng1, MP.g_rng2, MP.g_enumL, MP.g_enumK, MP.g_ixL, MP.g_ixK, MP.g_ixT, MP.g_slL, MP.g_slK, MP.g_slT, MP.s_Nil, MP.s_Brk, MP.s_Cont, MP.s_Seq, MP.s_xSn, MP.s_xSr, MP.s_xSb, MP.s_xSc, MP.s_xSe, MP.s_Expr, MP.s_xEx, MP.s_SetV, MP.s_xSV, MP.s_SetO, MP.s_xSOs, MP.s_xSOf, MP.s_Ret, MP.s_xRts, MP.s_xRtf, MP.s_RetN, MP.s_RetS, MP.s_xRSo, MP.s_xRSv, MP.s_If, MP.s_xIfT, MP.s_xIfF, MP.s_Tup, MP.s_xTu, MP.s_xTb, MP.s_For, MP.s_xFor, MP.s_App, MP.s_xAp, MP.s_Thaw, MP.s_xTh, MP.s_Frz, MP.s_xFzo, MP.s_xFzv, MP.s_ExprF, MP.s_xEF, MP.s_SetF, MP.s_xSF, MP.s_RetF, MP.s_xRF, MP.s_IfF, MP.s_xIFT, MP.s_xIFF, MP.s_FldN, MP.s_xN, MP.s_xN2, MP.s_xN3, MP.s_put0, MP.s_put1, MP.s_putN, MP.f_P, MP.f_xPs, MP.f_xPf, MP.f_User, MP.f_xFU, MP.f_Meth, MP.f_xM, MP.f_xM2, MP.f_Make, MP.f_xMk, MP.f_xMkF, MP.fe_ok, MP.r_run, MP.r_un, MP.r_un0, MP.r_nx, MP.r_ret, MP.r_exc, MP.t_nx, MP.t_cont, MP.t_brk, MP.t_ret, MP.b_nm, MP.b_tp2, MP.b_tp3, MP.t_bk, MP.fe_pop, MP.s_appF, MP.s_dead, MP.g_divmod, MP.g_sorted, MP.g_allB, MP.g_anyB, MP.g_sumI, MP.g_zipT, MP.g_zipL, MP.e_pZip, MP.e_xZp, MP.g_abs, MP.g_intI, MP.g_intB, MP.g_repT, MP.e_pLRng, MP.e_xLR, MP.f_Pop, MP.f_xPop, MP.s_AppF, MP.s_xAF0, MP.s_xAF, MP.s_xAF2, MP.g_inI, MP.g_ninI, MP.g_inT, MP.g_ninT, MP.g_ninST, MP.e_c2, MP.e_c3, MP.e_c4, MP.e_c5, MP.e_pIsi, List.getElem?_cons_zero, List.getElem?_cons_succ, List.getElem?_nil, List.set_cons_zero, List.set_cons_succ, List.map_cons, List.map_nil, List.length_cons, List.length_nil, List.length_append, List.cons_append, List.nil_append, List.length_map, List.length_singleton, Nat.reduceBEq, Nat.reduceAdd, Nat.reduceSub, Nat.reduceMul, Nat.reduceEqDiff, Nat.reduceLeDiff, Nat.reduceLT, if_false, if_true, ite_true, ite_false, ↓reduceIte, Bool.not_true, Bool.not_false, Bool.false_eq_true, decide_true, decide_false, eq_self, and_true, true_and, and_self, Nat.zero_le, Nat.zero_add, Option.bind_some, Option.bind_none, Nat.lt_irrefl, Int.reduceToNat, Int.reducePow, Int.reduceNeg, Int.reduceMul, Int.reduceAdd, Int.reduceSub, Int.reduceLT, Int.reduceLE, Int.reduceEq, beq_self_eq_true, wipeE, MP.at0, MP.at1, MP.at2, MP.atLit, ht]
        · simp (disch := (first | assumption | with_reducible rfl | decide +kernel | exact Or.inl (by decide +kernel) | exact Or.inr (by decide +kernel) | omega | (simp only [List.length_cons, List.length_nil, List.length_append, List.length_map, List.length_replicate, List.length_range] <;> omega) | rfl)) only [MP.of_some, MP.map_some, MP.e_lv, MP.e_lo, MP.e_pD, MP.e_xDs, MP.e_xDf, MP.e_pC, MP.e_pYes, MP.e_pVar, MP.e_p2, MP.e_x2, MP.e_p1, MP.e_x1, MP.e_pB, MP.e_xB, MP.e_pNot, MP.e_xNot, MP.e_pAnd, MP.e_xAndT, MP.e_xAndF, MP.e_pOr, MP.e_xOrT, MP.e_xOrF, MP.e_pAndV, MP.e_xAndVT, MP.e_xAndVF, MP.e_pOrV, MP.e_xOrVT, MP.e_xOrVF, MP.e_pNotV, MP.e_xNotV, MP.e_pIf, MP.e_xIfT, MP.e_xIfF, MP.e_p3, MP.e_x3, MP.e_x3bT, MP.e_x3bF, MP.e_pNil, MP.e_pCons, MP.e_xCons, MP.e_pTup, MP.e_xTp, MP.e_pLst, MP.e_xLs, MP.e_pNo, MP.e_pSome, MP.e_xSo, MP.e_pSl, MP.e_xSl, MP.e_pCall, MP.e_xG, MP.e_pSeq, MP.e_xSq, MP.e_pSeqR, MP.e_xSqR, MP.e_pRng, MP.e_pEnum, MP.e_xEn, MP.e_pComp, MP.e_xC, MP.e_xC2, MP.e_pUser, MP.e_xU, MP.e_xFv, MP.e_xFo, MP.e_xFe, MP.e_pSeal, MP.e_xSe, MP.e_xSeFv, MP.e_xSeFo, MP.e_pLook, MP.e_xLo, MP.e_xLoF, MP.e_pFld, MP.e_xFd, MP.e_xOb, MP.e_xLk0, MP.e_xLk1, MP.e_c0, MP.e_c1, MP.g_add, MP.g_catS, MP.g_catL, MP.g_catT, MP.g_sub, MP.g_mul, MP.g_rep, MP.g_div, MP.g_mod, MP.g_pow, MP.g_shl, MP.g_shr, MP.g_and, MP.g_orI, MP.g_neg, MP.g_lt, MP.g_le, MP.g_gt, MP.g_ge, MP.g_eqI, MP.g_eqS, MP.g_eqBo, MP.g_neI, MP.g_neS, MP.g_neBo, MP.g_is, MP.g_isNot, MP.n_none, MP.n_int, MP.n_str, MP.n_tup, MP.n_list, MP.n_bool, MP.g_max, MP.g_min, MP.g_lenL, MP.g_lenK, MP.g_lenT, MP.g_listL, MP.g_listK, MP.g_listT, MP.g_tupL, MP.g_tupT, MP.q_list, MP.q_lk, MP.q_tup, MP.g_rng1, MP.g_rng2, MP.g_enumL, MP.g_enumK, MP.g_ixL, MP.g_ixK, MP.g_ixT, MP.g_slL, MP.g_slK, MP.g_slT, MP.s_Nil, MP.s_Brk, MP.s_Cont, MP.s_Seq, MP.s_xSn, MP.s_xSr, MP.s_xSb, MP.s_xSc, MP.s_xSe, MP.s_Expr, MP.s_xEx, MP.s_SetV, MP.s_xSV, MP.s_SetO, MP.s_xSOs, MP.s_xSOf, MP.s_Ret, MP.s_xRts, MP.s_xRtf, MP.s_RetN, MP.s_RetS, MP.s_xRSo, MP.s_xRSv, MP.s_If, MP.s_xIfT, MP.s_xIfF, MP.s_Tup, MP.s_xTu, MP.s_xTb, MP.s_For, MP.s_xFor, MP.s_App, MP.s_xAp, MP.s_Thaw, MP.s_xTh, MP.s_Frz, MP.s_xFzo, MP.s_xFzv, MP.s_ExprF, MP.s_xEF, MP.s_SetF, MP.s_xSF, MP.s_RetF, MP.s_xRF, MP.s_IfF, MP.s_xIFT, MP.s_xIFF, MP.s_FldN, MP.s_xN, MP.s_xN2, MP.s_xN3, MP.s_put0, MP.s_put1, MP.s_putN, MP.f_P, MP.f_xPs, MP.f_xPf, MP.f_User, MP.f_xFU, MP.f_Meth, MP.f_xM, MP.f_xM2, MP.f_Make, MP.f_xMk, MP.f_xMkF, MP.fe_ok, MP.r_run, MP.r_un, MP.r_un0, MP.r_nx, MP.r_ret, MP.r_exc, MP.t_nx, MP.t_cont, MP.t_brk, MP.t_ret, MP.b_nm, MP.b_tp2, MP.b_tp3, MP.t_bk, MP.fe_pop, MP.s_appF, MP.s_dead, MP.g_divmod, MP.g_sorted, MP.g_allB, MP.g_anyB, MP.g_sumI, MP.g_zipT, MP.g_zipL, MP.e_pZip, MP.e_xZp, MP.g_abs, MP.g_intI, MP.g_intB, MP.g_repT, MP.e_pLRng, MP.e_xLR, MP.f_Pop, MP.f_xPop, MP.s_AppF, MP.s_xAF0, MP.s_xAF, MP.s_xAF2, MP.g_inI, MP.g_ninI, MP.g_inT, MP.g_ninT, MP.g_ninST, MP.e_c2, MP.e_c3, MP.e_c4, MP.e_c5, MP.e_pIsi, List.getElem?_cons_zero, List.getElem?_cons_succ, List.getElem?_nil, List.set_cons_zero, List.set_cons_succ, List.map_cons, List.map_nil, List.length_cons, List.length_nil, List.length_append, List.cons_append, List.nil_append, List.length_map, List.length_singleton, Nat.reduceBEq, Nat.reduceAdd, Nat.reduceSub, Nat.reduceMul, Nat.reduceEqDiff, Nat.reduceLeDiff, Nat.reduceLT, if_false, if_true, ite_true, ite_false, ↓reduceIte, Bool.not_true, Bool.not_false, Bool.false_eq_true, decide_true, decide_false, eq_self, and_true, true_and, and_self, Nat.zero_le, Nat.zero_add, Option.bind_some, Option.bind_none, Nat.lt_irrefl, Int.reduceToNat, Int.reducePow, Int.reduceNeg, Int.reduceMul, Int.reduceAdd, Int.reduceSub, Int.reduceLT, Int.reduceLE, Int.reduceEq, beq_self_eq_true, wipeE, MP.at0, MP.at1, MP.at2, MP.atLit]
      have hpl : (nD (plainF K r0)).length ≤ 5 := by
        rw [nD_len]
        unfold plainF
        exact Nat.le_trans (List.length_filter_le ..) (by simp; omega)
      generalize (plainF K r0).filter (someQ x) = ks at *
      obtain ⟨c, hc, ec⟩ := m_letter (x / 32)
      have hin : compL (.nm 10) pYes (pD (p2 gIx (pVar 10) (pC (.int 0)))) ⟨[.v (.list (zs xs)), .v (.int (K : Nat)), .v (.int (L : Nat)), .own (.list (ls.map rowD)), x4, .v (.list (nD (plainF K r0))), .own (.list (cs.map chD)), .v (.int x), .v (.tup (nD ks)), .un, .un], []⟩ (cs.map chD) = .ok ((cs.map Prod.fst).map fun a => D.tup (nD a)) := by
        rw [List.map_map]
        refine compA _ _ _ fun a _ => ⟨_, b_nm .., ?_⟩
        have h0 : gIx (chD a) (.int 0) = some ⟨.sh, .tup (nD a.1)⟩ := rfl
        simp (disch := (first | assumption | with_reducible rfl | decide +kernel | exact Or.inl (by decide +kernel) | exact Or.inr (by decide +kernel) | omega | (simp only [List.length_cons, List.length_nil, List.length_append, List.length_map, List.length_replicate, List.length_range] <;> omega) | rfl)) only [MP.of_some, MP.map_some, MP.e_lv, MP.e_lo, MP.e_pD, MP.e_xDs, MP.e_xDf, MP.e_pC, MP.e_pYes, MP.e_pVar, MP.e_p2, MP.e_x2, MP.e_p1, MP.e_x1, MP.e_pB, MP.e_xB, MP.e_pNot, MP.e_xNot, MP.e_pAnd, MP.e_xAndT, MP.e_xAndF, MP.e_pOr, MP.e_xOrT, MP.e_xOrF, MP.e_pAndV, MP.e_xAndVT, MP.e_xAndVF, MP.e_pOrV, MP.e_xOrVT, MP.e_xOrVF, MP.e_pNotV, MP.e_xNotV, MP.e_pIf, MP.e_xIfT, MP.e_xIfF, MP.e_p3, MP.e_x3, MP.e_x3bT, MP.e_x3bF, MP.e_pNil, MP.e_pCons, MP.e_xCons, MP.e_pTup, MP.e_xTp, MP.e_pLst, MP.e_xLs, MP.e_pNo, MP.e_pSome, MP.e_xSo, MP.e_pSl, MP.e_xSl, MP.e_pCall, MP.e_xG, MP.e_pSeq, MP.e_xSq, MP.e_pSeqR, MP.e_xSqR, MP.e_pRng, MP.e_pEnum, MP.e_xEn, MP.e_pComp, MP.e_xC, MP.e_xC2, MP.e_pUser, MP.e_xU, MP.e_xFv, MP.e_xFo, MP.e_xFe, MP.e_pSeal, MP.e_xSe, MP.e_xSeFv, MP.e_xSeFo, MP.e_pLook, MP.e_xLo, MP.e_xLoF, MP.e_pFld, MP.e_xFd, MP.e_xOb, MP.e_xLk0, MP.e_xLk1, MP.e_c0, MP.e_c1, MP.g_add, MP.g_catS, MP.g_catL, MP.g_catT, MP.g_sub, MP.g_mul, MP.g_rep, MP.g_div, MP.g_mod, MP.g_pow, MP.g_shl, MP.g_shr, MP.g_and, MP.g_orI, MP.g_neg, MP.g_lt, MP.g_le, MP.g_gt, MP.g_ge, MP.g_eqI, MP.g_eqS, MP.g_eqBo, MP.g_neI, MP.g_neS, MP.g_neBo, MP.g_is, MP.g_isNot, MP.n_none, MP.n_int, MP.n_str, MP.n_tup, MP.n_list, MP.n_bool, MP.g_max, MP.g_min, MP.g_lenL, MP.g_lenK, MP.g_lenT, MP.g_listL, MP.g_listK, MP.g_listT, MP.g_tupL, MP.g_tupT, MP.q_list, MP.q_lk, MP.q_tup, MP.g_rng1, MP.g_rng2, MP.g_enumL, MP.g_enumK, MP.g_ixL, MP.g_ixK, MP.g_ixT, MP.g_slL, MP.g_slK, MP.g_slT, MP.s_Nil, MP.s_Brk, MP.s_Cont, MP.s_Seq, MP.s_xSn, MP.s_xSr, MP.s_xSb, MP.s_xSc, MP.s_xSe, MP.s_Expr, MP.s_xEx, MP.s_SetV, MP.s_xSV, MP.s_SetO, MP.s_xSOs, MP.s_xSOf, MP.s_Ret, MP.s_xRts, MP.s_xRtf, MP.s_RetN, MP.s_RetS, MP.s_xRSo, MP.s_xRSv, MP.s_If, MP.s_xIfT, MP.s_xIfF, MP.s_Tup, MP.s_xTu, MP.s_xTb, MP.s_For, MP.s_xFor, MP.s_App, MP.s_xAp, MP.s_Thaw, MP.s_xTh, MP.s_Frz, MP.s_xFzo, MP.s_xFzv, MP.s_ExprF, MP.s_xEF, MP.s_SetF, MP.s_xSF, MP.s_RetF, MP.s_xRF, MP.s_IfF, MP.s_xIFT, MP.s_xIFF, MP.s_FldN, MP.s_xN, MP.s_xN2, MP.s_xN3, MP.s_put0, MP.s_put1, MP.s_putN, MP.f_P, MP.f_xPs, MP.f_xPf, MP.f_User, MP.f_xFU, MP.f_Meth, MP.f_xM, MP.f_xM2, MP.f_Make, MP.f_xMk, MP.f_xMkF, MP.fe_ok, MP.r_run, MP.r_un, MP.r_un0, MP.r_nx, MP.r_ret, MP.r_exc, MP.t_nx, MP.t_cont, MP.t_brk, MP.t_ret, MP.b_nm, MP.b_tp2, MP.b_tp3, MP.t_bk, MP.fe_pop, MP.s_appF, MP.s_dead, MP.g_divmod, MP.g_sorted, MP.g_allB, MP.g_anyB, MP.g_sumI, MP.g_zipT, MP.g_zipL, MP.e_pZip, MP.e_xZp, MP.g_abs, MP.g_intI, MP.g_intB, MP.g_repT, MP.e_pLRng, MP.e_xLR, MP.f_Pop, MP.f_xPop, MP.s_AppF, MP.s_xAF0, MP.s_xAF, MP.s_xAF2, MP.g_inI, MP.g_ninI, MP.g_inT, MP.g_ninT, MP.g_ninST, MP.e_c2, MP.e_c3, MP.e_c4, MP.e_c5, MP.e_pIsi, List.getElem?_cons_zero, List.getElem?_cons_succ, List.getElem?_nil, List.set_cons_zero, List.set_cons_succ, List.map_cons, List.map_nil, List.length_cons, List.length_nil, List.length_append, List.cons_append, List.nil_append, List.length_map, List.length_singleton, Nat.reduceBEq, Nat.reduceAdd, Nat.reduceSub, Nat.reduceMul, Nat.reduceEqDiff, Nat.reduceLeDiff, Nat.reduceLT, if_false, if_true, ite_true, ite_false, ↓reduceIte, Bool.not_true, Bool.not_false, Bool.false_eq_true, decide_true, decide_false, eq_self, and_true, true_and, and_self, Nat.zero_le, Nat.zero_add, Option.bind_some, Option.bind_none, Nat.lt_irrefl, Int.reduceToNat, Int.reducePow, Int.reduceNeg, Int.reduceMul, Int.reduceAdd, Int.reduceSub, Int.reduceLT, Int.reduceLE, Int.reduceEq, beq_self_eq_true, wipeE, MP.at0, MP.at1, MP.at2, MP.atLit, h0]
        rfl
      have hgn2 := gNin_many ks (cs.map Prod.fst)
      have hgn2 : gNin (.tup (nD ks)) (.list ((cs.map Prod.fst).map fun a => D.tup (nD a))) = some ⟨.sh, .bool (!decide (ks ∈ cs.map Prod.fst))⟩ := hgn2
      have hsn : cs.map chD ++ [.tup [.tup (nD ks), .str (ltr c)]] = (cs ++ [(ks, c)]).map chD := by rw [List.map_append]; rfl
      have hcml : (cs.map chD).length = cs.length := by simp
      generalize hlm : ls.map rowD = lsd at *
      generalize hcm : cs.map chD = csd at *
      refine ⟨_, b_nm .., ?_⟩
      unfold lp_l_read_bed_2
      by_cases h1 : (1 : Int) < ks.length
      · by_cases h2 : ks ∈ cs.map Prod.fst
        · have h2' : decide (ks ∈ cs.map Prod.fst) = true := decide_eq_true h2
          rw [h2'] at hgn2
          simp (disch := (first | assumption | with_reducible rfl | decide +kernel | exact Or.inl (by decide +kernel) | exact Or.inr (by decide +kernel) | omega | (simp only [List.length_cons, List.length_nil, List.length_append, List.length_map, List.length_replicate, List.length_range] <;> omega) | rfl)) only [MP.of_some, MP.map_some, MP.e_lv, MP.e_lo, MP.e_pD, MP.e_xDs, MP.e_xDf, MP.e_pC, MP.e_pYes, MP.e_pVar, MP.e_p2, MP.e_x2, MP.e_p1, MP.e_x1, MP.e_pB, MP.e_xB, MP.e_pNot, MP.e_xNot, MP.e_pAnd, MP.e_xAndT, MP.e_xAndF, MP.e_pOr, MP.e_xOrT, MP.e_xOrF, MP.e_pAndV, MP.e_xAndVT, MP.e_xAndVF, MP.e_pOrV, MP.e_xOrVT, MP.e_xOrVF, MP.e_pNotV, MP.e_xNotV, MP.e_pIf, MP.e_xIfT, MP.e_xIfF, MP.e_p3, MP.e_x3, MP.e_x3bT, MP.e_x3bF, MP.e_pNil, MP.e_pCons, MP.e_xCons, MP.e_pTup, MP.e_xTp, MP.e_pLst, MP.e_xLs, MP.e_pNo, MP.e_pSome, MP.e_xSo, MP.e_pSl, MP.e_xSl, MP.e_pCall, MP.e_xG, MP.e_pSeq, MP.e_xSq, MP.e_pSeqR, MP.e_xSqR, MP.e_pRng, MP.e_pEnum, MP.e_xEn, MP.e_pComp, MP.e_xC, MP.e_xC2, MP.e_pUser, MP.e_xU, MP.e_xFv, MP.e_xFo, MP.e_xFe, MP.e_pSeal, MP.e_xSe, MP.e_xSeFv, MP.e_xSeFo, MP.e_pLook, MP.e_xLo, MP.e_xLoF, MP.e_pFld, MP.e_xFd, MP.e_xOb, MP.e_xLk0, MP.e_xLk1, MP.e_c0, MP.e_c1, MP.g_add, MP.g_catS, MP.g_catL, MP.g_catT, MP.g_sub, MP.g_mul, MP.g_rep, MP.g_div, MP.g_mod, MP.g_pow, MP.g_shl, MP.g_shr, MP.g_and, MP.g_orI, MP.g_neg, MP.g_lt, MP.g_le, MP.g_gt, MP.g_ge, MP.g_eqI, MP.g_eqS, MP.g_eqBo, MP.g_neI, MP.g_neS, MP.g_neBo, MP.g_is, MP.g_isNot, MP.n_none, MP.n_int, MP.n_str, MP.n_tup, MP.n_list, MP.n_bool, MP.g_max, MP.g_min, MP.g_lenL, MP.g_lenK, MP.g_lenT, MP.g_listL, MP.g_listK, MP.g_listT, MP.g_tupL, MP.g_tupT, MP.q_list, MP.q_lk, MP.q_tup, MP.g_rng1, MP.g_rng2, MP.g_enumL, MP.g_enumK, MP.g_ixL, MP.g_ixK, MP.g_ixT, MP.g_slL, MP.g_slK, MP.g_slT, MP.s_Nil, MP.s_Brk, MP.s_Cont, MP.s_Seq, MP.s_xSn, MP.s_xSr, MP.s_xSb, MP.s_xSc, MP.s_xSe, MP.s_Expr, MP.s_xEx, MP.s_SetV, MP.s_xSV, MP.s_SetO, MP.s_xSOs, MP.s_xSOf, MP.s_Ret, MP.s_xRts, MP.s_xRtf, MP.s_RetN, MP.s_RetS, MP.s_xRSo, MP.s_xRSv, MP.s_If, MP.s_xIfT, MP.s_xIfF, MP.s_Tup, MP.s_xTu, MP.s_xTb, MP.s_For, MP.s_xFor, MP.s_App, MP.s_xAp, MP.s_Thaw, MP.s_xTh, MP.s_Frz, MP.s_xFzo, MP.s_xFzv, MP.s_ExprF, MP.s_xEF, MP.s_SetF, MP.s_xSF, MP.s_RetF, MP.s_xRF, MP.s_IfF, MP.s_xIFT, MP.s_xIFF, MP.s_FldN, MP.s_xN, MP.s_xN2, MP.s_xN3, MP.s_put0, MP.s_put1, MP.s_putN, MP.f_P, MP.f_xPs, MP.f_xPf, MP.f_User, MP.f_xFU, MP.f_Meth, MP.f_xM, MP.f_xM2, MP.f_Make, MP.f_xMk, MP.f_xMkF, MP.fe_ok, MP.r_run, MP.r_un, MP.r_un0, MP.r_nx, MP.r_ret, MP.r_exc, MP.t_nx, MP.t_cont, MP.t_brk, MP.t_ret, MP.b_nm, MP.b_tp2, MP.b_tp3, MP.t_bk, MP.fe_pop, MP.s_appF, MP.s_dead, MP.g_divmod, MP.g_sorted, MP.g_allB, MP.g_anyB, MP.g_sumI, MP.g_zipT, MP.g_zipL, MP.e_pZip, MP.e_xZp, MP.g_abs, MP.g_intI, MP.g_intB, MP.g_repT, MP.e_pLRng, MP.e_xLR, MP.f_Pop, MP.f_xPop, MP.s_AppF, MP.s_xAF0, MP.s_xAF, MP.s_xAF2, MP.g_inI, MP.g_ninI, MP.g_inT, MP.g_ninT, MP.g_ninST, MP.e_c2, MP.e_c3, MP.e_c4, MP.e_c5, MP.e_pIsi, List.getElem?_cons_zero, List.getElem?_cons_succ, List.getElem?_nil, List.set_cons_zero, List.set_cons_succ, List.map_cons, List.map_nil, List.length_cons, List.length_nil, List.length_append, List.cons_append, List.nil_append, List.length_map, List.length_singleton, Nat.reduceBEq, Nat.reduceAdd, Nat.reduceSub, Nat.reduceMul, Nat.reduceEqDiff, Nat.reduceLeDiff, Nat.reduceLT, if_false, if_true, ite_true, ite_false, ↓reduceIte, Bool.not_true, Bool.not_false, Bool.false_eq_true, decide_true, decide_false, eq_self, and_true, true_and, and_self, Nat.zero_le, Nat.zero_add, Option.bind_some, Option.bind_none, Nat.lt_irrefl, Int.reduceToNat, Int.reducePow, Int.reduceNeg, Int.reduceMul, Int.reduceAdd, Int.reduceSub, Int.reduceLT, Int.reduceLE, Int.reduceEq, beq_self_eq_true, wipeE, MP.at0, MP.at1, MP.at2, MP.atLit, hsc, hkl, h1, hin, hgn2]
          exact ⟨cs, _, _, by omega, gc, by rw [hcm]⟩
        · have h2' : decide (ks ∈ cs.map Prod.fst) = false := decide_eq_false h2
          rw [h2'] at hgn2
          simp (disch := (first | assumption | with_reducible rfl | decide +kernel | exact Or.inl (by decide +kernel) | exact Or.inr (by decide +kernel) | omega | (simp only [List.length_cons, List.length_nil, List.length_append, List.length_map, List.length_replicate, List.length_range] <;> omega) | rfl)) only [MP.of_some, MP.map_some, MP.e_lv, MP.e_lo, MP.e_pD, MP.e_xDs, MP.e_xDf, MP.e_pC, MP.e_pYes, MP.e_pVar, MP.e_p2, MP.e_x2, MP.e_p1, MP.e_x1, MP.e_pB, MP.e_xB, MP.e_pNot, MP.e_xNot, MP.e_pAnd, MP.e_xAndT, MP.e_xAndF, MP.e_pOr, MP.e_xOrT, MP.e_xOrF, MP.e_pAndV, MP.e_xAndVT, MP.e_xAndVF, MP.e_pOrV, MP.e_xOrVT, MP.e_xOrVF, MP.e_pNotV, MP.e_xNotV, MP.e_pIf, MP.e_xIfT, MP.e_xIfF, MP.e_p3, MP.e_x3, MP.e_x3bT, MP.e_x3bF, MP.e_pNil, MP.e_pCons, MP.e_xCons, MP.e_pTup, MP.e_xTp, MP.e_pLst, MP.e_xLs, MP.e_pNo, MP.e_pSome, MP.e_xSo, MP.e_pSl, MP.e_xSl, MP.e_pCall, MP.e_xG, MP.e_pSeq, MP.e_xSq, MP.e_pSeqR, MP.e_xSqR, MP.e_pRng, MP.e_pEnum, MP.e_xEn, MP.e_pComp, MP.e_xC, MP.e_xC2, MP.e_pUser, MP.e_xU, MP.e_xFv, MP.e_xFo, MP.e_xFe, MP.e_pSeal, MP.e_xSe, MP.e_xSeFv, MP.e_xSeFo, MP.e_pLook, MP.e_xLo, MP.e_xLoF, MP.e_pFld, MP.e_xFd, MP.e_xOb, MP.e_xLk0, MP.e_xLk1, MP.e_c0, MP.e_c1, MP.g_add, MP.g_catS, MP.g_catL, MP.g_catT, MP.g_sub, MP.g_mul, MP.g_rep, MP.g_div, MP.g_mod, MP.g_pow, MP.g_shl, MP.g_shr, MP.g_and, MP.g_orI, MP.g_neg, MP.g_lt, MP.g_le, MP.g_gt, MP.g_ge, MP.g_eqI, MP.g_eqS, MP.g_eqBo, MP.g_neI, MP.g_neS, MP.g_neBo, MP.g_is, MP.g_isNot, MP.n_none, MP.n_int, MP.n_str, MP.n_tup, MP.n_list, MP.n_bool, MP.g_max, MP.g_min, MP.g_lenL, MP.g_lenK, MP.g_lenT, MP.g_listL, MP.g_listK, MP.g_listT, MP.g_tupL, MP.g_tupT, MP.q_list, MP.q_lk, MP.q_tup, MP.g_rng1, MP.g_rng2, MP.g_enumL, MP.g_enumK, MP.g_ixL, MP.g_ixK, MP.g_ixT, MP.g_slL, MP.g_slK, MP.g_slT, MP.s_Nil, MP.s_Brk, MP.s_Cont, MP.s_Seq, MP.s_xSn, MP.s_xSr, MP.s_xSb, MP.s_xSc, MP.s_xSe, MP.s_Expr, MP.s_xEx, MP.s_SetV, MP.s_xSV, MP.s_SetO, MP.s_xSOs, MP.s_xSOf, MP.s_Ret, MP.s_xRts, MP.s_xRtf, MP.s_RetN, MP.s_RetS, MP.s_xRSo, MP.s_xRSv, MP.s_If, MP.s_xIfT, MP.s_xIfF, MP.s_Tup, MP.s_xTu, MP.s_xTb, MP.s_For, MP.s_xFor, MP.s_App, MP.s_xAp, MP.s_Thaw, MP.s_xTh, MP.s_Frz, MP.s_xFzo, MP.s_xFzv, MP.s_ExprF, MP.s_xEF, MP.s_SetF, MP.s_xSF, MP.s_RetF, MP.s_xRF, MP.s_IfF, MP.s_xIFT, MP.s_xIFF, MP.s_FldN, MP.s_xN, MP.s_xN2, MP.s_xN3, MP.s_put0, MP.s_put1, MP.s_putN, MP.f_P, MP.f_xPs, MP.f_xPf, MP.f_User, MP.f_xFU, MP.f_Meth, MP.f_xM, MP.f_xM2, MP.f_Make, MP.f_xMk, MP.f_xMkF, MP.fe_ok, MP.r_run, MP.r_un, MP.r_un0, MP.r_nx, MP.r_ret, MP.r_exc, MP.t_nx, MP.t_cont, MP.t_brk, MP.t_ret, MP.b_nm, MP.b_tp2, MP.b_tp3, MP.t_bk, MP.fe_pop, MP.s_appF, MP.s_dead, MP.g_divmod, MP.g_sorted, MP.g_allB, MP.g_anyB, MP.g_sumI, MP.g_zipT, MP.g_zipL, MP.e_pZip, MP.e_xZp, MP.g_abs, MP.g_intI, MP.g_intB, MP.g_repT, MP.e_pLRng, MP.e_xLR, MP.f_Pop, MP.f_xPop, MP.s_AppF, MP.s_xAF0, MP.s_xAF, MP.s_xAF2, MP.g_inI, MP.g_ninI, MP.g_inT, MP.g_ninT, MP.g_ninST, MP.e_c2, MP.e_c3, MP.e_c4, MP.e_c5, MP.e_pIsi, List.getElem?_cons_zero, List.getElem?_cons_succ, List.getElem?_nil, List.set_cons_zero, List.set_cons_succ, List.map_cons, List.map_nil, List.length_cons, List.length_nil, List.length_append, List.cons_append, List.nil_append, List.length_map, List.length_singleton, Nat.reduceBEq, Nat.reduceAdd, Nat.reduceSub, Nat.reduceMul, Nat.reduceEqDiff, Nat.reduceLeDiff, Nat.reduceLT, if_false, if_true, ite_true, ite_false, ↓reduceIte, Bool.not_true, Bool.not_false, Bool.false_eq_true, decide_true, decide_false, eq_self, and_true, true_and, and_self, Nat.zero_le, Nat.zero_add, Option.bind_some, Option.bind_none, Nat.lt_irrefl, Int.reduceToNat, Int.reducePow, Int.reduceNeg, Int.reduceMul, Int.reduceAdd, Int.reduceSub, Int.reduceLT, Int.reduceLE, Int.reduceEq, beq_self_eq_true, wipeE, MP.at0, MP.at1, MP.at2, MP.atLit, hsc, hkl, h1, hin, hgn2, ec, hsn]
          exact ⟨cs ++ [(ks, c)], _, _, by simp; omega, gc.add hko (by omega) h2 hc, rfl⟩
      · simp (disch := (first | assumption | with_reducible rfl | decide +kernel | exact Or.inl (by decide +kernel) | exact Or.inr (by decide +kernel) | omega | (simp only [List.length_cons, List.length_nil, List.length_append, List.length_map, List.length_replicate, List.length_range] <;> omega) | rfl)) only [MP.of_some, MP.map_some, MP.e_lv, MP.e_lo, MP.e_pD, MP.e_xDs, MP.e_xDf, MP.e_pC, MP.e_pYes, MP.e_pVar, MP.e_p2, MP.e_x2, MP.e_p1, MP.e_x1, MP.e_pB, MP.e_xB, MP.e_pNot, MP.e_xNot, MP.e_pAnd, MP.e_xAndT, MP.e_xAndF, MP.e_pOr, MP.e_xOrT, MP.e_xOrF, MP.e_pAndV, MP.e_xAndVT, MP.e_xAndVF, MP.e_pOrV, MP.e_xOrVT, MP.e_xOrVF, MP.e_pNotV, MP.e_xNotV, MP.e_pIf, MP.e_xIfT, MP.e_xIfF, MP.e_p3, MP.e_x3, MP.e_x3bT, MP.e_x3bF, MP.e_pNil, MP.e_pCons, MP.e_xCons, MP.e_pTup, MP.e_xTp, MP.e_pLst, MP.e_xLs, MP.e_pNo, MP.e_pSome, MP.e_xSo, MP.e_pSl, MP.e_xSl, MP.e_pCall, MP.e_xG, MP.e_pSeq, MP.e_xSq, MP.e_pSeqR, MP.e_xSqR, MP.e_pRng, MP.e_pEnum, MP.e_xEn, MP.e_pComp, MP.e_xC, MP.e_xC2, MP.e_pUser, MP.e_xU, MP.e_xFv, MP.e_xFo, MP.e_xFe, MP.e_pSeal, MP.e_xSe, MP.e_xSeFv, MP.e_xSeFo, MP.e_pLook, MP.e_xLo, MP.e_xLoF, MP.e_pFld, MP.e_xFd, MP.e_xOb, MP.e_xLk0, MP.e_xLk1, MP.e_c0, MP.e_c1, MP.g_add, MP.g_catS, MP.g_catL, MP.g_catT, MP.g_sub, MP.g_mul, MP.g_rep, MP.g_div, MP.g_mod, MP.g_pow, MP.g_shl, MP.g_shr, MP.g_and, MP.g_orI, MP.g_neg, MP.g_lt, MP.g_le, MP.g_gt, MP.g_ge, MP.g_eqI, MP.g_eqS, MP.g_eqBo, MP.g_neI, MP.g_neS, MP.g_neBo, MP.g_is, MP.g_isNot, MP.n_none, MP.n_int, MP.n_str, MP.n_tup, MP.n_list, MP.n_bool, MP.g_max, MP.g_min, MP.g_lenL, MP.g_lenK, MP.g_lenT, MP.g_listL, MP.g_listK, MP.g_listT, MP.g_tupL, MP.g_tupT, MP.q_list, MP.q_lk, MP.q_tup, MP.g_rng1, MP.g_rng2, MP.g_enumL, MP.g_enumK, MP.g_ixL, MP.g_ixK, MP.g_ixT, MP.g_slL, MP.g_slK, MP.g_slT, MP.s_Nil, MP.s_Brk, MP.s_Cont, MP.s_Seq, MP.s_xSn, MP.s_xSr, MP.s_xSb, MP.s_xSc, MP.s_xSe, MP.s_Expr, MP.s_xEx, MP.s_SetV, MP.s_xSV, MP.s_SetO, MP.s_xSOs, MP.s_xSOf, MP.s_Ret, MP.s_xRts, MP.s_xRtf, MP.s_RetN, MP.s_RetS, MP.s_xRSo, MP.s_xRSv, MP.s_If, MP.s_xIfT, MP.s_xIfF, MP.s_Tup, MP.s_xTu, MP.s_xTb, MP.s_For, MP.s_xFor, MP.s_App, MP.s_xAp, MP.s_Thaw, MP.s_xTh, MP.s_Frz, MP.s_xFzo, MP.s_xFzv, MP.s_ExprF, MP.s_xEF, MP.s_SetF, MP.s_xSF, MP.s_RetF, MP.s_xRF, MP.s_IfF, MP.s_xIFT, MP.s_xIFF, MP.s_FldN, MP.s_xN, MP.s_xN2, MP.s_xN3, MP.s_put0, MP.s_put1, MP.s_putN, MP.f_P, MP.f_xPs, MP.f_xPf, MP.f_User, MP.f_xFU, MP.f_Meth, MP.f_xM, MP.f_xM2, MP.f_Make, MP.f_xMk, MP.f_xMkF, MP.fe_ok, MP.r_run, MP.r_un, MP.r_un0, MP.r_nx, MP.r_ret, MP.r_exc, MP.t_nx, MP.t_cont, MP.t_brk, MP.t_ret, MP.b_nm, MP.b_tp2, MP.b_tp3, MP.t_bk, MP.fe_pop, MP.s_appF, MP.s_dead, MP.g_divmod, MP.g_sorted, MP.g_allB, MP.g_anyB, MP.g_sumI, MP.g_zipT, MP.g_zipL, MP.e_pZip, MP.e_xZp, MP.g_abs, MP.g_intI, MP.g_intB, MP.g_repT, MP.e_pLRng, MP.e_xLR, MP.f_Pop, MP.f_xPop, MP.s_AppF, MP.s_xAF0, MP.s_xAF, MP.s_xAF2, MP.g_inI, MP.g_ninI, MP.g_inT, MP.g_ninT, MP.g_ninST, MP.e_c2, MP.e_c3, MP.e_c4, MP.e_c5, MP.e_pIsi, List.getElem?_cons_zero, List.getElem?_cons_succ, List.getElem?_nil, List.set_cons_zero, List.set_cons_succ, List.map_cons, List.map_nil, List.length_cons, List.length_nil, List.length_append, List.cons_append, List.nil_append, List.length_map, List.length_singleton, Nat.reduceBEq, Nat.reduceAdd, Nat.reduceSub, Nat.reduceMul, Nat.reduceEqDiff, Nat.reduceLeDiff, Nat.reduceLT, if_false, if_true, ite_true, ite_false, ↓reduceIte, Bool.not_true, Bool.not_false, Bool.false_eq_true, decide_true, decide_false, eq_self, and_true, true_and, and_self, Nat.zero_le, Nat.zero_add, Option.bind_some, Option.bind_none, Nat.lt_irrefl, Int.reduceToNat, Int.reducePow, Int.reduceNeg, Int.reduceMul, Int.reduceAdd, Int.reduceSub, Int.reduceLT, Int.reduceLE, Int.reduceEq, beq_self_eq_true, wipeE, MP.at0, MP.at1, MP.at2, MP.atLit, hsc, hkl, h1]
        exact ⟨cs, _, _, by omega, gc, by rw [hcm]⟩
  · rintro s ⟨cs, x7, x8, hcl, gc, rfl⟩
    rw [hyl] at hcl
    refine ⟨⟨K, ls, cs, w⟩, ⟨by show 1 ≤ K; omega, by show K ≤ 5; omega, by show 1 ≤ ls.length; omega, by show ls.length ≤ 3; omega, g.len, fun j r h => by rw [hgn]; exact g.ok j r h, by show cs.length ≤ 4; omega, fun c hc => by rw [hr0d]; exact gc.ch c hc, gc.nd, by show 1 ≤ w; omega, by show w ≤ 4; omega⟩, ?_⟩
    have hcml : (cs.map chD).length = cs.length := by simp
    unfold bedD st_l_read_bed_8
    generalize ls.map rowD = lsd at *
    generalize cs.map chD = csd at *
    simp (disch := (first | assumption | with_reducible rfl | decide +kernel | exact Or.inl (by decide +kernel) | exact Or.inr (by decide +kernel) | omega | (simp only [List.length_cons, List.length_nil, List.length_append, List.length_map, List.length_replicate, List.length_range] <;> omega) | rfl)) only [MP.of_some, MP.map_some, MP.e_lv, MP.e_lo, MP.e_pD, MP.e_xDs, MP.e_xDf, MP.e_pC, MP.e_pYes, MP.e_pVar, MP.e_p2, MP.e_x2, MP.e_p1, MP.e_x1, MP.e_pB, MP.e_xB, MP.e_pNot, MP.e_xNot, MP.e_pAnd, MP.e_xAndT, MP.e_xAndF, MP.e_pOr, MP.e_xOrT, MP.e_xOrF, MP.e_pAndV, MP.e_xAndVT, MP.e_xAndVF, MP.e_pOrV, MP.e_xOrVT, MP.e_xOrVF, MP.e_pNotV, MP.e_xNotV, MP.e_pIf, MP.e_xIfT, MP.e_xIfF, MP.e_p3, MP.e_x3, MP.e_x3bT, MP.e_x3bF, MP.e_pNil, MP.e_pCons, MP.e_xCons, MP.e_pTup, MP.e_xTp, MP.e_pLst, MP.e_xLs, MP.e_pNo, MP.e_pSome, MP.e_xSo, MP.e_pSl, MP.e_xSl, MP.e_pCall, MP.e_xG, MP.e_pSeq, MP.e_xSq, MP.e_pSeqR, MP.e_xSqR, MP.e_pRng, MP.e_pEnum, MP.e_xEn, MP.e_pComp, MP.e_xC, MP.e_xC2, MP.e_pUser, MP.e_xU, MP.e_xFv, MP.e_xFo, MP.e_xFe, MP.e_pSeal, MP.e_xSe, MP.e_xSeFv, MP.e_xSeFo, MP.e_pLook, MP.e_xLo, MP.e_xLoF, MP.e_pFld, MP.e_xFd, MP.e_xOb, MP.e_xLk0, MP.e_xLk1, MP.e_c0, MP.e_c1, MP.g_add, MP.g_catS, MP.g_catL, MP.g_catT, MP.g_sub, MP.g_mul, MP.g_rep, MP.g_div, MP.g_mod, MP.g_pow, MP.g_shl, MP.g_shr, MP.g_and, MP.g_orI, MP.g_neg, MP.g_lt, MP.g_le, MP.g_gt, MP.g_ge, MP.g_eqI, MP.g_eqS, MP.g_eqBo, MP.g_neI, MP.g_neS, MP.g_neBo, MP.g_is, MP.g_isNot, MP.n_none, MP.n_int, MP.n_str, MP.n_tup, MP.n_list, MP.n_bool, MP.g_max, MP.g_min, MP.g_lenL, MP.g_lenK, MP.g_lenT, MP.g_listL, MP.g_listK, MP.g_listT, MP.g_tupL, MP.g_tupT, MP.q_list, MP.q_lk, MP.q_tup, MP.g_rng1, MP.g_rng2, MP.g_enumL, MP.g_enumK, MP.g_ixL, MP.g_ixK, MP.g_ixT, MP.g_slL, MP.g_slK, MP.g_slT, MP.s_Nil, MP.s_Brk, MP.s_Cont, MP.s_Seq, MP.s_xSn, MP.s_xSr, MP.s_xSb, MP.s_xSc, MP.s_xSe, MP.s_Expr, MP.s_xEx, MP.s_SetV, MP.s_xSV, MP.s_SetO, MP.s_xSOs, MP.s_xSOf, MP.s_Ret, MP.s_xRts, MP.s_xRtf, MP.s_RetN, MP.s_RetS, MP.s_xRSo, MP.s_xRSv, MP.s_If, MP.s_xIfT, MP.s_xIfF, MP.s_Tup, MP.s_xTu, MP.s_xTb, MP.s_For, MP.s_xFor, MP.s_App, MP.s_xAp, MP.s_Thaw, MP.s_xTh, MP.s_Frz, MP.s_xFzo, MP.s_xFzv, MP.s_ExprF, MP.s_xEF, MP.s_SetF, MP.s_xSF, MP.s_RetF, MP.s_xRF, MP.s_IfF, MP.s_xIFT, MP.s_xIFF, MP.s_FldN, MP.s_xN, MP.s_xN2, MP.s_xN3, MP.s_put0, MP.s_put1, MP.s_putN, MP.f_P, MP.f_xPs, MP.f_xPf, MP.f_User, MP.f_xFU, MP.f_Meth, MP.f_xM, MP.f_xM2, MP.f_Make, MP.f_xMk, MP.f_xMkF, MP.fe_ok, MP.r_run, MP.r_un, MP.r_un0, MP.r_nx, MP.r_ret, MP.r_exc, MP.t_nx, MP.t_cont, MP.t_brk, MP.t_ret, MP.b_nm, MP.b_tp2, MP.b_tp3, MP.t_bk, MP.fe_pop, MP.s_appF, MP.s_dead, MP.g_divmod, MP.g_sorted, MP.g_allB, MP.g_anyB, MP.g_sumI, MP.g_zipT, MP.g_zipL, MP.e_pZip, MP.e_xZp, MP.g_abs, MP.g_intI, MP.g_intB, MP.g_repT, MP.e_pLRng, MP.e_xLR, MP.f_Pop, MP.f_xPop, MP.s_AppF, MP.s_xAF0, MP.s_xAF, MP.s_xAF2, MP.g_inI, MP.g_ninI, MP.g_inT, MP.g_ninT, MP.g_ninST, MP.e_c2, MP.e_c3, MP.e_c4, MP.e_c5, MP.e_pIsi, List.getElem?_cons_zero, List.getElem?_cons_succ, List.getElem?_nil, List.set_cons_zero, List.set_cons_succ, List.map_cons, List.map_nil, List.length_cons, List.length_nil, List.length_append, List.cons_append, List.nil_append, List.length_map, List.length_singleton, Nat.reduceBEq, Nat.reduceAdd, Nat.reduceSub, Nat.reduceMul, Nat.reduceEqDiff, Nat.reduceLeDiff, Nat.reduceLT, if_false, if_true, ite_true, ite_false, ↓reduceIte, Bool.not_true, Bool.not_false, Bool.false_eq_true, decide_true, decide_false, eq_self, and_true, true_and, and_self, Nat.zero_le, Nat.zero_add, Option.bind_some, Option.bind_none, Nat.lt_irrefl, Int.reduceToNat, Int.reducePow, Int.reduceNeg, Int.reduceMul, Int.reduceAdd, Int.reduceSub, Int.reduceLT, Int.reduceLE, Int.reduceEq, beq_self_eq_true, wipeE, MP.at0, MP.at1, MP.at2, MP.atLit, h0, hw]
theorem m_wideC (ns : List Int) (at_ K i : Nat) (hat : at_ ≤ 30) (hK : K ≤ 5) (hi : i < 3) (x2 x3 x5 x7 x8 x9 x10 x11 x12 x14 : Slot) :
    ∃ ws : List Int, ws.length = K ∧ compL (.nm 13) pYes (pD (pUser 2 sem_l_wide (pCons (pD (pUser 2 sem_l_cell (pCons (pD (pVar 0)) (pCons (pD (p2 gPlus (p2 gPlus (p2 gPlus (pVar 1) (pC (.int 1))) (p2 gTimes (pC (.int 5)) (pVar 6))) (pVar 13))) (pNil))))) (pCons (pD (p2 gPlus (p2 gTimes (pC (.int 5)) (pVar 6)) (pVar 13))) (pNil)))))
      ⟨[.v (.lk (zs ns)), .v (.int (at_ : Nat)), x2, x3, .v (.int (K : Nat)), x5, .v (.int (i : Nat)), x7, x8, x9, x10, x11, x12, .un, x14], []⟩ (rng 0 (K : Int)) = .ok (zs ws) := by
  obtain ⟨r, h1, h2, h3⟩ := compE (t := .nm 13) (te := pD (pUser 2 sem_l_wide (pCons (pD (pUser 2 sem_l_cell (pCons (pD (pVar 0)) (pCons (pD (p2 gPlus (p2 gPlus (p2 gPlus (pVar 1) (pC (.int 1))) (p2 gTimes (pC (.int 5)) (pVar 6))) (pVar 13))) (pNil))))) (pCons (pD (p2 gPlus (p2 gTimes (pC (.int 5)) (pVar 6)) (pVar 13))) (pNil)))))
    (s := ⟨[.v (.lk (zs ns)), .v (.int (at_ : Nat)), x2, x3, .v (.int (K : Nat)), x5, .v (.int (i : Nat)), x7, x8, x9, x10, x11, x12, .un, x14], []⟩) (fun _ => True) D.int (rng 0 (K : Int)) (fun d hd => by
    rw [rng_0] at hd
    obtain ⟨k, hk, rfl⟩ := List.mem_map.mp hd
    have hk := List.mem_range.mp hk
    have hc := m_cell ns ((at_ : Int) + 1 + 5 * (i : Nat) + (k : Nat)) (by omega)
    have hw := m_wide (ns.getD ((at_ : Int) + 1 + 5 * (i : Nat) + (k : Nat)).toNat 0) (5 * (i : Nat) + (k : Nat)) (by omega)
    generalize ns.getD ((at_ : Int) + 1 + 5 * (i : Nat) + (k : Nat)).toNat 0 = c at hc hw
    generalize wide c (5 * (i : Nat) + (k : Nat)) = w at hw
    refine ⟨w, trivial, _, b_nm .., ?_⟩
    simp (disch := (first | assumption | with_reducible rfl | decide +kernel | exact Or.inl (by decide +kernel) | exact Or.inr (by decide +kernel) | omega | (simp only [List.length_cons, List.length_nil, List.length_append, List.length_map, List.length_replicate, List.length_range] <;> omega) | rfl)) only [MP.of_some, MP.map_some, MP.e_lv, MP.e_lo, MP.e_pD, MP.e_xDs, MP.e_xDf, MP.e_pC, MP.e_pYes, MP.e_pVar, MP.e_p2, MP.e_x2, MP.e_p1, MP.e_x1, MP.e_pB, MP.e_xB, MP.e_pNot, MP.e_xNot, MP.e_pAnd, MP.e_xAndT, MP.e_xAndF, MP.e_pOr, MP.e_xOrT, MP.e_xOrF, MP.e_pAndV, MP.e_xAndVT, MP.e_xAndVF, MP.e_pOrV, MP.e_xOrVT, MP.e_xOrVF, MP.e_pNotV, MP.e_xNotV, MP.e_pIf, MP.e_xIfT, MP.e_xIfF, MP.e_p3, MP.e_x3, MP.e_x3bT, MP.e_x3bF, MP.e_pNil, MP.e_pCons, MP.e_xCons, MP.e_pTup, MP.e_xTp, MP.e_pLst, MP.e_xLs, MP.e_pNo, MP.e_pSome, MP.e_xSo, MP.e_pSl, MP.e_xSl, MP.e_pCall, MP.e_xG, MP.e_pSeq, MP.e_xSq, MP.e_pSeqR, MP.e_xSqR, MP.e_pRng, MP.e_pEnum, MP.e_xEn, MP.e_pComp, MP.e_xC, MP.e_xC2, MP.e_pUser, MP.e_xU, MP.e_xFv, MP.e_xFo, MP.e_xFe, MP.e_pSeal, MP.e_xSe, MP.e_xSeFv, MP.e_xSeFo, MP.e_pLook, MP.e_xLo, MP.e_xLoF, MP.e_pFld, MP.e_xFd, MP.e_xOb, MP.e_xLk0, MP.e_xLk1, MP.e_c0, MP.e_c1, MP.g_add, MP.g_catS, MP.g_catL, MP.g_catT, MP.g_sub, MP.g_mul, MP.g_rep, MP.g_div, MP.g_mod, MP.g_pow, MP.g_shl, MP.g_shr, MP.g_and, MP.g_orI, MP.g_neg, MP.g_lt, MP.g_le, MP.g_gt, MP.g_ge, MP.g_eqI, MP.g_eqS, MP.g_eqBo, MP.g_neI, MP.g_neS, MP.g_neBo, MP.g_is, MP.g_isNot, MP.n_none, MP.n_int, MP.n_str, MP.n_tup, MP.n_list, MP.n_bool, MP.g_max, MP.g_min, MP.g_lenL, MP.g_lenK, MP.g_lenT, MP.g_listL, MP.g_listK, MP.g_listT, MP.g_tupL, MP.g_tupT, MP.q_list, MP.q_lk, MP.q_tup, MP.g_rng1, MP.g_rng2, MP.g_enumL, MP.g_enumK, MP.g_ixL, MP.g_ixK, MP.g_ixT, MP.g_slL, MP.g_slK, MP.g_slT, MP.s_Nil, MP.s_Brk, MP.s_Cont, MP.s_Seq, MP.s_xSn, MP.s_xSr, MP.s_xSb, MP.s_xSc, MP.s_xSe, MP.s_Expr, MP.s_xEx, MP.s_SetV, MP.s_xSV, MP.s_SetO, MP.s_xSOs, MP.s_xSOf, MP.s_Ret, MP.s_xRts, MP.s_xRtf, MP.s_RetN, MP.s_RetS, MP.s_xRSo, MP.s_xRSv, MP.s_If, MP.s_xIfT, MP.s_xIfF, MP.s_Tup, MP.s_xTu, MP.s_xTb, MP.s_For, MP.s_xFor, MP.s_App, MP.s_xAp, MP.s_Thaw, MP.s_xTh, MP.s_Frz, MP.s_xFzo, MP.s_xFzv, MP.s_ExprF, MP.s_xEF, MP.s_SetF, MP.s_xSF, MP.s_RetF, MP.s_xRF, MP.s_IfF, MP.s_xIFT, MP.s_xIFF, MP.s_FldN, MP.s_xN, MP.s_xN2, MP.s_xN3, MP.s_put0, MP.s_put1, MP.s_putN, MP.f_P, MP.f_xPs, MP.f_xPf, MP.f_User, MP.f_xFU, MP.f_Meth, MP.f_xM, MP.f_xM2, MP.f_Make, MP.f_xMk, MP.f_xMkF, MP.fe_ok, MP.r_run, MP.r_un, MP.r_un0, MP.r_nx, MP.r_ret, MP.r_exc, MP.t_nx, MP.t_cont, MP.t_brk, MP.t_ret, MP.b_nm, MP.b_tp2, MP.b_tp3, MP.t_bk, MP.fe_pop, MP.s_appF, MP.s_dead, MP.g_divmod, MP.g_sorted, MP.g_allB, MP.g_anyB, MP.g_sumI, MP.g_zipT, MP.g_zipL, MP.e_pZip, MP.e_xZp, MP.g_abs, MP.g_intI, MP.g_intB, MP.g_repT, MP.e_pLRng, MP.e_xLR, MP.f_Pop, MP.f_xPop, MP.s_AppF, MP.s_xAF0, MP.s_xAF, MP.s_xAF2, MP.g_inI, MP.g_ninI, MP.g_inT, MP.g_ninT, MP.g_ninST, MP.e_c2, MP.e_c3, MP.e_c4, MP.e_c5, MP.e_pIsi, List.getElem?_cons_zero, List.getElem?_cons_succ, List.getElem?_nil, List.set_cons_zero, List.set_cons_succ, List.map_cons, List.map_nil, List.length_cons, List.length_nil, List.length_append, List.cons_append, List.nil_append, List.length_map, List.length_singleton, Nat.reduceBEq, Nat.reduceAdd, Nat.reduceSub, Nat.reduceMul, Nat.reduceEqDiff, Nat.reduceLeDiff, Nat.reduceLT, if_false, if_true, ite_true, ite_false, ↓reduceIte, Bool.not_true, Bool.not_false, Bool.false_eq_true, decide_true, decide_false, eq_self, and_true, true_and, and_self, Nat.zero_le, Nat.zero_add, Option.bind_some, Option.bind_none, Nat.lt_irrefl, Int.reduceToNat, Int.reducePow, Int.reduceNeg, Int.reduceMul, Int.reduceAdd, Int.reduceSub, Int.reduceLT, Int.reduceLE, Int.reduceEq, beq_self_eq_true, wipeE, MP.at0, MP.at1, MP.at2, MP.atLit, hc, hw])
  exact ⟨r, by rw [h1, rngLenN], h3⟩
theorem m_rowB (ws : List Int) (L i : Nat) (hL : L = 1 ∨ L = 2 ∨ L = 3) (f : Int) (hf : 1 + f / 5 % 3 = (L : Int)) (x0 x1 x3 x4 x5 x7 x8 x9 x12 x13 x14 : Slot) :
    ∃ r : List Mn, r.length = ws.length ∧ (∀ m ∈ r, Mn.Ok i L m) ∧ compL (.nm 11) pYes (pD (pUser 3 sem_l_meaning (pCons (pD (pVar 11)) (pCons (pD (pVar 6)) (pCons (pD (p2 gPlus (pC (.int 1)) (p2 gMod (p2 gDiv (pVar 2) (pC (.int 5))) (pC (.int 3))))) (pNil))))))
      ⟨[x0, x1, .v (.int f), x3, x4, x5, .v (.int (i : Nat)), x7, x8, x9, .v (.list (zs ws)), .un, x12, x13, x14], []⟩ (zs ws) = .ok (r.map Mn.D) := by
  obtain ⟨r, h1, h2, h3⟩ := compE (t := .nm 11) (te := pD (pUser 3 sem_l_meaning (pCons (pD (pVar 11)) (pCons (pD (pVar 6)) (pCons (pD (p2 gPlus (pC (.int 1)) (p2 gMod (p2 gDiv (pVar 2) (pC (.int 5))) (pC (.int 3))))) (pNil))))))
    (s := ⟨[x0, x1, .v (.int f), x3, x4, x5, .v (.int (i : Nat)), x7, x8, x9, .v (.list (zs ws)), .un, x12, x13, x14], []⟩) (fun m => Mn.Ok i L m) Mn.D (zs ws) (fun d hd => by
    unfold zs at hd
    obtain ⟨x, _, rfl⟩ := List.mem_map.mp hd
    obtain ⟨m, hm, em⟩ := m_meaning x i L hL
    refine ⟨m, hm, _, b_nm .., ?_⟩
    simp (disch := (first | assumption | with_reducible rfl | decide +kernel | exact Or.inl (by decide +kernel) | exact Or.inr (by decide +kernel) | omega | (simp only [List.length_cons, List.length_nil, List.length_append, List.length_map, List.length_replicate, List.length_range] <;> omega) | rfl)) only [MP.of_some, MP.map_some, MP.e_lv, MP.e_lo, MP.e_pD, MP.e_xDs, MP.e_xDf, MP.e_pC, MP.e_pYes, MP.e_pVar, MP.e_p2, MP.e_x2, MP.e_p1, MP.e_x1, MP.e_pB, MP.e_xB, MP.e_pNot, MP.e_xNot, MP.e_pAnd, MP.e_xAndT, MP.e_xAndF, MP.e_pOr, MP.e_xOrT, MP.e_xOrF, MP.e_pAndV, MP.e_xAndVT, MP.e_xAndVF, MP.e_pOrV, MP.e_xOrVT, MP.e_xOrVF, MP.e_pNotV, MP.e_xNotV, MP.e_pIf, MP.e_xIfT, MP.e_xIfF, MP.e_p3, MP.e_x3, MP.e_x3bT, MP.e_x3bF, MP.e_pNil, MP.e_pCons, MP.e_xCons, MP.e_pTup, MP.e_xTp, MP.e_pLst, MP.e_xLs, MP.e_pNo, MP.e_pSome, MP.e_xSo, MP.e_pSl, MP.e_xSl, MP.e_pCall, MP.e_xG, MP.e_pSeq, MP.e_xSq, MP.e_pSeqR, MP.e_xSqR, MP.e_pRng, MP.e_pEnum, MP.e_xEn, MP.e_pComp, MP.e_xC, MP.e_xC2, MP.e_pUser, MP.e_xU, MP.e_xFv, MP.e_xFo, MP.e_xFe, MP.e_pSeal, MP.e_xSe, MP.e_xSeFv, MP.e_xSeFo, MP.e_pLook, MP.e_xLo, MP.e_xLoF, MP.e_pFld, MP.e_xFd, MP.e_xOb, MP.e_xLk0, MP.e_xLk1, MP.e_c0, MP.e_c1, MP.g_add, MP.g_catS, MP.g_catL, MP.g_catT, MP.g_sub, MP.g_mul, MP.g_rep, MP.g_div, MP.g_mod, MP.g_pow, MP.g_shl, MP.g_shr, MP.g_and, MP.g_orI, MP.g_neg, MP.g_lt, MP.g_le, MP.g_gt, MP.g_ge, MP.g_eqI, MP.g_eqS, MP.g_eqBo, MP.g_neI, MP.g_neS, MP.g_neBo, MP.g_is, MP.g_isNot, MP.n_none, MP.n_int, MP.n_str, MP.n_tup, MP.n_list, MP.n_bool, MP.g_max, MP.g_min, MP.g_lenL, MP.g_lenK, MP.g_lenT, MP.g_listL, MP.g_listK, MP.g_listT, MP.g_tupL, MP.g_tupT, MP.q_list, MP.q_lk, MP.q_tup, MP.g_rng1, MP.g_rng2, MP.g_enumL, MP.g_enumK, MP.g_ixL, MP.g_ixK, MP.g_ixT, MP.g_slL, MP.g_slK, MP.g_slT, MP.s_Nil, MP.s_Brk, MP.s_Cont, MP.s_Seq, MP.s_xSn, MP.s_xSr, MP.s_xSb, MP.s_xSc, MP.s_xSe, MP.s_Expr, MP.s_xEx, MP.s_SetV, MP.s_xSV, MP.s_SetO, MP.s_xSOs, MP.s_xSOf, MP.s_Ret, MP.s_xRts, MP.s_xRtf, MP.s_RetN, MP.s_RetS, MP.s_xRSo, MP.s_xRSv, MP.s_If, MP.s_xIfT, MP.s_xIfF, MP.s_Tup, MP.s_xTu, MP.s_xTb, MP.s_For, MP.s_xFor, MP.s_App, MP.s_xAp, MP.s_Thaw, MP.s_xTh, MP.s_Frz, MP.s_xFzo, MP.s_xFzv, MP.s_ExprF, MP.s_xEF, MP.s_SetF, MP.s_xSF, MP.s_RetF, MP.s_xRF, MP.s_IfF, MP.s_xIFT, MP.s_xIFF, MP.s_FldN, MP.s_xN, MP.s_xN2, MP.s_xN3, MP.s_put0, MP.s_put1, MP.s_putN, MP.f_P, MP.f_xPs, MP.f_xPf, MP.f_User, MP.f_xFU, MP.f_Meth, MP.f_xM, MP.f_xM2, MP.f_Make, MP.f_xMk, MP.f_xMkF, MP.fe_ok, MP.r_run, MP.r_un, MP.r_un0, MP.r_nx, MP.r_ret, MP.r_exc, MP.t_nx, MP.t_cont, MP.t_brk, MP.t_ret, MP.b_nm, MP.b_tp2, MP.b_tp3, MP.t_bk, MP.fe_pop, MP.s_appF, MP.s_dead, MP.g_divmod, MP.g_sorted, MP.g_allB, MP.g_anyB, MP.g_sumI, MP.g_zipT, MP.g_zipL, MP.e_pZip, MP.e_xZp, MP.g_abs, MP.g_intI, MP.g_intB, MP.g_repT, MP.e_pLRng, MP.e_xLR, MP.f_Pop, MP.f_xPop, MP.s_AppF, MP.s_xAF0, MP.s_xAF, MP.s_xAF2, MP.g_inI, MP.g_ninI, MP.g_inT, MP.g_ninT, MP.g_ninST, MP.e_c2, MP.e_c3, MP.e_c4, MP.e_c5, MP.e_pIsi, List.getElem?_cons_zero, List.getElem?_cons_succ, List.getElem?_nil, List.set_cons_zero, List.set_cons_succ, List.map_cons, List.map_nil, List.length_cons, List.length_nil, List.length_append, List.cons_append, List.nil_append, List.length_map, List.length_singleton, Nat.reduceBEq, Nat.reduceAdd, Nat.reduceSub, Nat.reduceMul, Nat.reduceEqDiff, Nat.reduceLeDiff, Nat.reduceLT, if_false, if_true, ite_true, ite_false, ↓reduceIte, Bool.not_true, Bool.not_false, Bool.false_eq_true, decide_true, decide_false, eq_self, and_true, true_and, and_self, Nat.zero_le, Nat.zero_add, Option.bind_some, Option.bind_none, Nat.lt_irrefl, Int.reduceToNat, Int.reducePow, Int.reduceNeg, Int.reduceMul, Int.reduceAdd, Int.reduceSub, Int.reduceLT, Int.reduceLE, Int.reduceEq, beq_self_eq_true, wipeE, MP.at0, MP.at1, MP.at2, MP.atLit, hf, em])
  exact ⟨r, by rw [h1, zs_len], h2, h3⟩
theorem m_rowR (ws : List Int) (x0 x1 x2 x3 x4 x5 x6 x7 x8 x9 x12 x13 x14 : Slot) :
    ∃ r : List Mn, r.length = ws.length ∧ (∀ m ∈ r, m.isL = true ∧ ∀ L, Mn.Ok 0 L m) ∧ compL (.nm 11) pYes (pD (pTup (pCons (pD (pC (.str "letter"))) (pCons (pD (pUser 1 sem_l_letter (pCons (pD (p2 gDiv (pVar 11) (pC (.int 8)))) (pNil)))) (pNil)))))
      ⟨[x0, x1, x2, x3, x4, x5, x6, x7, x8, x9, .v (.list (zs ws)), .un, x12, x13, x14], []⟩ (zs ws) = .ok (r.map Mn.D) := by
  obtain ⟨r, h1, h2, h3⟩ := compE (t := .nm 11) (te := pD (pTup (pCons (pD (pC (.str "letter"))) (pCons (pD (pUser 1 sem_l_letter (pCons (pD (p2 gDiv (pVar 11) (pC (.int 8)))) (pNil)))) (pNil)))))
    (s := ⟨[x0, x1, x2, x3, x4, x5, x6, x7, x8, x9, .v (.list (zs ws)), .un, x12, x13, x14], []⟩) (fun m => Mn.isL m = true ∧ ∀ L, Mn.Ok 0 L m) Mn.D (zs ws) (fun d hd => by
    unfold zs at hd
    obtain ⟨x, _, rfl⟩ := List.mem_map.mp hd
    obtain ⟨c, hc, ec⟩ := m_letter (x / 8)
    refine ⟨.letter c, ⟨rfl, fun _ => hc⟩, _, b_nm .., ?_⟩
    simp (disch := (first | assumption | with_reducible rfl | decide +kernel | exact Or.inl (by decide +kernel) | exact Or.inr (by decide +kernel) | omega | (simp only [List.length_cons, List.length_nil, List.length_append, List.length_map, List.length_replicate, List.length_range] <;> omega) | rfl)) only [MP.of_some, MP.map_some, MP.e_lv, MP.e_lo, MP.e_pD, MP.e_xDs, MP.e_xDf, MP.e_pC, MP.e_pYes, MP.e_pVar, MP.e_p2, MP.e_x2, MP.e_p1, MP.e_x1, MP.e_pB, MP.e_xB, MP.e_pNot, MP.e_xNot, MP.e_pAnd, MP.e_xAndT, MP.e_xAndF, MP.e_pOr, MP.e_xOrT, MP.e_xOrF, MP.e_pAndV, MP.e_xAndVT, MP.e_xAndVF, MP.e_pOrV, MP.e_xOrVT, MP.e_xOrVF, MP.e_pNotV, MP.e_xNotV, MP.e_pIf, MP.e_xIfT, MP.e_xIfF, MP.e_p3, MP.e_x3, MP.e_x3bT, MP.e_x3bF, MP.e_pNil, MP.e_pCons, MP.e_xCons, MP.e_pTup, MP.e_xTp, MP.e_pLst, MP.e_xLs, MP.e_pNo, MP.e_pSome, MP.e_xSo, MP.e_pSl, MP.e_xSl, MP.e_pCall, MP.e_xG, MP.e_pSeq, MP.e_xSq, MP.e_pSeqR, MP.e_xSqR, MP.e_pRng, MP.e_pEnum, MP.e_xEn, MP.e_pComp, MP.e_xC, MP.e_xC2, MP.e_pUser, MP.e_xU, MP.e_xFv, MP.e_xFo, MP.e_xFe, MP.e_pSeal, MP.e_xSe, MP.e_xSeFv, MP.e_xSeFo, MP.e_pLook, MP.e_xLo, MP.e_xLoF, MP.e_pFld, MP.e_xFd, MP.e_xOb, MP.e_xLk0, MP.e_xLk1, MP.e_c0, MP.e_c1, MP.g_add, MP.g_catS, MP.g_catL, MP.g_catT, MP.g_sub, MP.g_mul, MP.g_rep, MP.g_div, MP.g_mod, MP.g_pow, MP.g_shl, MP.g_shr, MP.g_and, MP.g_orI, MP.g_neg, MP.g_lt, MP.g_le, MP.g_gt, MP.g_ge, MP.g_eqI, MP.g_eqS, MP.g_eqBo, MP.g_neI, MP.g_neS, MP.g_neBo, MP.g_is, MP.g_isNot, MP.n_none, MP.n_int, MP.n_str, MP.n_tup, MP.n_list, MP.n_bool, MP.g_max, MP.g_min, MP.g_lenL, MP.g_lenK, MP.g_lenT, MP.g_listL, MP.g_listK, MP.g_listT, MP.g_tupL, MP.g_tupT, MP.q_list, MP.q_lk, MP.q_tup, MP.g_rng1, MP.g_rng2, MP.g_enumL, MP.g_enumK, MP.g_ixL, MP.g_ixK, MP.g_ixT, MP.g_slL, MP.g_slK, MP.g_slT, MP.s_Nil, MP.s_Brk, MP.s_Cont, MP.s_Seq, MP.s_xSn, MP.s_xSr, MP.s_xSb, MP.s_xSc, MP.s_xSe, MP.s_Expr, MP.s_xEx, MP.s_SetV, MP.s_xSV, MP.s_SetO, MP.s_xSOs, MP.s_xSOf, MP.s_Ret, MP.s_xRts, MP.s_xRtf, MP.s_RetN, MP.s_RetS, MP.s_xRSo, MP.s_xRSv, MP.s_If, MP.s_xIfT, MP.s_xIfF, MP.s_Tup, MP.s_xTu, MP.s_xTb, MP.s_For, MP.s_xFor, MP.s_App, MP.s_xAp, MP.s_Thaw, MP.s_xTh, MP.s_Frz, MP.s_xFzo, MP.s_xFzv, MP.s_ExprF, MP.s_xEF, MP.s_SetF, MP.s_xSF, MP.s_RetF, MP.s_xRF, MP.s_IfF, MP.s_xIFT, MP.s_xIFF, MP.s_FldN, MP.s_xN, MP.s_xN2, MP.s_xN3, MP.s_put0, MP.s_put1, MP.s_putN, MP.f_P, MP.f_xPs, MP.f_xPf, MP.f_User, MP.f_xFU, MP.f_Meth, MP.f_xM, MP.f_xM2, MP.f_Make, MP.f_xMk, MP.f_xMkF, MP.fe_ok, MP.r_run, MP.r_un, MP.r_un0, MP.r_nx, MP.r_ret, MP.r_exc, MP.t_nx, MP.t_cont, MP.t_brk, MP.t_ret, MP.b_nm, MP.b_tp2, MP.b_tp3, MP.t_bk, MP.fe_pop, MP.s_appF, MP.s_dead, MP.g_divmod, MP.g_sorted, MP.g_allB, MP.g_anyB, MP.g_sumI, MP.g_zipT, MP.g_zipL, MP.e_pZip, MP.e_xZp, MP.g_abs, MP.g_intI, MP.g_intB, MP.g_repT, MP.e_pLRng, MP.e_xLR, MP.f_Pop, MP.f_xPop, MP.s_AppF, MP.s_xAF0, MP.s_xAF, MP.s_xAF2, MP.g_inI, MP.g_ninI, MP.g_inT, MP.g_ninT, MP.g_ninST, MP.e_c2, MP.e_c3, MP.e_c4, MP.e_c5, MP.e_pIsi, List.getElem?_cons_zero, List.getElem?_cons_succ, List.getElem?_nil, List.set_cons_zero, List.set_cons_succ, List.map_cons, List.map_nil, List.length_cons, List.length_nil, List.length_append, List.cons_append, List.nil_append, List.length_map, List.length_singleton, Nat.reduceBEq, Nat.reduceAdd, Nat.reduceSub, Nat.reduceMul, Nat.reduceEqDiff, Nat.reduceLeDiff, Nat.reduceLT, if_false, if_true, ite_true, ite_false, ↓reduceIte, Bool.not_true, Bool.not_false, Bool.false_eq_true, decide_true, decide_false, eq_self, and_true, true_and, and_self, Nat.zero_le, Nat.zero_add, Option.bind_some, Option.bind_none, Nat.lt_irrefl, Int.reduceToNat, Int.reducePow, Int.reduceNeg, Int.reduceMul, Int.reduceAdd, Int.reduceSub, Int.reduceLT, Int.reduceLE, Int.reduceEq, beq_self_eq_true, wipeE, MP.at0, MP.at1, MP.at2, MP.atLit, ec]
    rfl)
  exact ⟨r, by rw [h1, zs_len], h2, h3⟩
theorem rich_ks (K : Nat) (hK : 3 ≤ K) (hK5 : K ≤ 5) (r0 : List Mn) (hr : ∀ k, k < K → (r0.getD k .non).isL = true) (j : Int) : ∃ ks : List Nat, KsOk K r0 ks ∧
    gIx (.list [.tup [.int 0, .int 1], .tup [.int 1, .int 2], .tup [.int 0, .int 1, .int 2], .tup [.int 0, .int ((K : Nat) - 1)]]) (.int (j % 4)) = some ⟨.sh, .tup (nD ks)⟩ := by
  have hs : j % 4 = 0 ∨ j % 4 = 1 ∨ j % 4 = 2 ∨ j % 4 = 3 := by omega
  rcases hs with hs | hs | hs | hs <;> rw [hs]
  · refine ⟨[0, 1], ⟨by simp, by simp, fun k hk => ?_⟩, rfl⟩
    have : k < K := by simp at hk; omega
    exact ⟨this, hr k this⟩
  · refine ⟨[1, 2], ⟨by simp, by simp, fun k hk => ?_⟩, rfl⟩
    have : k < K := by simp at hk; omega
    exact ⟨this, hr k this⟩
  · refine ⟨[0, 1, 2], ⟨by simp, by simp, fun k hk => ?_⟩, rfl⟩
    have : k < K := by simp at hk; omega
    exact ⟨this, hr k this⟩
  · have e : (((K - 1 : Nat)) : Int) = (K : Int) - 1 := by omega
    refine ⟨[0, K - 1], ⟨by simp, by simp; omega, fun k hk => ?_⟩, ?_⟩
    · have : k < K := by simp at hk; omega
      exact ⟨this, hr k this⟩
    · rw [← e]; rfl
theorem m_bed_turn (ns : List Int) (at_ K L i : Nat) (hat : at_ ≤ 30) (hK5 : K ≤ 5) (hL3 : L = 1 ∨ L = 2 ∨ L = 3) (f : Int) (hL : 1 + f / 5 % 3 = (L : Int)) (hi : (i : Int) < L) (rich : Bool) (ls : List (List Mn)) (g : RowsOk K L i ls)
    (hg : rich = true → ∀ r, ls[0]? = some r → ∀ m ∈ r, m.isL = true) (x10 : Slot) : ∃ ls' x10', RowsOk K L (i + 1) ls' ∧ (rich = true → ∀ r, ls'[0]? = some r → ∀ m ∈ r, m.isL = true) ∧
    lp_l_bed_1 ⟨[.v (.lk (zs ns)), .v (.int (at_ : Nat)), .v (.int f), .v (.bool rich), .v (.int (K : Nat)), .own (.list (ls.map rowD)), .v (.int (i : Nat)), .un, .un, .un, x10, .un, .un, .un, .un], []⟩ =
      .nx ⟨[.v (.lk (zs ns)), .v (.int (at_ : Nat)), .v (.int f), .v (.bool rich), .v (.int (K : Nat)), .own (.list (ls'.map rowD)), .v (.int (i : Nat)), .un, .un, .un, x10', .un, .un, .un, .un], []⟩ := by
  have hrl := rngLenN K
  obtain ⟨ws, hw1, hw2⟩ := m_wideC ns at_ K i hat hK5 (by omega) (.v (.int f)) (.v (.bool rich)) (.own (.list (ls.map rowD))) .un .un .un x10 .un .un .un
  obtain ⟨r, h1, h2, h3⟩ := m_rowB ws L i hL3 f hL (.v (.lk (zs ns))) (.v (.int (at_ : Nat))) (.v (.bool rich)) (.v (.int (K : Nat))) (.own (.list (ls.map rowD))) .un .un .un .un .un .un
  have hzl := zs_len ws
  have hgn := g.n
  have hml : (ls.map rowD).length = ls.length := by simp
  have hsn : ls.map rowD ++ [.tup (r.map Mn.D)] = (ls ++ [r]).map rowD := by rw [List.map_append]; rfl
  have hrml : (r.map Mn.D).length ≤ 5 := by rw [List.length_map]; omega
  unfold lp_l_bed_1
  by_cases hb : rich = true ∧ (i : Int) = 0
  · obtain ⟨hb1, hb2⟩ := hb
    obtain ⟨q, q1, q2, q3⟩ := m_rowR ws (.v (.lk (zs ns))) (.v (.int (at_ : Nat))) (.v (.int f)) (.v (.bool rich)) (.v (.int (K : Nat))) (.own (.list (ls.map rowD ++ [.tup (r.map Mn.D)]))) (.v (.int (i : Nat))) .un .un .un .un .un .un
    have hqml : (q.map Mn.D).length ≤ 5 := by rw [List.length_map]; omega
    have hb2' : ((i : Int) = 0) = True := eq_true hb2
    have hql : [D.tup (q.map Mn.D)] = [q].map rowD := rfl
    subst hb1
    generalize hlm : ls.map rowD = lsd at *
    generalize hrm : r.map Mn.D = rd at *
    generalize hqm : q.map Mn.D = qd at *
    refine ⟨[q], .v (.list (zs ws)), ⟨?_, ?_, ?_⟩, fun _ r hr m hm => ?_, by rw [← hql]; simp (disch := (first | assumption | with_reducible rfl | decide +kernel | exact Or.inl (by decide +kernel) | exact Or.inr (by decide +kernel) | omega | (simp only [List.length_cons, List.length_nil, List.length_append, List.length_map, List.length_replicate, List.length_range] <;> omega) | rfl)) only [MP.of_some, MP.map_some, MP.e_lv, MP.e_lo, MP.e_pD, MP.e_xDs, MP.e_xDf, MP.e_pC, MP.e_pYes, MP.e_pVar, MP.e_p2, MP.e_x2, MP.e_p1, MP.e_x1, MP.e_pB, MP.e_xB, MP.e_pNot, MP.e_xNot, MP.e_pAnd, MP.e_xAndT, MP.e_xAndF, MP.e_pOr, MP.e_xOrT, MP.e_xOrF, MP.e_pAndV, MP.e_xAndVT, MP.e_xAndVF, MP.e_pOrV, MP.e_xOrVT, MP.e_xOrVF, MP.e_pNotV, MP.e_xNotV, MP.e_pIf, MP.e_xIfT, MP.e_xIfF, MP.e_p3, MP.e_x3, MP.e_x3bT, MP.e_x3bF, MP.e_pNil, MP.e_pCons, MP.e_xCons, MP.e_pTup, MP.e_xTp, MP.e_pLst, MP.e_xLs, MP.e_pNo, MP.e_pSome, MP.e_xSo, MP.e_pSl, MP.e_xSl, MP.e_pCall, MP.e_xG, MP.e_pSeq, MP.e_xSq, MP.e_pSeqR, MP.e_xSqR, MP.e_pRng, MP.e_pEnum, MP.e_xEn, MP.e_pComp, MP.e_xC, MP.e_xC2, MP.e_pUser, MP.e_xU, MP.e_xFv, MP.e_xFo, MP.e_xFe, MP.e_pSeal, MP.e_xSe, MP.e_xSeFv, MP.e_xSeFo, MP.e_pLook, MP.e_xLo, MP.e_xLoF, MP.e_pFld, MP.e_xFd, MP.e_xOb, MP.e_xLk0, MP.e_xLk1, MP.e_c0, MP.e_c1, MP.g_add, MP.g_catS, MP.g_catL, MP.g_catT, MP.g_sub, MP.g_mul, MP.g_rep, MP.g_div, MP.g_mod, MP.g_pow, MP.g_shl, MP.g_shr, MP.g_and, MP.g_orI, MP.g_neg, MP.g_lt, MP.g_le, MP.g_gt, MP.g_ge, MP.g_eqI, MP.g_eqS, MP.g_eqBo, MP.g_neI, MP.g_neS, MP.g_neBo, MP.g_is, MP.g_isNot, MP.n_none, MP.n_int, MP.n_str, MP.n_tup, MP.n_list, MP.n_bool, MP.g_max, MP.g_min, MP.g_lenL, MP.g_lenK, MP.g_lenT, MP.g_listL, MP.g_listK, MP.g_listT, MP.g_tupL, MP.g_tupT, MP.q_list, MP.q_lk, MP.q_tup, MP.g_rng1, MP.g_rng2, MP.g_enumL, MP.g_enumK, MP.g_ixL, MP.g_ixK, MP.g_ixT, MP.g_slL, MP.g_slK, MP.g_slT, MP.s_Nil, MP.s_Brk, MP.s_Cont, MP.s_Seq, MP.s_xSn, MP.s_xSr, MP.s_xSb, MP.s_xSc, MP.s_xSe, MP.s_Expr, MP.s_xEx, MP.s_SetV, MP.s_xSV, MP.s_SetO, MP.s_xSOs, MP.s_xSOf, MP.s_Ret, MP.s_xRts, MP.s_xRtf, MP.s_RetN, MP.s_RetS, MP.s_xRSo, MP.s_xRSv, MP.s_If, MP.s_xIfT, MP.s_xIfF, MP.s_Tup, MP.s_xTu, MP.s_xTb, MP.s_For, MP.s_xFor, MP.s_App, MP.s_xAp, MP.s_Thaw, MP.s_xTh, MP.s_Frz, MP.s_xFzo, MP.s_xFzv, MP.s_ExprF, MP.s_xEF, MP.s_SetF, MP.s_xSF, MP.s_RetF, MP.s_xRF, MP.s_IfF, MP.s_xIFT, MP.s_xIFF, MP.s_FldN, MP.s_xN, MP.s_xN2, MP.s_xN3, MP.s_put0, MP.s_put1, MP.s_putN, MP.f_P, MP.f_xPs, MP.f_xPf, MP.f_User, MP.f_xFU, MP.f_Meth, MP.f_xM, MP.f_xM2, MP.f_Make, MP.f_xMk, MP.f_xMkF, MP.fe_ok, MP.r_run, MP.r_un, MP.r_un0, MP.r_nx, MP.r_ret, MP.r_exc, MP.t_nx, MP.t_cont, MP.t_brk, MP.t_ret, MP.b_nm, MP.b_tp2, MP.b_tp3, MP.t_bk, MP.fe_pop, MP.s_appF, MP.s_dead, MP.g_divmod, MP.g_sorted, MP.g_allB, MP.g_anyB, MP.g_sumI, MP.g_zipT, MP.g_zipL, MP.e_pZip, MP.e_xZp, MP.g_abs, MP.g_intI, MP.g_intB, MP.g_repT, MP.e_pLRng, MP.e_xLR, MP.f_Pop, MP.f_xPop, MP.s_AppF, MP.s_xAF0, MP.s_xAF, MP.s_xAF2, MP.g_inI, MP.g_ninI, MP.g_inT, MP.g_ninT, MP.g_ninST, MP.e_c2, MP.e_c3, MP.e_c4, MP.e_c5, MP.e_pIsi, List.getElem?_cons_zero, List.getElem?_cons_succ, List.getElem?_nil, List.set_cons_zero, List.set_cons_succ, List.map_cons, List.map_nil, List.length_cons, List.length_nil, List.length_append, List.cons_append, List.nil_append, List.length_map, List.length_singleton, Nat.reduceBEq, Nat.reduceAdd, Nat.reduceSub, Nat.reduceMul, Nat.reduceEqDiff, Nat.reduceLeDiff, Nat.reduceLT, if_false, if_true, ite_true, ite_false, ↓reduceIte, Bool.not_true, Bool.not_false, Bool.false_eq_true, decide_true, decide_false, eq_self, and_true, true_and, and_self, Nat.zero_le, Nat.zero_add, Option.bind_some, Option.bind_none, Nat.lt_irrefl, Int.reduceToNat, Int.reducePow, Int.reduceNeg, Int.reduceMul, Int.reduceAdd, Int.reduceSub, Int.reduceLT, Int.reduceLE, Int.reduceEq, beq_self_eq_true, wipeE, MP.at0, MP.at1, MP.at2, MP.atLit, hw2, h3, hb2', q3]⟩
    · show 1 = i + 1; omega
    · intro a ha
      rw [List.mem_singleton] at ha
      subst ha
      omega
    · intro j a ha m hm
      have hj : j = 0 := by
        have := (List.getElem?_eq_some_iff.mp ha).1
        simp at this
        omega
      subst hj
      cases ha
      exact (q2 m hm).2 L
    · cases hr
      exact (q2 m hm).1
  · have hlast : ∃ y, y = (if rich = true ∧ (i : Int) = 0 then 1 else 0) := ⟨_, rfl⟩
    have hg2 : rich = true → ∀ r', (ls ++ [r])[0]? = some r' → ∀ m ∈ r', m.isL = true := fun hr r' hr' => by
      have hi0 : ¬ (i : Int) = 0 := fun h => hb ⟨hr, h⟩
      rw [List.getElem?_append_left (by omega)] at hr'
      exact hg hr r' hr'
    generalize hlm : ls.map rowD = lsd at *
    generalize hrm : r.map Mn.D = rd at *
    cases rich with
    | true =>
      have hi0 : ¬ (i : Int) = 0 := fun h => hb ⟨rfl, h⟩
      exact ⟨ls ++ [r], .v (.list (zs ws)), g.add (by omega) h2, hg2, by simp (disch := (first | assumption | with_reducible rfl | decide +kernel | exact Or.inl (by decide +kernel) | exact Or.inr (by decide +kernel) | omega | (simp only [List.length_cons, List.length_nil, List.length_append, List.length_map, List.length_replicate, List.length_range] <;> omega) | rfl)) only [MP.of_some, MP.map_some, MP.e_lv, MP.e_lo, MP.e_pD, MP.e_xDs, MP.e_xDf, MP.e_pC, MP.e_pYes, MP.e_pVar, MP.e_p2, MP.e_x2, MP.e_p1, MP.e_x1, MP.e_pB, MP.e_xB, MP.e_pNot, MP.e_xNot, MP.e_pAnd, MP.e_xAndT, MP.e_xAndF, MP.e_pOr, MP.e_xOrT, MP.e_xOrF, MP.e_pAndV, MP.e_xAndVT, MP.e_xAndVF, MP.e_pOrV, MP.e_xOrVT, MP.e_xOrVF, MP.e_pNotV, MP.e_xNotV, MP.e_pIf, MP.e_xIfT, MP.e_xIfF, MP.e_p3, MP.e_x3, MP.e_x3bT, MP.e_x3bF, MP.e_pNil, MP.e_pCons, MP.e_xCons, MP.e_pTup, MP.e_xTp, MP.e_pLst, MP.e_xLs, MP.e_pNo, MP.e_pSome, MP.e_xSo, MP.e_pSl, MP.e_xSl, MP.e_pCall, MP.e_xG, MP.e_pSeq, MP.e_xSq, MP.e_pSeqR, MP.e_xSqR, MP.e_pRng, MP.e_pEnum, MP.e_xEn, MP.e_pComp, MP.e_xC, MP.e_xC2, MP.e_pUser, MP.e_xU, MP.e_xFv, MP.e_xFo, MP.e_xFe, MP.e_pSeal, MP.e_xSe, MP.e_xSeFv, MP.e_xSeFo, MP.e_pLook, MP.e_xLo, MP.e_xLoF, MP.e_pFld, MP.e_xFd, MP.e_xOb, MP.e_xLk0, MP.e_xLk1, MP.e_c0, MP.e_c1, MP.g_add, MP.g_catS, MP.g_catL, MP.g_catT, MP.g_sub, MP.g_mul, MP.g_rep, MP.g_div, MP.g_mod, MP.g_pow, MP.g_shl, MP.g_shr, MP.g_and, MP.g_orI, MP.g_neg, MP.g_lt, MP.g_le, MP.g_gt, MP.g_ge, MP.g_eqI, MP.g_eqS, MP.g_eqBo, MP.g_neI, MP.g_neS, MP.g_neBo, MP.g_is, MP.g_isNot, MP.n_none, MP.n_int, MP.n_str, MP.n_tup, MP.n_list, MP.n_bool, MP.g_max, MP.g_min, MP.g_lenL, MP.g_lenK, MP.g_lenT, MP.g_listL, MP.g_listK, MP.g_listT, MP.g_tupL, MP.g_tupT, MP.q_list, MP.q_lk, MP.q_tup, MP.g_rng1, MP.g_rng2, MP.g_enumL, MP.g_enumK, MP.g_ixL, MP.g_ixK, MP.g_ixT, MP.g_slL, MP.g_slK, MP.g_slT, MP.s_Nil, MP.s_Brk, MP.s_Cont, MP.s_Seq, MP.s_xSn, MP.s_xSr, MP.s_xSb, MP.s_xSc, MP.s_xSe, MP.s_Expr, MP.s_xEx, MP.s_SetV, MP.s_xSV, MP.s_SetO, MP.s_xSOs, MP.s_xSOf, MP.s_Ret, MP.s_xRts, MP.s_xRtf, MP.s_RetN, MP.s_RetS, MP.s_xRSo, MP.s_xRSv, MP.s_If, MP.s_xIfT, MP.s_xIfF, MP.s_Tup, MP.s_xTu, MP.s_xTb, MP.s_For, MP.s_xFor, MP.s_App, MP.s_xAp, MP.s_Thaw, MP.s_xTh, MP.s_Frz, MP.s_xFzo, MP.s_xFzv, MP.s_ExprF, MP.s_xEF, MP.s_SetF, MP.s_xSF, MP.s_RetF, MP.s_xRF, MP.s_IfF, MP.s_xIFT, MP.s_xIFF, MP.s_FldN, MP.s_xN, MP.s_xN2, MP.s_xN3, MP.s_put0, MP.s_put1, MP.s_putN, MP.f_P, MP.f_xPs, MP.f_xPf, MP.f_User, MP.f_xFU, MP.f_Meth, MP.f_xM, MP.f_xM2, MP.f_Make, MP.f_xMk, MP.f_xMkF, MP.fe_ok, MP.r_run, MP.r_un, MP.r_un0, MP.r_nx, MP.r_ret, MP.r_exc, MP.t_nx, MP.t_cont, MP.t_brk, MP.t_ret, MP.b_nm, MP.b_tp2, MP.b_tp3, MP.t_bk, MP.fe_pop, MP.s_appF, MP.s_dead, MP.g_divmod, MP.g_sorted, MP.g_allB, MP.g_anyB, MP.g_sumI, MP.g_zipT, MP.g_zipL, MP.e_pZip, MP.e_xZp, MP.g_abs, MP.g_intI, MP.g_intB, MP.g_repT, MP.e_pLRng, MP.e_xLR, MP.f_Pop, MP.f_xPop, MP.s_AppF, MP.s_xAF0, MP.s_xAF, MP.s_xAF2, MP.g_inI, MP.g_ninI, MP.g_inT, MP.g_ninT, MP.g_ninST, MP.e_c2, MP.e_c3, MP.e_c4, MP.e_c5, MP.e_pIsi, List.getElem?_cons_zero, List.getElem?_cons_succ, List.getElem?_nil, List.set_cons_zero, List.set_cons_succ, List.map_cons, List.map_nil, List.length_cons, List.length_nil, List.length_append, List.cons_append, List.nil_append, List.length_map, List.length_singleton, Nat.reduceBEq, Nat.reduceAdd, Nat.reduceSub, Nat.reduceMul, Nat.reduceEqDiff, Nat.reduceLeDiff, Nat.reduceLT, if_false, if_true, ite_true, ite_false, ↓reduceIte, Bool.not_true, Bool.not_false, Bool.false_eq_true, decide_true, decide_false, eq_self, and_true, true_and, and_self, Nat.zero_le, Nat.zero_add, Option.bind_some, Option.bind_none, Nat.lt_irrefl, Int.reduceToNat, Int.reducePow, Int.reduceNeg, Int.reduceMul, Int.reduceAdd, Int.reduceSub, Int.reduceLT, Int.reduceLE, Int.reduceEq, beq_self_eq_true, wipeE, MP.at0, MP.at1, MP.at2, MP.atLit, hw2, h3, hi0, hsn]⟩
    | false =>
      exact ⟨ls ++ [r], .v (.list (zs ws)), g.add (by omega) h2, hg2, by simp (disch := (first | assumption | with_reducible rfl | decide +kernel | exact Or.inl (by decide +kernel) | exact Or.inr (by decide +kernel) | omega | (simp only [List.length_cons, List.length_nil, List.length_append, List.length_map, List.length_replicate, List.length_range] <;> omega) | rfl)) only [MP.of_some, MP.map_some, MP.e_lv, MP.e_lo, MP.e_pD, MP.e_xDs, MP.e_xDf, MP.e_pC, MP.e_pYes, MP.e_pVar, MP.e_p2, MP.e_x2, MP.e_p1, MP.e_x1, MP.e_pB, MP.e_xB, MP.e_pNot, MP.e_xNot, MP.e_pAnd, MP.e_xAndT, MP.e_xAndF, MP.e_pOr, MP.e_xOrT, MP.e_xOrF, MP.e_pAndV, MP.e_xAndVT, MP.e_xAndVF, MP.e_pOrV, MP.e_xOrVT, MP.e_xOrVF, MP.e_pNotV, MP.e_xNotV, MP.e_pIf, MP.e_xIfT, MP.e_xIfF, MP.e_p3, MP.e_x3, MP.e_x3bT, MP.e_x3bF, MP.e_pNil, MP.e_pCons, MP.e_xCons, MP.e_pTup, MP.e_xTp, MP.e_pLst, MP.e_xLs, MP.e_pNo, MP.e_pSome, MP.e_xSo, MP.e_pSl, MP.e_xSl, MP.e_pCall, MP.e_xG, MP.e_pSeq, MP.e_xSq, MP.e_pSeqR, MP.e_xSqR, MP.e_pRng, MP.e_pEnum, MP.e_xEn, MP.e_pComp, MP.e_xC, MP.e_xC2, MP.e_pUser, MP.e_xU, MP.e_xFv, MP.e_xFo, MP.e_xFe, MP.e_pSeal, MP.e_xSe, MP.e_xSeFv, MP.e_xSeFo, MP.e_pLook, MP.e_xLo, MP.e_xLoF, MP.e_pFld, MP.e_xFd, MP.e_xOb, MP.e_xLk0, MP.e_xLk1, MP.e_c0, MP.e_c1, MP.g_add, MP.g_catS, MP.g_catL, MP.g_catT, MP.g_sub, MP.g_mul, MP.g_rep, MP.g_div, MP.g_mod, MP.g_pow, MP.g_shl, MP.g_shr, MP.g_and, MP.g_orI, MP.g_neg, MP.g_lt, MP.g_le, MP.g_gt, MP.g_ge, MP.g_eqI, MP.g_eqS, MP.g_eqBo, MP.g_neI, MP.g_neS, MP.g_neBo, MP.g_is, MP.g_isNot, MP.n_none, MP.n_int, MP.n_str, MP.n_tup, MP.n_list, MP.n_bool, MP.g_max, MP.g_min, MP.g_lenL, MP.g_lenK, MP.g_lenT, MP.g_listL, MP.g_listK, MP.g_listT, MP.g_tupL, MP.g_tupT, MP.q_list, MP.q_lk, MP.q_tup, MP.g_rng1, MP.g_rng2, MP.g_enumL, MP.g_enumK, MP.g_ixL, MP.g_ixK, MP.g_ixT, MP.g_slL, MP.g_slK, MP.g_slT, MP.s_Nil, MP.s_Brk, MP.s_Cont, MP.s_Seq, MP.s_xSn, MP.s_xSr, MP.s_xSb, MP.s_xSc, MP.s_xSe, MP.s_Expr, MP.s_xEx, MP.s_SetV, MP.s_xSV, MP.s_SetO, MP.s_xSOs, MP.s_xSOf, MP.s_Ret, MP.s_xRts, MP.s_xRtf, MP.s_RetN, MP.s_RetS, MP.s_xRSo, MP.s_xRSv, MP.s_If, MP.s_xIfT, MP.s_xIfF, MP.s_Tup, MP.s_xTu, MP.s_xTb, MP.s_For, MP.s_xFor, MP.s_App, MP.s_xAp, MP.s_Thaw, MP.s_xTh, MP.s_Frz, MP.s_xFzo, MP.s_xFzv, MP.s_ExprF, MP.s_xEF, MP.s_SetF, MP.s_xSF, MP.s_RetF, MP.s_xRF, MP.s_IfF, MP.s_xIFT, MP.s_xIFF, MP.s_FldN, MP.s_xN, MP.s_xN2, MP.s_xN3, MP.s_put0, MP.s_put1, MP.s_putN, MP.f_P, MP.f_xPs, MP.f_xPf, MP.f_User, MP.f_xFU, MP.f_Meth, MP.f_xM, MP.f_xM2, MP.f_Make, MP.f_xMk, MP.f_xMkF, MP.fe_ok, MP.r_run, MP.r_un, MP.r_un0, MP.r_nx, MP.r_ret, MP.r_exc, MP.t_nx, MP.t_cont, MP.t_brk, MP.t_ret, MP.b_nm, MP.b_tp2, MP.b_tp3, MP.t_bk, MP.fe_pop, MP.s_appF, MP.s_dead, MP.g_divmod, MP.g_sorted, MP.g_allB, MP.g_anyB, MP.g_sumI, MP.g_zipT, MP.g_zipL, MP.e_pZip, MP.e_xZp, MP.g_abs, MP.g_intI, MP.g_intB, MP.g_repT, MP.e_pLRng, MP.e_xLR, MP.f_Pop, MP.f_xPop, MP.s_AppF, MP.s_xAF0, MP.s_xAF, MP.s_xAF2, MP.g_inI, MP.g_ninI, MP.g_inT, MP.g_ninT, MP.g_ninST, MP.e_c2, MP.e_c3, MP.e_c4, MP.e_c5, MP.e_pIsi, List.getElem?_cons_zero, List.getElem?_cons_succ, List.getElem?_nil, List.set_cons_zero, List.set_cons_succ, List.map_cons, List.map_nil, List.length_cons, List.length_nil, List.length_append, List.cons_append, List.nil_append, List.length_map, List.length_singleton, Nat.reduceBEq, Nat.reduceAdd, Nat.reduceSub, Nat.reduceMul, Nat.reduceEqDiff, Nat.reduceLeDiff, Nat.reduceLT, if_false, if_true, ite_true, ite_false, ↓reduceIte, Bool.not_true, Bool.not_false, Bool.false_eq_true, decide_true, decide_false, eq_self, and_true, true_and, and_self, Nat.zero_le, Nat.zero_add, Option.bind_some, Option.bind_none, Nat.lt_irrefl, Int.reduceToNat, Int.reducePow, Int.reduceNeg, Int.reduceMul, Int.reduceAdd, Int.reduceSub, Int.reduceLT, Int.reduceLE, Int.reduceEq, beq_self_eq_true, wipeE, MP.at0, MP.at1, MP.at2, MP.atLit, hw2, h3, hsn]⟩
theorem m_chord_turn (ns : List Int) (at_ K k : Nat) (hat : at_ ≤ 30) (hk : k < 5) (hK5 : K ≤ 5) (f : Int) (rich : Bool) (hK3 : rich = true → 3 ≤ K) (r0 : List Mn) (hr0 : r0.length = K) (hri : rich = true → ∀ m ∈ r0, m.isL = true) (lsd : List D) (cs : List (List Nat × Nat)) (hcl : cs.length ≤ 5) (gc : ChsOk K r0 cs) (x6 x10 x11 x12 : Slot) :
    ∃ cs' x11' x12', cs'.length ≤ cs.length + 1 ∧ ChsOk K r0 cs' ∧
    lp_l_bed_2 ⟨[.v (.lk (zs ns)), .v (.int (at_ : Nat)), .v (.int f), .v (.bool rich), .v (.int (K : Nat)), .own (.list lsd), x6, .v (.list (nD (plainF K r0))), .own (.list (cs.map chD)), .v (.int (k : Nat)), x10, x11, x12, .un, .un], []⟩ =
      .nx ⟨[.v (.lk (zs ns)), .v (.int (at_ : Nat)), .v (.int f), .v (.bool rich), .v (.int (K : Nat)), .own (.list lsd), x6, .v (.list (nD (plainF K r0))), .own (.list (cs'.map chD)), .v (.int (k : Nat)), x10, x11', x12', .un, .un], []⟩ := by
  have hc := m_cell ns ((at_ : Int) + 17 + (k : Nat)) (by omega)
  generalize ns.getD ((at_ : Int) + 17 + (k : Nat)).toNat 0 = c at hc
  have hw := m_wide c (17 + (k : Nat)) (by omega)
  generalize wide c (17 + (k : Nat)) = x at hw
  have hsc : compL (.nm 13) (pB (p2 gEq (p2 gMod (p2 gDiv (pVar 11) (p2 gIx (pLst (pCons (pD (pC (.int 1))) (pCons (pD (pC (.int 2))) (pCons (pD (pC (.int 4))) (pCons (pD (pC (.int 8))) (pCons (pD (pC (.int 16))) (pNil))))))) (pVar 13))) (pC (.int 2))) (pC (.int 1)))) (pD (pVar 13)) ⟨[.v (.lk (zs ns)), .v (.int (at_ : Nat)), .v (.int f), .v (.bool rich), .v (.int (K : Nat)), .own (.list lsd), x6, .v (.list (nD (plainF K r0))), .own (.list (cs.map chD)), .v (.int (k : Nat)), x10, .v (.int x), x12, .un, .un], []⟩ (nD (plainF K r0)) = .ok (nD ((plainF K r0).filter (someQ x))) := by
    refine compN _ _ fun j hj => ⟨_, b_nm .., ?_, fun _ => ?_⟩
    · have hk2 : j < 5 := by
        unfold plainF at hj
        have := List.mem_range.mp (List.mem_filter.mp hj).1
        omega
      have ht := m_someT x j hk2
      simp (disch := (first | assumption | with_reducible rfl | decide +kernel | exact Or.inl (by decide +kernel) | exact Or.inr (by decide +kernel) | omega | (simp only [List.length_cons, List.length_nil, List.length_append, List.length_map, List.length_replicate, List.length_range] <;> omega) | rfl)) only [MP.of_some, MP.map_some, MP.e_lv, MP.e_lo, MP.e_pD, MP.e_xDs, MP.e_xDf, MP.e_pC, MP.e_pYes, MP.e_pVar, MP.e_p2, MP.e_x2, MP.e_p1, MP.e_x1, MP.e_pB, MP.e_xB, MP.e_pNot, MP.e_xNot, MP.e_pAnd, MP.e_xAndT, MP.e_xAndF, MP.e_pOr, MP.e_xOrT, MP.e_xOrF, MP.e_pAndV, MP.e_xAndVT, MP.e_xAndVF, MP.e_pOrV, MP.e_xOrVT, MP.e_xOrVF, MP.e_pNotV, MP.e_xNotV, MP.e_pIf, MP.e_xIfT, MP.e_xIfF, MP.e_p3, MP.e_x3, MP.e_x3bT, MP.e_x3bF, MP.e_pNil, MP.e_pCons, MP.e_xCons, MP.e_pTup, MP.e_xTp, MP.e_pLst, MP.e_xLs, MP.e_pNo, MP.e_pSome, MP.e_xSo, MP.e_pSl, MP.e_xSl, MP.e_pCall, MP.e_xG, MP.e_pSeq, MP.e_xSq, MP.e_pSeqR, MP.e_xSqR, MP.e_pRng, MP.e_pEnum, MP.e_xEn, MP.e_pComp, MP.e_xC, MP.e_xC2, MP.e_pUser, MP.e_xU, MP.e_xFv, MP.e_xFo, MP.e_xFe, MP.e_pSeal, MP.e_xSe, MP.e_xSeFv, MP.e_xSeFo, MP.e_pLook, MP.e_xLo, MP.e_xLoF, MP.e_pFld, MP.e_xFd, MP.e_xOb, MP.e_xLk0, MP.e_xLk1, MP.e_c0, MP.e_c1, MP.g_add, MP.g_catS, MP.g_catL, MP.g_catT, MP.g_sub, MP.g_mul, MP.g_rep, MP.g_div, MP.g_mod, MP.g_pow, MP.g_shl, MP.g_shr, MP.g_and, MP.g_orI, MP.g_neg, MP.g_lt, MP.g_le, MP.g_gt, MP.g_ge, MP.g_eqI, MP.g_eqS, MP.g_eqBo, MP.g_neI, MP.g_neS, MP.g_neBo, MP.g_is, MP.g_isNot, MP.n_none, MP.n_int, MP.n_str, MP.n_tup, MP.n_list, MP.n_bool, MP.g_max, MP.g_min, MP.g_lenL, MP.g_lenK, MP.g_lenT, MP.g_listL, MP.g_listK, MP.g_listT, MP.g_tupL, MP.g_tupT, MP.q_list, MP.q_lk, MP.q_tup, MP.g_rng1, MP.g_rng2, MP.g_enumL, MP.g_enumK, MP.g_ixL, MP.g_ixK, MP.g_ixT, MP.g_slL, MP.g_slK, MP.g_slT, MP.s_Nil, MP.s_Brk, MP.s_Cont, MP.s_Seq, MP.s_xSn, MP.s_xSr, MP.s_xSb, MP.s_xSc, MP.s_xSe, MP.s_Expr, MP.s_xEx, MP.s_SetV, MP.s_xSV, MP.s_SetO, MP.s_xSOs, MP.s_xSOf, MP.s_Ret, MP.s_xRts, MP.s_xRtf, MP.s_RetN, MP.s_RetS, MP.s_xRSo, MP.s_xRSv, MP.s_If, MP.s_xIfT, MP.s_xIfF, MP.s_Tup, MP.s_xTu, MP.s_xTb, MP.s_For, MP.s_xFor, MP.s_App, MP.s_xAp, MP.s_Thaw, MP.s_xTh, MP.s_Frz, MP.s_xFzo, MP.s_xFzv, MP.s_ExprF, MP.s_xEF, MP.s_SetF, MP.s_xSF, MP.s_RetF, MP.s_xRF, MP.s_IfF, MP.s_xIFT, MP.s_xIFF, MP.s_FldN, MP.s_xN, MP.s_xN2, MP.s_xN3, MP.s_put0, MP.s_put1, MP.s_putN, MP.f_P, MP.f_xPs, MP.f_xPf, MP.f_User, MP.f_xFU, MP.f_Meth, MP.f_xM, MP.f_xM2, MP.f_Make, MP.f_xMk, MP.f_xMkF, MP.fe_ok, MP.r_run, MP.r_un, MP.r_un0, MP.r_nx, MP.r_ret, MP.r_exc, MP.t_nx, MP.t_cont, MP.t_brk, MP.t_ret, MP.b_nm, MP.b_tp2, MP.b_tp3, MP.t_bk, MP.fe_pop, MP.s_appF, MP.s_dead, MP.g_divmod, MP.g_sorted, MP.g_allB, MP.g_anyB, MP.g_sumI, MP.g_zipT, MP.g_zipL, MP.e_pZip, MP.e_xZp, MP.g_abs, MP.g_intI, MP.g_intB, MP.g_repT, MP.e_pLRng, MP.e_xLR, MP.f_Pop, MP.f_xPop, MP.s_AppF, MP.s_xAF0, MP.s_xAF, MP.s_xAF2, MP.g_inI, MP.g_ninI, MP.g_inT, MP.g_ninT, MP.g_ninST, MP.e_c2, MP.e_c3, MP.e_c4, MP.e_c5, MP.e_pIsi, List.getElem?_cons_zero, List.getElem?_cons_succ, List.getElem?_nil, List.set_cons_zero, List.set_cons_succ, List.map_cons, List.map_nil, List.length_cons, List.length_nil, List.length_append, List.cons_append, List.nil_append, List.length_map, List.length_singleton, Nat.reduceBEq, Nat.reduceAdd, Nat.reduceSub, Nat.reduceMul, Nat.reduceEqDiff, Nat.reduceLeDiff, Nat.reduceLT, if_false, if_true, ite_true, ite_false, ↓reduceIte, Bool.not_true, Bool.not_false, Bool.false_eq_true, decide_true, decide_false, eq_self, and_true, true_and, and_self, Nat.zero_le, Nat.zero_add, Option.bind_some, Option.bind_none, Nat.lt_irrefl, Int.reduceToNat, Int.reducePow, Int.reduceNeg, Int.reduceMul, Int.reduceAdd, Int.reduceSub, Int.reduceLT, Int.reduceLE, Int.reduceEq, beq_self_eq_true, wipeE, MP.at0, MP.at1, MP.at2, MP.atLit, ht]
    · simp (disch := (first | assumption | with_reducible rfl | decide +kernel | exact Or.inl (by decide +kernel) | exact Or.inr (by decide +kernel) | omega | (simp only [List.length_cons, List.length_nil, List.length_append, List.length_map, List.length_replicate, List.length_range] <;> omega) | rfl)) only [MP.of_some, MP.map_some, MP.e_lv, MP.e_lo, MP.e_pD, MP.e_xDs, MP.e_xDf, MP.e_pC, MP.e_pYes, MP.e_pVar, MP.e_p2, MP.e_x2, MP.e_p1, MP.e_x1, MP.e_pB, MP.e_xB, MP.e_pNot, MP.e_xNot, MP.e_pAnd, MP.e_xAndT, MP.e_xAndF, MP.e_pOr, MP.e_xOrT, MP.e_xOrF, MP.e_pAndV, MP.e_xAndVT, MP.e_xAndVF, MP.e_pOrV, MP.e_xOrVT, MP.e_xOrVF, MP.e_pNotV, MP.e_xNotV, MP.e_pIf, MP.e_xIfT, MP.e_xIfF, MP.e_p3, MP.e_x3, MP.e_x3bT, MP.e_x3bF, MP.e_pNil, MP.e_pCons, MP.e_xCons, MP.e_pTup, MP.e_xTp, MP.e_pLst, MP.e_xLs, MP.e_pNo, MP.e_pSome, MP.e_xSo, MP.e_pSl, MP.e_xSl, MP.e_pCall, MP.e_xG, MP.e_pSeq, MP.e_xSq, MP.e_pSeqR, MP.e_xSqR, MP.e_pRng, MP.e_pEnum, MP.e_xEn, MP.e_pComp, MP.e_xC, MP.e_xC2, MP.e_pUser, MP.e_xU, MP.e_xFv, MP.e_xFo, MP.e_xFe, MP.e_pSeal, MP.e_xSe, MP.e_xSeFv, MP.e_xSeFo, MP.e_pLook, MP.e_xLo, MP.e_xLoF, MP.e_pFld, MP.e_xFd, MP.e_xOb, MP.e_xLk0, MP.e_xLk1, MP.e_c0, MP.e_c1, MP.g_add, MP.g_catS, MP.g_catL, MP.g_catT, MP.g_sub, MP.g_mul, MP.g_rep, MP.g_div, MP.g_mod, MP.g_pow, MP.g_shl, MP.g_shr, MP.g_and, MP.g_orI, MP.g_neg, MP.g_lt, MP.g_le, MP.g_gt, MP.g_ge, MP.g_eqI, MP.g_eqS, MP.g_eqBo, MP.g_neI, MP.g_neS, MP.g_neBo, MP.g_is, MP.g_isNot, MP.n_none, MP.n_int, MP.n_str, MP.n_tup, MP.n_list, MP.n_bool, MP.g_max, MP.g_min, MP.g_lenL, MP.g_lenK, MP.g_lenT, MP.g_listL, MP.g_listK, MP.g_listT, MP.g_tupL, MP.g_tupT, MP.q_list, MP.q_lk, MP.q_tup, MP.g_rng1, MP.g_rng2, MP.g_enumL, MP.g_enumK, MP.g_ixL, MP.g_ixK, MP.g_ixT, MP.g_slL, MP.g_slK, MP.g_slT, MP.s_Nil, MP.s_Brk, MP.s_Cont, MP.s_Seq, MP.s_xSn, MP.s_xSr, MP.s_xSb, MP.s_xSc, MP.s_xSe, MP.s_Expr, MP.s_xEx, MP.s_SetV, MP.s_xSV, MP.s_SetO, MP.s_xSOs, MP.s_xSOf, MP.s_Ret, MP.s_xRts, MP.s_xRtf, MP.s_RetN, MP.s_RetS, MP.s_xRSo, MP.s_xRSv, MP.s_If, MP.s_xIfT, MP.s_xIfF, MP.s_Tup, MP.s_xTu, MP.s_xTb, MP.s_For, MP.s_xFor, MP.s_App, MP.s_xAp, MP.s_Thaw, MP.s_xTh, MP.s_Frz, MP.s_xFzo, MP.s_xFzv, MP.s_ExprF, MP.s_xEF, MP.s_SetF, MP.s_xSF, MP.s_RetF, MP.s_xRF, MP.s_IfF, MP.s_xIFT, MP.s_xIFF, MP.s_FldN, MP.s_xN, MP.s_xN2, MP.s_xN3, MP.s_put0, MP.s_put1, MP.s_putN, MP.f_P, MP.f_xPs, MP.f_xPf, MP.f_User, MP.f_xFU, MP.f_Meth, MP.f_xM, MP.f_xM2, MP.f_Make, MP.f_xMk, MP.f_xMkF, MP.fe_ok, MP.r_run, MP.r_un, MP.r_un0, MP.r_nx, MP.r_ret, MP.r_exc, MP.t_nx, MP.t_cont, MP.t_brk, MP.t_ret, MP.b_nm, MP.b_tp2, MP.b_tp3, MP.t_bk, MP.fe_pop, MP.s_appF, MP.s_dead, MP.g_divmod, MP.g_sorted, MP.g_allB, MP.g_anyB, MP.g_sumI, MP.g_zipT, MP.g_zipL, MP.e_pZip, MP.e_xZp, MP.g_abs, MP.g_intI, MP.g_intB, MP.g_repT, MP.e_pLRng, MP.e_xLR, MP.f_Pop, MP.f_xPop, MP.s_AppF, MP.s_xAF0, MP.s_xAF, MP.s_xAF2, MP.g_inI, MP.g_ninI, MP.g_inT, MP.g_ninT, MP.g_ninST, MP.e_c2, MP.e_c3, MP.e_c4, MP.e_c5, MP.e_pIsi, List.getElem?_cons_zero, List.getElem?_cons_succ, List.getElem?_nil, List.set_cons_zero, List.set_cons_succ, List.map_cons, List.map_nil, List.length_cons, List.length_nil, List.length_append, List.cons_append, List.nil_append, List.length_map, List.length_singleton, Nat.reduceBEq, Nat.reduceAdd, Nat.reduceSub, Nat.reduceMul, Nat.reduceEqDiff, Nat.reduceLeDiff, Nat.reduceLT, if_false, if_true, ite_true, ite_false, ↓reduceIte, Bool.not_true, Bool.not_false, Bool.false_eq_true, decide_true, decide_false, eq_self, and_true, true_and, and_self, Nat.zero_le, Nat.zero_add, Option.bind_some, Option.bind_none, Nat.lt_irrefl, Int.reduceToNat, Int.reducePow, Int.reduceNeg, Int.reduceMul, Int.reduceAdd, Int.reduceSub, Int.reduceLT, Int.reduceLE, Int.reduceEq, beq_self_eq_true, wipeE, MP.at0, MP.at1, MP.at2, MP.atLit]
  have hpl : (nD (plainF K r0)).length ≤ 5 := by
    rw [nD_len]
    unfold plainF
    exact Nat.le_trans (List.length_filter_le ..) (by simp; omega)
  have hko := plain_ok hK5 (r0 := r0) (someQ x)
  have hkl0 := nD_len ((plainF K r0).filter (someQ x))
  have hk50 := hko.l5
  generalize (plainF K r0).filter (someQ x) = k0 at *
  obtain ⟨ks, hks, eIf⟩ : ∃ ks, KsOk K r0 ks ∧ sIf (pB (pVar 3)) (sSetV 12 (pD (p2 gIx (pLst (pCons (pD (pTup (pCons (pD (pC (.int 0))) (pCons (pD (pC (.int 1))) (pNil))))) (pCons (pD (pTup (pCons (pD (pC (.int 1))) (pCons (pD (pC (.int 2))) (pNil))))) (pCons (pD (pTup (pCons (pD (pC (.int 0))) (pCons (pD (pC (.int 1))) (pCons (pD (pC (.int 2))) (pNil)))))) (pCons (pD (pTup (pCons (pD (pC (.int 0))) (pCons (pD (p2 gSub (pVar 4) (pC (.int 1)))) (pNil))))) (pNil)))))) (p2 gMod (p2 gPlus (pVar 9) (p2 gDiv (pVar 2) (pC (.int 960)))) (pC (.int 4)))))) (sNil)
      ⟨[.v (.lk (zs ns)), .v (.int (at_ : Nat)), .v (.int f), .v (.bool rich), .v (.int (K : Nat)), .own (.list lsd), x6, .v (.list (nD (plainF K r0))), .own (.list (cs.map chD)), .v (.int (k : Nat)), x10, .v (.int x), .v (.tup (nD k0)), .un, .un], []⟩ =
      .nx ⟨[.v (.lk (zs ns)), .v (.int (at_ : Nat)), .v (.int f), .v (.bool rich), .v (.int (K : Nat)), .own (.list lsd), x6, .v (.list (nD (plainF K r0))), .own (.list (cs.map chD)), .v (.int (k : Nat)), x10, .v (.int x), .v (.tup (nD ks)), .un, .un], []⟩ := by
    cases rich with
    | true =>
      obtain ⟨ks, h1, h2⟩ := rich_ks K (hK3 rfl) hK5 r0 (fun j hj => by
        have e : r0.getD j .non = r0[j]'(by omega) := by rw [List.getD_eq_getElem?_getD, List.getElem?_eq_getElem (by omega)]; rfl
        rw [e]
        exact hri rfl _ (List.getElem_mem _)) ((k : Int) + f / 960)
      rw [g_ixL] at h2
      refine ⟨ks, h1, ?_⟩
      simp (disch := (first | assumption | with_reducible rfl | decide +kernel | exact Or.inl (by decide +kernel) | exact Or.inr (by decide +kernel) | omega | (simp only [List.length_cons, List.length_nil, List.length_append, List.length_map, List.length_replicate, List.length_range] <;> omega) | rfl)) only [MP.of_some, MP.map_some, MP.e_lv, MP.e_lo, MP.e_pD, MP.e_xDs, MP.e_xDf, MP.e_pC, MP.e_pYes, MP.e_pVar, MP.e_p2, MP.e_x2, MP.e_p1, MP.e_x1, MP.e_pB, MP.e_xB, MP.e_pNot, MP.e_xNot, MP.e_pAnd, MP.e_xAndT, MP.e_xAndF, MP.e_pOr, MP.e_xOrT, MP.e_xOrF, MP.e_pAndV, MP.e_xAndVT, MP.e_xAndVF, MP.e_pOrV, MP.e_xOrVT, MP.e_xOrVF, MP.e_pNotV, MP.e_xNotV, MP.e_pIf, MP.e_xIfT, MP.e_xIfF, MP.e_p3, MP.e_x3, MP.e_x3bT, MP.e_x3bF, MP.e_pNil, MP.e_pCons, MP.e_xCons, MP.e_pTup, MP.e_xTp, MP.e_pLst, MP.e_xLs, MP.e_pNo, MP.e_pSome, MP.e_xSo, MP.e_pSl, MP.e_xSl, MP.e_pCall, MP.e_xG, MP.e_pSeq, MP.e_xSq, MP.e_pSeqR, MP.e_xSqR, MP.e_pRng, MP.e_pEnum, MP.e_xEn, MP.e_pComp, MP.e_xC, MP.e_xC2, MP.e_pUser, MP.e_xU, MP.e_xFv, MP.e_xFo, MP.e_xFe, MP.e_pSeal, MP.e_xSe, MP.e_xSeFv, MP.e_xSeFo, MP.e_pLook, MP.e_xLo, MP.e_xLoF, MP.e_pFld, MP.e_xFd, MP.e_xOb, MP.e_xLk0, MP.e_xLk1, MP.e_c0, MP.e_c1, MP.g_add, MP.g_catS, MP.g_catL, MP.g_catT, MP.g_sub, MP.g_mul, MP.g_rep, MP.g_div, MP.g_mod, MP.g_pow, MP.g_shl, MP.g_shr, MP.g_and, MP.g_orI, MP.g_neg, MP.g_lt, MP.g_le, MP.g_gt, MP.g_ge, MP.g_eqI, MP.g_eqS, MP.g_eqBo, MP.g_neI, MP.g_neS, MP.g_neBo, MP.g_is, MP.g_isNot, MP.n_none, MP.n_int, MP.n_str, MP.n_tup, MP.n_list, MP.n_bool, MP.g_max, MP.g_min, MP.g_lenL, MP.g_lenK, MP.g_lenT, MP.g_listL, MP.g_listK, MP.g_listT, MP.g_tupL, MP.g_tupT, MP.q_list, MP.q_lk, MP.q_tup, MP.g_rng1, MP.g_rng2, MP.g_enumL, MP.g_enumK, MP.g_ixL, MP.g_ixK, MP.g_ixT, MP.g_slL, MP.g_slK, MP.g_slT, MP.s_Nil, MP.s_Brk, MP.s_Cont, MP.s_Seq, MP.s_xSn, MP.s_xSr, MP.s_xSb, MP.s_xSc, MP.s_xSe, MP.s_Expr, MP.s_xEx, MP.s_SetV, MP.s_xSV, MP.s_SetO, MP.s_xSOs, MP.s_xSOf, MP.s_Ret, MP.s_xRts, MP.s_xRtf, MP.s_RetN, MP.s_RetS, MP.s_xRSo, MP.s_xRSv, MP.s_If, MP.s_xIfT, MP.s_xIfF, MP.s_Tup, MP.s_xTu, MP.s_xTb, MP.s_For, MP.s_xFor, MP.s_App, MP.s_xAp, MP.s_Thaw, MP.s_xTh, MP.s_Frz, MP.s_xFzo, MP.s_xFzv, MP.s_ExprF, MP.s_xEF, MP.s_SetF, MP.s_xSF, MP.s_RetF, MP.s_xRF, MP.s_IfF, MP.s_xIFT, MP.s_xIFF, MP.s_FldN, MP.s_xN, MP.s_xN2, MP.s_xN3, MP.s_put0, MP.s_put1, MP.s_putN, MP.f_P, MP.f_xPs, MP.f_xPf, MP.f_User, MP.f_xFU, MP.f_Meth, MP.f_xM, MP.f_xM2, MP.f_Make, MP.f_xMk, MP.f_xMkF, MP.fe_ok, MP.r_run, MP.r_un, MP.r_un0, MP.r_nx, MP.r_ret, MP.r_exc, MP.t_nx, MP.t_cont, MP.t_brk, MP.t_ret, MP.b_nm, MP.b_tp2, MP.b_tp3, MP.t_bk, MP.fe_pop, MP.s_appF, MP.s_dead, MP.g_divmod, MP.g_sorted, MP.g_allB, MP.g_anyB, MP.g_sumI, MP.g_zipT, MP.g_zipL, MP.e_pZip, MP.e_xZp, MP.g_abs, MP.g_intI, MP.g_intB, MP.g_repT, MP.e_pLRng, MP.e_xLR, MP.f_Pop, MP.f_xPop, MP.s_AppF, MP.s_xAF0, MP.s_xAF, MP.s_xAF2, MP.g_inI, MP.g_ninI, MP.g_inT, MP.g_ninT, MP.g_ninST, MP.e_c2, MP.e_c3, MP.e_c4, MP.e_c5, MP.e_pIsi, List.getElem?_cons_zero, List.getElem?_cons_succ, List.getElem?_nil, List.set_cons_zero, List.set_cons_succ, List.map_cons, List.map_nil, List.length_cons, List.length_nil, List.length_append, List.cons_append, List.nil_append, List.length_map, List.length_singleton, Nat.reduceBEq, Nat.reduceAdd, Nat.reduceSub, Nat.reduceMul, Nat.reduceEqDiff, Nat.reduceLeDiff, Nat.reduceLT, if_false, if_true, ite_true, ite_false, ↓reduceIte, Bool.not_true, Bool.not_false, Bool.false_eq_true, decide_true, decide_false, eq_self, and_true, true_and, and_self, Nat.zero_le, Nat.zero_add, Option.bind_some, Option.bind_none, Nat.lt_irrefl, Int.reduceToNat, Int.reducePow, Int.reduceNeg, Int.reduceMul, Int.reduceAdd, Int.reduceSub, Int.reduceLT, Int.reduceLE, Int.reduceEq, beq_self_eq_true, wipeE, MP.at0, MP.at1, MP.at2, MP.atLit, h2]
    | false =>
      refine ⟨k0, hko, ?_⟩
      simp (disch := (first | assumption | with_reducible rfl | decide +kernel | exact Or.inl (by decide +kernel) | exact Or.inr (by decide +kernel) | omega | (simp only [List.length_cons, List.length_nil, List.length_append, List.length_map, List.length_replicate, List.length_range] <;> omega) | rfl)) only [MP.of_some, MP.map_some, MP.e_lv, MP.e_lo, MP.e_pD, MP.e_xDs, MP.e_xDf, MP.e_pC, MP.e_pYes, MP.e_pVar, MP.e_p2, MP.e_x2, MP.e_p1, MP.e_x1, MP.e_pB, MP.e_xB, MP.e_pNot, MP.e_xNot, MP.e_pAnd, MP.e_xAndT, MP.e_xAndF, MP.e_pOr, MP.e_xOrT, MP.e_xOrF, MP.e_pAndV, MP.e_xAndVT, MP.e_xAndVF, MP.e_pOrV, MP.e_xOrVT, MP.e_xOrVF, MP.e_pNotV, MP.e_xNotV, MP.e_pIf, MP.e_xIfT, MP.e_xIfF, MP.e_p3, MP.e_x3, MP.e_x3bT, MP.e_x3bF, MP.e_pNil, MP.e_pCons, MP.e_xCons, MP.e_pTup, MP.e_xTp, MP.e_pLst, MP.e_xLs, MP.e_pNo, MP.e_pSome, MP.e_xSo, MP.e_pSl, MP.e_xSl, MP.e_pCall, MP.e_xG, MP.e_pSeq, MP.e_xSq, MP.e_pSeqR, MP.e_xSqR, MP.e_pRng, MP.e_pEnum, MP.e_xEn, MP.e_pComp, MP.e_xC, MP.e_xC2, MP.e_pUser, MP.e_xU, MP.e_xFv, MP.e_xFo, MP.e_xFe, MP.e_pSeal, MP.e_xSe, MP.e_xSeFv, MP.e_xSeFo, MP.e_pLook, MP.e_xLo, MP.e_xLoF, MP.e_pFld, MP.e_xFd, MP.e_xOb, MP.e_xLk0, MP.e_xLk1, MP.e_c0, MP.e_c1, MP.g_add, MP.g_catS, MP.g_catL, MP.g_catT, MP.g_sub, MP.g_mul, MP.g_rep, MP.g_div, MP.g_mod, MP.g_pow, MP.g_shl, MP.g_shr, MP.g_and, MP.g_orI, MP.g_neg, MP.g_lt, MP.g_le, MP.g_gt, MP.g_ge, MP.g_eqI, MP.g_eqS, MP.g_eqBo, MP.g_neI, MP.g_neS, MP.g_neBo, MP.g_is, MP.g_isNot, MP.n_none, MP.n_int, MP.n_str, MP.n_tup, MP.n_list, MP.n_bool, MP.g_max, MP.g_min, MP.g_lenL, MP.g_lenK, MP.g_lenT, MP.g_listL, MP.g_listK, MP.g_listT, MP.g_tupL, MP.g_tupT, MP.q_list, MP.q_lk, MP.q_tup, MP.g_rng1, MP.g_rng2, MP.g_enumL, MP.g_enumK, MP.g_ixL, MP.g_ixK, MP.g_ixT, MP.g_slL, MP.g_slK, MP.g_slT, MP.s_Nil, MP.s_Brk, MP.s_Cont, MP.s_Seq, MP.s_xSn, MP.s_xSr, MP.s_xSb, MP.s_xSc, MP.s_xSe, MP.s_Expr, MP.s_xEx, MP.s_SetV, MP.s_xSV, MP.s_SetO, MP.s_xSOs, MP.s_xSOf, MP.s_Ret, MP.s_xRts, MP.s_xRtf, MP.s_RetN, MP.s_RetS, MP.s_xRSo, MP.s_xRSv, MP.s_If, MP.s_xIfT, MP.s_xIfF, MP.s_Tup, MP.s_xTu, MP.s_xTb, MP.s_For, MP.s_xFor, MP.s_App, MP.s_xAp, MP.s_Thaw, MP.s_xTh, MP.s_Frz, MP.s_xFzo, MP.s_xFzv, MP.s_ExprF, MP.s_xEF, MP.s_SetF, MP.s_xSF, MP.s_RetF, MP.s_xRF, MP.s_IfF, MP.s_xIFT, MP.s_xIFF, MP.s_FldN, MP.s_xN, MP.s_xN2, MP.s_xN3, MP.s_put0, MP.s_put1, MP.s_putN, MP.f_P, MP.f_xPs, MP.f_xPf, MP.f_User, MP.f_xFU, MP.f_Meth, MP.f_xM, MP.f_xM2, MP.f_Make, MP.f_xMk, MP.f_xMkF, MP.fe_ok, MP.r_run, MP.r_un, MP.r_un0, MP.r_nx, MP.r_ret, MP.r_exc, MP.t_nx, MP.t_cont, MP.t_brk, MP.t_ret, MP.b_nm, MP.b_tp2, MP.b_tp3, MP.t_bk, MP.fe_pop, MP.s_appF, MP.s_dead, MP.g_divmod, MP.g_sorted, MP.g_allB, MP.g_anyB, MP.g_sumI, MP.g_zipT, MP.g_zipL, MP.e_pZip, MP.e_xZp, MP.g_abs, MP.g_intI, MP.g_intB, MP.g_repT, MP.e_pLRng, MP.e_xLR, MP.f_Pop, MP.f_xPop, MP.s_AppF, MP.s_xAF0, MP.s_xAF, MP.s_xAF2, MP.g_inI, MP.g_ninI, MP.g_inT, MP.g_ninT, MP.g_ninST, MP.e_c2, MP.e_c3, MP.e_c4, MP.e_c5, MP.e_pIsi, List.getElem?_cons_zero, List.getElem?_cons_succ, List.getElem?_nil, List.set_cons_zero, List.set_cons_succ, List.map_cons, List.map_nil, List.length_cons, List.length_nil, List.length_append, List.cons_append, List.nil_append, List.length_map, List.length_singleton, Nat.reduceBEq, Nat.reduceAdd, Nat.reduceSub, Nat.reduceMul, Nat.reduceEqDiff, Nat.reduceLeDiff, Nat.reduceLT, if_false, if_true, ite_true, ite_false, ↓reduceIte, Bool.not_true, Bool.not_false, Bool.false_eq_true, decide_true, decide_false, eq_self, and_true, true_and, and_self, Nat.zero_le, Nat.zero_add, Option.bind_some, Option.bind_none, Nat.lt_irrefl, Int.reduceToNat, Int.reducePow, Int.reduceNeg, Int.reduceMul, Int.reduceAdd, Int.reduceSub, Int.reduceLT, Int.reduceLE, Int.reduceEq, beq_self_eq_true, wipeE, MP.at0, MP.at1, MP.at2, MP.atLit]
  have hkl := nD_len ks
  have hk5 := hks.l5
  obtain ⟨n, hn, en⟩ := m_letter (x / 32)
  have hin : compL (.nm 14) pYes (pD (p2 gIx (pVar 14) (pC (.int 0)))) ⟨[.v (.lk (zs ns)), .v (.int (at_ : Nat)), .v (.int f), .v (.bool rich), .v (.int (K : Nat)), .own (.list lsd), x6, .v (.list (nD (plainF K r0))), .own (.list (cs.map chD)), .v (.int (k : Nat)), x10, .v (.int x), .v (.tup (nD ks)), .un, .un], []⟩ (cs.map chD) = .ok ((cs.map Prod.fst).map fun a => D.tup (nD a)) := by
    rw [List.map_map]
    refine compA _ _ _ fun a _ => ⟨_, b_nm .., ?_⟩
    have h0 : gIx (chD a) (.int 0) = some ⟨.sh, .tup (nD a.1)⟩ := rfl
    simp (disch := (first | assumption | with_reducible rfl | decide +kernel | exact Or.inl (by decide +kernel) | exact Or.inr (by decide +kernel) | omega | (simp only [List.length_cons, List.length_nil, List.length_append, List.length_map, List.length_replicate, List.length_range] <;> omega) | rfl)) only [MP.of_some, MP.map_some, MP.e_lv, MP.e_lo, MP.e_pD, MP.e_xDs, MP.e_xDf, MP.e_pC, MP.e_pYes, MP.e_pVar, MP.e_p2, MP.e_x2, MP.e_p1, MP.e_x1, MP.e_pB, MP.e_xB, MP.e_pNot, MP.e_xNot, MP.e_pAnd, MP.e_xAndT, MP.e_xAndF, MP.e_pOr, MP.e_xOrT, MP.e_xOrF, MP.e_pAndV, MP.e_xAndVT, MP.e_xAndVF, MP.e_pOrV, MP.e_xOrVT, MP.e_xOrVF, MP.e_pNotV, MP.e_xNotV, MP.e_pIf, MP.e_xIfT, MP.e_xIfF, MP.e_p3, MP.e_x3, MP.e_x3bT, MP.e_x3bF, MP.e_pNil, MP.e_pCons, MP.e_xCons, MP.e_pTup, MP.e_xTp, MP.e_pLst, MP.e_xLs, MP.e_pNo, MP.e_pSome, MP.e_xSo, MP.e_pSl, MP.e_xSl, MP.e_pCall, MP.e_xG, MP.e_pSeq, MP.e_xSq, MP.e_pSeqR, MP.e_xSqR, MP.e_pRng, MP.e_pEnum, MP.e_xEn, MP.e_pComp, MP.e_xC, MP.e_xC2, MP.e_pUser, MP.e_xU, MP.e_xFv, MP.e_xFo, MP.e_xFe, MP.e_pSeal, MP.e_xSe, MP.e_xSeFv, MP.e_xSeFo, MP.e_pLook, MP.e_xLo, MP.e_xLoF, MP.e_pFld, MP.e_xFd, MP.e_xOb, MP.e_xLk0, MP.e_xLk1, MP.e_c0, MP.e_c1, MP.g_add, MP.g_catS, MP.g_catL, MP.g_catT, MP.g_sub, MP.g_mul, MP.g_rep, MP.g_div, MP.g_mod, MP.g_pow, MP.g_shl, MP.g_shr, MP.g_and, MP.g_orI, MP.g_neg, MP.g_lt, MP.g_le, MP.g_gt, MP.g_ge, MP.g_eqI, MP.g_eqS, MP.g_eqBo, MP.g_neI, MP.g_neS, MP.g_neBo, MP.g_is, MP.g_isNot, MP.n_none, MP.n_int, MP.n_str, MP.n_tup, MP.n_list, MP.n_bool, MP.g_max, MP.g_min, MP.g_lenL, MP.g_lenK, MP.g_lenT, MP.g_listL, MP.g_listK, MP.g_listT, MP.g_tupL, MP.g_tupT, MP.q_list, MP.q_lk, MP.q_tup, MP.g_rng1, MP.g_rng2, MP.g_enumL, MP.g_enumK, MP.g_ixL, MP.g_ixK, MP.g_ixT, MP.g_slL, MP.g_slK, MP.g_slT, MP.s_Nil, MP.s_Brk, MP.s_Cont, MP.s_Seq, MP.s_xSn, MP.s_xSr, MP.s_xSb, MP.s_xSc, MP.s_xSe, MP.s_Expr, MP.s_xEx, MP.s_SetV, MP.s_xSV, MP.s_SetO, MP.s_xSOs, MP.s_xSOf, MP.s_Ret, MP.s_xRts, MP.s_xRtf, MP.s_RetN, MP.s_RetS, MP.s_xRSo, MP.s_xRSv, MP.s_If, MP.s_xIfT, MP.s_xIfF, MP.s_Tup, MP.s_xTu, MP.s_xTb, MP.s_For, MP.s_xFor, MP.s_App, MP.s_xAp, MP.s_Thaw, MP.s_xTh, MP.s_Frz, MP.s_xFzo, MP.s_xFzv, MP.s_ExprF, MP.s_xEF, MP.s_SetF, MP.s_xSF, MP.s_RetF, MP.s_xRF, MP.s_IfF, MP.s_xIFT, MP.s_xIFF, MP.s_FldN, MP.s_xN, MP.s_xN2, MP.s_xN3, MP.s_put0, MP.s_put1, MP.s_putN, MP.f_P, MP.f_xPs, MP.f_xPf, MP.f_User, MP.f_xFU, MP.f_Meth, MP.f_xM, MP.f_xM2, MP.f_Make, MP.f_xMk, MP.f_xMkF, MP.fe_ok, MP.r_run, MP.r_un, MP.r_un0, MP.r_nx, MP.r_ret, MP.r_exc, MP.t_nx, MP.t_cont, MP.t_brk, MP.t_ret, MP.b_nm, MP.b_tp2, MP.b_tp3, MP.t_bk, MP.fe_pop, MP.s_appF, MP.s_dead, MP.g_divmod, MP.g_sorted, MP.g_allB, MP.g_anyB, MP.g_sumI, MP.g_zipT, MP.g_zipL, MP.e_pZip, MP.e_xZp, MP.g_abs, MP.g_intI, MP.g_intB, MP.g_repT, MP.e_pLRng, MP.e_xLR, MP.f_Pop, MP.f_xPop, MP.s_AppF, MP.s_xAF0, MP.s_xAF, MP.s_xAF2, MP.g_inI, MP.g_ninI, MP.g_inT, MP.g_ninT, MP.g_ninST, MP.e_c2, MP.e_c3, MP.e_c4, MP.e_c5, MP.e_pIsi, List.getElem?_cons_zero, List.getElem?_cons_succ, List.getElem?_nil, List.set_cons_zero, List.set_cons_succ, List.map_cons, List.map_nil, List.length_cons, List.length_nil, List.length_append, List.cons_append, List.nil_append, List.length_map, List.length_singleton, Nat.reduceBEq, Nat.reduceAdd, Nat.reduceSub, Nat.reduceMul, Nat.reduceEqDiff, Nat.reduceLeDiff, Nat.reduceLT, if_false, if_true, ite_true, ite_false, ↓reduceIte, Bool.not_true, Bool.not_false, Bool.false_eq_true, decide_true, decide_false, eq_self, and_true, true_and, and_self, Nat.zero_le, Nat.zero_add, Option.bind_some, Option.bind_none, Nat.lt_irrefl, Int.reduceToNat, Int.reducePow, Int.reduceNeg, Int.reduceMul, Int.reduceAdd, Int.reduceSub, Int.reduceLT, Int.reduceLE, Int.reduceEq, beq_self_eq_true, wipeE, MP.at0, MP.at1, MP.at2, MP.atLit, h0]
    rfl
  have hgn2 : gNin (.tup (nD ks)) (.list ((cs.map Prod.fst).map fun a => D.tup (nD a))) = some ⟨.sh, .bool (!decide (ks ∈ cs.map Prod.fst))⟩ := gNin_many ks (cs.map Prod.fst)
  have hsn : cs.map chD ++ [.tup [.tup (nD ks), .str (ltr n)]] = (cs ++ [(ks, n)]).map chD := by rw [List.map_append]; rfl
  have hcml : (cs.map chD).length = cs.length := by simp
  have main : ∃ cs', cs'.length ≤ cs.length + 1 ∧ ChsOk K r0 cs' ∧ lp_l_bed_2 ⟨[.v (.lk (zs ns)), .v (.int (at_ : Nat)), .v (.int f), .v (.bool rich), .v (.int (K : Nat)), .own (.list lsd), x6, .v (.list (nD (plainF K r0))), .own (.list (cs.map chD)), .v (.int (k : Nat)), x10, x11, x12, .un, .un], []⟩ =
      .nx ⟨[.v (.lk (zs ns)), .v (.int (at_ : Nat)), .v (.int f), .v (.bool rich), .v (.int (K : Nat)), .own (.list lsd), x6, .v (.list (nD (plainF K r0))), .own (.list (cs'.map chD)), .v (.int (k : Nat)), x10, .v (.int x), .v (.tup (nD ks)), .un, .un], []⟩ := by
    have e1 : ∀ r, (sIf (pAnd (pB (p2 gGt (pCall gLen (pCons (pVar 12) (pNil))) (pC (.int 1)))) (pB (p2 gNin (pVar 12) (pComp (pSeqR (pVar 8)) (.nm 14) [14] (pYes) (pD (p2 gIx (pVar 14) (pC (.int 0)))))))) (sApp 8 (pD (pTup (pCons (pD (pVar 12)) (pCons (pD (pUser 1 sem_l_letter (pCons (pD (p2 gDiv (pVar 11) (pC (.int 32)))) (pNil)))) (pNil)))))) (sNil)) ⟨[.v (.lk (zs ns)), .v (.int (at_ : Nat)), .v (.int f), .v (.bool rich), .v (.int (K : Nat)), .own (.list lsd), x6, .v (.list (nD (plainF K r0))), .own (.list (cs.map chD)), .v (.int (k : Nat)), x10, .v (.int x), .v (.tup (nD ks)), .un, .un], []⟩ = r → lp_l_bed_2 ⟨[.v (.lk (zs ns)), .v (.int (at_ : Nat)), .v (.int f), .v (.bool rich), .v (.int (K : Nat)), .own (.list lsd), x6, .v (.list (nD (plainF K r0))), .own (.list (cs.map chD)), .v (.int (k : Nat)), x10, x11, x12, .un, .un], []⟩ = r := fun r hr => by
      unfold lp_l_bed_2
      refine sqX (s' := ⟨[.v (.lk (zs ns)), .v (.int (at_ : Nat)), .v (.int f), .v (.bool rich), .v (.int (K : Nat)), .own (.list lsd), x6, .v (.list (nD (plainF K r0))), .own (.list (cs.map chD)), .v (.int (k : Nat)), x10, .v (.int x), x12, .un, .un], []⟩) (by simp (disch := (first | assumption | with_reducible rfl | decide +kernel | exact Or.inl (by decide +kernel) | exact Or.inr (by decide +kernel) | omega | (simp only [List.length_cons, List.length_nil, List.length_append, List.length_map, List.length_replicate, List.length_range] <;> omega) | rfl)) only [MP.of_some, MP.map_some, MP.e_lv, MP.e_lo, MP.e_pD, MP.e_xDs, MP.e_xDf, MP.e_pC, MP.e_pYes, MP.e_pVar, MP.e_p2, MP.e_x2, MP.e_p1, MP.e_x1, MP.e_pB, MP.e_xB, MP.e_pNot, MP.e_xNot, MP.e_pAnd, MP.e_xAndT, MP.e_xAndF, MP.e_pOr, MP.e_xOrT, MP.e_xOrF, MP.e_pAndV, MP.e_xAndVT, MP.e_xAndVF, MP.e_pOrV, MP.e_xOrVT, MP.e_xOrVF, MP.e_pNotV, MP.e_xNotV, MP.e_pIf, MP.e_xIfT, MP.e_xIfF, MP.e_p3, MP.e_x3, MP.e_x3bT, MP.e_x3bF, MP.e_pNil, MP.e_pCons, MP.e_xCons, MP.e_pTup, MP.e_xTp, MP.e_pLst, MP.e_xLs, MP.e_pNo, MP.e_pSome, MP.e_xSo, MP.e_pSl, MP.e_xSl, MP.e_pCall, MP.e_xG, MP.e_pSeq, MP.e_xSq, MP.e_pSeqR, MP.e_xSqR, MP.e_pRng, MP.e_pEnum, MP.e_xEn, MP.e_pComp, MP.e_xC, MP.e_xC2, MP.e_pUser, MP.e_xU, MP.e_xFv, MP.e_xFo, MP.e_xFe, MP.e_pSeal, MP.e_xSe, MP.e_xSeFv, MP.e_xSeFo, MP.e_pLook, MP.e_xLo, MP.e_xLoF, MP.e_pFld, MP.e_xFd, MP.e_xOb, MP.e_xLk0, MP.e_xLk1, MP.e_c0, MP.e_c1, MP.g_add, MP.g_catS, MP.g_catL, MP.g_catT, MP.g_sub, MP.g_mul, MP.g_rep, MP.g_div, MP.g_mod, MP.g_pow, MP.g_shl, MP.g_shr, MP.g_and, MP.g_orI, MP.g_neg, MP.g_lt, MP.g_le, MP.g_gt, MP.g_ge, MP.g_eqI, MP.g_eqS, MP.g_eqBo, MP.g_neI, MP.g_neS, MP.g_neBo, MP.g_is, MP.g_isNot, MP.n_none, MP.n_int, MP.n_str, MP.n_tup, MP.n_list, MP.n_bool, MP.g_max, MP.g_min, MP.g_lenL, MP.g_lenK, MP.g_lenT, MP.g_listL, MP.g_listK, MP.g_listT, MP.g_tupL, MP.g_tupT, MP.q_list, MP.q_lk, MP.q_tup, MP.g_rng1, MP.g_rng2, MP.g_enumL, MP.g_enumK, MP.g_ixL, MP.g_ixK, MP.g_ixT, MP.g_slL, MP.g_slK, MP.g_slT, MP.s_Nil, MP.s_Brk, MP.s_Cont, MP.s_Seq, MP.s_xSn, MP.s_xSr, MP.s_xSb, MP.s_xSc, MP.s_xSe, MP.s_Expr, MP.s_xEx, MP.s_SetV, MP.s_xSV, MP.s_SetO, MP.s_xSOs, MP.s_xSOf, MP.s_Ret, MP.s_xRts, MP.s_xRtf, MP.s_RetN, MP.s_RetS, MP.s_xRSo, MP.s_xRSv, MP.s_If, MP.s_xIfT, MP.s_xIfF, MP.s_Tup, MP.s_xTu, MP.s_xTb, MP.s_For, MP.s_xFor, MP.s_App, MP.s_xAp, MP.s_Thaw, MP.s_xTh, MP.s_Frz, MP.s_xFzo, MP.s_xFzv, MP.s_ExprF, MP.s_xEF, MP.s_SetF, MP.s_xSF, MP.s_RetF, MP.s_xRF, MP.s_IfF, MP.s_xIFT, MP.s_xIFF, MP.s_FldN, MP.s_xN, MP.s_xN2, MP.s_xN3, MP.s_put0, MP.s_put1, MP.s_putN, MP.f_P, MP.f_xPs, MP.f_xPf, MP.f_User, MP.f_xFU, MP.f_Meth, MP.f_xM, MP.f_xM2, MP.f_Make, MP.f_xMk, MP.f_xMkF, MP.fe_ok, MP.r_run, MP.r_un, MP.r_un0, MP.r_nx, MP.r_ret, MP.r_exc, MP.t_nx, MP.t_cont, MP.t_brk, MP.t_ret, MP.b_nm, MP.b_tp2, MP.b_tp3, MP.t_bk, MP.fe_pop, MP.s_appF, MP.s_dead, MP.g_divmod, MP.g_sorted, MP.g_allB, MP.g_anyB, MP.g_sumI, MP.g_zipT, MP.g_zipL, MP.e_pZip, MP.e_xZp, MP.g_abs, MP.g_intI, MP.g_intB, MP.g_repT, MP.e_pLRng, MP.e_xLR, MP.f_Pop, MP.f_xPop, MP.s_AppF, MP.s_xAF0, MP.s_xAF, MP.s_xAF2, MP.g_inI, MP.g_ninI, MP.g_inT, MP.g_ninT, MP.g_ninST, MP.e_c2, MP.e_c3, MP.e_c4, MP.e_c5, MP.e_pIsi, List.getElem?_cons_zero, List.getElem?_cons_succ, List.getElem?_nil, List.set_cons_zero, List.set_cons_succ, List.map_cons, List.map_nil, List.length_cons, List.length_nil, List.length_append, List.cons_append, List.nil_append, List.length_map, List.length_singleton, Nat.reduceBEq, Nat.reduceAdd, Nat.reduceSub, Nat.reduceMul, Nat.reduceEqDiff, Nat.reduceLeDiff, Nat.reduceLT, if_false, if_true, ite_true, ite_false, ↓reduceIte, Bool.not_true, Bool.not_false, Bool.false_eq_true, decide_true, decide_false, eq_self, and_true, true_and, and_self, Nat.zero_le, Nat.zero_add, Option.bind_some, Option.bind_none, Nat.lt_irrefl, Int.reduceToNat, Int.reducePow, Int.reduceNeg, Int.reduceMul, Int.reduceAdd, Int.reduceSub, Int.reduceLT, Int.reduceLE, Int.reduceEq, beq_self_eq_true, wipeE, MP.at0, MP.at1, MP.at2, MP.atLit, hc, hw]) ?_
      refine sqX (s' := ⟨[.v (.lk (zs ns)), .v (.int (at_ : Nat)), .v (.int f), .v (.bool rich), .v (.int (K : Nat)), .own (.list lsd), x6, .v (.list (nD (plainF K r0))), .own (.list (cs.map chD)), .v (.int (k : Nat)), x10, .v (.int x), .v (.tup (nD k0)), .un, .un], []⟩) (by generalize cs.map chD = csd at *; simp (disch := (first | assumption | with_reducible rfl | decide +kernel | exact Or.inl (by decide +kernel) | exact Or.inr (by decide +kernel) | omega | (simp only [List.length_cons, List.length_nil, List.length_append, List.length_map, List.length_replicate, List.length_range] <;> omega) | rfl)) only [MP.of_some, MP.map_some, MP.e_lv, MP.e_lo, MP.e_pD, MP.e_xDs, MP.e_xDf, MP.e_pC, MP.e_pYes, MP.e_pVar, MP.e_p2, MP.e_x2, MP.e_p1, MP.e_x1, MP.e_pB, MP.e_xB, MP.e_pNot, MP.e_xNot, MP.e_pAnd, MP.e_xAndT, MP.e_xAndF, MP.e_pOr, MP.e_xOrT, MP.e_xOrF, MP.e_pAndV, MP.e_xAndVT, MP.e_xAndVF, MP.e_pOrV, MP.e_xOrVT, MP.e_xOrVF, MP.e_pNotV, MP.e_xNotV, MP.e_pIf, MP.e_xIfT, MP.e_xIfF, MP.e_p3, MP.e_x3, MP.e_x3bT, MP.e_x3bF, MP.e_pNil, MP.e_pCons, MP.e_xCons, MP.e_pTup, MP.e_xTp, MP.e_pLst, MP.e_xLs, MP.e_pNo, MP.e_pSome, MP.e_xSo, MP.e_pSl, MP.e_xSl, MP.e_pCall, MP.e_xG, MP.e_pSeq, MP.e_xSq, MP.e_pSeqR, MP.e_xSqR, MP.e_pRng, MP.e_pEnum, MP.e_xEn, MP.e_pComp, MP.e_xC, MP.e_xC2, MP.e_pUser, MP.e_xU, MP.e_xFv, MP.e_xFo, MP.e_xFe, MP.e_pSeal, MP.e_xSe, MP.e_xSeFv, MP.e_xSeFo, MP.e_pLook, MP.e_xLo, MP.e_xLoF, MP.e_pFld, MP.e_xFd, MP.e_xOb, MP.e_xLk0, MP.e_xLk1, MP.e_c0, MP.e_c1, MP.g_add, MP.g_catS, MP.g_catL, MP.g_catT, MP.g_sub, MP.g_mul, MP.g_rep, MP.g_div, MP.g_mod, MP.g_pow, MP.g_shl, MP.g_shr, MP.g_and, MP.g_orI, MP.g_neg, MP.g_lt, MP.g_le, MP.g_gt, MP.g_ge, MP.g_eqI, MP.g_eqS, MP.g_eqBo, MP.g_neI, MP.g_neS, MP.g_neBo, MP.g_is, MP.g_isNot, MP.n_none, MP.n_int, MP.n_str, MP.n_tup, MP.n_list, MP.n_bool, MP.g_max, MP.g_min, MP.g_lenL, MP.g_lenK, MP.g_lenT, MP.g_listL, MP.g_listK, MP.g_listT, MP.g_tupL, MP.g_tupT, MP.q_list, MP.q_lk, MP.q_tup, MP.g_rng1, MP.g_rng2, MP.g_enumL, MP.g_enumK, MP.g_ixL, MP.g_ixK, MP.g_ixT, MP.g_slL, MP.g_slK, MP.g_slT, MP.s_Nil, MP.s_Brk, MP.s_Cont, MP.s_Seq, MP.s_xSn, MP.s_xSr, MP.s_xSb, MP.s_xSc, MP.s_xSe, MP.s_Expr, MP.s_xEx, MP.s_SetV, MP.s_xSV, MP.s_SetO, MP.s_xSOs, MP.s_xSOf, MP.s_Ret, MP.s_xRts, MP.s_xRtf, MP.s_RetN, MP.s_RetS, MP.s_xRSo, MP.s_xRSv, MP.s_If, MP.s_xIfT, MP.s_xIfF, MP.s_Tup, MP.s_xTu, MP.s_xTb, MP.s_For, MP.s_xFor, MP.s_App, MP.s_xAp, MP.s_Thaw, MP.s_xTh, MP.s_Frz, MP.s_xFzo, MP.s_xFzv, MP.s_ExprF, MP.s_xEF, MP.s_SetF, MP.s_xSF, MP.s_RetF, MP.s_xRF, MP.s_IfF, MP.s_xIFT, MP.s_xIFF, MP.s_FldN, MP.s_xN, MP.s_xN2, MP.s_xN3, MP.s_put0, MP.s_put1, MP.s_putN, MP.f_P, MP.f_xPs, MP.f_xPf, MP.f_User, MP.f_xFU, MP.f_Meth, MP.f_xM, MP.f_xM2, MP.f_Make, MP.f_xMk, MP.f_xMkF, MP.fe_ok, MP.r_run, MP.r_un, MP.r_un0, MP.r_nx, MP.r_ret, MP.r_exc, MP.t_nx, MP.t_cont, MP.t_brk, MP.t_ret, MP.b_nm, MP.b_tp2, MP.b_tp3, MP.t_bk, MP.fe_pop, MP.s_appF, MP.s_dead, MP.g_divmod, MP.g_sorted, MP.g_allB, MP.g_anyB, MP.g_sumI, MP.g_zipT, MP.g_zipL, MP.e_pZip, MP.e_xZp, MP.g_abs, MP.g_intI, MP.g_intB, MP.g_repT, MP.e_pLRng, MP.e_xLR, MP.f_Pop, MP.f_xPop, MP.s_AppF, MP.s_xAF0, MP.s_xAF, MP.s_xAF2, MP.g_inI, MP.g_ninI, MP.g_inT, MP.g_ninT, MP.g_ninST, MP.e_c2, MP.e_c3, MP.e_c4, MP.e_c5, MP.e_pIsi, List.getElem?_cons_zero, List.getElem?_cons_succ, List.getElem?_nil, List.set_cons_zero, List.set_cons_succ, List.map_cons, List.map_nil, List.length_cons, List.length_nil, List.length_append, List.cons_append, List.nil_append, List.length_map, List.length_singleton, Nat.reduceBEq, Nat.reduceAdd, Nat.reduceSub, Nat.reduceMul, Nat.reduceEqDiff, Nat.reduceLeDiff, Nat.reduceLT, if_false, if_true, ite_true, ite_false, ↓reduceIte, Bool.not_true, Bool.not_false, Bool.false_eq_true, decide_true, decide_false, eq_self, and_true, true_and, and_self, Nat.zero_le, Nat.zero_add, Option.bind_some, Option.bind_none, Nat.lt_irrefl, Int.reduceToNat, Int.reducePow, Int.reduceNeg, Int.reduceMul, Int.reduceAdd, Int.reduceSub, Int.reduceLT, Int.reduceLE, Int.reduceEq, beq_self_eq_true, wipeE, MP.at0, MP.at1, MP.at2, MP.atLit, hsc]) ?_
      exact sqX eIf hr
    generalize hcm : cs.map chD = csd at *
    by_cases h1 : (1 : Int) < ks.length
    · by_cases h2 : ks ∈ cs.map Prod.fst
      · have h2' : decide (ks ∈ cs.map Prod.fst) = true := decide_eq_true h2
        rw [h2'] at hgn2
        refine ⟨cs, by omega, gc, e1 _ ?_⟩
        rw [hcm]
        simp (disch := (first | assumption | with_reducible rfl | decide +kernel | exact Or.inl (by decide +kernel) | exact Or.inr (by decide +kernel) | omega | (simp only [List.length_cons, List.length_nil, List.length_append, List.length_map, List.length_replicate, List.length_range] <;> omega) | rfl)) only [MP.of_some, MP.map_some, MP.e_lv, MP.e_lo, MP.e_pD, MP.e_xDs, MP.e_xDf, MP.e_pC, MP.e_pYes, MP.e_pVar, MP.e_p2, MP.e_x2, MP.e_p1, MP.e_x1, MP.e_pB, MP.e_xB, MP.e_pNot, MP.e_xNot, MP.e_pAnd, MP.e_xAndT, MP.e_xAndF, MP.e_pOr, MP.e_xOrT, MP.e_xOrF, MP.e_pAndV, MP.e_xAndVT, MP.e_xAndVF, MP.e_pOrV, MP.e_xOrVT, MP.e_xOrVF, MP.e_pNotV, MP.e_xNotV, MP.e_pIf, MP.e_xIfT, MP.e_xIfF, MP.e_p3, MP.e_x3, MP.e_x3bT, MP.e_x3bF, MP.e_pNil, MP.e_pCons, MP.e_xCons, MP.e_pTup, MP.e_xTp, MP.e_pLst, MP.e_xLs, MP.e_pNo, MP.e_pSome, MP.e_xSo, MP.e_pSl, MP.e_xSl, MP.e_pCall, MP.e_xG, MP.e_pSeq, MP.e_xSq, MP.e_pSeqR, MP.e_xSqR, MP.e_pRng, MP.e_pEnum, MP.e_xEn, MP.e_pComp, MP.e_xC, MP.e_xC2, MP.e_pUser, MP.e_xU, MP.e_xFv, MP.e_xFo, MP.e_xFe, MP.e_pSeal, MP.e_xSe, MP.e_xSeFv, MP.e_xSeFo, MP.e_pLook, MP.e_xLo, MP.e_xLoF, MP.e_pFld, MP.e_xFd, MP.e_xOb, MP.e_xLk0, MP.e_xLk1, MP.e_c0, MP.e_c1, MP.g_add, MP.g_catS, MP.g_catL, MP.g_catT, MP.g_sub, MP.g_mul, MP.g_rep, MP.g_div, MP.g_mod, MP.g_pow, MP.g_shl, MP.g_shr, MP.g_and, MP.g_orI, MP.g_neg, MP.g_lt, MP.g_le, MP.g_gt, MP.g_ge, MP.g_eqI, MP.g_eqS, MP.g_eqBo, MP.g_neI, MP.g_neS, MP.g_neBo, MP.g_is, MP.g_isNot, MP.n_none, MP.n_int, MP.n_str, MP.n_tup, MP.n_list, MP.n_bool, MP.g_max, MP.g_min, MP.g_lenL, MP.g_lenK, MP.g_lenT, MP.g_listL, MP.g_listK, MP.g_listT, MP.g_tupL, MP.g_tupT, MP.q_list, MP.q_lk, MP.q_tup, MP.g_rng1, MP.g_rng2, MP.g_enumL, MP.g_enumK, MP.g_ixL, MP.g_ixK, MP.g_ixT, MP.g_slL, MP.g_slK, MP.g_slT, MP.s_Nil, MP.s_Brk, MP.s_Cont, MP.s_Seq, MP.s_xSn, MP.s_xSr, MP.s_xSb, MP.s_xSc, MP.s_xSe, MP.s_Expr, MP.s_xEx, MP.s_SetV, MP.s_xSV, MP.s_SetO, MP.s_xSOs, MP.s_xSOf, MP.s_Ret, MP.s_xRts, MP.s_xRtf, MP.s_RetN, MP.s_RetS, MP.s_xRSo, MP.s_xRSv, MP.s_If, MP.s_xIfT, MP.s_xIfF, MP.s_Tup, MP.s_xTu, MP.s_xTb, MP.s_For, MP.s_xFor, MP.s_App, MP.s_xAp, MP.s_Thaw, MP.s_xTh, MP.s_Frz, MP.s_xFzo, MP.s_xFzv, MP.s_ExprF, MP.s_xEF, MP.s_SetF, MP.s_xSF, MP.s_RetF, MP.s_xRF, MP.s_IfF, MP.s_xIFT, MP.s_xIFF, MP.s_FldN, MP.s_xN, MP.s_xN2, MP.s_xN3, MP.s_put0, MP.s_put1, MP.s_putN, MP.f_P, MP.f_xPs, MP.f_xPf, MP.f_User, MP.f_xFU, MP.f_Meth, MP.f_xM, MP.f_xM2, MP.f_Make, MP.f_xMk, MP.f_xMkF, MP.fe_ok, MP.r_run, MP.r_un, MP.r_un0, MP.r_nx, MP.r_ret, MP.r_exc, MP.t_nx, MP.t_cont, MP.t_brk, MP.t_ret, MP.b_nm, MP.b_tp2, MP.b_tp3, MP.t_bk, MP.fe_pop, MP.s_appF, MP.s_dead, MP.g_divmod, MP.g_sorted, MP.g_allB, MP.g_anyB, MP.g_sumI, MP.g_zipT, MP.g_zipL, MP.e_pZip, MP.e_xZp, MP.g_abs, MP.g_intI, MP.g_intB, MP.g_repT, MP.e_pLRng, MP.e_xLR, MP.f_Pop, MP.f_xPop, MP.s_AppF, MP.s_xAF0, MP.s_xAF, MP.s_xAF2, MP.g_inI, MP.g_ninI, MP.g_inT, MP.g_ninT, MP.g_ninST, MP.e_c2, MP.e_c3, MP.e_c4, MP.e_c5, MP.e_pIsi, List.getElem?_cons_zero, List.getElem?_cons_succ, List.getElem?_nil, List.set_cons_zero, List.set_cons_succ, List.map_cons, List.map_nil, List.length_cons, List.length_nil, List.length_append, List.cons_append, List.nil_append, List.length_map, List.length_singleton, Nat.reduceBEq, Nat.reduceAdd, Nat.reduceSub, Nat.reduceMul, Nat.reduceEqDiff, Nat.reduceLeDiff, Nat.reduceLT, if_false, if_true, ite_true, ite_false, ↓reduceIte, Bool.not_true, Bool.not_false, Bool.false_eq_true, decide_true, decide_false, eq_self, and_true, true_and, and_self, Nat.zero_le, Nat.zero_add, Option.bind_some, Option.bind_none, Nat.lt_irrefl, Int.reduceToNat, Int.reducePow, Int.reduceNeg, Int.reduceMul, Int.reduceAdd, Int.reduceSub, Int.reduceLT, Int.reduceLE, Int.reduceEq, beq_self_eq_true, wipeE, MP.at0, MP.at1, MP.at2, MP.atLit, hkl, h1, hin, hgn2]
      · have h2' : decide (ks ∈ cs.map Prod.fst) = false := decide_eq_false h2
        rw [h2'] at hgn2
        refine ⟨cs ++ [(ks, n)], by simp, gc.add hks (by omega) h2 hn, e1 _ ?_⟩
        rw [← hsn]
        simp (disch := (first | assumption | with_reducible rfl | decide +kernel | exact Or.inl (by decide +kernel) | exact Or.inr (by decide +kernel) | omega | (simp only [List.length_cons, List.length_nil, List.length_append, List.length_map, List.length_replicate, List.length_range] <;> omega) | rfl)) only [MP.of_some, MP.map_some, MP.e_lv, MP.e_lo, MP.e_pD, MP.e_xDs, MP.e_xDf, MP.e_pC, MP.e_pYes, MP.e_pVar, MP.e_p2, MP.e_x2, MP.e_p1, MP.e_x1, MP.e_pB, MP.e_xB, MP.e_pNot, MP.e_xNot, MP.e_pAnd, MP.e_xAndT, MP.e_xAndF, MP.e_pOr, MP.e_xOrT, MP.e_xOrF, MP.e_pAndV, MP.e_xAndVT, MP.e_xAndVF, MP.e_pOrV, MP.e_xOrVT, MP.e_xOrVF, MP.e_pNotV, MP.e_xNotV, MP.e_pIf, MP.e_xIfT, MP.e_xIfF, MP.e_p3, MP.e_x3, MP.e_x3bT, MP.e_x3bF, MP.e_pNil, MP.e_pCons, MP.e_xCons, MP.e_pTup, MP.e_xTp, MP.e_pLst, MP.e_xLs, MP.e_pNo, MP.e_pSome, MP.e_xSo, MP.e_pSl, MP.e_xSl, MP.e_pCall, MP.e_xG, MP.e_pSeq, MP.e_xSq, MP.e_pSeqR, MP.e_xSqR, MP.e_pRng, MP.e_pEnum, MP.e_xEn, MP.e_pComp, MP.e_xC, MP.e_xC2, MP.e_pUser, MP.e_xU, MP.e_xFv, MP.e_xFo, MP.e_xFe, MP.e_pSeal, MP.e_xSe, MP.e_xSeFv, MP.e_xSeFo, MP.e_pLook, MP.e_xLo, MP.e_xLoF, MP.e_pFld, MP.e_xFd, MP.e_xOb, MP.e_xLk0, MP.e_xLk1, MP.e_c0, MP.e_c1, MP.g_add, MP.g_catS, MP.g_catL, MP.g_catT, MP.g_sub, MP.g_mul, MP.g_rep, MP.g_div, MP.g_mod, MP.g_pow, MP.g_shl, MP.g_shr, MP.g_and, MP.g_orI, MP.g_neg, MP.g_lt, MP.g_le, MP.g_gt, MP.g_ge, MP.g_eqI, MP.g_eqS, MP.g_eqBo, MP.g_neI, MP.g_neS, MP.g_neBo, MP.g_is, MP.g_isNot, MP.n_none, MP.n_int, MP.n_str, MP.n_tup, MP.n_list, MP.n_bool, MP.g_max, MP.g_min, MP.g_lenL, MP.g_lenK, MP.g_lenT, MP.g_listL, MP.g_listK, MP.g_listT, MP.g_tupL, MP.g_tupT, MP.q_list, MP.q_lk, MP.q_tup, MP.g_rng1, MP.g_rng2, MP.g_enumL, MP.g_enumK, MP.g_ixL, MP.g_ixK, MP.g_ixT, MP.g_slL, MP.g_slK, MP.g_slT, MP.s_Nil, MP.s_Brk, MP.s_Cont, MP.s_Seq, MP.s_xSn, MP.s_xSr, MP.s_xSb, MP.s_xSc, MP.s_xSe, MP.s_Expr, MP.s_xEx, MP.s_SetV, MP.s_xSV, MP.s_SetO, MP.s_xSOs, MP.s_xSOf, MP.s_Ret, MP.s_xRts, MP.s_xRtf, MP.s_RetN, MP.s_RetS, MP.s_xRSo, MP.s_xRSv, MP.s_If, MP.s_xIfT, MP.s_xIfF, MP.s_Tup, MP.s_xTu, MP.s_xTb, MP.s_For, MP.s_xFor, MP.s_App, MP.s_xAp, MP.s_Thaw, MP.s_xTh, MP.s_Frz, MP.s_xFzo, MP.s_xFzv, MP.s_ExprF, MP.s_xEF, MP.s_SetF, MP.s_xSF, MP.s_RetF, MP.s_xRF, MP.s_IfF, MP.s_xIFT, MP.s_xIFF, MP.s_FldN, MP.s_xN, MP.s_xN2, MP.s_xN3, MP.s_put0, MP.s_put1, MP.s_putN, MP.f_P, MP.f_xPs, MP.f_xPf, MP.f_User, MP.f_xFU, MP.f_Meth, MP.f_xM, MP.f_xM2, MP.f_Make, MP.f_xMk, MP.f_xMkF, MP.fe_ok, MP.r_run, MP.r_un, MP.r_un0, MP.r_nx, MP.r_ret, MP.r_exc, MP.t_nx, MP.t_cont, MP.t_brk, MP.t_ret, MP.b_nm, MP.b_tp2, MP.b_tp3, MP.t_bk, MP.fe_pop, MP.s_appF, MP.s_dead, MP.g_divmod, MP.g_sorted, MP.g_allB, MP.g_anyB, MP.g_sumI, MP.g_zipT, MP.g_zipL, MP.e_pZip, MP.e_xZp, MP.g_abs, MP.g_intI, MP.g_intB, MP.g_repT, MP.e_pLRng, MP.e_xLR, MP.f_Pop, MP.f_xPop, MP.s_AppF, MP.s_xAF0, MP.s_xAF, MP.s_xAF2, MP.g_inI, MP.g_ninI, MP.g_inT, MP.g_ninT, MP.g_ninST, MP.e_c2, MP.e_c3, MP.e_c4, MP.e_c5, MP.e_pIsi, List.getElem?_cons_zero, List.getElem?_cons_succ, List.getElem?_nil, List.set_cons_zero, List.set_cons_succ, List.map_cons, List.map_nil, List.length_cons, List.length_nil, List.length_append, List.cons_append, List.nil_append, List.length_map, List.length_singleton, Nat.reduceBEq, Nat.reduceAdd, Nat.reduceSub, Nat.reduceMul, Nat.reduceEqDiff, Nat.reduceLeDiff, Nat.reduceLT, if_false, if_true, ite_true, ite_false, ↓reduceIte, Bool.not_true, Bool.not_false, Bool.false_eq_true, decide_true, decide_false, eq_self, and_true, true_and, and_self, Nat.zero_le, Nat.zero_add, Option.bind_some, Option.bind_none, Nat.lt_irrefl, Int.reduceToNat, Int.reducePow, Int.reduceNeg, Int.reduceMul, Int.reduceAdd, Int.reduceSub, Int.reduceLT, Int.reduceLE, Int.reduceEq, beq_self_eq_true, wipeE, MP.at0, MP.at1, MP.at2, MP.atLit, hkl, h1, hin, hgn2, en]
    · refine ⟨cs, by omega, gc, e1 _ ?_⟩
      rw [hcm]
      simp (disch := (first | assumption | with_reducible rfl | decide +kernel | exact Or.inl (by decide +kernel) | exact Or.inr (by decide +kernel) | omega | (simp only [List.length_cons, List.length_nil, List.length_append, List.length_map, List.length_replicate, List.length_range] <;> omega) | rfl)) only [MP.of_some, MP.map_some, MP.e_lv, MP.e_lo, MP.e_pD, MP.e_xDs, MP.e_xDf, MP.e_pC, MP.e_pYes, MP.e_pVar, MP.e_p2, MP.e_x2, MP.e_p1, MP.e_x1, MP.e_pB, MP.e_xB, MP.e_pNot, MP.e_xNot, MP.e_pAnd, MP.e_xAndT, MP.e_xAndF, MP.e_pOr, MP.e_xOrT, MP.e_xOrF, MP.e_pAndV, MP.e_xAndVT, MP.e_xAndVF, MP.e_pOrV, MP.e_xOrVT, MP.e_xOrVF, MP.e_pNotV, MP.e_xNotV, MP.e_pIf, MP.e_xIfT, MP.e_xIfF, MP.e_p3, MP.e_x3, MP.e_x3bT, MP.e_x3bF, MP.e_pNil, MP.e_pCons, MP.e_xCons, MP.e_pTup, MP.e_xTp, MP.e_pLst, MP.e_xLs, MP.e_pNo, MP.e_pSome, MP.e_xSo, MP.e_pSl, MP.e_xSl, MP.e_pCall, MP.e_xG, MP.e_pSeq, MP.e_xSq, MP.e_pSeqR, MP.e_xSqR, MP.e_pRng, MP.e_pEnum, MP.e_xEn, MP.e_pComp, MP.e_xC, MP.e_xC2, MP.e_pUser, MP.e_xU, MP.e_xFv, MP.e_xFo, MP.e_xFe, MP.e_pSeal, MP.e_xSe, MP.e_xSeFv, MP.e_xSeFo, MP.e_pLook, MP.e_xLo, MP.e_xLoF, MP.e_pFld, MP.e_xFd, MP.e_xOb, MP.e_xLk0, MP.e_xLk1, MP.e_c0, MP.e_c1, MP.g_add, MP.g_catS, MP.g_catL, MP.g_catT, MP.g_sub, MP.g_mul, MP.g_rep, MP.g_div, MP.g_mod, MP.g_pow, MP.g_shl, MP.g_shr, MP.g_and, MP.g_orI, MP.g_neg, MP.g_lt, MP.g_le, MP.g_gt, MP.g_ge, MP.g_eqI, MP.g_eqS, MP.g_eqBo, MP.g_neI, MP.g_neS, MP.g_neBo, MP.g_is, MP.g_isNot, MP.n_none, MP.n_int, MP.n_str, MP.n_tup, MP.n_list, MP.n_bool, MP.g_max, MP.g_min, MP.g_lenL, MP.g_lenK, MP.g_lenT, MP.g_listL, MP.g_listK, MP.g_listT, MP.g_tupL, MP.g_tupT, MP.q_list, MP.q_lk, MP.q_tup, MP.g_rng1, MP.g_rng2, MP.g_enumL, MP.g_enumK, MP.g_ixL, MP.g_ixK, MP.g_ixT, MP.g_slL, MP.g_slK, MP.g_slT, MP.s_Nil, MP.s_Brk, MP.s_Cont, MP.s_Seq, MP.s_xSn, MP.s_xSr, MP.s_xSb, MP.s_xSc, MP.s_xSe, MP.s_Expr, MP.s_xEx, MP.s_SetV, MP.s_xSV, MP.s_SetO, MP.s_xSOs, MP.s_xSOf, MP.s_Ret, MP.s_xRts, MP.s_xRtf, MP.s_RetN, MP.s_RetS, MP.s_xRSo, MP.s_xRSv, MP.s_If, MP.s_xIfT, MP.s_xIfF, MP.s_Tup, MP.s_xTu, MP.s_xTb, MP.s_For, MP.s_xFor, MP.s_App, MP.s_xAp, MP.s_Thaw, MP.s_xTh, MP.s_Frz, MP.s_xFzo, MP.s_xFzv, MP.s_ExprF, MP.s_xEF, MP.s_SetF, MP.s_xSF, MP.s_RetF, MP.s_xRF, MP.s_IfF, MP.s_xIFT, MP.s_xIFF, MP.s_FldN, MP.s_xN, MP.s_xN2, MP.s_xN3, MP.s_put0, MP.s_put1, MP.s_putN, MP.f_P, MP.f_xPs, MP.f_xPf, MP.f_User, MP.f_xFU, MP.f_Meth, MP.f_xM, MP.f_xM2, MP.f_Make, MP.f_xMk, MP.f_xMkF, MP.fe_ok, MP.r_run, MP.r_un, MP.r_un0, MP.r_nx, MP.r_ret, MP.r_exc, MP.t_nx, MP.t_cont, MP.t_brk, MP.t_ret, MP.b_nm, MP.b_tp2, MP.b_tp3, MP.t_bk, MP.fe_pop, MP.s_appF, MP.s_dead, MP.g_divmod, MP.g_sorted, MP.g_allB, MP.g_anyB, MP.g_sumI, MP.g_zipT, MP.g_zipL, MP.e_pZip, MP.e_xZp, MP.g_abs, MP.g_intI, MP.g_intB, MP.g_repT, MP.e_pLRng, MP.e_xLR, MP.f_Pop, MP.f_xPop, MP.s_AppF, MP.s_xAF0, MP.s_xAF, MP.s_xAF2, MP.g_inI, MP.g_ninI, MP.g_inT, MP.g_ninT, MP.g_ninST, MP.e_c2, MP.e_c3, MP.e_c4, MP.e_c5, MP.e_pIsi, List.getElem?_cons_zero, List.getElem?_cons_succ, List.getElem?_nil, List.set_cons_zero, List.set_cons_succ, List.map_cons, List.map_nil, List.length_cons, List.length_nil, List.length_append, List.cons_append, List.nil_append, List.length_map, List.length_singleton, Nat.reduceBEq, Nat.reduceAdd, Nat.reduceSub, Nat.reduceMul, Nat.reduceEqDiff, Nat.reduceLeDiff, Nat.reduceLT, if_false, if_true, ite_true, ite_false, ↓reduceIte, Bool.not_true, Bool.not_false, Bool.false_eq_true, decide_true, decide_false, eq_self, and_true, true_and, and_self, Nat.zero_le, Nat.zero_add, Option.bind_some, Option.bind_none, Nat.lt_irrefl, Int.reduceToNat, Int.reducePow, Int.reduceNeg, Int.reduceMul, Int.reduceAdd, Int.reduceSub, Int.reduceLT, Int.reduceLE, Int.reduceEq, beq_self_eq_true, wipeE, MP.at0, MP.at1, MP.at2, MP.atLit, hkl, h1]
  obtain ⟨cs', m1, m2, m3⟩ := main
  exact ⟨cs', _, _, m1, m2, m3⟩
theorem m_bed (ns : List Int) (at_ : Nat) (hat : at_ ≤ 30) : ∃ b, Good b ∧ sem_l_bed [.lk (zs ns), .int (at_ : Nat)] [] = .ok (.v (bedD b)) [] := by
  unfold sem_l_bed
  refine run_ex (Q := fun r => ∃ b, Good b ∧ r = .ok (.v (bedD b)) []) [.v (.lk (zs ns)), .v (.int (at_ : Nat)), .un, .un, .un, .un, .un, .un, .un, .un, .un, .un, .un, .un, .un] rfl ?_
  unfold b_l_bed
  have c0 := m_cell ns (at_ : Int) (by omega)
  generalize ns.getD ((at_ : Nat) : Int).toNat 0 = c at c0
  refine sq (P := fun fl => ∃ b, Good b ∧ fl.fr = .ok (.v (bedD b)) []) (s' := ⟨[.v (.lk (zs ns)), .v (.int (at_ : Nat)), .v (.int c), .un, .un, .un, .un, .un, .un, .un, .un, .un, .un, .un, .un], []⟩) (by unfold st_l_bed_1; simp (disch := (first | assumption | with_reducible rfl | decide +kernel | exact Or.inl (by decide +kernel) | exact Or.inr (by decide +kernel) | omega | (simp only [List.length_cons, List.length_nil, List.length_append, List.length_map, List.length_replicate, List.length_range] <;> omega) | rfl)) only [MP.of_some, MP.map_some, MP.e_lv, MP.e_lo, MP.e_pD, MP.e_xDs, MP.e_xDf, MP.e_pC, MP.e_pYes, MP.e_pVar, MP.e_p2, MP.e_x2, MP.e_p1, MP.e_x1, MP.e_pB, MP.e_xB, MP.e_pNot, MP.e_xNot, MP.e_pAnd, MP.e_xAndT, MP.e_xAndF, MP.e_pOr, MP.e_xOrT, MP.e_xOrF, MP.e_pAndV, MP.e_xAndVT, MP.e_xAndVF, MP.e_pOrV, MP.e_xOrVT, MP.e_xOrVF, MP.e_pNotV, MP.e_xNotV, MP.e_pIf, MP.e_xIfT, MP.e_xIfF, MP.e_p3, MP.e_x3, MP.e_x3bT, MP.e_x3bF, MP.e_pNil, MP.e_pCons, MP.e_xCons, MP.e_pTup, MP.e_xTp, MP.e_pLst, MP.e_xLs, MP.e_pNo, MP.e_pSome, MP.e_xSo, MP.e_pSl, MP.e_xSl, MP.e_pCall, MP.e_xG, MP.e_pSeq, MP.e_xSq, MP.e_pSeqR, MP.e_xSqR, MP.e_pRng, MP.e_pEnum, MP.e_xEn, MP.e_pComp, MP.e_xC, MP.e_xC2, MP.e_pUser, MP.e_xU, MP.e_xFv, MP.e_xFo, MP.e_xFe, MP.e_pSeal, MP.e_xSe, MP.e_xSeFv, MP.e_xSeFo, MP.e_pLook, MP.e_xLo, MP.e_xLoF, MP.e_pFld, MP.e_xFd, MP.e_xOb, MP.e_xLk0, MP.e_xLk1, MP.e_c0, MP.e_c1, MP.g_add, MP.g_catS, MP.g_catL, MP.g_catT, MP.g_sub, MP.g_mul, MP.g_rep, MP.g_div, MP.g_mod, MP.g_pow, MP.g_shl, MP.g_shr, MP.g_and, MP.g_orI, MP.g_neg, MP.g_lt, MP.g_le, MP.g_gt, MP.g_ge, MP.g_eqI, MP.g_eqS, MP.g_eqBo, MP.g_neI, MP.g_neS, MP.g_neBo, MP.g_is, MP.g_isNot, MP.n_none, MP.n_int, MP.n_str, MP.n_tup, MP.n_list, MP.n_bool, MP.g_max, MP.g_min, MP.g_lenL, MP.g_lenK, MP.g_lenT, MP.g_listL, MP.g_listK, MP.g_listT, MP.g_tupL, MP.g_tupT, MP.q_list, MP.q_lk, MP.q_tup, MP.g_rng1, MP.g_rng2, MP.g_enumL, MP.g_enumK, MP.g_ixL, MP.g_ixK, MP.g_ixT, MP.g_slL, MP.g_slK, MP.g_slT, MP.s_Nil, MP.s_Brk, MP.s_Cont, MP.s_Seq, MP.s_xSn, MP.s_xSr, MP.s_xSb, MP.s_xSc, MP.s_xSe, MP.s_Expr, MP.s_xEx, MP.s_SetV, MP.s_xSV, MP.s_SetO, MP.s_xSOs, MP.s_xSOf, MP.s_Ret, MP.s_xRts, MP.s_xRtf, MP.s_RetN, MP.s_RetS, MP.s_xRSo, MP.s_xRSv, MP.s_If, MP.s_xIfT, MP.s_xIfF, MP.s_Tup, MP.s_xTu, MP.s_xTb, MP.s_For, MP.s_xFor, MP.s_App, MP.s_xAp, MP.s_Thaw, MP.s_xTh, MP.s_Frz, MP.s_xFzo, MP.s_xFzv, MP.s_ExprF, MP.s_xEF, MP.s_SetF, MP.s_xSF, MP.s_RetF, MP.s_xRF, MP.s_IfF, MP.s_xIFT, MP.s_xIFF, MP.s_FldN, MP.s_xN, MP.s_xN2, MP.s_xN3, MP.s_put0, MP.s_put1, MP.s_putN, MP.f_P, MP.f_xPs, MP.f_xPf, MP.f_User, MP.f_xFU, MP.f_Meth, MP.f_xM, MP.f_xM2, MP.f_Make, MP.f_xMk, MP.f_xMkF, MP.fe_ok, MP.r_run, MP.r_un, MP.r_un0, MP.r_nx, MP.r_ret, MP.r_exc, MP.t_nx, MP.t_cont, MP.t_brk, MP.t_ret, MP.b_nm, MP.b_tp2, MP.b_tp3, MP.t_bk, MP.fe_pop, MP.s_appF, MP.s_dead, MP.g_divmod, MP.g_sorted, MP.g_allB, MP.g_anyB, MP.g_sumI, MP.g_zipT, MP.g_zipL, MP.e_pZip, MP.e_xZp, MP.g_abs, MP.g_intI, MP.g_intB, MP.g_repT, MP.e_pLRng, MP.e_xLR, MP.f_Pop, MP.f_xPop, MP.s_AppF, MP.s_xAF0, MP.s_xAF, MP.s_xAF2, MP.g_inI, MP.g_ninI, MP.g_inT, MP.g_ninT, MP.g_ninST, MP.e_c2, MP.e_c3, MP.e_c4, MP.e_c5, MP.e_pIsi, List.getElem?_cons_zero, List.getElem?_cons_succ, List.getElem?_nil, List.set_cons_zero, List.set_cons_succ, List.map_cons, List.map_nil, List.length_cons, List.length_nil, List.length_append, List.cons_append, List.nil_append, List.length_map, List.length_singleton, Nat.reduceBEq, Nat.reduceAdd, Nat.reduceSub, Nat.reduceMul, Nat.reduceEqDiff, Nat.reduceLeDiff, Nat.reduceLT, if_false, if_true, ite_true, ite_false, ↓reduceIte, Bool.not_true, Bool.not_false, Bool.false_eq_true, decide_true, decide_false, eq_self, and_true, true_and, and_self, Nat.zero_le, Nat.zero_add, Option.bind_some, Option.bind_none, Nat.lt_irrefl, Int.reduceToNat, Int.reducePow, Int.reduceNeg, Int.reduceMul, Int.reduceAdd, Int.reduceSub, Int.reduceLT, Int.reduceLE, Int.reduceEq, beq_self_eq_true, wipeE, MP.at0, MP.at1, MP.at2, MP.atLit, c0]) ?_
  by_cases hsp : c < 0 ∨ 1000000000000000000 ≤ c
  · obtain ⟨xs, hx, es⟩ := m_stream c 20 (by decide)
    have es : sem_l_stream [.int c, .int 20] [] = .ok (.own (.list (zs xs))) [] := es
    obtain ⟨b, g, eb⟩ := m_read_bed xs hx
    refine ⟨b, g, ?_⟩
    have e2 : st_l_bed_2 ⟨[.v (.lk (zs ns)), .v (.int (at_ : Nat)), .v (.int c), .un, .un, .un, .un, .un, .un, .un, .un, .un, .un, .un, .un], []⟩ = .ret (.v (bedD b)) ⟨[.v (.lk (zs ns)), .v (.int (at_ : Nat)), .v (.int c), .un, .un, .un, .un, .un, .un, .un, .un, .un, .un, .un, .un], []⟩ := by
      unfold st_l_bed_2
      by_cases h1 : c < 0
      · simp (disch := (first | assumption | with_reducible rfl | decide +kernel | exact Or.inl (by decide +kernel) | exact Or.inr (by decide +kernel) | omega | (simp only [List.length_cons, List.length_nil, List.length_append, List.length_map, List.length_replicate, List.length_range] <;> omega) | rfl)) only [MP.of_some, MP.map_some, MP.e_lv, MP.e_lo, MP.e_pD, MP.e_xDs, MP.e_xDf, MP.e_pC, MP.e_pYes, MP.e_pVar, MP.e_p2, MP.e_x2, MP.e_p1, MP.e_x1, MP.e_pB, MP.e_xB, MP.e_pNot, MP.e_xNot, MP.e_pAnd, MP.e_xAndT, MP.e_xAndF, MP.e_pOr, MP.e_xOrT, MP.e_xOrF, MP.e_pAndV, MP.e_xAndVT, MP.e_xAndVF, MP.e_pOrV, MP.e_xOrVT, MP.e_xOrVF, MP.e_pNotV, MP.e_xNotV, MP.e_pIf, MP.e_xIfT, MP.e_xIfF, MP.e_p3, MP.e_x3, MP.e_x3bT, MP.e_x3bF, MP.e_pNil, MP.e_pCons, MP.e_xCons, MP.e_pTup, MP.e_xTp, MP.e_pLst, MP.e_xLs, MP.e_pNo, MP.e_pSome, MP.e_xSo, MP.e_pSl, MP.e_xSl, MP.e_pCall, MP.e_xG, MP.e_pSeq, MP.e_xSq, MP.e_pSeqR, MP.e_xSqR, MP.e_pRng, MP.e_pEnum, MP.e_xEn, MP.e_pComp, MP.e_xC, MP.e_xC2, MP.e_pUser, MP.e_xU, MP.e_xFv, MP.e_xFo, MP.e_xFe, MP.e_pSeal, MP.e_xSe, MP.e_xSeFv, MP.e_xSeFo, MP.e_pLook, MP.e_xLo, MP.e_xLoF, MP.e_pFld, MP.e_xFd, MP.e_xOb, MP.e_xLk0, MP.e_xLk1, MP.e_c0, MP.e_c1, MP.g_add, MP.g_catS, MP.g_catL, MP.g_catT, MP.g_sub, MP.g_mul, MP.g_rep, MP.g_div, MP.g_mod, MP.g_pow, MP.g_shl, MP.g_shr, MP.g_and, MP.g_orI, MP.g_neg, MP.g_lt, MP.g_le, MP.g_gt, MP.g_ge, MP.g_eqI, MP.g_eqS, MP.g_eqBo, MP.g_neI, MP.g_neS, MP.g_neBo, MP.g_is, MP.g_isNot, MP.n_none, MP.n_int, MP.n_str, MP.n_tup, MP.n_list, MP.n_bool, MP.g_max, MP.g_min, MP.g_lenL, MP.g_lenK, MP.g_lenT, MP.g_listL, MP.g_listK, MP.g_listT, MP.g_tupL, MP.g_tupT, MP.q_list, MP.q_lk, MP.q_tup, MP.g_rng1, MP.g_rng2, MP.g_enumL, MP.g_enumK, MP.g_ixL, MP.g_ixK, MP.g_ixT, MP.g_slL, MP.g_slK, MP.g_slT, MP.s_Nil, MP.s_Brk, MP.s_Cont, MP.s_Seq, MP.s_xSn, MP.s_xSr, MP.s_xSb, MP.s_xSc, MP.s_xSe, MP.s_Expr, MP.s_xEx, MP.s_SetV, MP.s_xSV, MP.s_SetO, MP.s_xSOs, MP.s_xSOf, MP.s_Ret, MP.s_xRts, MP.s_xRtf, MP.s_RetN, MP.s_RetS, MP.s_xRSo, MP.s_xRSv, MP.s_If, MP.s_xIfT, MP.s_xIfF, MP.s_Tup, MP.s_xTu, MP.s_xTb, MP.s_For, MP.s_xFor, MP.s_App, MP.s_xAp, MP.s_Thaw, MP.s_xTh, MP.s_Frz, MP.s_xFzo, MP.s_xFzv, MP.s_ExprF, MP.s_xEF, MP.s_SetF, MP.s_xSF, MP.s_RetF, MP.s_xRF, MP.s_IfF, MP.s_xIFT, MP.s_xIFF, MP.s_FldN, MP.s_xN, MP.s_xN2, MP.s_xN3, MP.s_put0, MP.s_put1, MP.s_putN, MP.f_P, MP.f_xPs, MP.f_xPf, MP.f_User, MP.f_xFU, MP.f_Meth, MP.f_xM, MP.f_xM2, MP.f_Make, MP.f_xMk, MP.f_xMkF, MP.fe_ok, MP.r_run, MP.r_un, MP.r_un0, MP.r_nx, MP.r_ret, MP.r_exc, MP.t_nx, MP.t_cont, MP.t_brk, MP.t_ret, MP.b_nm, MP.b_tp2, MP.b_tp3, MP.t_bk, MP.fe_pop, MP.s_appF, MP.s_dead, MP.g_divmod, MP.g_sorted, MP.g_allB, MP.g_anyB, MP.g_sumI, MP.g_zipT, MP.g_zipL, MP.e_pZip, MP.e_xZp, MP.g_abs, MP.g_intI, MP.g_intB, MP.g_repT, MP.e_pLRng, MP.e_xLR, MP.f_Pop, MP.f_xPop, MP.s_AppF, MP.s_xAF0, MP.s_xAF, MP.s_xAF2, MP.g_inI, MP.g_ninI, MP.g_inT, MP.g_ninT, MP.g_ninST, MP.e_c2, MP.e_c3, MP.e_c4, MP.e_c5, MP.e_pIsi, List.getElem?_cons_zero, List.getElem?_cons_succ, List.getElem?_nil, List.set_cons_zero, List.set_cons_succ, List.map_cons, List.map_nil, List.length_cons, List.length_nil, List.length_append, List.cons_append, List.nil_append, List.length_map, List.length_singleton, Nat.reduceBEq, Nat.reduceAdd, Nat.reduceSub, Nat.reduceMul, Nat.reduceEqDiff, Nat.reduceLeDiff, Nat.reduceLT, if_false, if_true, ite_true, ite_false, ↓reduceIte, Bool.not_true, Bool.not_false, Bool.false_eq_true, decide_true, decide_false, eq_self, and_true, true_and, and_self, Nat.zero_le, Nat.zero_add, Option.bind_some, Option.bind_none, Nat.lt_irrefl, Int.reduceToNat, Int.reducePow, Int.reduceNeg, Int.reduceMul, Int.reduceAdd, Int.reduceSub, Int.reduceLT, Int.reduceLE, Int.reduceEq, beq_self_eq_true, wipeE, MP.at0, MP.at1, MP.at2, MP.atLit, h1, es, eb]
      · have h2 := hsp.resolve_left h1
        simp (disch := (first | assumption | with_reducible rfl | decide +kernel | exact Or.inl (by decide +kernel) | exact Or.inr (by decide +kernel) | omega | (simp only [List.length_cons, List.length_nil, List.length_append, List.length_map, List.length_replicate, List.length_range] <;> omega) | rfl)) only [MP.of_some, MP.map_some, MP.e_lv, MP.e_lo, MP.e_pD, MP.e_xDs, MP.e_xDf, MP.e_pC, MP.e_pYes, MP.e_pVar, MP.e_p2, MP.e_x2, MP.e_p1, MP.e_x1, MP.e_pB, MP.e_xB, MP.e_pNot, MP.e_xNot, MP.e_pAnd, MP.e_xAndT, MP.e_xAndF, MP.e_pOr, MP.e_xOrT, MP.e_xOrF, MP.e_pAndV, MP.e_xAndVT, MP.e_xAndVF, MP.e_pOrV, MP.e_xOrVT, MP.e_xOrVF, MP.e_pNotV, MP.e_xNotV, MP.e_pIf, MP.e_xIfT, MP.e_xIfF, MP.e_p3, MP.e_x3, MP.e_x3bT, MP.e_x3bF, MP.e_pNil, MP.e_pCons, MP.e_xCons, MP.e_pTup, MP.e_xTp, MP.e_pLst, MP.e_xLs, MP.e_pNo, MP.e_pSome, MP.e_xSo, MP.e_pSl, MP.e_xSl, MP.e_pCall, MP.e_xG, MP.e_pSeq, MP.e_xSq, MP.e_pSeqR, MP.e_xSqR, MP.e_pRng, MP.e_pEnum, MP.e_xEn, MP.e_pComp, MP.e_xC, MP.e_xC2, MP.e_pUser, MP.e_xU, MP.e_xFv, MP.e_xFo, MP.e_xFe, MP.e_pSeal, MP.e_xSe, MP.e_xSeFv, MP.e_xSeFo, MP.e_pLook, MP.e_xLo, MP.e_xLoF, MP.e_pFld, MP.e_xFd, MP.e_xOb, MP.e_xLk0, MP.e_xLk1, MP.e_c0, MP.e_c1, MP.g_add, MP.g_catS, MP.g_catL, MP.g_catT, MP.g_sub, MP.g_mul, MP.g_rep, MP.g_div, MP.g_mod, MP.g_pow, MP.g_shl, MP.g_shr, MP.g_and, MP.g_orI, MP.g_neg, MP.g_lt, MP.g_le, MP.g_gt, MP.g_ge, MP.g_eqI, MP.g_eqS, MP.g_eqBo, MP.g_neI, MP.g_neS, MP.g_neBo, MP.g_is, MP.g_isNot, MP.n_none, MP.n_int, MP.n_str, MP.n_tup, MP.n_list, MP.n_bool, MP.g_max, MP.g_min, MP.g_lenL, MP.g_lenK, MP.g_lenT, MP.g_listL, MP.g_listK, MP.g_listT, MP.g_tupL, MP.g_tupT, MP.q_list, MP.q_lk, MP.q_tup, MP.g_rng1, MP.g_rng2, MP.g_enumL, MP.g_enumK, MP.g_ixL, MP.g_ixK, MP.g_ixT, MP.g_slL, MP.g_slK, MP.g_slT, MP.s_Nil, MP.s_Brk, MP.s_Cont, MP.s_Seq, MP.s_xSn, MP.s_xSr, MP.s_xSb, MP.s_xSc, MP.s_xSe, MP.s_Expr, MP.s_xEx, MP.s_SetV, MP.s_xSV, MP.s_SetO, MP.s_xSOs, MP.s_xSOf, MP.s_Ret, MP.s_xRts, MP.s_xRtf, MP.s_RetN, MP.s_RetS, MP.s_xRSo, MP.s_xRSv, MP.s_If, MP.s_xIfT, MP.s_xIfF, MP.s_Tup, MP.s_xTu, MP.s_xTb, MP.s_For, MP.s_xFor, MP.s_App, MP.s_xAp, MP.s_Thaw, MP.s_xTh, MP.s_Frz, MP.s_xFzo, MP.s_xFzv, MP.s_ExprF, MP.s_xEF, MP.s_SetF, MP.s_xSF, MP.s_RetF, MP.s_xRF, MP.s_IfF, MP.s_xIFT, MP.s_xIFF, MP.s_FldN, MP.s_xN, MP.s_xN2, MP.s_xN3, MP.s_put0, MP.s_put1, MP.s_putN, MP.f_P, MP.f_xPs, MP.f_xPf, MP.f_User, MP.f_xFU, MP.f_Meth, MP.f_xM, MP.f_xM2, MP.f_Make, MP.f_xMk, MP.f_xMkF, MP.fe_ok, MP.r_run, MP.r_un, MP.r_un0, MP.r_nx, MP.r_ret, MP.r_exc, MP.t_nx, MP.t_cont, MP.t_brk, MP.t_ret, MP.b_nm, MP.b_tp2, MP.b_tp3, MP.t_bk, MP.fe_pop, MP.s_appF, MP.s_dead, MP.g_divmod, MP.g_sorted, MP.g_allB, MP.g_anyB, MP.g_sumI, MP.g_zipT, MP.g_zipL, MP.e_pZip, MP.e_xZp, MP.g_abs, MP.g_intI, MP.g_intB, MP.g_repT, MP.e_pLRng, MP.e_xLR, MP.f_Pop, MP.f_xPop, MP.s_AppF, MP.s_xAF0, MP.s_xAF, MP.s_xAF2, MP.g_inI, MP.g_ninI, MP.g_inT, MP.g_ninT, MP.g_ninST, MP.e_c2, MP.e_c3, MP.e_c4, MP.e_c5, MP.e_pIsi, List.getElem?_cons_zero, List.getElem?_cons_succ, List.getElem?_nil, List.set_cons_zero, List.set_cons_succ, List.map_cons, List.map_nil, List.length_cons, List.length_nil, List.length_append, List.cons_append, List.nil_append, List.length_map, List.length_singleton, Nat.reduceBEq, Nat.reduceAdd, Nat.reduceSub, Nat.reduceMul, Nat.reduceEqDiff, Nat.reduceLeDiff, Nat.reduceLT, if_false, if_true, ite_true, ite_false, ↓reduceIte, Bool.not_true, Bool.not_false, Bool.false_eq_true, decide_true, decide_false, eq_self, and_true, true_and, and_self, Nat.zero_le, Nat.zero_add, Option.bind_some, Option.bind_none, Nat.lt_irrefl, Int.reduceToNat, Int.reducePow, Int.reduceNeg, Int.reduceMul, Int.reduceAdd, Int.reduceSub, Int.reduceLT, Int.reduceLE, Int.reduceEq, beq_self_eq_true, wipeE, MP.at0, MP.at1, MP.at2, MP.atLit, h1, h2, es, eb]
    rw [s_Seq, e2, s_xSr, r_ret]
  have h1 : ¬ c < 0 := fun h => hsp (.inl h)
  have h2 : ¬ 1000000000000000000 ≤ c := fun h => hsp (.inr h)
  refine sq (P := fun fl => ∃ b, Good b ∧ fl.fr = .ok (.v (bedD b)) []) (s' := ⟨[.v (.lk (zs ns)), .v (.int (at_ : Nat)), .v (.int c), .un, .un, .un, .un, .un, .un, .un, .un, .un, .un, .un, .un], []⟩) (by unfold st_l_bed_2; simp (disch := (first | assumption | with_reducible rfl | decide +kernel | exact Or.inl (by decide +kernel) | exact Or.inr (by decide +kernel) | omega | (simp only [List.length_cons, List.length_nil, List.length_append, List.length_map, List.length_replicate, List.length_range] <;> omega) | rfl)) only [MP.of_some, MP.map_some, MP.e_lv, MP.e_lo, MP.e_pD, MP.e_xDs, MP.e_xDf, MP.e_pC, MP.e_pYes, MP.e_pVar, MP.e_p2, MP.e_x2, MP.e_p1, MP.e_x1, MP.e_pB, MP.e_xB, MP.e_pNot, MP.e_xNot, MP.e_pAnd, MP.e_xAndT, MP.e_xAndF, MP.e_pOr, MP.e_xOrT, MP.e_xOrF, MP.e_pAndV, MP.e_xAndVT, MP.e_xAndVF, MP.e_pOrV, MP.e_xOrVT, MP.e_xOrVF, MP.e_pNotV, MP.e_xNotV, MP.e_pIf, MP.e_xIfT, MP.e_xIfF, MP.e_p3, MP.e_x3, MP.e_x3bT, MP.e_x3bF, MP.e_pNil, MP.e_pCons, MP.e_xCons, MP.e_pTup, MP.e_xTp, MP.e_pLst, MP.e_xLs, MP.e_pNo, MP.e_pSome, MP.e_xSo, MP.e_pSl, MP.e_xSl, MP.e_pCall, MP.e_xG, MP.e_pSeq, MP.e_xSq, MP.e_pSeqR, MP.e_xSqR, MP.e_pRng, MP.e_pEnum, MP.e_xEn, MP.e_pComp, MP.e_xC, MP.e_xC2, MP.e_pUser, MP.e_xU, MP.e_xFv, MP.e_xFo, MP.e_xFe, MP.e_pSeal, MP.e_xSe, MP.e_xSeFv, MP.e_xSeFo, MP.e_pLook, MP.e_xLo, MP.e_xLoF, MP.e_pFld, MP.e_xFd, MP.e_xOb, MP.e_xLk0, MP.e_xLk1, MP.e_c0, MP.e_c1, MP.g_add, MP.g_catS, MP.g_catL, MP.g_catT, MP.g_sub, MP.g_mul, MP.g_rep, MP.g_div, MP.g_mod, MP.g_pow, MP.g_shl, MP.g_shr, MP.g_and, MP.g_orI, MP.g_neg, MP.g_lt, MP.g_le, MP.g_gt, MP.g_ge, MP.g_eqI, MP.g_eqS, MP.g_eqBo, MP.g_neI, MP.g_neS, MP.g_neBo, MP.g_is, MP.g_isNot, MP.n_none, MP.n_int, MP.n_str, MP.n_tup, MP.n_list, MP.n_bool, MP.g_max, MP.g_min, MP.g_lenL, MP.g_lenK, MP.g_lenT, MP.g_listL, MP.g_listK, MP.g_listT, MP.g_tupL, MP.g_tupT, MP.q_list, MP.q_lk, MP.q_tup, MP.g_rng1, MP.g_rng2, MP.g_enumL, MP.g_enumK, MP.g_ixL, MP.g_ixK, MP.g_ixT, MP.g_slL, MP.g_slK, MP.g_slT, MP.s_Nil, MP.s_Brk, MP.s_Cont, MP.s_Seq, MP.s_xSn, MP.s_xSr, MP.s_xSb, MP.s_xSc, MP.s_xSe, MP.s_Expr, MP.s_xEx, MP.s_SetV, MP.s_xSV, MP.s_SetO, MP.s_xSOs, MP.s_xSOf, MP.s_Ret, MP.s_xRts, MP.s_xRtf, MP.s_RetN, MP.s_RetS, MP.s_xRSo, MP.s_xRSv, MP.s_If, MP.s_xIfT, MP.s_xIfF, MP.s_Tup, MP.s_xTu, MP.s_xTb, MP.s_For, MP.s_xFor, MP.s_App, MP.s_xAp, MP.s_Thaw, MP.s_xTh, MP.s_Frz, MP.s_xFzo, MP.s_xFzv, MP.s_ExprF, MP.s_xEF, MP.s_SetF, MP.s_xSF, MP.s_RetF, MP.s_xRF, MP.s_IfF, MP.s_xIFT, MP.s_xIFF, MP.s_FldN, MP.s_xN, MP.s_xN2, MP.s_xN3, MP.s_put0, MP.s_put1, MP.s_putN, MP.f_P, MP.f_xPs, MP.f_xPf, MP.f_User, MP.f_xFU, MP.f_Meth, MP.f_xM, MP.f_xM2, MP.f_Make, MP.f_xMk, MP.f_xMkF, MP.fe_ok, MP.r_run, MP.r_un, MP.r_un0, MP.r_nx, MP.r_ret, MP.r_exc, MP.t_nx, MP.t_cont, MP.t_brk, MP.t_ret, MP.b_nm, MP.b_tp2, MP.b_tp3, MP.t_bk, MP.fe_pop, MP.s_appF, MP.s_dead, MP.g_divmod, MP.g_sorted, MP.g_allB, MP.g_anyB, MP.g_sumI, MP.g_zipT, MP.g_zipL, MP.e_pZip, MP.e_xZp, MP.g_abs, MP.g_intI, MP.g_intB, MP.g_repT, MP.e_pLRng, MP.e_xLR, MP.f_Pop, MP.f_xPop, MP.s_AppF, MP.s_xAF0, MP.s_xAF, MP.s_xAF2, MP.g_inI, MP.g_ninI, MP.g_inT, MP.g_ninT, MP.g_ninST, MP.e_c2, MP.e_c3, MP.e_c4, MP.e_c5, MP.e_pIsi, List.getElem?_cons_zero, List.getElem?_cons_succ, List.getElem?_nil, List.set_cons_zero, List.set_cons_succ, List.map_cons, List.map_nil, List.length_cons, List.length_nil, List.length_append, List.cons_append, List.nil_append, List.length_map, List.length_singleton, Nat.reduceBEq, Nat.reduceAdd, Nat.reduceSub, Nat.reduceMul, Nat.reduceEqDiff, Nat.reduceLeDiff, Nat.reduceLT, if_false, if_true, ite_true, ite_false, ↓reduceIte, Bool.not_true, Bool.not_false, Bool.false_eq_true, decide_true, decide_false, eq_self, and_true, true_and, and_self, Nat.zero_le, Nat.zero_add, Option.bind_some, Option.bind_none, Nat.lt_irrefl, Int.reduceToNat, Int.reducePow, Int.reduceNeg, Int.reduceMul, Int.reduceAdd, Int.reduceSub, Int.reduceLT, Int.reduceLE, Int.reduceEq, beq_self_eq_true, wipeE, MP.at0, MP.at1, MP.at2, MP.atLit, h1, h2]) ?_
  have hwd := m_wide c (at_ : Int) (by omega)
  generalize wide c (at_ : Int) = f at hwd
  refine sq (P := fun fl => ∃ b, Good b ∧ fl.fr = .ok (.v (bedD b)) []) (s' := ⟨[.v (.lk (zs ns)), .v (.int (at_ : Nat)), .v (.int f), .un, .un, .un, .un, .un, .un, .un, .un, .un, .un, .un, .un], []⟩) (by unfold st_l_bed_3; simp (disch := (first | assumption | with_reducible rfl | decide +kernel | exact Or.inl (by decide +kernel) | exact Or.inr (by decide +kernel) | omega | (simp only [List.length_cons, List.length_nil, List.length_append, List.length_map, List.length_replicate, List.length_range] <;> omega) | rfl)) only [MP.of_some, MP.map_some, MP.e_lv, MP.e_lo, MP.e_pD, MP.e_xDs, MP.e_xDf, MP.e_pC, MP.e_pYes, MP.e_pVar, MP.e_p2, MP.e_x2, MP.e_p1, MP.e_x1, MP.e_pB, MP.e_xB, MP.e_pNot, MP.e_xNot, MP.e_pAnd, MP.e_xAndT, MP.e_xAndF, MP.e_pOr, MP.e_xOrT, MP.e_xOrF, MP.e_pAndV, MP.e_xAndVT, MP.e_xAndVF, MP.e_pOrV, MP.e_xOrVT, MP.e_xOrVF, MP.e_pNotV, MP.e_xNotV, MP.e_pIf, MP.e_xIfT, MP.e_xIfF, MP.e_p3, MP.e_x3, MP.e_x3bT, MP.e_x3bF, MP.e_pNil, MP.e_pCons, MP.e_xCons, MP.e_pTup, MP.e_xTp, MP.e_pLst, MP.e_xLs, MP.e_pNo, MP.e_pSome, MP.e_xSo, MP.e_pSl, MP.e_xSl, MP.e_pCall, MP.e_xG, MP.e_pSeq, MP.e_xSq, MP.e_pSeqR, MP.e_xSqR, MP.e_pRng, MP.e_pEnum, MP.e_xEn, MP.e_pComp, MP.e_xC, MP.e_xC2, MP.e_pUser, MP.e_xU, MP.e_xFv, MP.e_xFo, MP.e_xFe, MP.e_pSeal, MP.e_xSe, MP.e_xSeFv, MP.e_xSeFo, MP.e_pLook, MP.e_xLo, MP.e_xLoF, MP.e_pFld, MP.e_xFd, MP.e_xOb, MP.e_xLk0, MP.e_xLk1, MP.e_c0, MP.e_c1, MP.g_add, MP.g_catS, MP.g_catL, MP.g_catT, MP.g_sub, MP.g_mul, MP.g_rep, MP.g_div, MP.g_mod, MP.g_pow, MP.g_shl, MP.g_shr, MP.g_and, MP.g_orI, MP.g_neg, MP.g_lt, MP.g_le, MP.g_gt, MP.g_ge, MP.g_eqI, MP.g_eqS, MP.g_eqBo, MP.g_neI, MP.g_neS, MP.g_neBo, MP.g_is, MP.g_isNot, MP.n_none, MP.n_int, MP.n_str, MP.n_tup, MP.n_list, MP.n_bool, MP.g_max, MP.g_min, MP.g_lenL, MP.g_lenK, MP.g_lenT, MP.g_listL, MP.g_listK, MP.g_listT, MP.g_tupL, MP.g_tupT, MP.q_list, MP.q_lk, MP.q_tup, MP.g_rng1, MP.g_rng2, MP.g_enumL, MP.g_enumK, MP.g_ixL, MP.g_ixK, MP.g_ixT, MP.g_slL, MP.g_slK, MP.g_slT, MP.s_Nil, MP.s_Brk, MP.s_Cont, MP.s_Seq, MP.s_xSn, MP.s_xSr, MP.s_xSb, MP.s_xSc, MP.s_xSe, MP.s_Expr, MP.s_xEx, MP.s_SetV, MP.s_xSV, MP.s_SetO, MP.s_xSOs, MP.s_xSOf, MP.s_Ret, MP.s_xRts, MP.s_xRtf, MP.s_RetN, MP.s_RetS, MP.s_xRSo, MP.s_xRSv, MP.s_If, MP.s_xIfT, MP.s_xIfF, MP.s_Tup, MP.s_xTu, MP.s_xTb, MP.s_For, MP.s_xFor, MP.s_App, MP.s_xAp, MP.s_Thaw, MP.s_xTh, MP.s_Frz, MP.s_xFzo, MP.s_xFzv, MP.s_ExprF, MP.s_xEF, MP.s_SetF, MP.s_xSF, MP.s_RetF, MP.s_xRF, MP.s_IfF, MP.s_xIFT, MP.s_xIFF, MP.s_FldN, MP.s_xN, MP.s_xN2, MP.s_xN3, MP.s_put0, MP.s_put1, MP.s_putN, MP.f_P, MP.f_xPs, MP.f_xPf, MP.f_User, MP.f_xFU, MP.f_Meth, MP.f_xM, MP.f_xM2, MP.f_Make, MP.f_xMk, MP.f_xMkF, MP.fe_ok, MP.r_run, MP.r_un, MP.r_un0, MP.r_nx, MP.r_ret, MP.r_exc, MP.t_nx, MP.t_cont, MP.t_brk, MP.t_ret, MP.b_nm, MP.b_tp2, MP.b_tp3, MP.t_bk, MP.fe_pop, MP.s_appF, MP.s_dead, MP.g_divmod, MP.g_sorted, MP.g_allB, MP.g_anyB, MP.g_sumI, MP.g_zipT, MP.g_zipL, MP.e_pZip, MP.e_xZp, MP.g_abs, MP.g_intI, MP.g_intB, MP.g_repT, MP.e_pLRng, MP.e_xLR, MP.f_Pop, MP.f_xPop, MP.s_AppF, MP.s_xAF0, MP.s_xAF, MP.s_xAF2, MP.g_inI, MP.g_ninI, MP.g_inT, MP.g_ninT, MP.g_ninST, MP.e_c2, MP.e_c3, MP.e_c4, MP.e_c5, MP.e_pIsi, List.getElem?_cons_zero, List.getElem?_cons_succ, List.getElem?_nil, List.set_cons_zero, List.set_cons_succ, List.map_cons, List.map_nil, List.length_cons, List.length_nil, List.length_append, List.cons_append, List.nil_append, List.length_map, List.length_singleton, Nat.reduceBEq, Nat.reduceAdd, Nat.reduceSub, Nat.reduceMul, Nat.reduceEqDiff, Nat.reduceLeDiff, Nat.reduceLT, if_false, if_true, ite_true, ite_false, ↓reduceIte, Bool.not_true, Bool.not_false, Bool.false_eq_true, decide_true, decide_false, eq_self, and_true, true_and, and_self, Nat.zero_le, Nat.zero_add, Option.bind_some, Option.bind_none, Nat.lt_irrefl, Int.reduceToNat, Int.reducePow, Int.reduceNeg, Int.reduceMul, Int.reduceAdd, Int.reduceSub, Int.reduceLT, Int.reduceLE, Int.reduceEq, beq_self_eq_true, wipeE, MP.at0, MP.at1, MP.at2, MP.atLit, hwd]) ?_
  obtain ⟨rich, hrich⟩ : ∃ rich : Bool, decide (f / 60 % 4 = 1) = rich := ⟨_, rfl⟩
  refine sq (P := fun fl => ∃ b, Good b ∧ fl.fr = .ok (.v (bedD b)) []) (s' := ⟨[.v (.lk (zs ns)), .v (.int (at_ : Nat)), .v (.int f), .v (.bool rich), .un, .un, .un, .un, .un, .un, .un, .un, .un, .un, .un], []⟩) (by unfold st_l_bed_4; simp (disch := (first | assumption | with_reducible rfl | decide +kernel | exact Or.inl (by decide +kernel) | exact Or.inr (by decide +kernel) | omega | (simp only [List.length_cons, List.length_nil, List.length_append, List.length_map, List.length_replicate, List.length_range] <;> omega) | rfl)) only [MP.of_some, MP.map_some, MP.e_lv, MP.e_lo, MP.e_pD, MP.e_xDs, MP.e_xDf, MP.e_pC, MP.e_pYes, MP.e_pVar, MP.e_p2, MP.e_x2, MP.e_p1, MP.e_x1, MP.e_pB, MP.e_xB, MP.e_pNot, MP.e_xNot, MP.e_pAnd, MP.e_xAndT, MP.e_xAndF, MP.e_pOr, MP.e_xOrT, MP.e_xOrF, MP.e_pAndV, MP.e_xAndVT, MP.e_xAndVF, MP.e_pOrV, MP.e_xOrVT, MP.e_xOrVF, MP.e_pNotV, MP.e_xNotV, MP.e_pIf, MP.e_xIfT, MP.e_xIfF, MP.e_p3, MP.e_x3, MP.e_x3bT, MP.e_x3bF, MP.e_pNil, MP.e_pCons, MP.e_xCons, MP.e_pTup, MP.e_xTp, MP.e_pLst, MP.e_xLs, MP.e_pNo, MP.e_pSome, MP.e_xSo, MP.e_pSl, MP.e_xSl, MP.e_pCall, MP.e_xG, MP.e_pSeq, MP.e_xSq, MP.e_pSeqR, MP.e_xSqR, MP.e_pRng, MP.e_pEnum, MP.e_xEn, MP.e_pComp, MP.e_xC, MP.e_xC2, MP.e_pUser, MP.e_xU, MP.e_xFv, MP.e_xFo, MP.e_xFe, MP.e_pSeal, MP.e_xSe, MP.e_xSeFv, MP.e_xSeFo, MP.e_pLook, MP.e_xLo, MP.e_xLoF, MP.e_pFld, MP.e_xFd, MP.e_xOb, MP.e_xLk0, MP.e_xLk1, MP.e_c0, MP.e_c1, MP.g_add, MP.g_catS, MP.g_catL, MP.g_catT, MP.g_sub, MP.g_mul, MP.g_rep, MP.g_div, MP.g_mod, MP.g_pow, MP.g_shl, MP.g_shr, MP.g_and, MP.g_orI, MP.g_neg, MP.g_lt, MP.g_le, MP.g_gt, MP.g_ge, MP.g_eqI, MP.g_eqS, MP.g_eqBo, MP.g_neI, MP.g_neS, MP.g_neBo, MP.g_is, MP.g_isNot, MP.n_none, MP.n_int, MP.n_str, MP.n_tup, MP.n_list, MP.n_bool, MP.g_max, MP.g_min, MP.g_lenL, MP.g_lenK, MP.g_lenT, MP.g_listL, MP.g_listK, MP.g_listT, MP.g_tupL, MP.g_tupT, MP.q_list, MP.q_lk, MP.q_tup, MP.g_rng1, MP.g_rng2, MP.g_enumL, MP.g_enumK, MP.g_ixL, MP.g_ixK, MP.g_ixT, MP.g_slL, MP.g_slK, MP.g_slT, MP.s_Nil, MP.s_Brk, MP.s_Cont, MP.s_Seq, MP.s_xSn, MP.s_xSr, MP.s_xSb, MP.s_xSc, MP.s_xSe, MP.s_Expr, MP.s_xEx, MP.s_SetV, MP.s_xSV, MP.s_SetO, MP.s_xSOs, MP.s_xSOf, MP.s_Ret, MP.s_xRts, MP.s_xRtf, MP.s_RetN, MP.s_RetS, MP.s_xRSo, MP.s_xRSv, MP.s_If, MP.s_xIfT, MP.s_xIfF, MP.s_Tup, MP.s_xTu, MP.s_xTb, MP.s_For, MP.s_xFor, MP.s_App, MP.s_xAp, MP.s_Thaw, MP.s_xTh, MP.s_Frz, MP.s_xFzo, MP.s_xFzv, MP.s_ExprF, MP.s_xEF, MP.s_SetF, MP.s_xSF, MP.s_RetF, MP.s_xRF, MP.s_IfF, MP.s_xIFT, MP.s_xIFF, MP.s_FldN, MP.s_xN, MP.s_xN2, MP.s_xN3, MP.s_put0, MP.s_put1, MP.s_putN, MP.f_P, MP.f_xPs, MP.f_xPf, MP.f_User, MP.f_xFU, MP.f_Meth, MP.f_xM, MP.f_xM2, MP.f_Make, MP.f_xMk, MP.f_xMkF, MP.fe_ok, MP.r_run, MP.r_un, MP.r_un0, MP.r_nx, MP.r_ret, MP.r_exc, MP.t_nx, MP.t_cont, MP.t_brk, MP.t_ret, MP.b_nm, MP.b_tp2, MP.b_tp3, MP.t_bk, MP.fe_pop, MP.s_appF, MP.s_dead, MP.g_divmod, MP.g_sorted, MP.g_allB, MP.g_anyB, MP.g_sumI, MP.g_zipT, MP.g_zipL, MP.e_pZip, MP.e_xZp, MP.g_abs, MP.g_intI, MP.g_intB, MP.g_repT, MP.e_pLRng, MP.e_xLR, MP.f_Pop, MP.f_xPop, MP.s_AppF, MP.s_xAF0, MP.s_xAF, MP.s_xAF2, MP.g_inI, MP.g_ninI, MP.g_inT, MP.g_ninT, MP.g_ninST, MP.e_c2, MP.e_c3, MP.e_c4, MP.e_c5, MP.e_pIsi, List.getElem?_cons_zero, List.getElem?_cons_succ, List.getElem?_nil, List.set_cons_zero, List.set_cons_succ, List.map_cons, List.map_nil, List.length_cons, List.length_nil, List.length_append, List.cons_append, List.nil_append, List.length_map, List.length_singleton, Nat.reduceBEq, Nat.reduceAdd, Nat.reduceSub, Nat.reduceMul, Nat.reduceEqDiff, Nat.reduceLeDiff, Nat.reduceLT, if_false, if_true, ite_true, ite_false, ↓reduceIte, Bool.not_true, Bool.not_false, Bool.false_eq_true, decide_true, decide_false, eq_self, and_true, true_and, and_self, Nat.zero_le, Nat.zero_add, Option.bind_some, Option.bind_none, Nat.lt_irrefl, Int.reduceToNat, Int.reducePow, Int.reduceNeg, Int.reduceMul, Int.reduceAdd, Int.reduceSub, Int.reduceLT, Int.reduceLE, Int.reduceEq, beq_self_eq_true, wipeE, MP.at0, MP.at1, MP.at2, MP.atLit, hrich]) ?_
  have hK : ∃ K : Nat, 1 ≤ K ∧ K ≤ 5 ∧ (rich = true → 3 ≤ K) ∧ st_l_bed_5 ⟨[.v (.lk (zs ns)), .v (.int (at_ : Nat)), .v (.int f), .v (.bool rich), .un, .un, .un, .un, .un, .un, .un, .un, .un, .un, .un], []⟩ = .nx ⟨[.v (.lk (zs ns)), .v (.int (at_ : Nat)), .v (.int f), .v (.bool rich), .v (.int (K : Nat)), .un, .un, .un, .un, .un, .un, .un, .un, .un, .un], []⟩ := by
    unfold st_l_bed_5
    cases rich with
    | true =>
      obtain ⟨K, hK⟩ : ∃ K : Nat, 3 + f % 3 = (K : Int) := ⟨(3 + f % 3).toNat, by omega⟩
      exact ⟨K, by omega, by omega, fun _ => by omega, by simp (disch := (first | assumption | with_reducible rfl | decide +kernel | exact Or.inl (by decide +kernel) | exact Or.inr (by decide +kernel) | omega | (simp only [List.length_cons, List.length_nil, List.length_append, List.length_map, List.length_replicate, List.length_range] <;> omega) | rfl)) only [MP.of_some, MP.map_some, MP.e_lv, MP.e_lo, MP.e_pD, MP.e_xDs, MP.e_xDf, MP.e_pC, MP.e_pYes, MP.e_pVar, MP.e_p2, MP.e_x2, MP.e_p1, MP.e_x1, MP.e_pB, MP.e_xB, MP.e_pNot, MP.e_xNot, MP.e_pAnd, MP.e_xAndT, MP.e_xAndF, MP.e_pOr, MP.e_xOrT, MP.e_xOrF, MP.e_pAndV, MP.e_xAndVT, MP.e_xAndVF, MP.e_pOrV, MP.e_xOrVT, MP.e_xOrVF, MP.e_pNotV, MP.e_xNotV, MP.e_pIf, MP.e_xIfT, MP.e_xIfF, MP.e_p3, MP.e_x3, MP.e_x3bT, MP.e_x3bF, MP.e_pNil, MP.e_pCons, MP.e_xCons, MP.e_pTup, MP.e_xTp, MP.e_pLst, MP.e_xLs, MP.e_pNo, MP.e_pSome, MP.e_xSo, MP.e_pSl, MP.e_xSl, MP.e_pCall, MP.e_xG, MP.e_pSeq, MP.e_xSq, MP.e_pSeqR, MP.e_xSqR, MP.e_pRng, MP.e_pEnum, MP.e_xEn, MP.e_pComp, MP.e_xC, MP.e_xC2, MP.e_pUser, MP.e_xU, MP.e_xFv, MP.e_xFo, MP.e_xFe, MP.e_pSeal, MP.e_xSe, MP.e_xSeFv, MP.e_xSeFo, MP.e_pLook, MP.e_xLo, MP.e_xLoF, MP.e_pFld, MP.e_xFd, MP.e_xOb, MP.e_xLk0, MP.e_xLk1, MP.e_c0, MP.e_c1, MP.g_add, MP.g_catS, MP.g_catL, MP.g_catT, MP.g_sub, MP.g_mul, MP.g_rep, MP.g_div, MP.g_mod, MP.g_pow, MP.g_shl, MP.g_shr, MP.g_and, MP.g_orI, MP.g_neg, MP.g_lt, MP.g_le, MP.g_gt, MP.g_ge, MP.g_eqI, MP.g_eqS, MP.g_eqBo, MP.g_neI, MP.g_neS, MP.g_neBo, MP.g_is, MP.g_isNot, MP.n_none, MP.n_int, MP.n_str, MP.n_tup, MP.n_list, MP.n_bool, MP.g_max, MP.g_min, MP.g_lenL, MP.g_lenK, MP.g_lenT, MP.g_listL, MP.g_listK, MP.g_listT, MP.g_tupL, MP.g_tupT, MP.q_list, MP.q_lk, MP.q_tup, MP.g_rng1, MP.g_rng2, MP.g_enumL, MP.g_enumK, MP.g_ixL, MP.g_ixK, MP.g_ixT, MP.g_slL, MP.g_slK, MP.g_slT, MP.s_Nil, MP.s_Brk, MP.s_Cont, MP.s_Seq, MP.s_xSn, MP.s_xSr, MP.s_xSb, MP.s_xSc, MP.s_xSe, MP.s_Expr, MP.s_xEx, MP.s_SetV, MP.s_xSV, MP.s_SetO, MP.s_xSOs, MP.s_xSOf, MP.s_Ret, MP.s_xRts, MP.s_xRtf, MP.s_RetN, MP.s_RetS, MP.s_xRSo, MP.s_xRSv, MP.s_If, MP.s_xIfT, MP.s_xIfF, MP.s_Tup, MP.s_xTu, MP.s_xTb, MP.s_For, MP.s_xFor, MP.s_App, MP.s_xAp, MP.s_Thaw, MP.s_xTh, MP.s_Frz, MP.s_xFzo, MP.s_xFzv, MP.s_ExprF, MP.s_xEF, MP.s_SetF, MP.s_xSF, MP.s_RetF, MP.s_xRF, MP.s_IfF, MP.s_xIFT, MP.s_xIFF, MP.s_FldN, MP.s_xN, MP.s_xN2, MP.s_xN3, MP.s_put0, MP.s_put1, MP.s_putN, MP.f_P, MP.f_xPs, MP.f_xPf, MP.f_User, MP.f_xFU, MP.f_Meth, MP.f_xM, MP.f_xM2, MP.f_Make, MP.f_xMk, MP.f_xMkF, MP.fe_ok, MP.r_run, MP.r_un, MP.r_un0, MP.r_nx, MP.r_ret, MP.r_exc, MP.t_nx, MP.t_cont, MP.t_brk, MP.t_ret, MP.b_nm, MP.b_tp2, MP.b_tp3, MP.t_bk, MP.fe_pop, MP.s_appF, MP.s_dead, MP.g_divmod, MP.g_sorted, MP.g_allB, MP.g_anyB, MP.g_sumI, MP.g_zipT, MP.g_zipL, MP.e_pZip, MP.e_xZp, MP.g_abs, MP.g_intI, MP.g_intB, MP.g_repT, MP.e_pLRng, MP.e_xLR, MP.f_Pop, MP.f_xPop, MP.s_AppF, MP.s_xAF0, MP.s_xAF, MP.s_xAF2, MP.g_inI, MP.g_ninI, MP.g_inT, MP.g_ninT, MP.g_ninST, MP.e_c2, MP.e_c3, MP.e_c4, MP.e_c5, MP.e_pIsi, List.getElem?_cons_zero, List.getElem?_cons_succ, List.getElem?_nil, List.set_cons_zero, List.set_cons_succ, List.map_cons, List.map_nil, List.length_cons, List.length_nil, List.length_append, List.cons_append, List.nil_append, List.length_map, List.length_singleton, Nat.reduceBEq, Nat.reduceAdd, Nat.reduceSub, Nat.reduceMul, Nat.reduceEqDiff, Nat.reduceLeDiff, Nat.reduceLT, if_false, if_true, ite_true, ite_false, ↓reduceIte, Bool.not_true, Bool.not_false, Bool.false_eq_true, decide_true, decide_false, eq_self, and_true, true_and, and_self, Nat.zero_le, Nat.zero_add, Option.bind_some, Option.bind_none, Nat.lt_irrefl, Int.reduceToNat, Int.reducePow, Int.reduceNeg, Int.reduceMul, Int.reduceAdd, Int.reduceSub, Int.reduceLT, Int.reduceLE, Int.reduceEq, beq_self_eq_true, wipeE, MP.at0, MP.at1, MP.at2, MP.atLit, hK]⟩
    | false =>
      obtain ⟨K, hK⟩ : ∃ K : Nat, 1 + f % 5 = (K : Int) := ⟨(1 + f % 5).toNat, by omega⟩
      exact ⟨K, by omega, by omega, (fun h => by cases h), by simp (disch := (first | assumption | with_reducible rfl | decide +kernel | exact Or.inl (by decide +kernel) | exact Or.inr (by decide +kernel) | omega | (simp only [List.length_cons, List.length_nil, List.length_append, List.length_map, List.length_replicate, List.length_range] <;> omega) | rfl)) only [MP.of_some, MP.map_some, MP.e_lv, MP.e_lo, MP.e_pD, MP.e_xDs, MP.e_xDf, MP.e_pC, MP.e_pYes, MP.e_pVar, MP.e_p2, MP.e_x2, MP.e_p1, MP.e_x1, MP.e_pB, MP.e_xB, MP.e_pNot, MP.e_xNot, MP.e_pAnd, MP.e_xAndT, MP.e_xAndF, MP.e_pOr, MP.e_xOrT, MP.e_xOrF, MP.e_pAndV, MP.e_xAndVT, MP.e_xAndVF, MP.e_pOrV, MP.e_xOrVT, MP.e_xOrVF, MP.e_pNotV, MP.e_xNotV, MP.e_pIf, MP.e_xIfT, MP.e_xIfF, MP.e_p3, MP.e_x3, MP.e_x3bT, MP.e_x3bF, MP.e_pNil, MP.e_pCons, MP.e_xCons, MP.e_pTup, MP.e_xTp, MP.e_pLst, MP.e_xLs, MP.e_pNo, MP.e_pSome, MP.e_xSo, MP.e_pSl, MP.e_xSl, MP.e_pCall, MP.e_xG, MP.e_pSeq, MP.e_xSq, MP.e_pSeqR, MP.e_xSqR, MP.e_pRng, MP.e_pEnum, MP.e_xEn, MP.e_pComp, MP.e_xC, MP.e_xC2, MP.e_pUser, MP.e_xU, MP.e_xFv, MP.e_xFo, MP.e_xFe, MP.e_pSeal, MP.e_xSe, MP.e_xSeFv, MP.e_xSeFo, MP.e_pLook, MP.e_xLo, MP.e_xLoF, MP.e_pFld, MP.e_xFd, MP.e_xOb, MP.e_xLk0, MP.e_xLk1, MP.e_c0, MP.e_c1, MP.g_add, MP.g_catS, MP.g_catL, MP.g_catT, MP.g_sub, MP.g_mul, MP.g_rep, MP.g_div, MP.g_mod, MP.g_pow, MP.g_shl, MP.g_shr, MP.g_and, MP.g_orI, MP.g_neg, MP.g_lt, MP.g_le, MP.g_gt, MP.g_ge, MP.g_eqI, MP.g_eqS, MP.g_eqBo, MP.g_neI, MP.g_neS, MP.g_neBo, MP.g_is, MP.g_isNot, MP.n_none, MP.n_int, MP.n_str, MP.n_tup, MP.n_list, MP.n_bool, MP.g_max, MP.g_min, MP.g_lenL, MP.g_lenK, MP.g_lenT, MP.g_listL, MP.g_listK, MP.g_listT, MP.g_tupL, MP.g_tupT, MP.q_list, MP.q_lk, MP.q_tup, MP.g_rng1, MP.g_rng2, MP.g_enumL, MP.g_enumK, MP.g_ixL, MP.g_ixK, MP.g_ixT, MP.g_slL, MP.g_slK, MP.g_slT, MP.s_Nil, MP.s_Brk, MP.s_Cont, MP.s_Seq, MP.s_xSn, MP.s_xSr, MP.s_xSb, MP.s_xSc, MP.s_xSe, MP.s_Expr, MP.s_xEx, MP.s_SetV, MP.s_xSV, MP.s_SetO, MP.s_xSOs, MP.s_xSOf, MP.s_Ret, MP.s_xRts, MP.s_xRtf, MP.s_RetN, MP.s_RetS, MP.s_xRSo, MP.s_xRSv, MP.s_If, MP.s_xIfT, MP.s_xIfF, MP.s_Tup, MP.s_xTu, MP.s_xTb, MP.s_For, MP.s_xFor, MP.s_App, MP.s_xAp, MP.s_Thaw, MP.s_xTh, MP.s_Frz, MP.s_xFzo, MP.s_xFzv, MP.s_ExprF, MP.s_xEF, MP.s_SetF, MP.s_xSF, MP.s_RetF, MP.s_xRF, MP.s_IfF, MP.s_xIFT, MP.s_xIFF, MP.s_FldN, MP.s_xN, MP.s_xN2, MP.s_xN3, MP.s_put0, MP.s_put1, MP.s_putN, MP.f_P, MP.f_xPs, MP.f_xPf, MP.f_User, MP.f_xFU, MP.f_Meth, MP.f_xM, MP.f_xM2, MP.f_Make, MP.f_xMk, MP.f_xMkF, MP.fe_ok, MP.r_run, MP.r_un, MP.r_un0, MP.r_nx, MP.r_ret, MP.r_exc, MP.t_nx, MP.t_cont, MP.t_brk, MP.t_ret, MP.b_nm, MP.b_tp2, MP.b_tp3, MP.t_bk, MP.fe_pop, MP.s_appF, MP.s_dead, MP.g_divmod, MP.g_sorted, MP.g_allB, MP.g_anyB, MP.g_sumI, MP.g_zipT, MP.g_zipL, MP.e_pZip, MP.e_xZp, MP.g_abs, MP.g_intI, MP.g_intB, MP.g_repT, MP.e_pLRng, MP.e_xLR, MP.f_Pop, MP.f_xPop, MP.s_AppF, MP.s_xAF0, MP.s_xAF, MP.s_xAF2, MP.g_inI, MP.g_ninI, MP.g_inT, MP.g_ninT, MP.g_ninST, MP.e_c2, MP.e_c3, MP.e_c4, MP.e_c5, MP.e_pIsi, List.getElem?_cons_zero, List.getElem?_cons_succ, List.getElem?_nil, List.set_cons_zero, List.set_cons_succ, List.map_cons, List.map_nil, List.length_cons, List.length_nil, List.length_append, List.cons_append, List.nil_append, List.length_map, List.length_singleton, Nat.reduceBEq, Nat.reduceAdd, Nat.reduceSub, Nat.reduceMul, Nat.reduceEqDiff, Nat.reduceLeDiff, Nat.reduceLT, if_false, if_true, ite_true, ite_false, ↓reduceIte, Bool.not_true, Bool.not_false, Bool.false_eq_true, decide_true, decide_false, eq_self, and_true, true_and, and_self, Nat.zero_le, Nat.zero_add, Option.bind_some, Option.bind_none, Nat.lt_irrefl, Int.reduceToNat, Int.reducePow, Int.reduceNeg, Int.reduceMul, Int.reduceAdd, Int.reduceSub, Int.reduceLT, Int.reduceLE, Int.reduceEq, beq_self_eq_true, wipeE, MP.at0, MP.at1, MP.at2, MP.atLit, hK, Bool.false_eq_true]⟩
  obtain ⟨K, hK1, hK5, hK3, e5⟩ := hK
  refine sq (P := fun fl => ∃ b, Good b ∧ fl.fr = .ok (.v (bedD b)) []) e5 ?_
  refine sq (P := fun fl => ∃ b, Good b ∧ fl.fr = .ok (.v (bedD b)) []) (s' := ⟨[.v (.lk (zs ns)), .v (.int (at_ : Nat)), .v (.int f), .v (.bool rich), .v (.int (K : Nat)), .own (.list []), .un, .un, .un, .un, .un, .un, .un, .un, .un], []⟩) (by unfold st_l_bed_6; simp (disch := (first | assumption | with_reducible rfl | decide +kernel | exact Or.inl (by decide +kernel) | exact Or.inr (by decide +kernel) | omega | (simp only [List.length_cons, List.length_nil, List.length_append, List.length_map, List.length_replicate, List.length_range] <;> omega) | rfl)) only [MP.of_some, MP.map_some, MP.e_lv, MP.e_lo, MP.e_pD, MP.e_xDs, MP.e_xDf, MP.e_pC, MP.e_pYes, MP.e_pVar, MP.e_p2, MP.e_x2, MP.e_p1, MP.e_x1, MP.e_pB, MP.e_xB, MP.e_pNot, MP.e_xNot, MP.e_pAnd, MP.e_xAndT, MP.e_xAndF, MP.e_pOr, MP.e_xOrT, MP.e_xOrF, MP.e_pAndV, MP.e_xAndVT, MP.e_xAndVF, MP.e_pOrV, MP.e_xOrVT, MP.e_xOrVF, MP.e_pNotV, MP.e_xNotV, MP.e_pIf, MP.e_xIfT, MP.e_xIfF, MP.e_p3, MP.e_x3, MP.e_x3bT, MP.e_x3bF, MP.e_pNil, MP.e_pCons, MP.e_xCons, MP.e_pTup, MP.e_xTp, MP.e_pLst, MP.e_xLs, MP.e_pNo, MP.e_pSome, MP.e_xSo, MP.e_pSl, MP.e_xSl, MP.e_pCall, MP.e_xG, MP.e_pSeq, MP.e_xSq, MP.e_pSeqR, MP.e_xSqR, MP.e_pRng, MP.e_pEnum, MP.e_xEn, MP.e_pComp, MP.e_xC, MP.e_xC2, MP.e_pUser, MP.e_xU, MP.e_xFv, MP.e_xFo, MP.e_xFe, MP.e_pSeal, MP.e_xSe, MP.e_xSeFv, MP.e_xSeFo, MP.e_pLook, MP.e_xLo, MP.e_xLoF, MP.e_pFld, MP.e_xFd, MP.e_xOb, MP.e_xLk0, MP.e_xLk1, MP.e_c0, MP.e_c1, MP.g_add, MP.g_catS, MP.g_catL, MP.g_catT, MP.g_sub, MP.g_mul, MP.g_rep, MP.g_div, MP.g_mod, MP.g_pow, MP.g_shl, MP.g_shr, MP.g_and, MP.g_orI, MP.g_neg, MP.g_lt, MP.g_le, MP.g_gt, MP.g_ge, MP.g_eqI, MP.g_eqS, MP.g_eqBo, MP.g_neI, MP.g_neS, MP.g_neBo, MP.g_is, MP.g_isNot, MP.n_none, MP.n_int, MP.n_str, MP.n_tup, MP.n_list, MP.n_bool, MP.g_max, MP.g_min, MP.g_lenL, MP.g_lenK, MP.g_lenT, MP.g_listL, MP.g_listK, MP.g_listT, MP.g_tupL, MP.g_tupT, MP.q_list, MP.q_lk, MP.q_tup, MP.g_rng1, MP.g_rng2, MP.g_enumL, MP.g_enumK, MP.g_ixL, MP.g_ixK, MP.g_ixT, MP.g_slL, MP.g_slK, MP.g_slT, MP.s_Nil, MP.s_Brk, MP.s_Cont, MP.s_Seq, MP.s_xSn, MP.s_xSr, MP.s_xSb, MP.s_xSc, MP.s_xSe, MP.s_Expr, MP.s_xEx, MP.s_SetV, MP.s_xSV, MP.s_SetO, MP.s_xSOs, MP.s_xSOf, MP.s_Ret, MP.s_xRts, MP.s_xRtf, MP.s_RetN, MP.s_RetS, MP.s_xRSo, MP.s_xRSv, MP.s_If, MP.s_xIfT, MP.s_xIfF, MP.s_Tup, MP.s_xTu, MP.s_xTb, MP.s_For, MP.s_xFor, MP.s_App, MP.s_xAp, MP.s_Thaw, MP.s_xTh, MP.s_Frz, MP.s_xFzo, MP.s_xFzv, MP.s_ExprF, MP.s_xEF, MP.s_SetF, MP.s_xSF, MP.s_RetF, MP.s_xRF, MP.s_IfF, MP.s_xIFT, MP.s_xIFF, MP.s_FldN, MP.s_xN, MP.s_xN2, MP.s_xN3, MP.s_put0, MP.s_put1, MP.s_putN, MP.f_P, MP.f_xPs, MP.f_xPf, MP.f_User, MP.f_xFU, MP.f_Meth, MP.f_xM, MP.f_xM2, MP.f_Make, MP.f_xMk, MP.f_xMkF, MP.fe_ok, MP.r_run, MP.r_un, MP.r_un0, MP.r_nx, MP.r_ret, MP.r_exc, MP.t_nx, MP.t_cont, MP.t_brk, MP.t_ret, MP.b_nm, MP.b_tp2, MP.b_tp3, MP.t_bk, MP.fe_pop, MP.s_appF, MP.s_dead, MP.g_divmod, MP.g_sorted, MP.g_allB, MP.g_anyB, MP.g_sumI, MP.g_zipT, MP.g_zipL, MP.e_pZip, MP.e_xZp, MP.g_abs, MP.g_intI, MP.g_intB, MP.g_repT, MP.e_pLRng, MP.e_xLR, MP.f_Pop, MP.f_xPop, MP.s_AppF, MP.s_xAF0, MP.s_xAF, MP.s_xAF2, MP.g_inI, MP.g_ninI, MP.g_inT, MP.g_ninT, MP.g_ninST, MP.e_c2, MP.e_c3, MP.e_c4, MP.e_c5, MP.e_pIsi, List.getElem?_cons_zero, List.getElem?_cons_succ, List.getElem?_nil, List.set_cons_zero, List.set_cons_succ, List.map_cons, List.map_nil, List.length_cons, List.length_nil, List.length_append, List.cons_append, List.nil_append, List.length_map, List.length_singleton, Nat.reduceBEq, Nat.reduceAdd, Nat.reduceSub, Nat.reduceMul, Nat.reduceEqDiff, Nat.reduceLeDiff, Nat.reduceLT, if_false, if_true, ite_true, ite_false, ↓reduceIte, Bool.not_true, Bool.not_false, Bool.false_eq_true, decide_true, decide_false, eq_self, and_true, true_and, and_self, Nat.zero_le, Nat.zero_add, Option.bind_some, Option.bind_none, Nat.lt_irrefl, Int.reduceToNat, Int.reducePow, Int.reduceNeg, Int.reduceMul, Int.reduceAdd, Int.reduceSub, Int.reduceLT, Int.reduceLE, Int.reduceEq, beq_self_eq_true, wipeE, MP.at0, MP.at1, MP.at2, MP.atLit]) ?_
  obtain ⟨L, hL⟩ : ∃ L : Nat, 1 + f / 5 % 3 = (L : Int) := ⟨(1 + f / 5 % 3).toNat, by omega⟩
  have hL3 : L = 1 ∨ L = 2 ∨ L = 3 := by omega
  have hrl := rngLenN K
  unfold st_l_bed_7
  refine forP (P := fun fl => ∃ b, Good b ∧ fl.fr = .ok (.v (bedD b)) []) (rng 0 (L : Int)) (fun i s => ∃ ls x6 x10, RowsOk K L i ls ∧ (rich = true → ∀ r, ls[0]? = some r → ∀ m ∈ r, m.isL = true) ∧
    s = ⟨[.v (.lk (zs ns)), .v (.int (at_ : Nat)), .v (.int f), .v (.bool rich), .v (.int (K : Nat)), .own (.list (ls.map rowD)), x6, .un, .un, .un, x10, .un, .un, .un, .un], []⟩) (by simp (disch := (first | assumption | with_reducible rfl | decide +kernel | exact Or.inl (by decide +kernel) | exact Or.inr (by decide +kernel) | omega | (simp only [List.length_cons, List.length_nil, List.length_append, List.length_map, List.length_replicate, List.length_range] <;> omega) | rfl)) only [MP.of_some, MP.map_some, MP.e_lv, MP.e_lo, MP.e_pD, MP.e_xDs, MP.e_xDf, MP.e_pC, MP.e_pYes, MP.e_pVar, MP.e_p2, MP.e_x2, MP.e_p1, MP.e_x1, MP.e_pB, MP.e_xB, MP.e_pNot, MP.e_xNot, MP.e_pAnd, MP.e_xAndT, MP.e_xAndF, MP.e_pOr, MP.e_xOrT, MP.e_xOrF, MP.e_pAndV, MP.e_xAndVT, MP.e_xAndVF, MP.e_pOrV, MP.e_xOrVT, MP.e_xOrVF, MP.e_pNotV, MP.e_xNotV, MP.e_pIf, MP.e_xIfT, MP.e_xIfF, MP.e_p3, MP.e_x3, MP.e_x3bT, MP.e_x3bF, MP.e_pNil, MP.e_pCons, MP.e_xCons, MP.e_pTup, MP.e_xTp, MP.e_pLst, MP.e_xLs, MP.e_pNo, MP.e_pSome, MP.e_xSo, MP.e_pSl, MP.e_xSl, MP.e_pCall, MP.e_xG, MP.e_pSeq, MP.e_xSq, MP.e_pSeqR, MP.e_xSqR, MP.e_pRng, MP.e_pEnum, MP.e_xEn, MP.e_pComp, MP.e_xC, MP.e_xC2, MP.e_pUser, MP.e_xU, MP.e_xFv, MP.e_xFo, MP.e_xFe, MP.e_pSeal, MP.e_xSe, MP.e_xSeFv, MP.e_xSeFo, MP.e_pLook, MP.e_xLo, MP.e_xLoF, MP.e_pFld, MP.e_xFd, MP.e_xOb, MP.e_xLk0, MP.e_xLk1, MP.e_c0, MP.e_c1, MP.g_add, MP.g_catS, MP.g_catL, MP.g_catT, MP.g_sub, MP.g_mul, MP.g_rep, MP.g_div, MP.g_mod, MP.g_pow, MP.g_shl, MP.g_shr, MP.g_and, MP.g_orI, MP.g_neg, MP.g_lt, MP.g_le, MP.g_gt, MP.g_ge, MP.g_eqI, MP.g_eqS, MP.g_eqBo, MP.g_neI, MP.g_neS, MP.g_neBo, MP.g_is, MP.g_isNot, MP.n_none, MP.n_int, MP.n_str, MP.n_tup, MP.n_list, MP.n_bool, MP.g_max, MP.g_min, MP.g_lenL, MP.g_lenK, MP.g_lenT, MP.g_listL, MP.g_listK, MP.g_listT, MP.g_tupL, MP.g_tupT, MP.q_list, MP.q_lk, MP.q_tup, MP.g_rng1, MP.g_rng2, MP.g_enumL, MP.g_enumK, MP.g_ixL, MP.g_ixK, MP.g_ixT, MP.g_slL, MP.g_slK, MP.g_slT, MP.s_Nil, MP.s_Brk, MP.s_Cont, MP.s_Seq, MP.s_xSn, MP.s_xSr, MP.s_xSb, MP.s_xSc, MP.s_xSe, MP.s_Expr, MP.s_xEx, MP.s_SetV, MP.s_xSV, MP.s_SetO, MP.s_xSOs, MP.s_xSOf, MP.s_Ret, MP.s_xRts, MP.s_xRtf, MP.s_RetN, MP.s_RetS, MP.s_xRSo, MP.s_xRSv, MP.s_If, MP.s_xIfT, MP.s_xIfF, MP.s_Tup, MP.s_xTu, MP.s_xTb, MP.s_For, MP.s_xFor, MP.s_App, MP.s_xAp, MP.s_Thaw, MP.s_xTh, MP.s_Frz, MP.s_xFzo, MP.s_xFzv, MP.s_ExprF, MP.s_xEF, MP.s_SetF, MP.s_xSF, MP.s_RetF, MP.s_xRF, MP.s_IfF, MP.s_xIFT, MP.s_xIFF, MP.s_FldN, MP.s_xN, MP.s_xN2, MP.s_xN3, MP.s_put0, MP.s_put1, MP.s_putN, MP.f_P, MP.f_xPs, MP.f_xPf, MP.f_User, MP.f_xFU, MP.f_Meth, MP.f_xM, MP.f_xM2, MP.f_Make, MP.f_xMk, MP.f_xMkF, MP.fe_ok, MP.r_run, MP.r_un, MP.r_un0, MP.r_nx, MP.r_ret, MP.r_exc, MP.t_nx, MP.t_cont, MP.t_brk, MP.t_ret, MP.b_nm, MP.b_tp2, MP.b_tp3, MP.t_bk, MP.fe_pop, MP.s_appF, MP.s_dead, MP.g_divmod, MP.g_sorted, MP.g_allB, MP.g_anyB, MP.g_sumI, MP.g_zipT, MP.g_zipL, MP.e_pZip, MP.e_xZp, MP.g_abs, MP.g_intI, MP.g_intB, MP.g_repT, MP.e_pLRng, MP.e_xLR, MP.f_Pop, MP.f_xPop, MP.s_AppF, MP.s_xAF0, MP.s_xAF, MP.s_xAF2, MP.g_inI, MP.g_ninI, MP.g_inT, MP.g_ninT, MP.g_ninST, MP.e_c2, MP.e_c3, MP.e_c4, MP.e_c5, MP.e_pIsi, List.getElem?_cons_zero, List.getElem?_cons_succ, List.getElem?_nil, List.set_cons_zero, List.set_cons_succ, List.map_cons, List.map_nil, List.length_cons, List.length_nil, List.length_append, List.cons_append, List.nil_append, List.length_map, List.length_singleton, Nat.reduceBEq, Nat.reduceAdd, Nat.reduceSub, Nat.reduceMul, Nat.reduceEqDiff, Nat.reduceLeDiff, Nat.reduceLT, if_false, if_true, ite_true, ite_false, ↓reduceIte, Bool.not_true, Bool.not_false, Bool.false_eq_true, decide_true, decide_false, eq_self, and_true, true_and, and_self, Nat.zero_le, Nat.zero_add, Option.bind_some, Option.bind_none, Nat.lt_irrefl, Int.reduceToNat, Int.reducePow, Int.reduceNeg, Int.reduceMul, Int.reduceAdd, Int.reduceSub, Int.reduceLT, Int.reduceLE, Int.reduceEq, beq_self_eq_true, wipeE, MP.at0, MP.at1, MP.at2, MP.atLit, hL]) ⟨[], _, _, ⟨rfl, (fun r hr => by cases hr), fun j r hr => by simp at hr⟩, fun _ r hr => by simp at hr, rfl⟩ ?_ ?_
  · rintro i d s hd ⟨ls, x6, x10, g, hg, rfl⟩
    obtain ⟨rfl, hi⟩ := rngAt hd
    obtain ⟨ls', x10', g', hg', e⟩ := m_bed_turn ns at_ K L i hat hK5 hL3 f hL hi rich ls g hg x10
    refine ⟨_, b_nm .., ?_⟩
    simp (disch := (first | assumption | with_reducible rfl | decide +kernel | exact Or.inl (by decide +kernel) | exact Or.inr (by decide +kernel) | omega | (simp only [List.length_cons, List.length_nil, List.length_append, List.length_map, List.length_replicate, List.length_range] <;> omega) | rfl)) only [MP.of_some, MP.map_some, MP.e_lv, MP.e_lo, MP.e_pD, MP.e_xDs, MP.e_xDf, MP.e_pC, MP.e_pYes, MP.e_pVar, MP.e_p2, MP.e_x2, MP.e_p1, MP.e_x1, MP.e_pB, MP.e_xB, MP.e_pNot, MP.e_xNot, MP.e_pAnd, MP.e_xAndT, MP.e_xAndF, MP.e_pOr, MP.e_xOrT, MP.e_xOrF, MP.e_pAndV, MP.e_xAndVT, MP.e_xAndVF, MP.e_pOrV, MP.e_xOrVT, MP.e_xOrVF, MP.e_pNotV, MP.e_xNotV, MP.e_pIf, MP.e_xIfT, MP.e_xIfF, MP.e_p3, MP.e_x3, MP.e_x3bT, MP.e_x3bF, MP.e_pNil, MP.e_pCons, MP.e_xCons, MP.e_pTup, MP.e_xTp, MP.e_pLst, MP.e_xLs, MP.e_pNo, MP.e_pSome, MP.e_xSo, MP.e_pSl, MP.e_xSl, MP.e_pCall, MP.e_xG, MP.e_pSeq, MP.e_xSq, MP.e_pSeqR, MP.e_xSqR, MP.e_pRng, MP.e_pEnum, MP.e_xEn, MP.e_pComp, MP.e_xC, MP.e_xC2, MP.e_pUser, MP.e_xU, MP.e_xFv, MP.e_xFo, MP.e_xFe, MP.e_pSeal, MP.e_xSe, MP.e_xSeFv, MP.e_xSeFo, MP.e_pLook, MP.e_xLo, MP.e_xLoF, MP.e_pFld, MP.e_xFd, MP.e_xOb, MP.e_xLk0, MP.e_xLk1, MP.e_c0, MP.e_c1, MP.g_add, MP.g_catS, MP.g_catL, MP.g_catT, MP.g_sub, MP.g_mul, MP.g_rep, MP.g_div, MP.g_mod, MP.g_pow, MP.g_shl, MP.g_shr, MP.g_and, MP.g_orI, MP.g_neg, MP.g_lt, MP.g_le, MP.g_gt, MP.g_ge, MP.g_eqI, MP.g_eqS, MP.g_eqBo, MP.g_neI, MP.g_neS, MP.g_neBo, MP.g_is, MP.g_isNot, MP.n_none, MP.n_int, MP.n_str, MP.n_tup, MP.n_list, MP.n_bool, MP.g_max, MP.g_min, MP.g_lenL, MP.g_lenK, MP.g_lenT, MP.g_listL, MP.g_listK, MP.g_listT, MP.g_tupL, MP.g_tupT, MP.q_list, MP.q_lk, MP.q_tup, MP.g_rng1, MP.g_rng2, MP.g_enumL, MP.g_enumK, MP.g_ixL, MP.g_ixK, MP.g_ixT, MP.g_slL, MP.g_slK, MP.g_slT, MP.s_Nil, MP.s_Brk, MP.s_Cont, MP.s_Seq, MP.s_xSn, MP.s_xSr, MP.s_xSb, MP.s_xSc, MP.s_xSe, MP.s_Expr, MP.s_xEx, MP.s_SetV, MP.s_xSV, MP.s_SetO, MP.s_xSOs, MP.s_xSOf, MP.s_Ret, MP.s_xRts, MP.s_xRtf, MP.s_RetN, MP.s_RetS, MP.s_xRSo, MP.s_xRSv, MP.s_If, MP.s_xIfT, MP.s_xIfF, MP.s_Tup, MP.s_xTu, MP.s_xTb, MP.s_For, MP.s_xFor, MP.s_App, MP.s_xAp, MP.s_Thaw, MP.s_xTh, MP.s_Frz, MP.s_xFzo, MP.s_xFzv, MP.s_ExprF, MP.s_xEF, MP.s_SetF, MP.s_xSF, MP.s_RetF, MP.s_xRF, MP.s_IfF, MP.s_xIFT, MP.s_xIFF, MP.s_FldN, MP.s_xN, MP.s_xN2, MP.s_xN3, MP.s_put0, MP.s_put1, MP.s_putN, MP.f_P, MP.f_xPs, MP.f_xPf, MP.f_User, MP.f_xFU, MP.f_Meth, MP.f_xM, MP.f_xM2, MP.f_Make, MP.f_xMk, MP.f_xMkF, MP.fe_ok, MP.r_run, MP.r_un, MP.r_un0, MP.r_nx, MP.r_ret, MP.r_exc, MP.t_nx, MP.t_cont, MP.t_brk, MP.t_ret, MP.b_nm, MP.b_tp2, MP.b_tp3, MP.t_bk, MP.fe_pop, MP.s_appF, MP.s_dead, MP.g_divmod, MP.g_sorted, MP.g_allB, MP.g_anyB, MP.g_sumI, MP.g_zipT, MP.g_zipL, MP.e_pZip, MP.e_xZp, MP.g_abs, MP.g_intI, MP.g_intB, MP.g_repT, MP.e_pLRng, MP.e_xLR, MP.f_Pop, MP.f_xPop, MP.s_AppF, MP.s_xAF0, MP.s_xAF, MP.s_xAF2, MP.g_inI, MP.g_ninI, MP.g_inT, MP.g_ninT, MP.g_ninST, MP.e_c2, MP.e_c3, MP.e_c4, MP.e_c5, MP.e_pIsi, List.getElem?_cons_zero, List.getElem?_cons_succ, List.getElem?_nil, List.set_cons_zero, List.set_cons_succ, List.map_cons, List.map_nil, List.length_cons, List.length_nil, List.length_append, List.cons_append, List.nil_append, List.length_map, List.length_singleton, Nat.reduceBEq, Nat.reduceAdd, Nat.reduceSub, Nat.reduceMul, Nat.reduceEqDiff, Nat.reduceLeDiff, Nat.reduceLT, if_false, if_true, ite_true, ite_false, ↓reduceIte, Bool.not_true, Bool.not_false, Bool.false_eq_true, decide_true, decide_false, eq_self, and_true, true_and, and_self, Nat.zero_le, Nat.zero_add, Option.bind_some, Option.bind_none, Nat.lt_irrefl, Int.reduceToNat, Int.reducePow, Int.reduceNeg, Int.reduceMul, Int.reduceAdd, Int.reduceSub, Int.reduceLT, Int.reduceLE, Int.reduceEq, beq_self_eq_true, wipeE, MP.at0, MP.at1, MP.at2, MP.atLit, e]
    exact ⟨ls', _, _, g', hg', rfl⟩
  rintro s ⟨ls, x6, x10, g, hg, rfl⟩
  rw [rngLenN] at g
  have hgn := g.n
  obtain ⟨r0, hr0⟩ : ∃ r0, ls[0]? = some r0 := ⟨_, List.getElem?_eq_getElem (by omega)⟩
  have hr0d : ls.getD 0 [] = r0 := by rw [List.getD_eq_getElem?_getD, hr0]; rfl
  have hr0l := g.len r0 (List.mem_of_getElem? hr0)
  have hat0 : (ls.map rowD)[0]? = some (.tup (r0.map Mn.D)) := by rw [List.getElem?_map, hr0]; rfl
  have hll : (ls.map rowD).length = ls.length := by simp
  have hpc : compL (.nm 13) (pB (p2 gEq (p2 gIx (p2 gIx (p2 gIx (pVar 5) (pC (.int 0))) (pVar 13)) (pC (.int 0))) (pC (.str "letter")))) (pD (pVar 13)) ⟨[.v (.lk (zs ns)), .v (.int (at_ : Nat)), .v (.int f), .v (.bool rich), .v (.int (K : Nat)), .own (.list (ls.map rowD)), x6, .un, .un, .un, x10, .un, .un, .un, .un], []⟩ (rng 0 (K : Int)) = .ok (nD (plainF K r0)) := by
    rw [rng_nD]
    unfold plainF
    refine compN _ _ fun k hk => ⟨_, b_nm .., ?_, fun _ => ?_⟩
    · have hm := m_plainC hr0l k (List.mem_range.mp hk)
      have h0 := mn_0 (r0.getD k .non)
      have hb2 := mn_l (r0.getD k .non)
      generalize r0.getD k .non = m at *
      simp (disch := (first | assumption | with_reducible rfl | decide +kernel | exact Or.inl (by decide +kernel) | exact Or.inr (by decide +kernel) | omega | (simp only [List.length_cons, List.length_nil, List.length_append, List.length_map, List.length_replicate, List.length_range] <;> omega) | rfl)) only [MP.of_some, MP.map_some, MP.e_lv, MP.e_lo, MP.e_pD, MP.e_xDs, MP.e_xDf, MP.e_pC, MP.e_pYes, MP.e_pVar, MP.e_p2, MP.e_x2, MP.e_p1, MP.e_x1, MP.e_pB, MP.e_xB, MP.e_pNot, MP.e_xNot, MP.e_pAnd, MP.e_xAndT, MP.e_xAndF, MP.e_pOr, MP.e_xOrT, MP.e_xOrF, MP.e_pAndV, MP.e_xAndVT, MP.e_xAndVF, MP.e_pOrV, MP.e_xOrVT, MP.e_xOrVF, MP.e_pNotV, MP.e_xNotV, MP.e_pIf, MP.e_xIfT, MP.e_xIfF, MP.e_p3, MP.e_x3, MP.e_x3bT, MP.e_x3bF, MP.e_pNil, MP.e_pCons, MP.e_xCons, MP.e_pTup, MP.e_xTp, MP.e_pLst, MP.e_xLs, MP.e_pNo, MP.e_pSome, MP.e_xSo, MP.e_pSl, MP.e_xSl, MP.e_pCall, MP.e_xG, MP.e_pSeq, MP.e_xSq, MP.e_pSeqR, MP.e_xSqR, MP.e_pRng, MP.e_pEnum, MP.e_xEn, MP.e_pComp, MP.e_xC, MP.e_xC2, MP.e_pUser, MP.e_xU, MP.e_xFv, MP.e_xFo, MP.e_xFe, MP.e_pSeal, MP.e_xSe, MP.e_xSeFv, MP.e_xSeFo, MP.e_pLook, MP.e_xLo, MP.e_xLoF, MP.e_pFld, MP.e_xFd, MP.e_xOb, MP.e_xLk0, MP.e_xLk1, MP.e_c0, MP.e_c1, MP.g_add, MP.g_catS, MP.g_catL, MP.g_catT, MP.g_sub, MP.g_mul, MP.g_rep, MP.g_div, MP.g_mod, MP.g_pow, MP.g_shl, MP.g_shr, MP.g_and, MP.g_orI, MP.g_neg, MP.g_lt, MP.g_le, MP.g_gt, MP.g_ge, MP.g_eqI, MP.g_eqS, MP.g_eqBo, MP.g_neI, MP.g_neS, MP.g_neBo, MP.g_is, MP.g_isNot, MP.n_none, MP.n_int, MP.n_str, MP.n_tup, MP.n_list, MP.n_bool, MP.g_max, MP.g_min, MP.g_lenL, MP.g_lenK, MP.g_lenT, MP.g_listL, MP.g_listK, MP.g_listT, MP.g_tupL, MP.g_tupT, MP.q_list, MP.q_lk, MP.q_tup, MP.g_rng1, MP.g_rng2, MP.g_enumL, MP.g_enumK, MP.g_ixL, MP.g_ixK, MP.g_ixT, MP.g_slL, MP.g_slK, MP.g_slT, MP.s_Nil, MP.s_Brk, MP.s_Cont, MP.s_Seq, MP.s_xSn, MP.s_xSr, MP.s_xSb, MP.s_xSc, MP.s_xSe, MP.s_Expr, MP.s_xEx, MP.s_SetV, MP.s_xSV, MP.s_SetO, MP.s_xSOs, MP.s_xSOf, MP.s_Ret, MP.s_xRts, MP.s_xRtf, MP.s_RetN, MP.s_RetS, MP.s_xRSo, MP.s_xRSv, MP.s_If, MP.s_xIfT, MP.s_xIfF, MP.s_Tup, MP.s_xTu, MP.s_xTb, MP.s_For, MP.s_xFor, MP.s_App, MP.s_xAp, MP.s_Thaw, MP.s_xTh, MP.s_Frz, MP.s_xFzo, MP.s_xFzv, MP.s_ExprF, MP.s_xEF, MP.s_SetF, MP.s_xSF, MP.s_RetF, MP.s_xRF, MP.s_IfF, MP.s_xIFT, MP.s_xIFF, MP.s_FldN, MP.s_xN, MP.s_xN2, MP.s_xN3, MP.s_put0, MP.s_put1, MP.s_putN, MP.f_P, MP.f_xPs, MP.f_xPf, MP.f_User, MP.f_xFU, MP.f_Meth, MP.f_xM, MP.f_xM2, MP.f_Make, MP.f_xMk, MP.f_xMkF, MP.fe_ok, MP.r_run, MP.r_un, MP.r_un0, MP.r_nx, MP.r_ret, MP.r_exc, MP.t_nx, MP.t_cont, MP.t_brk, MP.t_ret, MP.b_nm, MP.b_tp2, MP.b_tp3, MP.t_bk, MP.fe_pop, MP.s_appF, MP.s_dead, MP.g_divmod, MP.g_sorted, MP.g_allB, MP.g_anyB, MP.g_sumI, MP.g_zipT, MP.g_zipL, MP.e_pZip, MP.e_xZp, MP.g_abs, MP.g_intI, MP.g_intB, MP.g_repT, MP.e_pLRng, MP.e_xLR, MP.f_Pop, MP.f_xPop, MP.s_AppF, MP.s_xAF0, MP.s_xAF, MP.s_xAF2, MP.g_inI, MP.g_ninI, MP.g_inT, MP.g_ninT, MP.g_ninST, MP.e_c2, MP.e_c3, MP.e_c4, MP.e_c5, MP.e_pIsi, List.getElem?_cons_zero, List.getElem?_cons_succ, List.getElem?_nil, List.set_cons_zero, List.set_cons_succ, List.map_cons, List.map_nil, List.length_cons, List.length_nil, List.length_append, List.cons_append, List.nil_append, List.length_map, List.length_singleton, Nat.reduceBEq, Nat.reduceAdd, Nat.reduceSub, Nat.reduceMul, Nat.reduceEqDiff, Nat.reduceLeDiff, Nat.reduceLT, if_false, if_true, ite_true, ite_false, ↓reduceIte, Bool.not_true, Bool.not_false, Bool.false_eq_true, decide_true, decide_false, eq_self, and_true, true_and, and_self, Nat.zero_le, Nat.zero_add, Option.bind_some, Option.bind_none, Nat.lt_irrefl, Int.reduceToNat, Int.reducePow, Int.reduceNeg, Int.reduceMul, Int.reduceAdd, Int.reduceSub, Int.reduceLT, Int.reduceLE, Int.reduceEq, beq_self_eq_true, wipeE, MP.at0, MP.at1, MP.at2, MP.atLit, hat0, atN, hm, h0, hb2]
    · simp (disch := (first | assumption | with_reducible rfl | decide +kernel | exact Or.inl (by decide +kernel) | exact Or.inr (by decide +kernel) | omega | (simp only [List.length_cons, List.length_nil, List.length_append, List.length_map, List.length_replicate, List.length_range] <;> omega) | rfl)) only [MP.of_some, MP.map_some, MP.e_lv, MP.e_lo, MP.e_pD, MP.e_xDs, MP.e_xDf, MP.e_pC, MP.e_pYes, MP.e_pVar, MP.e_p2, MP.e_x2, MP.e_p1, MP.e_x1, MP.e_pB, MP.e_xB, MP.e_pNot, MP.e_xNot, MP.e_pAnd, MP.e_xAndT, MP.e_xAndF, MP.e_pOr, MP.e_xOrT, MP.e_xOrF, MP.e_pAndV, MP.e_xAndVT, MP.e_xAndVF, MP.e_pOrV, MP.e_xOrVT, MP.e_xOrVF, MP.e_pNotV, MP.e_xNotV, MP.e_pIf, MP.e_xIfT, MP.e_xIfF, MP.e_p3, MP.e_x3, MP.e_x3bT, MP.e_x3bF, MP.e_pNil, MP.e_pCons, MP.e_xCons, MP.e_pTup, MP.e_xTp, MP.e_pLst, MP.e_xLs, MP.e_pNo, MP.e_pSome, MP.e_xSo, MP.e_pSl, MP.e_xSl, MP.e_pCall, MP.e_xG, MP.e_pSeq, MP.e_xSq, MP.e_pSeqR, MP.e_xSqR, MP.e_pRng, MP.e_pEnum, MP.e_xEn, MP.e_pComp, MP.e_xC, MP.e_xC2, MP.e_pUser, MP.e_xU, MP.e_xFv, MP.e_xFo, MP.e_xFe, MP.e_pSeal, MP.e_xSe, MP.e_xSeFv, MP.e_xSeFo, MP.e_pLook, MP.e_xLo, MP.e_xLoF, MP.e_pFld, MP.e_xFd, MP.e_xOb, MP.e_xLk0, MP.e_xLk1, MP.e_c0, MP.e_c1, MP.g_add, MP.g_catS, MP.g_catL, MP.g_catT, MP.g_sub, MP.g_mul, MP.g_rep, MP.g_div, MP.g_mod, MP.g_pow, MP.g_shl, MP.g_shr, MP.g_and, MP.g_orI, MP.g_neg, MP.g_lt, MP.g_le, MP.g_gt, MP.g_ge, MP.g_eqI, MP.g_eqS, MP.g_eqBo, MP.g_neI, MP.g_neS, MP.g_neBo, MP.g_is, MP.g_isNot, MP.n_none, MP.n_int, MP.n_str, MP.n_tup, MP.n_list, MP.n_bool, MP.g_max, MP.g_min, MP.g_lenL, MP.g_lenK, MP.g_lenT, MP.g_listL, MP.g_listK, MP.g_listT, MP.g_tupL, MP.g_tupT, MP.q_list, MP.q_lk, MP.q_tup, MP.g_rng1, MP.g_rng2, MP.g_enumL, MP.g_enumK, MP.g_ixL, MP.g_ixK, MP.g_ixT, MP.g_slL, MP.g_slK, MP.g_slT, MP.s_Nil, MP.s_Brk, MP.s_Cont, MP.s_Seq, MP.s_xSn, MP.s_xSr, MP.s_xSb, MP.s_xSc, MP.s_xSe, MP.s_Expr, MP.s_xEx, MP.s_SetV, MP.s_xSV, MP.s_SetO, MP.s_xSOs, MP.s_xSOf, MP.s_Ret, MP.s_xRts, MP.s_xRtf, MP.s_RetN, MP.s_RetS, MP.s_xRSo, MP.s_xRSv, MP.s_If, MP.s_xIfT, MP.s_xIfF, MP.s_Tup, MP.s_xTu, MP.s_xTb, MP.s_For, MP.s_xFor, MP.s_App, MP.s_xAp, MP.s_Thaw, MP.s_xTh, MP.s_Frz, MP.s_xFzo, MP.s_xFzv, MP.s_ExprF, MP.s_xEF, MP.s_SetF, MP.s_xSF, MP.s_RetF, MP.s_xRF, MP.s_IfF, MP.s_xIFT, MP.s_xIFF, MP.s_FldN, MP.s_xN, MP.s_xN2, MP.s_xN3, MP.s_put0, MP.s_put1, MP.s_putN, MP.f_P, MP.f_xPs, MP.f_xPf, MP.f_User, MP.f_xFU, MP.f_Meth, MP.f_xM, MP.f_xM2, MP.f_Make, MP.f_xMk, MP.f_xMkF, MP.fe_ok, MP.r_run, MP.r_un, MP.r_un0, MP.r_nx, MP.r_ret, MP.r_exc, MP.t_nx, MP.t_cont, MP.t_brk, MP.t_ret, MP.b_nm, MP.b_tp2, MP.b_tp3, MP.t_bk, MP.fe_pop, MP.s_appF, MP.s_dead, MP.g_divmod, MP.g_sorted, MP.g_allB, MP.g_anyB, MP.g_sumI, MP.g_zipT, MP.g_zipL, MP.e_pZip, MP.e_xZp, MP.g_abs, MP.g_intI, MP.g_intB, MP.g_repT, MP.e_pLRng, MP.e_xLR, MP.f_Pop, MP.f_xPop, MP.s_AppF, MP.s_xAF0, MP.s_xAF, MP.s_xAF2, MP.g_inI, MP.g_ninI, MP.g_inT, MP.g_ninT, MP.g_ninST, MP.e_c2, MP.e_c3, MP.e_c4, MP.e_c5, MP.e_pIsi, List.getElem?_cons_zero, List.getElem?_cons_succ, List.getElem?_nil, List.set_cons_zero, List.set_cons_succ, List.map_cons, List.map_nil, List.length_cons, List.length_nil, List.length_append, List.cons_append, List.nil_append, List.length_map, List.length_singleton, Nat.reduceBEq, Nat.reduceAdd, Nat.reduceSub, Nat.reduceMul, Nat.reduceEqDiff, Nat.reduceLeDiff, Nat.reduceLT, if_false, if_true, ite_true, ite_false, ↓reduceIte, Bool.not_true, Bool.not_false, Bool.false_eq_true, decide_true, decide_false, eq_self, and_true, true_and, and_self, Nat.zero_le, Nat.zero_add, Option.bind_some, Option.bind_none, Nat.lt_irrefl, Int.reduceToNat, Int.reducePow, Int.reduceNeg, Int.reduceMul, Int.reduceAdd, Int.reduceSub, Int.reduceLT, Int.reduceLE, Int.reduceEq, beq_self_eq_true, wipeE, MP.at0, MP.at1, MP.at2, MP.atLit]
  refine sq (P := fun fl => ∃ b, Good b ∧ fl.fr = .ok (.v (bedD b)) []) (s' := ⟨[.v (.lk (zs ns)), .v (.int (at_ : Nat)), .v (.int f), .v (.bool rich), .v (.int (K : Nat)), .own (.list (ls.map rowD)), x6, .v (.list (nD (plainF K r0))), .un, .un, x10, .un, .un, .un, .un], []⟩) (by unfold st_l_bed_8; generalize hlm : ls.map rowD = lsd at *; simp (disch := (first | assumption | with_reducible rfl | decide +kernel | exact Or.inl (by decide +kernel) | exact Or.inr (by decide +kernel) | omega | (simp only [List.length_cons, List.length_nil, List.length_append, List.length_map, List.length_replicate, List.length_range] <;> omega) | rfl)) only [MP.of_some, MP.map_some, MP.e_lv, MP.e_lo, MP.e_pD, MP.e_xDs, MP.e_xDf, MP.e_pC, MP.e_pYes, MP.e_pVar, MP.e_p2, MP.e_x2, MP.e_p1, MP.e_x1, MP.e_pB, MP.e_xB, MP.e_pNot, MP.e_xNot, MP.e_pAnd, MP.e_xAndT, MP.e_xAndF, MP.e_pOr, MP.e_xOrT, MP.e_xOrF, MP.e_pAndV, MP.e_xAndVT, MP.e_xAndVF, MP.e_pOrV, MP.e_xOrVT, MP.e_xOrVF, MP.e_pNotV, MP.e_xNotV, MP.e_pIf, MP.e_xIfT, MP.e_xIfF, MP.e_p3, MP.e_x3, MP.e_x3bT, MP.e_x3bF, MP.e_pNil, MP.e_pCons, MP.e_xCons, MP.e_pTup, MP.e_xTp, MP.e_pLst, MP.e_xLs, MP.e_pNo, MP.e_pSome, MP.e_xSo, MP.e_pSl, MP.e_xSl, MP.e_pCall, MP.e_xG, MP.e_pSeq, MP.e_xSq, MP.e_pSeqR, MP.e_xSqR, MP.e_pRng, MP.e_pEnum, MP.e_xEn, MP.e_pComp, MP.e_xC, MP.e_xC2, MP.e_pUser, MP.e_xU, MP.e_xFv, MP.e_xFo, MP.e_xFe, MP.e_pSeal, MP.e_xSe, MP.e_xSeFv, MP.e_xSeFo, MP.e_pLook, MP.e_xLo, MP.e_xLoF, MP.e_pFld, MP.e_xFd, MP.e_xOb, MP.e_xLk0, MP.e_xLk1, MP.e_c0, MP.e_c1, MP.g_add, MP.g_catS, MP.g_catL, MP.g_catT, MP.g_sub, MP.g_mul, MP.g_rep, MP.g_div, MP.g_mod, MP.g_pow, MP.g_shl, MP.g_shr, MP.g_and, MP.g_orI, MP.g_neg, MP.g_lt, MP.g_le, MP.g_gt, MP.g_ge, MP.g_eqI, MP.g_eqS, MP.g_eqBo, MP.g_neI, MP.g_neS, MP.g_neBo, MP.g_is, MP.g_isNot, MP.n_none, MP.n_int, MP.n_str, MP.n_tup, MP.n_list, MP.n_bool, MP.g_max, MP.g_min, MP.g_lenL, MP.g_lenK, MP.g_lenT, MP.g_listL, MP.g_listK, MP.g_listT, MP.g_tupL, MP.g_tupT, MP.q_list, MP.q_lk, MP.q_tup, MP.g_rng1, MP.g_rng2, MP.g_enumL, MP.g_enumK, MP.g_ixL, MP.g_ixK, MP.g_ixT, MP.g_slL, MP.g_slK, MP.g_slT, MP.s_Nil, MP.s_Brk, MP.s_Cont, MP.s_Seq, MP.s_xSn, MP.s_xSr, MP.s_xSb, MP.s_xSc, MP.s_xSe, MP.s_Expr, MP.s_xEx, MP.s_SetV, MP.s_xSV, MP.s_SetO, MP.s_xSOs, MP.s_xSOf, MP.s_Ret, MP.s_xRts, MP.s_xRtf, MP.s_RetN, MP.s_RetS, MP.s_xRSo, MP.s_xRSv, MP.s_If, MP.s_xIfT, MP.s_xIfF, MP.s_Tup, MP.s_xTu, MP.s_xTb, MP.s_For, MP.s_xFor, MP.s_App, MP.s_xAp, MP.s_Thaw, MP.s_xTh, MP.s_Frz, MP.s_xFzo, MP.s_xFzv, MP.s_ExprF, MP.s_xEF, MP.s_SetF, MP.s_xSF, MP.s_RetF, MP.s_xRF, MP.s_IfF, MP.s_xIFT, MP.s_xIFF, MP.s_FldN, MP.s_xN, MP.s_xN2, MP.s_xN3, MP.s_put0, MP.s_put1, MP.s_putN, MP.f_P, MP.f_xPs, MP.f_xPf, MP.f_User, MP.f_xFU, MP.f_Meth, MP.f_xM, MP.f_xM2, MP.f_Make, MP.f_xMk, MP.f_xMkF, MP.fe_ok, MP.r_run, MP.r_un, MP.r_un0, MP.r_nx, MP.r_ret, MP.r_exc, MP.t_nx, MP.t_cont, MP.t_brk, MP.t_ret, MP.b_nm, MP.b_tp2, MP.b_tp3, MP.t_bk, MP.fe_pop, MP.s_appF, MP.s_dead, MP.g_divmod, MP.g_sorted, MP.g_allB, MP.g_anyB, MP.g_sumI, MP.g_zipT, MP.g_zipL, MP.e_pZip, MP.e_xZp, MP.g_abs, MP.g_intI, MP.g_intB, MP.g_repT, MP.e_pLRng, MP.e_xLR, MP.f_Pop, MP.f_xPop, MP.s_AppF, MP.s_xAF0, MP.s_xAF, MP.s_xAF2, MP.g_inI, MP.g_ninI, MP.g_inT, MP.g_ninT, MP.g_ninST, MP.e_c2, MP.e_c3, MP.e_c4, MP.e_c5, MP.e_pIsi, List.getElem?_cons_zero, List.getElem?_cons_succ, List.getElem?_nil, List.set_cons_zero, List.set_cons_succ, List.map_cons, List.map_nil, List.length_cons, List.length_nil, List.length_append, List.cons_append, List.nil_append, List.length_map, List.length_singleton, Nat.reduceBEq, Nat.reduceAdd, Nat.reduceSub, Nat.reduceMul, Nat.reduceEqDiff, Nat.reduceLeDiff, Nat.reduceLT, if_false, if_true, ite_true, ite_false, ↓reduceIte, Bool.not_true, Bool.not_false, Bool.false_eq_true, decide_true, decide_false, eq_self, and_true, true_and, and_self, Nat.zero_le, Nat.zero_add, Option.bind_some, Option.bind_none, Nat.lt_irrefl, Int.reduceToNat, Int.reducePow, Int.reduceNeg, Int.reduceMul, Int.reduceAdd, Int.reduceSub, Int.reduceLT, Int.reduceLE, Int.reduceEq, beq_self_eq_true, wipeE, MP.at0, MP.at1, MP.at2, MP.atLit, hpc]) ?_
  refine sq (P := fun fl => ∃ b, Good b ∧ fl.fr = .ok (.v (bedD b)) []) (s' := ⟨[.v (.lk (zs ns)), .v (.int (at_ : Nat)), .v (.int f), .v (.bool rich), .v (.int (K : Nat)), .own (.list (ls.map rowD)), x6, .v (.list (nD (plainF K r0))), .own (.list []), .un, x10, .un, .un, .un, .un], []⟩) (by unfold st_l_bed_9; simp (disch := (first | assumption | with_reducible rfl | decide +kernel | exact Or.inl (by decide +kernel) | exact Or.inr (by decide +kernel) | omega | (simp only [List.length_cons, List.length_nil, List.length_append, List.length_map, List.length_replicate, List.length_range] <;> omega) | rfl)) only [MP.of_some, MP.map_some, MP.e_lv, MP.e_lo, MP.e_pD, MP.e_xDs, MP.e_xDf, MP.e_pC, MP.e_pYes, MP.e_pVar, MP.e_p2, MP.e_x2, MP.e_p1, MP.e_x1, MP.e_pB, MP.e_xB, MP.e_pNot, MP.e_xNot, MP.e_pAnd, MP.e_xAndT, MP.e_xAndF, MP.e_pOr, MP.e_xOrT, MP.e_xOrF, MP.e_pAndV, MP.e_xAndVT, MP.e_xAndVF, MP.e_pOrV, MP.e_xOrVT, MP.e_xOrVF, MP.e_pNotV, MP.e_xNotV, MP.e_pIf, MP.e_xIfT, MP.e_xIfF, MP.e_p3, MP.e_x3, MP.e_x3bT, MP.e_x3bF, MP.e_pNil, MP.e_pCons, MP.e_xCons, MP.e_pTup, MP.e_xTp, MP.e_pLst, MP.e_xLs, MP.e_pNo, MP.e_pSome, MP.e_xSo, MP.e_pSl, MP.e_xSl, MP.e_pCall, MP.e_xG, MP.e_pSeq, MP.e_xSq, MP.e_pSeqR, MP.e_xSqR, MP.e_pRng, MP.e_pEnum, MP.e_xEn, MP.e_pComp, MP.e_xC, MP.e_xC2, MP.e_pUser, MP.e_xU, MP.e_xFv, MP.e_xFo, MP.e_xFe, MP.e_pSeal, MP.e_xSe, MP.e_xSeFv, MP.e_xSeFo, MP.e_pLook, MP.e_xLo, MP.e_xLoF, MP.e_pFld, MP.e_xFd, MP.e_xOb, MP.e_xLk0, MP.e_xLk1, MP.e_c0, MP.e_c1, MP.g_add, MP.g_catS, MP.g_catL, MP.g_catT, MP.g_sub, MP.g_mul, MP.g_rep, MP.g_div, MP.g_mod, MP.g_pow, MP.g_shl, MP.g_shr, MP.g_and, MP.g_orI, MP.g_neg, MP.g_lt, MP.g_le, MP.g_gt, MP.g_ge, MP.g_eqI, MP.g_eqS, MP.g_eqBo, MP.g_neI, MP.g_neS, MP.g_neBo, MP.g_is, MP.g_isNot, MP.n_none, MP.n_int, MP.n_str, MP.n_tup, MP.n_list, MP.n_bool, MP.g_max, MP.g_min, MP.g_lenL, MP.g_lenK, MP.g_lenT, MP.g_listL, MP.g_listK, MP.g_listT, MP.g_tupL, MP.g_tupT, MP.q_list, MP.q_lk, MP.q_tup, MP.g_rng1, MP.g_rng2, MP.g_enumL, MP.g_enumK, MP.g_ixL, MP.g_ixK, MP.g_ixT, MP.g_slL, MP.g_slK, MP.g_slT, MP.s_Nil, MP.s_Brk, MP.s_Cont, MP.s_Seq, MP.s_xSn, MP.s_xSr, MP.s_xSb, MP.s_xSc, MP.s_xSe, MP.s_Expr, MP.s_xEx, MP.s_SetV, MP.s_xSV, MP.s_SetO, MP.s_xSOs, MP.s_xSOf, MP.s_Ret, MP.s_xRts, MP.s_xRtf, MP.s_RetN, MP.s_RetS, MP.s_xRSo, MP.s_xRSv, MP.s_If, MP.s_xIfT, MP.s_xIfF, MP.s_Tup, MP.s_xTu, MP.s_xTb, MP.s_For, MP.s_xFor, MP.s_App, MP.s_xAp, MP.s_Thaw, MP.s_xTh, MP.s_Frz, MP.s_xFzo, MP.s_xFzv, MP.s_ExprF, MP.s_xEF, MP.s_SetF, MP.s_xSF, MP.s_RetF, MP.s_xRF, MP.s_IfF, MP.s_xIFT, MP.s_xIFF, MP.s_FldN, MP.s_xN, MP.s_xN2, MP.s_xN3, MP.s_put0, MP.s_put1, MP.s_putN, MP.f_P, MP.f_xPs, MP.f_xPf, MP.f_User, MP.f_xFU, MP.f_Meth, MP.f_xM, MP.f_xM2, MP.f_Make, MP.f_xMk, MP.f_xMkF, MP.fe_ok, MP.r_run, MP.r_un, MP.r_un0, MP.r_nx, MP.r_ret, MP.r_exc, MP.t_nx, MP.t_cont, MP.t_brk, MP.t_ret, MP.b_nm, MP.b_tp2, MP.b_tp3, MP.t_bk, MP.fe_pop, MP.s_appF, MP.s_dead, MP.g_divmod, MP.g_sorted, MP.g_allB, MP.g_anyB, MP.g_sumI, MP.g_zipT, MP.g_zipL, MP.e_pZip, MP.e_xZp, MP.g_abs, MP.g_intI, MP.g_intB, MP.g_repT, MP.e_pLRng, MP.e_xLR, MP.f_Pop, MP.f_xPop, MP.s_AppF, MP.s_xAF0, MP.s_xAF, MP.s_xAF2, MP.g_inI, MP.g_ninI, MP.g_inT, MP.g_ninT, MP.g_ninST, MP.e_c2, MP.e_c3, MP.e_c4, MP.e_c5, MP.e_pIsi, List.getElem?_cons_zero, List.getElem?_cons_succ, List.getElem?_nil, List.set_cons_zero, List.set_cons_succ, List.map_cons, List.map_nil, List.length_cons, List.length_nil, List.length_append, List.cons_append, List.nil_append, List.length_map, List.length_singleton, Nat.reduceBEq, Nat.reduceAdd, Nat.reduceSub, Nat.reduceMul, Nat.reduceEqDiff, Nat.reduceLeDiff, Nat.reduceLT, if_false, if_true, ite_true, ite_false, ↓reduceIte, Bool.not_true, Bool.not_false, Bool.false_eq_true, decide_true, decide_false, eq_self, and_true, true_and, and_self, Nat.zero_le, Nat.zero_add, Option.bind_some, Option.bind_none, Nat.lt_irrefl, Int.reduceToNat, Int.reducePow, Int.reduceNeg, Int.reduceMul, Int.reduceAdd, Int.reduceSub, Int.reduceLT, Int.reduceLE, Int.reduceEq, beq_self_eq_true, wipeE, MP.at0, MP.at1, MP.at2, MP.atLit]) ?_
  have c16 := m_cell ns ((at_ : Int) + 16) (by omega)
  generalize ns.getD ((at_ : Int) + 16).toNat 0 = c2 at c16
  have w16 := m_wide c2 16 (by decide)
  generalize wide c2 16 = w2 at w16
  obtain ⟨N, hN4, hN⟩ : ∃ N : Nat, N ≤ 4 ∧ (PR.of ((atI [D.int (w2 % 5), D.int (1 + f / 240 % 4)] (if rich = true then 1 else 0)).map (RV.mk .sh))) = .ok ⟨.sh, .int (N : Int)⟩ := by
    cases rich with
    | true =>
      obtain ⟨N, hN⟩ : ∃ N : Nat, 1 + f / 240 % 4 = (N : Int) := ⟨(1 + f / 240 % 4).toNat, by omega⟩
      exact ⟨N, by omega, by rw [hN]; rfl⟩
    | false =>
      obtain ⟨N, hN⟩ : ∃ N : Nat, w2 % 5 = (N : Int) := ⟨(w2 % 5).toNat, by omega⟩
      exact ⟨N, by omega, by rw [hN]; rfl⟩
  unfold st_l_bed_10
  refine forP (P := fun fl => ∃ b, Good b ∧ fl.fr = .ok (.v (bedD b)) []) (rng 0 (N : Int)) (fun i s => ∃ cs x9 x11 x12, cs.length ≤ i ∧ ChsOk K r0 cs ∧ s = ⟨[.v (.lk (zs ns)), .v (.int (at_ : Nat)), .v (.int f), .v (.bool rich), .v (.int (K : Nat)), .own (.list (ls.map rowD)), x6, .v (.list (nD (plainF K r0))), .own (.list (cs.map chD)), x9, x10, x11, x12, .un, .un], []⟩)
    (by simp (disch := (first | assumption | with_reducible rfl | decide +kernel | exact Or.inl (by decide +kernel) | exact Or.inr (by decide +kernel) | omega | (simp only [List.length_cons, List.length_nil, List.length_append, List.length_map, List.length_replicate, List.length_range] <;> omega) | rfl)) only [MP.of_some, MP.map_some, MP.e_lv, MP.e_lo, MP.e_pD, MP.e_xDs, MP.e_xDf, MP.e_pC, MP.e_pYes, MP.e_pVar, MP.e_p2, MP.e_x2, MP.e_p1, MP.e_x1, MP.e_pB, MP.e_xB, MP.e_pNot, MP.e_xNot, MP.e_pAnd, MP.e_xAndT, MP.e_xAndF, MP.e_pOr, MP.e_xOrT, MP.e_xOrF, MP.e_pAndV, MP.e_xAndVT, MP.e_xAndVF, MP.e_pOrV, MP.e_xOrVT, MP.e_xOrVF, MP.e_pNotV, MP.e_xNotV, MP.e_pIf, MP.e_xIfT, MP.e_xIfF, MP.e_p3, MP.e_x3, MP.e_x3bT, MP.e_x3bF, MP.e_pNil, MP.e_pCons, MP.e_xCons, MP.e_pTup, MP.e_xTp, MP.e_pLst, MP.e_xLs, MP.e_pNo, MP.e_pSome, MP.e_xSo, MP.e_pSl, MP.e_xSl, MP.e_pCall, MP.e_xG, MP.e_pSeq, MP.e_xSq, MP.e_pSeqR, MP.e_xSqR, MP.e_pRng, MP.e_pEnum, MP.e_xEn, MP.e_pComp, MP.e_xC, MP.e_xC2, MP.e_pUser, MP.e_xU, MP.e_xFv, MP.e_xFo, MP.e_xFe, MP.e_pSeal, MP.e_xSe, MP.e_xSeFv, MP.e_xSeFo, MP.e_pLook, MP.e_xLo, MP.e_xLoF, MP.e_pFld, MP.e_xFd, MP.e_xOb, MP.e_xLk0, MP.e_xLk1, MP.e_c0, MP.e_c1, MP.g_add, MP.g_catS, MP.g_catL, MP.g_catT, MP.g_sub, MP.g_mul, MP.g_rep, MP.g_div, MP.g_mod, MP.g_pow, MP.g_shl, MP.g_shr, MP.g_and, MP.g_orI, MP.g_neg, MP.g_lt, MP.g_le, MP.g_gt, MP.g_ge, MP.g_eqI, MP.g_eqS, MP.g_eqBo, MP.g_neI, MP.g_neS, MP.g_neBo, MP.g_is, MP.g_isNot, MP.n_none, MP.n_int, MP.n_str, MP.n_tup, MP.n_list, MP.n_bool, MP.g_max, MP.g_min, MP.g_lenL, MP.g_lenK, MP.g_lenT, MP.g_listL, MP.g_listK, MP.g_listT, MP.g_tupL, MP.g_tupT, MP.q_list, MP.q_lk, MP.q_tup, MP.g_rng1, MP.g_rng2, MP.g_enumL, MP.g_enumK, MP.g_ixL, MP.g_ixK, MP.g_ixT, MP.g_slL, MP.g_slK, MP.g_slT, MP.s_Nil, MP.s_Brk, MP.s_Cont, MP.s_Seq, MP.s_xSn, MP.s_xSr, MP.s_xSb, MP.s_xSc, MP.s_xSe, MP.s_Expr, MP.s_xEx, MP.s_SetV, MP.s_xSV, MP.s_SetO, MP.s_xSOs, MP.s_xSOf, MP.s_Ret, MP.s_xRts, MP.s_xRtf, MP.s_RetN, MP.s_RetS, MP.s_xRSo, MP.s_xRSv, MP.s_If, MP.s_xIfT, MP.s_xIfF, MP.s_Tup, MP.s_xTu, MP.s_xTb, MP.s_For, MP.s_xFor, MP.s_App, MP.s_xAp, MP.s_Thaw, MP.s_xTh, MP.s_Frz, MP.s_xFzo, MP.s_xFzv, MP.s_ExprF, MP.s_xEF, MP.s_SetF, MP.s_xSF, MP.s_RetF, MP.s_xRF, MP.s_IfF, MP.s_xIFT, MP.s_xIFF, MP.s_FldN, MP.s_xN, MP.s_xN2, MP.s_xN3, MP.s_put0, MP.s_put1, MP.s_putN, MP.f_P, MP.f_xPs, MP.f_xPf, MP.f_User, MP.f_xFU, MP.f_Meth, MP.f_xM, MP.f_xM2, MP.f_Make, MP.f_xMk, MP.f_xMkF, MP.fe_ok, MP.r_run, MP.r_un, MP.r_un0, MP.r_nx, MP.r_ret, MP.r_exc, MP.t_nx, MP.t_cont, MP.t_brk, MP.t_ret, MP.b_nm, MP.b_tp2, MP.b_tp3, MP.t_bk, MP.fe_pop, MP.s_appF, MP.s_dead, MP.g_divmod, MP.g_sorted, MP.g_allB, MP.g_anyB, MP.g_sumI, MP.g_zipT, MP.g_zipL, MP.e_pZip, MP.e_xZp, MP.g_abs, MP.g_intI, MP.g_intB, MP.g_repT, MP.e_pLRng, MP.e_xLR, MP.f_Pop, MP.f_xPop, MP.s_AppF, MP.s_xAF0, MP.s_xAF, MP.s_xAF2, MP.g_inI, MP.g_ninI, MP.g_inT, MP.g_ninT, MP.g_ninST, MP.e_c2, MP.e_c3, MP.e_c4, MP.e_c5, MP.e_pIsi, List.getElem?_cons_zero, List.getElem?_cons_succ, List.getElem?_nil, List.set_cons_zero, List.set_cons_succ, List.map_cons, List.map_nil, List.length_cons, List.length_nil, List.length_append, List.cons_append, List.nil_append, List.length_map, List.length_singleton, Nat.reduceBEq, Nat.reduceAdd, Nat.reduceSub, Nat.reduceMul, Nat.reduceEqDiff, Nat.reduceLeDiff, Nat.reduceLT, if_false, if_true, ite_true, ite_false, ↓reduceIte, Bool.not_true, Bool.not_false, Bool.false_eq_true, decide_true, decide_false, eq_self, and_true, true_and, and_self, Nat.zero_le, Nat.zero_add, Option.bind_some, Option.bind_none, Nat.lt_irrefl, Int.reduceToNat, Int.reducePow, Int.reduceNeg, Int.reduceMul, Int.reduceAdd, Int.reduceSub, Int.reduceLT, Int.reduceLE, Int.reduceEq, beq_self_eq_true, wipeE, MP.at0, MP.at1, MP.at2, MP.atLit, c16, w16, hN]) ⟨[], _, _, _, Nat.le_refl _, ⟨(fun c hc => by cases hc), List.nodup_nil⟩, rfl⟩ ?_ ?_
  · rintro k d s hd ⟨cs, x9, x11, x12, hcl, gc, rfl⟩
    obtain ⟨rfl, hk⟩ := rngAt hd
    obtain ⟨cs', x11', x12', m1, m2, m3⟩ := m_chord_turn ns at_ K k hat (by omega) hK5 f rich hK3 r0 hr0l (fun h => hg h r0 hr0) (ls.map rowD) cs (by omega) gc x6 x10 x11 x12
    refine ⟨_, b_nm .., ?_⟩
    simp (disch := (first | assumption | with_reducible rfl | decide +kernel | exact Or.inl (by decide +kernel) | exact Or.inr (by decide +kernel) | omega | (simp only [List.length_cons, List.length_nil, List.length_append, List.length_map, List.length_replicate, List.length_range] <;> omega) | rfl)) only [MP.of_some, MP.map_some, MP.e_lv, MP.e_lo, MP.e_pD, MP.e_xDs, MP.e_xDf, MP.e_pC, MP.e_pYes, MP.e_pVar, MP.e_p2, MP.e_x2, MP.e_p1, MP.e_x1, MP.e_pB, MP.e_xB, MP.e_pNot, MP.e_xNot, MP.e_pAnd, MP.e_xAndT, MP.e_xAndF, MP.e_pOr, MP.e_xOrT, MP.e_xOrF, MP.e_pAndV, MP.e_xAndVT, MP.e_xAndVF, MP.e_pOrV, MP.e_xOrVT, MP.e_xOrVF, MP.e_pNotV, MP.e_xNotV, MP.e_pIf, MP.e_xIfT, MP.e_xIfF, MP.e_p3, MP.e_x3, MP.e_x3bT, MP.e_x3bF, MP.e_pNil, MP.e_pCons, MP.e_xCons, MP.e_pTup, MP.e_xTp, MP.e_pLst, MP.e_xLs, MP.e_pNo, MP.e_pSome, MP.e_xSo, MP.e_pSl, MP.e_xSl, MP.e_pCall, MP.e_xG, MP.e_pSeq, MP.e_xSq, MP.e_pSeqR, MP.e_xSqR, MP.e_pRng, MP.e_pEnum, MP.e_xEn, MP.e_pComp, MP.e_xC, MP.e_xC2, MP.e_pUser, MP.e_xU, MP.e_xFv, MP.e_xFo, MP.e_xFe, MP.e_pSeal, MP.e_xSe, MP.e_xSeFv, MP.e_xSeFo, MP.e_pLook, MP.e_xLo, MP.e_xLoF, MP.e_pFld, MP.e_xFd, MP.e_xOb, MP.e_xLk0, MP.e_xLk1, MP.e_c0, MP.e_c1, MP.g_add, MP.g_catS, MP.g_catL, MP.g_catT, MP.g_sub, MP.g_mul, MP.g_rep, MP.g_div, MP.g_mod, MP.g_pow, MP.g_shl, MP.g_shr, MP.g_and, MP.g_orI, MP.g_neg, MP.g_lt, MP.g_le, MP.g_gt, MP.g_ge, MP.g_eqI, MP.g_eqS, MP.g_eqBo, MP.g_neI, MP.g_neS, MP.g_neBo, MP.g_is, MP.g_isNot, MP.n_none, MP.n_int, MP.n_str, MP.n_tup, MP.n_list, MP.n_bool, MP.g_max, MP.g_min, MP.g_lenL, MP.g_lenK, MP.g_lenT, MP.g_listL, MP.g_listK, MP.g_listT, MP.g_tupL, MP.g_tupT, MP.q_list, MP.q_lk, MP.q_tup, MP.g_rng1, MP.g_rng2, MP.g_enumL, MP.g_enumK, MP.g_ixL, MP.g_ixK, MP.g_ixT, MP.g_slL, MP.g_slK, MP.g_slT, MP.s_Nil, MP.s_Brk, MP.s_Cont, MP.s_Seq, MP.s_xSn, MP.s_xSr, MP.s_xSb, MP.s_xSc, MP.s_xSe, MP.s_Expr, MP.s_xEx, MP.s_SetV, MP.s_xSV, MP.s_SetO, MP.s_xSOs, MP.s_xSOf, MP.s_Ret, MP.s_xRts, MP.s_xRtf, MP.s_RetN, MP.s_RetS, MP.s_xRSo, MP.s_xRSv, MP.s_If, MP.s_xIfT, MP.s_xIfF, MP.s_Tup, MP.s_xTu, MP.s_xTb, MP.s_For, MP.s_xFor, MP.s_App, MP.s_xAp, MP.s_Thaw, MP.s_xTh, MP.s_Frz, MP.s_xFzo, MP.s_xFzv, MP.s_ExprF, MP.s_xEF, MP.s_SetF, MP.s_xSF, MP.s_RetF, MP.s_xRF, MP.s_IfF, MP.s_xIFT, MP.s_xIFF, MP.s_FldN, MP.s_xN, MP.s_xN2, MP.s_xN3, MP.s_put0, MP.s_put1, MP.s_putN, MP.f_P, MP.f_xPs, MP.f_xPf, MP.f_User, MP.f_xFU, MP.f_Meth, MP.f_xM, MP.f_xM2, MP.f_Make, MP.f_xMk, MP.f_xMkF, MP.fe_ok, MP.r_run, MP.r_un, MP.r_un0, MP.r_nx, MP.r_ret, MP.r_exc, MP.t_nx, MP.t_cont, MP.t_brk, MP.t_ret, MP.b_nm, MP.b_tp2, MP.b_tp3, MP.t_bk, MP.fe_pop, MP.s_appF, MP.s_dead, MP.g_divmod, MP.g_sorted, MP.g_allB, MP.g_anyB, MP.g_sumI, MP.g_zipT, MP.g_zipL, MP.e_pZip, MP.e_xZp, MP.g_abs, MP.g_intI, MP.g_intB, MP.g_repT, MP.e_pLRng, MP.e_xLR, MP.f_Pop, MP.f_xPop, MP.s_AppF, MP.s_xAF0, MP.s_xAF, MP.s_xAF2, MP.g_inI, MP.g_ninI, MP.g_inT, MP.g_ninT, MP.g_ninST, MP.e_c2, MP.e_c3, MP.e_c4, MP.e_c5, MP.e_pIsi, List.getElem?_cons_zero, List.getElem?_cons_succ, List.getElem?_nil, List.set_cons_zero, List.set_cons_succ, List.map_cons, List.map_nil, List.length_cons, List.length_nil, List.length_append, List.cons_append, List.nil_append, List.length_map, List.length_singleton, Nat.reduceBEq, Nat.reduceAdd, Nat.reduceSub, Nat.reduceMul, Nat.reduceEqDiff, Nat.reduceLeDiff, Nat.reduceLT, if_false, if_true, ite_true, ite_false, ↓reduceIte, Bool.not_true, Bool.not_false, Bool.false_eq_true, decide_true, decide_false, eq_self, and_true, true_and, and_self, Nat.zero_le, Nat.zero_add, Option.bind_some, Option.bind_none, Nat.lt_irrefl, Int.reduceToNat, Int.reducePow, Int.reduceNeg, Int.reduceMul, Int.reduceAdd, Int.reduceSub, Int.reduceLT, Int.reduceLE, Int.reduceEq, beq_self_eq_true, wipeE, MP.at0, MP.at1, MP.at2, MP.atLit, m3]
    exact ⟨cs', _, _, _, by omega, m2, rfl⟩
  · rintro s ⟨cs, x9, x11, x12, hcl, gc, rfl⟩
    rw [rngLenN] at hcl
    obtain ⟨w, hw⟩ : ∃ w : Nat, 1 + f / 15 % 4 = (w : Int) := ⟨(1 + f / 15 % 4).toNat, by omega⟩
    refine ⟨⟨K, ls, cs, w⟩, ⟨hK1, hK5, by show 1 ≤ ls.length; omega, by show ls.length ≤ 3; omega, g.len, fun j r h => by rw [hgn]; exact g.ok j r h, by show cs.length ≤ 4; omega, fun c hc => by rw [hr0d]; exact gc.ch c hc, gc.nd, by show 1 ≤ w; omega, by show w ≤ 4; omega⟩, ?_⟩
    have hcml : (cs.map chD).length = cs.length := by simp
    unfold bedD st_l_bed_11
    generalize ls.map rowD = lsd at *
    generalize cs.map chD = csd at *
    simp (disch := (first | assumption | with_reducible rfl | decide +kernel | exact Or.inl (by decide +kernel) | exact Or.inr (by decide +kernel) | omega | (simp only [List.length_cons, List.length_nil, List.length_append, List.length_map, List.length_replicate, List.length_range] <;> omega) | rfl)) only [MP.of_some, MP.map_some, MP.e_lv, MP.e_lo, MP.e_pD, MP.e_xDs, MP.e_xDf, MP.e_pC, MP.e_pYes, MP.e_pVar, MP.e_p2, MP.e_x2, MP.e_p1, MP.e_x1, MP.e_pB, MP.e_xB, MP.e_pNot, MP.e_xNot, MP.e_pAnd, MP.e_xAndT, MP.e_xAndF, MP.e_pOr, MP.e_xOrT, MP.e_xOrF, MP.e_pAndV, MP.e_xAndVT, MP.e_xAndVF, MP.e_pOrV, MP.e_xOrVT, MP.e_xOrVF, MP.e_pNotV, MP.e_xNotV, MP.e_pIf, MP.e_xIfT, MP.e_xIfF, MP.e_p3, MP.e_x3, MP.e_x3bT, MP.e_x3bF, MP.e_pNil, MP.e_pCons, MP.e_xCons, MP.e_pTup, MP.e_xTp, MP.e_pLst, MP.e_xLs, MP.e_pNo, MP.e_pSome, MP.e_xSo, MP.e_pSl, MP.e_xSl, MP.e_pCall, MP.e_xG, MP.e_pSeq, MP.e_xSq, MP.e_pSeqR, MP.e_xSqR, MP.e_pRng, MP.e_pEnum, MP.e_xEn, MP.e_pComp, MP.e_xC, MP.e_xC2, MP.e_pUser, MP.e_xU, MP.e_xFv, MP.e_xFo, MP.e_xFe, MP.e_pSeal, MP.e_xSe, MP.e_xSeFv, MP.e_xSeFo, MP.e_pLook, MP.e_xLo, MP.e_xLoF, MP.e_pFld, MP.e_xFd, MP.e_xOb, MP.e_xLk0, MP.e_xLk1, MP.e_c0, MP.e_c1, MP.g_add, MP.g_catS, MP.g_catL, MP.g_catT, MP.g_sub, MP.g_mul, MP.g_rep, MP.g_div, MP.g_mod, MP.g_pow, MP.g_shl, MP.g_shr, MP.g_and, MP.g_orI, MP.g_neg, MP.g_lt, MP.g_le, MP.g_gt, MP.g_ge, MP.g_eqI, MP.g_eqS, MP.g_eqBo, MP.g_neI, MP.g_neS, MP.g_neBo, MP.g_is, MP.g_isNot, MP.n_none, MP.n_int, MP.n_str, MP.n_tup, MP.n_list, MP.n_bool, MP.g_max, MP.g_min, MP.g_lenL, MP.g_lenK, MP.g_lenT, MP.g_listL, MP.g_listK, MP.g_listT, MP.g_tupL, MP.g_tupT, MP.q_list, MP.q_lk, MP.q_tup, MP.g_rng1, MP.g_rng2, MP.g_enumL, MP.g_enumK, MP.g_ixL, MP.g_ixK, MP.g_ixT, MP.g_slL, MP.g_slK, MP.g_slT, MP.s_Nil, MP.s_Brk, MP.s_Cont, MP.s_Seq, MP.s_xSn, MP.s_xSr, MP.s_xSb, MP.s_xSc, MP.s_xSe, MP.s_Expr, MP.s_xEx, MP.s_SetV, MP.s_xSV, MP.s_SetO, MP.s_xSOs, MP.s_xSOf, MP.s_Ret, MP.s_xRts, MP.s_xRtf, MP.s_RetN, MP.s_RetS, MP.s_xRSo, MP.s_xRSv, MP.s_If, MP.s_xIfT, MP.s_xIfF, MP.s_Tup, MP.s_xTu, MP.s_xTb, MP.s_For, MP.s_xFor, MP.s_App, MP.s_xAp, MP.s_Thaw, MP.s_xTh, MP.s_Frz, MP.s_xFzo, MP.s_xFzv, MP.s_ExprF, MP.s_xEF, MP.s_SetF, MP.s_xSF, MP.s_RetF, MP.s_xRF, MP.s_IfF, MP.s_xIFT, MP.s_xIFF, MP.s_FldN, MP.s_xN, MP.s_xN2, MP.s_xN3, MP.s_put0, MP.s_put1, MP.s_putN, MP.f_P, MP.f_xPs, MP.f_xPf, MP.f_User, MP.f_xFU, MP.f_Meth, MP.f_xM, MP.f_xM2, MP.f_Make, MP.f_xMk, MP.f_xMkF, MP.fe_ok, MP.r_run, MP.r_un, MP.r_un0, MP.r_nx, MP.r_ret, MP.r_exc, MP.t_nx, MP.t_cont, MP.t_brk, MP.t_ret, MP.b_nm, MP.b_tp2, MP.b_tp3, MP.t_bk, MP.fe_pop, MP.s_appF, MP.s_dead, MP.g_divmod, MP.g_sorted, MP.g_allB, MP.g_anyB, MP.g_sumI, MP.g_zipT, MP.g_zipL, MP.e_pZip, MP.e_xZp, MP.g_abs, MP.g_intI, MP.g_intB, MP.g_repT, MP.e_pLRng, MP.e_xLR, MP.f_Pop, MP.f_xPop, MP.s_AppF, MP.s_xAF0, MP.s_xAF, MP.s_xAF2, MP.g_inI, MP.g_ninI, MP.g_inT, MP.g_ninT, MP.g_ninST, MP.e_c2, MP.e_c3, MP.e_c4, MP.e_c5, MP.e_pIsi, List.getElem?_cons_zero, List.getElem?_cons_succ, List.getElem?_nil, List.set_cons_zero, List.set_cons_succ, List.map_cons, List.map_nil, List.length_cons, List.length_nil, List.length_append, List.cons_append, List.nil_append, List.length_map, List.length_singleton, Nat.reduceBEq, Nat.reduceAdd, Nat.reduceSub, Nat.reduceMul, Nat.reduceEqDiff, Nat.reduceLeDiff, Nat.reduceLT, if_false, if_true, ite_true, ite_false, ↓reduceIte, Bool.not_true, Bool.not_false, Bool.false_eq_true, decide_true, decide_false, eq_self, and_true, true_and, and_self, Nat.zero_le, Nat.zero_add, Option.bind_some, Option.bind_none, Nat.lt_irrefl, Int.reduceToNat, Int.reducePow, Int.reduceNeg, Int.reduceMul, Int.reduceAdd, Int.reduceSub, Int.reduceLT, Int.reduceLE, Int.reduceEq, beq_self_eq_true, wipeE, MP.at0, MP.at1, MP.at2, MP.atLit, hw]
theorem m_law (ns : List Int) (h : ns.length ≤ 63) : ∃ st, sem_law [.lk (zs ns)] [] = .ok (.v (.bool true)) st := by
  obtain ⟨a, ga, ea⟩ := m_bed ns 0 (by decide)
  obtain ⟨b, gb, eb⟩ := m_bed ns 22 (by decide)
  have ea : sem_l_bed [.lk (zs ns), .int 0] [] = .ok (.v (bedD a)) [] := ea
  have eb : sem_l_bed [.lk (zs ns), .int 22] [] = .ok (.v (bedD b)) [] := eb
  have ca := m_checked ga
  have cb := m_checked gb
  have la := like_5 _ ga.tre
  have lb := like_5 _ gb.tre
  generalize bedD a = da at *
  generalize bedD b = db at *
  refine ⟨[], ?_⟩
  unfold sem_law b_law st_law_1 st_law_2 st_law_3 st_law_4
  simp (disch := (first | assumption | with_reducible rfl | decide +kernel | exact Or.inl (by decide +kernel) | exact Or.inr (by decide +kernel) | omega | (simp only [List.length_cons, List.length_nil, List.length_append, List.length_map, List.length_replicate, List.length_range] <;> omega) | rfl)) only [MP.of_some, MP.map_some, MP.e_lv, MP.e_lo, MP.e_pD, MP.e_xDs, MP.e_xDf, MP.e_pC, MP.e_pYes, MP.e_pVar, MP.e_p2, MP.e_x2, MP.e_p1, MP.e_x1, MP.e_pB, MP.e_xB, MP.e_pNot, MP.e_xNot, MP.e_pAnd, MP.e_xAndT, MP.e_xAndF, MP.e_pOr, MP.e_xOrT, MP.e_xOrF, MP.e_pAndV, MP.e_xAndVT, MP.e_xAndVF, MP.e_pOrV, MP.e_xOrVT, MP.e_xOrVF, MP.e_pNotV, MP.e_xNotV, MP.e_pIf, MP.e_xIfT, MP.e_xIfF, MP.e_p3, MP.e_x3, MP.e_x3bT, MP.e_x3bF, MP.e_pNil, MP.e_pCons, MP.e_xCons, MP.e_pTup, MP.e_xTp, MP.e_pLst, MP.e_xLs, MP.e_pNo, MP.e_pSome, MP.e_xSo, MP.e_pSl, MP.e_xSl, MP.e_pCall, MP.e_xG, MP.e_pSeq, MP.e_xSq, MP.e_pSeqR, MP.e_xSqR, MP.e_pRng, MP.e_pEnum, MP.e_xEn, MP.e_pComp, MP.e_xC, MP.e_xC2, MP.e_pUser, MP.e_xU, MP.e_xFv, MP.e_xFo, MP.e_xFe, MP.e_pSeal, MP.e_xSe, MP.e_xSeFv, MP.e_xSeFo, MP.e_pLook, MP.e_xLo, MP.e_xLoF, MP.e_pFld, MP.e_xFd, MP.e_xOb, MP.e_xLk0, MP.e_xLk1, MP.e_c0, MP.e_c1, MP.g_add, MP.g_catS, MP.g_catL, MP.g_catT, MP.g_sub, MP.g_mul, MP.g_rep, MP.g_div, MP.g_mod, MP.g_pow, MP.g_shl, MP.g_shr, MP.g_and, MP.g_orI, MP.g_neg, MP.g_lt, MP.g_le, MP.g_gt, MP.g_ge, MP.g_eqI, MP.g_eqS, MP.g_eqBo, MP.g_neI, MP.g_neS, MP.g_neBo, MP.g_is, MP.g_isNot, MP.n_none, MP.n_int, MP.n_str, MP.n_tup, MP.n_list, MP.n_bool, MP.g_max, MP.g_min, MP.g_lenL, MP.g_lenK, MP.g_lenT, MP.g_listL, MP.g_listK, MP.g_listT, MP.g_tupL, MP.g_tupT, MP.q_list, MP.q_lk, MP.q_tup, MP.g_rng1, MP.g_rng2, MP.g_enumL, MP.g_enumK, MP.g_ixL, MP.g_ixK, MP.g_ixT, MP.g_slL, MP.g_slK, MP.g_slT, MP.s_Nil, MP.s_Brk, MP.s_Cont, MP.s_Seq, MP.s_xSn, MP.s_xSr, MP.s_xSb, MP.s_xSc, MP.s_xSe, MP.s_Expr, MP.s_xEx, MP.s_SetV, MP.s_xSV, MP.s_SetO, MP.s_xSOs, MP.s_xSOf, MP.s_Ret, MP.s_xRts, MP.s_xRtf, MP.s_RetN, MP.s_RetS, MP.s_xRSo, MP.s_xRSv, MP.s_If, MP.s_xIfT, MP.s_xIfF, MP.s_Tup, MP.s_xTu, MP.s_xTb, MP.s_For, MP.s_xFor, MP.s_App, MP.s_xAp, MP.s_Thaw, MP.s_xTh, MP.s_Frz, MP.s_xFzo, MP.s_xFzv, MP.s_ExprF, MP.s_xEF, MP.s_SetF, MP.s_xSF, MP.s_RetF, MP.s_xRF, MP.s_IfF, MP.s_xIFT, MP.s_xIFF, MP.s_FldN, MP.s_xN, MP.s_xN2, MP.s_xN3, MP.s_put0, MP.s_put1, MP.s_putN, MP.f_P, MP.f_xPs, MP.f_xPf, MP.f_User, MP.f_xFU, MP.f_Meth, MP.f_xM, MP.f_xM2, MP.f_Make, MP.f_xMk, MP.f_xMkF, MP.fe_ok, MP.r_run, MP.r_un, MP.r_un0, MP.r_nx, MP.r_ret, MP.r_exc, MP.t_nx, MP.t_cont, MP.t_brk, MP.t_ret, MP.b_nm, MP.b_tp2, MP.b_tp3, MP.t_bk, MP.fe_pop, MP.s_appF, MP.s_dead, MP.g_divmod, MP.g_sorted, MP.g_allB, MP.g_anyB, MP.g_sumI, MP.g_zipT, MP.g_zipL, MP.e_pZip, MP.e_xZp, MP.g_abs, MP.g_intI, MP.g_intB, MP.g_repT, MP.e_pLRng, MP.e_xLR, MP.f_Pop, MP.f_xPop, MP.s_AppF, MP.s_xAF0, MP.s_xAF, MP.s_xAF2, MP.g_inI, MP.g_ninI, MP.g_inT, MP.g_ninT, MP.g_ninST, MP.e_c2, MP.e_c3, MP.e_c4, MP.e_c5, MP.e_pIsi, List.getElem?_cons_zero, List.getElem?_cons_succ, List.getElem?_nil, List.set_cons_zero, List.set_cons_succ, List.map_cons, List.map_nil, List.length_cons, List.length_nil, List.length_append, List.cons_append, List.nil_append, List.length_map, List.length_singleton, Nat.reduceBEq, Nat.reduceAdd, Nat.reduceSub, Nat.reduceMul, Nat.reduceEqDiff, Nat.reduceLeDiff, Nat.reduceLT, if_false, if_true, ite_true, ite_false, ↓reduceIte, Bool.not_true, Bool.not_false, Bool.false_eq_true, decide_true, decide_false, eq_self, and_true, true_and, and_self, Nat.zero_le, Nat.zero_add, Option.bind_some, Option.bind_none, Nat.lt_irrefl, Int.reduceToNat, Int.reducePow, Int.reduceNeg, Int.reduceMul, Int.reduceAdd, Int.reduceSub, Int.reduceLT, Int.reduceLE, Int.reduceEq, beq_self_eq_true, wipeE, MP.at0, MP.at1, MP.at2, MP.atLit, ea, eb, ca, cb, la, lb]
end L_k21

namespace L_k21
open PySem PySem.Spec PyProof.Rows L2 MP
theorem all_mk {l : PySem.W.OpenLaw} {w : World} {K : PySem.W.Frag} {h : Heap} {mg : Str → Option Value} {fa f0 f1 f2 f3 f4 f5 f6 f7 f8 f9 f10 f16 f17 f18 f19 f20 f21 : Addr} (X : K.In h) (G : h.Ns mainGlobals mg) (hfa : mg "law" = some (.ref fa))
    {od0 an0 od1 an1 od2 an2 od3 an3 od4 an4 od5 an5 od6 an6 od7 an7 od8 an8 od9 an9 od10 an10 od16 an16 od17 an17 od18 an18 od19 an19 od20 an20 od21 an21 : Option Addr} {sl0 sl1 sl2 sl3 sl4 sl5 sl6 sl7 sl8 sl9 sl10 sl16 sl17 sl18 sl19 sl20 sl21 : Array (Option Value)} {oc0 kV0 dc0 pm0 cd0 ct0 oc1 kV1 dc1 pm1 cd1 ct1 oc2 kV2 dc2 pm2 cd2 ct2 oc3 kV3 dc3 pm3 cd3 ct3 oc4 kV4 dc4 pm4 cd4 ct4 oc5 kV5 dc5 pm5 cd5 ct5 oc6 kV6 dc6 pm6 cd6 ct6 oc7 kV7 dc7 pm7 cd7 ct7 oc8 kV8 dc8 pm8 cd8 ct8 oc9 kV9 dc9 pm9 cd9 ct9 oc10 kV10 dc10 pm10 cd10 ct10 oc16 kV16 dc16 pm16 cd16 ct16 oc17 kV17 dc17 pm17 cd17 ct17 oc18 kV18 dc18 pm18 cd18 ct18 oc19 kV19 dc19 pm19 cd19 ct19 oc20 kV20 dc20 pm20 cd20 ct20 oc21 kV21 dc21 pm21 cd21 ct21 : Value}
    {t_LETTERS : PySem.Tok}
    (a0 : PySem.W.nsIn K mainGlobals "_law_cell" = some (some (.ref f0)))
    (l0 : K.lookup f0 = some ⟨oc0, od0, .func (PySem.W.fnOf "_law_cell" "_law_cell" (defArgs s_l_cell) (defBody s_l_cell) (defScope s_l_cell) .none kV0 dc0 pm0 an0 cd0 ct0), sl0⟩)
    (c0 : PySem.W.codeIn K cd0 "_law_cell" = true)
    (k0 : PySem.W.keepIn K (.ref f0) = true)
    (a1 : PySem.W.nsIn K mainGlobals "_law_stirred" = some (some (.ref f1)))
    (l1 : K.lookup f1 = some ⟨oc1, od1, .func (PySem.W.fnOf "_law_stirred" "_law_stirred" (defArgs s_l_stirred) (defBody s_l_stirred) (defScope s_l_stirred) .none kV1 dc1 pm1 an1 cd1 ct1), sl1⟩)
    (c1 : PySem.W.codeIn K cd1 "_law_stirred" = true)
    (k1 : PySem.W.keepIn K (.ref f1) = true)
    (a2 : PySem.W.nsIn K mainGlobals "_law_wide" = some (some (.ref f2)))
    (l2 : K.lookup f2 = some ⟨oc2, od2, .func (PySem.W.fnOf "_law_wide" "_law_wide" (defArgs s_l_wide) (defBody s_l_wide) (defScope s_l_wide) .none kV2 dc2 pm2 an2 cd2 ct2), sl2⟩)
    (c2 : PySem.W.codeIn K cd2 "_law_wide" = true)
    (k2 : PySem.W.keepIn K (.ref f2) = true)
    (a3 : PySem.W.nsIn K mainGlobals "_law_letter" = some (some (.ref f3)))
    (l3 : K.lookup f3 = some ⟨oc3, od3, .func (PySem.W.fnOf "_law_letter" "_law_letter" (defArgs s_l_letter) (defBody s_l_letter) (defScope s_l_letter) .none kV3 dc3 pm3 an3 cd3 ct3), sl3⟩)
    (c3 : PySem.W.codeIn K cd3 "_law_letter" = true)
    (k3 : PySem.W.keepIn K (.ref f3) = true)
    (a4 : PySem.W.nsIn K mainGlobals "_law_meaning_of" = some (some (.ref f4)))
    (l4 : K.lookup f4 = some ⟨oc4, od4, .func (PySem.W.fnOf "_law_meaning_of" "_law_meaning_of" (defArgs s_l_meaning_of) (defBody s_l_meaning_of) (defScope s_l_meaning_of) .none kV4 dc4 pm4 an4 cd4 ct4), sl4⟩)
    (c4 : PySem.W.codeIn K cd4 "_law_meaning_of" = true)
    (k4 : PySem.W.keepIn K (.ref f4) = true)
    (a5 : PySem.W.nsIn K mainGlobals "_law_read_bed" = some (some (.ref f5)))
    (l5 : K.lookup f5 = some ⟨oc5, od5, .func (PySem.W.fnOf "_law_read_bed" "_law_read_bed" (defArgs s_l_read_bed) (defBody s_l_read_bed) (defScope s_l_read_bed) .none kV5 dc5 pm5 an5 cd5 ct5), sl5⟩)
    (c5 : PySem.W.codeIn K cd5 "_law_read_bed" = true)
    (k5 : PySem.W.keepIn K (.ref f5) = true)
    (a6 : PySem.W.nsIn K mainGlobals "_law_stream" = some (some (.ref f6)))
    (l6 : K.lookup f6 = some ⟨oc6, od6, .func (PySem.W.fnOf "_law_stream" "_law_stream" (defArgs s_l_stream) (defBody s_l_stream) (defScope s_l_stream) .none kV6 dc6 pm6 an6 cd6 ct6), sl6⟩)
    (c6 : PySem.W.codeIn K cd6 "_law_stream" = true)
    (k6 : PySem.W.keepIn K (.ref f6) = true)
    (a7 : PySem.W.nsIn K mainGlobals "_law_meaning" = some (some (.ref f7)))
    (l7 : K.lookup f7 = some ⟨oc7, od7, .func (PySem.W.fnOf "_law_meaning" "_law_meaning" (defArgs s_l_meaning) (defBody s_l_meaning) (defScope s_l_meaning) .none kV7 dc7 pm7 an7 cd7 ct7), sl7⟩)
    (c7 : PySem.W.codeIn K cd7 "_law_meaning" = true)
    (k7 : PySem.W.keepIn K (.ref f7) = true)
    (a8 : PySem.W.nsIn K mainGlobals "_law_bed" = some (some (.ref f8)))
    (l8 : K.lookup f8 = some ⟨oc8, od8, .func (PySem.W.fnOf "_law_bed" "_law_bed" (defArgs s_l_bed) (defBody s_l_bed) (defScope s_l_bed) .none kV8 dc8 pm8 an8 cd8 ct8), sl8⟩)
    (c8 : PySem.W.codeIn K cd8 "_law_bed" = true)
    (k8 : PySem.W.keepIn K (.ref f8) = true)
    (a9 : PySem.W.nsIn K mainGlobals "_law_whole" = some (some (.ref f9)))
    (l9 : K.lookup f9 = some ⟨oc9, od9, .func (PySem.W.fnOf "_law_whole" "_law_whole" (defArgs s_l_whole) (defBody s_l_whole) (defScope s_l_whole) .none kV9 dc9 pm9 an9 cd9 ct9), sl9⟩)
    (c9 : PySem.W.codeIn K cd9 "_law_whole" = true)
    (k9 : PySem.W.keepIn K (.ref f9) = true)
    (a10 : PySem.W.nsIn K mainGlobals "_law_like" = some (some (.ref f10)))
    (l10 : K.lookup f10 = some ⟨oc10, od10, .func (PySem.W.fnOf "_law_like" "_law_like" (defArgs s_l_like_0) (defBody s_l_like_0) (defScope s_l_like_0) .none kV10 dc10 pm10 an10 cd10 ct10), sl10⟩)
    (c10 : PySem.W.codeIn K cd10 "_law_like" = true)
    (k10 : PySem.W.keepIn K (.ref f10) = true)
    (a16 : PySem.W.nsIn K mainGlobals "is_letter" = some (some (.ref f16)))
    (l16 : K.lookup f16 = some ⟨oc16, od16, .func (PySem.W.fnOf "is_letter" "is_letter" (defArgs s_is_letter) (defBody s_is_letter) (defScope s_is_letter) .none kV16 dc16 pm16 an16 cd16 ct16), sl16⟩)
    (c16 : PySem.W.codeIn K cd16 "is_letter" = true)
    (k16 : PySem.W.keepIn K (.ref f16) = true)
    (a17 : PySem.W.nsIn K mainGlobals "is_meaning" = some (some (.ref f17)))
    (l17 : K.lookup f17 = some ⟨oc17, od17, .func (PySem.W.fnOf "is_meaning" "is_meaning" (defArgs s_is_meaning) (defBody s_is_meaning) (defScope s_is_meaning) .none kV17 dc17 pm17 an17 cd17 ct17), sl17⟩)
    (c17 : PySem.W.codeIn K cd17 "is_meaning" = true)
    (k17 : PySem.W.keepIn K (.ref f17) = true)
    (a18 : PySem.W.nsIn K mainGlobals "check_layers" = some (some (.ref f18)))
    (l18 : K.lookup f18 = some ⟨oc18, od18, .func (PySem.W.fnOf "check_layers" "check_layers" (defArgs s_check_layers) (defBody s_check_layers) (defScope s_check_layers) .none kV18 dc18 pm18 an18 cd18 ct18), sl18⟩)
    (c18 : PySem.W.codeIn K cd18 "check_layers" = true)
    (k18 : PySem.W.keepIn K (.ref f18) = true)
    (a19 : PySem.W.nsIn K mainGlobals "is_set" = some (some (.ref f19)))
    (l19 : K.lookup f19 = some ⟨oc19, od19, .func (PySem.W.fnOf "is_set" "is_set" (defArgs s_is_set) (defBody s_is_set) (defScope s_is_set) .none kV19 dc19 pm19 an19 cd19 ct19), sl19⟩)
    (c19 : PySem.W.codeIn K cd19 "is_set" = true)
    (k19 : PySem.W.keepIn K (.ref f19) = true)
    (a20 : PySem.W.nsIn K mainGlobals "checked" = some (some (.ref f20)))
    (l20 : K.lookup f20 = some ⟨oc20, od20, .func (PySem.W.fnOf "checked" "checked" (defArgs s_checked) (defBody s_checked) (defScope s_checked) .none kV20 dc20 pm20 an20 cd20 ct20), sl20⟩)
    (c20 : PySem.W.codeIn K cd20 "checked" = true)
    (k20 : PySem.W.keepIn K (.ref f20) = true)
    (a21 : PySem.W.nsIn K mainGlobals "law" = some (some (.ref f21)))
    (l21 : K.lookup f21 = some ⟨oc21, od21, .func (PySem.W.fnOf "law" "law" (defArgs s_law) (defBody s_law) (defScope s_law) .none kV21 dc21 pm21 an21 cd21 ct21), sl21⟩)
    (c21 : PySem.W.codeIn K cd21 "law" = true)
    (k21 : PySem.W.keepIn K (.ref f21) = true)
    (g_all : PySem.W.nsIn K mainGlobals "all" = some none)
    (g_any : PySem.W.nsIn K mainGlobals "any" = some none)
    (g_bool : PySem.W.nsIn K mainGlobals "bool" = some none)
    (g_int : PySem.W.nsIn K mainGlobals "int" = some none)
    (g_isinstance : PySem.W.nsIn K mainGlobals "isinstance" = some none)
    (g_len : PySem.W.nsIn K mainGlobals "len" = some none)
    (g_max : PySem.W.nsIn K mainGlobals "max" = some none)
    (g_range : PySem.W.nsIn K mainGlobals "range" = some none)
    (g_str : PySem.W.nsIn K mainGlobals "str" = some none)
    (g_tuple : PySem.W.nsIn K mainGlobals "tuple" = some none)
    (g_zip : PySem.W.nsIn K mainGlobals "zip" = some none)
    (q_LETTERS : PySem.W.nsIn K mainGlobals "LETTERS" = some (some (.str "abcdefghijklmnopqrstuvwxyz" t_LETTERS)))
    : ∃ fd : FuncData, (∀ (s : Shared) (v : Value), BindsTo s fd ⟨[v], []⟩ [("_law_script", v)]) ∧ ∀ base : Heap, K.In base → base.Ns mainGlobals mg → FnOk l.prog w K mg base (L2.CX l.prog w) 7 fa fd ["_law_script"] (MP.spLaw K) := by
  have e := hfa.symm.trans (PySem.W.mg_of X G a21)
  cases e
  let ca : Nat → Addr := fun _ => fa
  have B : Gb K mg := ⟨PySem.W.mg_none_of X G g_all, PySem.W.mg_none_of X G g_any, PySem.W.mg_none_of X G g_bool, PySem.W.mg_none_of X G g_int, PySem.W.mg_none_of X G g_isinstance, PySem.W.mg_none_of X G g_len, PySem.W.mg_none_of X G g_max, PySem.W.mg_none_of X G g_range, PySem.W.mg_none_of X G g_str, PySem.W.mg_none_of X G g_tuple, PySem.W.mg_none_of X G g_zip, ⟨V.str "abcdefghijklmnopqrstuvwxyz", _, PySem.W.mg_of X G q_LETTERS, ⟨_, rfl⟩, fun m M => .str _⟩⟩
  have F0 := fun_mk (st := s_l_cell) l0 c0 k0
  have b0 := F0.binds (ps := ["_law_script", "_law_k"]) fun _ _ _ _ _ _ us hl => match us, hl with | [_, _], _ => rfl
  have F1 := fun_mk (st := s_l_stirred) l1 c1 k1
  have b1 := F1.binds (ps := ["_law_cell_here", "_law_salt"]) fun _ _ _ _ _ _ us hl => match us, hl with | [_, _], _ => rfl
  have F2 := fun_mk (st := s_l_wide) l2 c2 k2
  have b2 := F2.binds (ps := ["_law_cell_here", "_law_salt"]) fun _ _ _ _ _ _ us hl => match us, hl with | [_, _], _ => rfl
  have F3 := fun_mk (st := s_l_letter) l3 c3 k3
  have b3 := F3.binds (ps := ["_law_cell_here"]) fun _ _ _ _ _ _ us hl => match us, hl with | [_], _ => rfl
  have F4 := fun_mk (st := s_l_meaning_of) l4 c4 k4
  have b4 := F4.binds (ps := ["_law_rest", "_law_layer", "_law_layers"]) fun _ _ _ _ _ _ us hl => match us, hl with | [_, _, _], _ => rfl
  have F5 := fun_mk (st := s_l_read_bed) l5 c5 k5
  have b5 := F5.binds (ps := ["_law_xs"]) fun _ _ _ _ _ _ us hl => match us, hl with | [_], _ => rfl
  have F6 := fun_mk (st := s_l_stream) l6 c6 k6
  have b6 := F6.binds (ps := ["_law_cell_here", "_law_many"]) fun _ _ _ _ _ _ us hl => match us, hl with | [_, _], _ => rfl
  have F7 := fun_mk (st := s_l_meaning) l7 c7 k7
  have b7 := F7.binds (ps := ["_law_cell_here", "_law_layer", "_law_layers"]) fun _ _ _ _ _ _ us hl => match us, hl with | [_, _, _], _ => rfl
  have F8 := fun_mk (st := s_l_bed) l8 c8 k8
  have b8 := F8.binds (ps := ["_law_script", "_law_at"]) fun _ _ _ _ _ _ us hl => match us, hl with | [_, _], _ => rfl
  have F9 := fun_mk (st := s_l_whole) l9 c9 k9
  have b9 := F9.binds (ps := ["_law_thing"]) fun _ _ _ _ _ _ us hl => match us, hl with | [_], _ => rfl
  have F10 := fun_mk (st := s_l_like_0) l10 c10 k10
  have b10 := F10.binds (ps := ["_law_found", "_law_due"]) fun _ _ _ _ _ _ us hl => match us, hl with | [_, _], _ => rfl
  have F16 := fun_mk (st := s_is_letter) l16 c16 k16
  have b16 := F16.binds (ps := ["thing"]) fun _ _ _ _ _ _ us hl => match us, hl with | [_], _ => rfl
  have F17 := fun_mk (st := s_is_meaning) l17 c17 k17
  have b17 := F17.binds (ps := ["meaning", "layer", "layers"]) fun _ _ _ _ _ _ us hl => match us, hl with | [_, _, _], _ => rfl
  have F18 := fun_mk (st := s_check_layers) l18 c18 k18
  have b18 := F18.binds (ps := ["keys", "layers"]) fun _ _ _ _ _ _ us hl => match us, hl with | [_, _], _ => rfl
  have F19 := fun_mk (st := s_is_set) l19 c19 k19
  have b19 := F19.binds (ps := ["some", "many"]) fun _ _ _ _ _ _ us hl => match us, hl with | [_, _], _ => rfl
  have F20 := fun_mk (st := s_checked) l20 c20 k20
  have b20 := F20.binds (ps := ["bed"]) fun _ _ _ _ _ _ us hl => match us, hl with | [_], _ => rfl
  have F21 := fun_mk (st := s_law) l21 c21 k21
  refine ⟨PySem.W.fnOf "law" "law" (defArgs s_law) (defBody s_law) (defScope s_law) .none kV21 dc21 pm21 an21 cd21 ct21, fun s v => .of_eq rfl, fun base _ _ => ?_⟩
  have r0 : ∀ al, Callee l.prog w K mg base (tab ca) "_law_cell" al 1 2 sem_l_cell := fun al => ⟨_, _, _, ok_l_cell al F0 B, PySem.W.mg_of X G a0, k0, b0⟩
  have r1 : ∀ al, Callee l.prog w K mg base (tab ca) "_law_stirred" al 1 2 sem_l_stirred := fun al => ⟨_, _, _, ok_l_stirred al F1 B, PySem.W.mg_of X G a1, k1, b1⟩
  have r2 : ∀ al, Callee l.prog w K mg base (tab ca) "_law_wide" al 2 2 sem_l_wide := fun al => ⟨_, _, _, ok_l_wide al F2 B r1, PySem.W.mg_of X G a2, k2, b2⟩
  have r3 : ∀ al, Callee l.prog w K mg base (tab ca) "_law_letter" al 1 1 sem_l_letter := fun al => ⟨_, _, _, ok_l_letter al F3 B, PySem.W.mg_of X G a3, k3, b3⟩
  have r4 : ∀ al, Callee l.prog w K mg base (tab ca) "_law_meaning_of" al 2 3 sem_l_meaning_of := fun al => ⟨_, _, _, ok_l_meaning_of al F4 B r3, PySem.W.mg_of X G a4, k4, b4⟩
  have r5 : ∀ al, Callee l.prog w K mg base (tab ca) "_law_read_bed" al 3 1 sem_l_read_bed := fun al => ⟨_, _, _, ok_l_read_bed al F5 B r4 r3, PySem.W.mg_of X G a5, k5, b5⟩
  have r6 : ∀ al, Callee l.prog w K mg base (tab ca) "_law_stream" al 2 2 sem_l_stream := fun al => ⟨_, _, _, ok_l_stream al F6 B r1, PySem.W.mg_of X G a6, k6, b6⟩
  have r7 : ∀ al, Callee l.prog w K mg base (tab ca) "_law_meaning" al 2 3 sem_l_meaning := fun al => ⟨_, _, _, ok_l_meaning al F7 B r3, PySem.W.mg_of X G a7, k7, b7⟩
  have r8 : ∀ al, Callee l.prog w K mg base (tab ca) "_law_bed" al 4 2 sem_l_bed := fun al => ⟨_, _, _, ok_l_bed al F8 B r0 r5 r6 r2 r7 r3, PySem.W.mg_of X G a8, k8, b8⟩
  have r9 : ∀ al, Callee l.prog w K mg base (tab ca) "_law_whole" al 1 1 sem_l_whole := fun al => ⟨_, _, _, ok_l_whole al F9 B, PySem.W.mg_of X G a9, k9, b9⟩
  have r10 : ∀ al, Callee l.prog w K mg base (tab ca) "_law_like" al 0 2 sem_l_like_0 := fun al => ⟨_, _, _, fn_stuck rfl, PySem.W.mg_of X G a10, k10, b10⟩
  have r11 : ∀ al, Callee l.prog w K mg base (tab ca) "_law_like" al 2 2 sem_l_like_1 := fun al => ⟨_, _, _, ok_l_like_1 al F10 B r10 r9, PySem.W.mg_of X G a10, k10, b10⟩
  have r12 : ∀ al, Callee l.prog w K mg base (tab ca) "_law_like" al 3 2 sem_l_like_2 := fun al => ⟨_, _, _, ok_l_like_2 al F10 B r11 r9, PySem.W.mg_of X G a10, k10, b10⟩
  have r13 : ∀ al, Callee l.prog w K mg base (tab ca) "_law_like" al 4 2 sem_l_like_3 := fun al => ⟨_, _, _, ok_l_like_3 al F10 B r12 r9, PySem.W.mg_of X G a10, k10, b10⟩
  have r14 : ∀ al, Callee l.prog w K mg base (tab ca) "_law_like" al 5 2 sem_l_like_4 := fun al => ⟨_, _, _, ok_l_like_4 al F10 B r13 r9, PySem.W.mg_of X G a10, k10, b10⟩
  have r15 : ∀ al, Callee l.prog w K mg base (tab ca) "_law_like" al 6 2 sem_l_like_5 := fun al => ⟨_, _, _, ok_l_like_5 al F10 B r14 r9, PySem.W.mg_of X G a10, k10, b10⟩
  have r16 : ∀ al, Callee l.prog w K mg base (tab ca) "is_letter" al 1 1 sem_is_letter := fun al => ⟨_, _, _, ok_is_letter al F16 B, PySem.W.mg_of X G a16, k16, b16⟩
  have r17 : ∀ al, Callee l.prog w K mg base (tab ca) "is_meaning" al 2 3 sem_is_meaning := fun al => ⟨_, _, _, ok_is_meaning al F17 B r16, PySem.W.mg_of X G a17, k17, b17⟩
  have r18 : ∀ al, Callee l.prog w K mg base (tab ca) "check_layers" al 3 2 sem_check_layers := fun al => ⟨_, _, _, ok_check_layers al F18 B r17, PySem.W.mg_of X G a18, k18, b18⟩
  have r19 : ∀ al, Callee l.prog w K mg base (tab ca) "is_set" al 1 2 sem_is_set := fun al => ⟨_, _, _, ok_is_set al F19 B, PySem.W.mg_of X G a19, k19, b19⟩
  have r20 : ∀ al, Callee l.prog w K mg base (tab ca) "checked" al 4 1 sem_checked := fun al => ⟨_, _, _, ok_checked al F20 B r18 r16 r19, PySem.W.mg_of X G a20, k20, b20⟩
  exact FnOk.imp (ok_law true F21 B r8 r15 r20) (law_imp m_law)
end L_k21

open PySem PySem.W PyProof.Rows in
set_option maxRecDepth 100000 in
set_option maxHeartbeats 0 in
theorem PySem.Challenge.cw_chordbed_k21_beds_let_by_holds : PySem.Challenge.rw_chordbed_k21_beds_let_by.Holds := by
  w_on; o_law; k_head; (case hw => w_witness2)
  k_fill
  refine MP.law_end (l := PySem.Challenge.rw_chordbed_k21_beds_let_by) (k := 7) (x := "_law_script") rfl rfl ⟨rfl, by decide, by decide⟩ (fun w h Y => PySem.W.kIn_of Y) ?F
  case F =>
    intro w mg fa h KX G hmg
    refine' L_k21.all_mk KX G hmg ?a0 ?l0 ?c0 ?k0 ?a1 ?l1 ?c1 ?k1 ?a2 ?l2 ?c2 ?k2 ?a3 ?l3 ?c3 ?k3 ?a4 ?l4 ?c4 ?k4 ?a5 ?l5 ?c5 ?k5 ?a6 ?l6 ?c6 ?k6 ?a7 ?l7 ?c7 ?k7 ?a8 ?l8 ?c8 ?k8 ?a9 ?l9 ?c9 ?k9 ?a10 ?l10 ?c10 ?k10 ?a16 ?l16 ?c16 ?k16 ?a17 ?l17 ?c17 ?k17 ?a18 ?l18 ?c18 ?k18 ?a19 ?l19 ?c19 ?k19 ?a20 ?l20 ?c20 ?k20 ?a21 ?l21 ?c21 ?k21 ?g_all ?g_any ?g_bool ?g_int ?g_isinstance ?g_len ?g_max ?g_range ?g_str ?g_tuple ?g_zip ?q_LETTERS
    (case a0 => k_is)
    (case l0 => k_is)
    (case c0 => k_is)
    (case k0 => k_is)
    (case a1 => k_is)
    (case l1 => k_is)
    (case c1 => k_is)
    (case k1 => k_is)
    (case a2 => k_is)
    (case l2 => k_is)
    (case c2 => k_is)
    (case k2 => k_is)
    (case a3 => k_is)
    (case l3 => k_is)
    (case c3 => k_is)
    (case k3 => k_is)
    (case a4 => k_is)
    (case l4 => k_is)
    (case c4 => k_is)
    (case k4 => k_is)
    (case a5 => k_is)
    (case l5 => k_is)
    (case c5 => k_is)
    (case k5 => k_is)
    (case a6 => k_is)
    (case l6 => k_is)
    (case c6 => k_is)
    (case k6 => k_is)
    (case a7 => k_is)
    (case l7 => k_is)
    (case c7 => k_is)
    (case k7 => k_is)
    (case a8 => k_is)
    (case l8 => k_is)
    (case c8 => k_is)
    (case k8 => k_is)
    (case a9 => k_is)
    (case l9 => k_is)
    (case c9 => k_is)
    (case k9 => k_is)
    (case a10 => k_is)
    (case l10 => k_is)
    (case c10 => k_is)
    (case k10 => k_is)
    (case a16 => k_is)
    (case l16 => k_is)
    (case c16 => k_is)
    (case k16 => k_is)
    (case a17 => k_is)
    (case l17 => k_is)
    (case c17 => k_is)
    (case k17 => k_is)
    (case a18 => k_is)
    (case l18 => k_is)
    (case c18 => k_is)
    (case k18 => k_is)
    (case a19 => k_is)
    (case l19 => k_is)
    (case c19 => k_is)
    (case k19 => k_is)
    (case a20 => k_is)
    (case l20 => k_is)
    (case c20 => k_is)
    (case k20 => k_is)
    (case a21 => k_is)
    (case l21 => k_is)
    (case c21 => k_is)
    (case k21 => k_is)
    (case g_all => k_is)
    (case g_any => k_is)
    (case g_bool => k_is)
    (case g_int => k_is)
    (case g_isinstance => k_is)
    (case g_len => k_is)
    (case g_max => k_is)
    (case g_range => k_is)
    (case g_str => k_is)
    (case g_tuple => k_is)
    (case g_zip => k_is)
    (case q_LETTERS => k_is)
