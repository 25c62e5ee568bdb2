import PyProof.Rows.All
import Wide.All
import OpenK.AllK
import Wide.FinOn
import HandS.ForMost
import HandS.ForExc
import HandS.TryMany
import HandS.IsInst
import HandS.TupAny
import HandS.TupMul
import HandS.Strs
import HandS.SortInts
import HandS.HotCalls
import HandS.More
import HandS.Flow
import HandS.Deep
import HandS.Defaults
import HandS.Head2
import HandS.HeadHook2
import HandS.HeadEnd
import PyProof.StrOps2
import HandS.TupLe
import HandS.SortRule
import HandS.Replace
import HandS.StrMore
import HandS.Iter
import HandS.Dict
import HandS.SetFor
import HandS.Sort
import HandS.SortOrd
import PyProof.Rows.SortKeyStr
import HandS.Style
import HandS.HeadHook3
import HandS.HeadHook4
import PySem.Challenge.RW_drawerlog_k06_journal
set_option Elab.async false
set_option linter.all false
set_option maxRecDepth 100000
set_option maxHeartbeats 2000000
/-! # Data: Python's values as plain data; mutable objects by their number in a list -/
namespace DL
open PySem PySem.Spec PyProof.Rows L2

/-- the program's own classes -/
inductive Cl where
  | disk | view | drawers
  deriving DecidableEq
def Cl.nm : Cl → Str
  | .disk => "Disk"
  | .view => "View"
  | .drawers => "Drawers"
def Cl.fs : Cl → List Str
  | .disk => ["rows", "more", "many"]
  | .view => ["disk", "nodes", "writes"]
  | .drawers => ["disk"]
/-- the program's own errors -/
inductive Ec where
  | drawerError | badNumber | badCells | stopped | badDisk | badWay | noThing | notFile | notDrawer | there | notEmpty | inside | full | badDeed
  deriving DecidableEq
def Ec.nm : Ec → Str
  | .drawerError => "DrawerError"
  | .badNumber => "BadNumber"
  | .badCells => "BadCells"
  | .stopped => "Stopped"
  | .badDisk => "BadDisk"
  | .badWay => "BadWay"
  | .noThing => "NoThing"
  | .notFile => "NotFile"
  | .notDrawer => "NotDrawer"
  | .there => "There"
  | .notEmpty => "NotEmpty"
  | .inside => "Inside"
  | .full => "Full"
  | .badDeed => "BadDeed"
def Ec.isSub (a b : Ec) : Bool := decide (a = b) || decide (b = .drawerError)

/-- a datum: tuples, and lists and dicts that are not changed any more, by value; what may be changed by its number -/
inductive D where
  | non | bl (b : Bool) | int (i : Int) | str (x : Str) | tup (xs : List D) | lst (xs : List D) | dct (kvs : List (Key × D)) | ref (i : Nat) | scr (ns : List Int)
/-- what may be changed -/
inductive DO where
  | lst (xs : List D) | dct (kvs : List (Key × D)) | ins (c : Cl) (vs : List D) | lck (o : DO)
abbrev DH := List DO

theorem nodup_ix' {N : List Addr} (hN : N.Nodup) {i j : Nat} {x : Addr} (a : N[i]? = some x) (b : N[j]? = some x) : i = j := by
  obtain ⟨h1, e1⟩ := List.getElem?_eq_some_iff.mp a
  obtain ⟨h2, e2⟩ := List.getElem?_eq_some_iff.mp b
  exact (List.getElem_inj hN).mp (e1.trans e2.symm)
/-- the numbered objects, and those that a comprehension is making: nobody knows these -/
structure Io where
  nums : List Addr
  priv : List Addr
def Io.has (io : Io) (a : Addr) : Prop := a ∈ io.nums ∨ a ∈ io.priv
def Io.add (io : Io) (p : Addr) : Io := ⟨io.nums ++ [p], io.priv⟩
def Io.hide (io : Io) (p : Addr) : Io := ⟨io.nums, p :: io.priv⟩
section
variable (K : PySem.W.Frag) (io : Io) (H : Hp)
/-- a tuple of the written part -/
def WrT (a : Addr) (xs : List V) : Prop := ∃ (o : Obj) (its : Array Value) (n : Nat), K.lookup a = some o ∧ o.cls = .type "tuple" ∧ o.data = .seq its n ∧ its.size ≤ sizeLine ∧ Vals xs its.toList
/-- the script -/
def ScrAt (a : Addr) (ns : List Int) : Prop := (∃ o, H a = some (.frz o (.lst (ns.map V.int)))) ∨ ∃ (o : Obj) (its : Array Value) (n : Nat), K.lookup a = some o ∧ o.cls = .type "list" ∧ o.dict = none ∧ o.data = .seq its n ∧ its.size ≤ sizeLine ∧ Vals (ns.map V.int) its.toList
def FzT (a : Addr) (xs : List V) : Prop := (Rd H a (.tup xs) ∧ ¬ io.has a) ∨ WrT K a xs
def FzL (a : Addr) (xs : List V) : Prop := H a = some (.lst xs) ∧ ¬ io.has a
def FzD (a : Addr) (kvs : List (Key × V)) : Prop := Rd H a (.dK kvs) ∧ ¬ io.has a
mutual
inductive RelD : D → V → Prop
  | non : RelD .non .non
  | bl (b : Bool) : RelD (.bl b) (.bl b)
  | int (i : Int) : RelD (.int i) (.int i)
  | str (x : Str) : RelD (.str x) (.str x)
  | tup {a : Addr} {xs : List D} {vs : List V} : FzT K io H a vs → RelL xs vs → RelD (.tup xs) (.ref a)
  | lst {a : Addr} {xs : List D} {vs : List V} : FzL io H a vs → RelL xs vs → RelD (.lst xs) (.ref a)
  | dct {a : Addr} {es : List (Key × D)} {kvs : List (Key × V)} : FzD io H a kvs → RelM es kvs → RelD (.dct es) (.ref a)
  | ref {i : Nat} {a : Addr} : io.nums[i]? = some a → RelD (.ref i) (.ref a)
  | scr {a : Addr} {ns : List Int} : ScrAt K H a ns → RelD (.scr ns) (.ref a)
inductive RelL : List D → List V → Prop
  | nil : RelL [] []
  | cons {d : D} {v : V} {ds : List D} {vs : List V} : RelD d v → RelL ds vs → RelL (d :: ds) (v :: vs)
inductive RelM : List (Key × D) → List (Key × V) → Prop
  | nil : RelM [] []
  | cons {k : Key} {d : D} {v : V} {ds : List (Key × D)} {vs : List (Key × V)} : RelD d v → RelM ds vs → RelM ((k, d) :: ds) ((k, v) :: vs)
end
/-- the names' values; none: nothing is known -/
inductive RelS : List (Option D) → List (Option V) → Prop
  | nil : RelS [] []
  | none {o : Option V} {ds : List (Option D)} {vs : List (Option V)} : RelS ds vs → RelS (Option.none :: ds) (o :: vs)
  | some {d : D} {v : V} {ds : List (Option D)} {vs : List (Option V)} : RelD K io H d v → RelS ds vs → RelS (Option.some d :: ds) (Option.some v :: vs)
/-- an object -/
def RelO : DO → HO → Prop
  | .lst xs, ho => ∃ vs, ho = .lst vs ∧ RelL K io H xs vs
  | .dct es, ho => ∃ kvs, ho = .dK kvs ∧ RelM K io H es kvs
  | .ins c ds, ho => ∃ dx vs, ho = .ins (He.ga K c.nm) dx (c.fs.zip vs) ∧ RelL K io H ds vs ∧ ds.length ≤ c.fs.length
  | .lck o, ho => ∃ ob u, ho = .frz ob u ∧ RelO o u
/-- all objects -/
structure RelH (h : DH) : Prop where
  len : io.nums.length = h.length
  nd : io.nums.Nodup
  pv : ∀ a ∈ io.priv, a ∉ io.nums ∧ ∃ ho, H a = some ho
  obj : ∀ (i : Nat) (a : Addr) (o : DO), io.nums[i]? = some a → h[i]? = some o → ∃ ho, H a = some ho ∧ RelO K io H o ho
end

/-- a step: the numbered objects may have changed, new ones come behind, all else stays -/
structure Stp (io : Io) (H : Hp) (io' : Io) (H' : Hp) : Prop where
  pre : ∃ l, io'.nums = io.nums ++ l ∧ ∀ a ∈ l, H a = none
  psub : ∀ a ∈ io.priv, a ∈ io'.priv
  pnew : ∀ a ∈ io'.priv, a ∈ io.priv ∨ H a = none
  keep : ∀ a o, H a = some o → a ∉ io.nums → H' a = some o
  there : ∀ a o, H a = some o → ∃ o', H' a = some o'
  frz : ∀ a o u, H a = some (.frz o u) → H' a = some (.frz o u)

theorem Stp.refl {io : Io} {H : Hp} : Stp io H io H := ⟨⟨[], by simp, fun _ z => nomatch z⟩, fun _ z => z, fun _ z => .inl z, fun _ _ e _ => e, fun _ o e => ⟨o, e⟩, fun _ _ _ e => e⟩
theorem Stp.out {io io' : Io} {H H' : Hp} (s : Stp io H io' H') {a : Addr} {o : HO} (e : H a = some o) (n : a ∉ io.nums) : a ∉ io'.nums := fun hm => by
  obtain ⟨l, el, hl⟩ := s.pre
  rw [el] at hm
  rcases List.mem_append.mp hm with q | q
  · exact n q
  · rw [hl a q] at e
    cases e
theorem Stp.outs {io io' : Io} {H H' : Hp} (s : Stp io H io' H') {a : Addr} {o : HO} (e : H a = some o) (n : ¬ io.has a) : ¬ io'.has a := fun hm => by
  rcases hm with q | q
  · exact s.out e (fun z => n (.inl z)) q
  · rcases s.pnew a q with z | z
    · exact n (.inr z)
    · rw [z] at e
      cases e
theorem Stp.trans {io io1 io2 : Io} {H H1 H2 : Hp} (s : Stp io H io1 H1) (t : Stp io1 H1 io2 H2) : Stp io H io2 H2 where
  pre := by
    obtain ⟨l, e1, hl⟩ := s.pre
    obtain ⟨m, e2, hm⟩ := t.pre
    refine ⟨l ++ m, by rw [e2, e1]; simp, fun a ha => ?_⟩
    rcases List.mem_append.mp ha with q | q
    · exact hl a q
    · cases e : H a with
      | none => rfl
      | some o =>
        obtain ⟨o', e'⟩ := s.there a o e
        rw [hm a q] at e'
        cases e'
  psub := fun a ha => t.psub a (s.psub a ha)
  pnew := fun a ha => by
    rcases t.pnew a ha with z | z
    · exact s.pnew a z
    · cases e : H a with
      | none => exact .inr rfl
      | some o =>
        obtain ⟨o', e'⟩ := s.there a o e
        rw [z] at e'
        cases e'
  keep := fun a o e n => t.keep a o (s.keep a o e n) (s.out e n)
  there := fun a o e => by
    obtain ⟨o', e'⟩ := s.there a o e
    exact t.there a o' e'
  frz := fun a o u e => t.frz a o u (s.frz a o u e)
theorem Stp.at {io io' : Io} {H H' : Hp} (s : Stp io H io' H') {i : Nat} {a : Addr} (e : io.nums[i]? = some a) : io'.nums[i]? = some a := by
  obtain ⟨l, el, _⟩ := s.pre
  rw [el, List.getElem?_append_left (List.getElem?_eq_some_iff.mp e).1]
  exact e
theorem rd_keeps {io io' : Io} {H H' : Hp} {a : Addr} {u : HO} (r : Rd H a u) (n : ¬ io.has a) (s : Stp io H io' H') : Rd H' a u ∧ ¬ io'.has a := by
  rcases r with r | ⟨o, r⟩
  · exact ⟨.inl (s.keep a _ r fun z => n (.inl z)), s.outs r n⟩
  · exact ⟨.inr ⟨o, s.keep a _ r fun z => n (.inl z)⟩, s.outs r n⟩
section
variable {K : PySem.W.Frag} {io io' : Io} {H H' : Hp}
theorem FzT.stp {a : Addr} {xs : List V} (h : FzT K io H a xs) (s : Stp io H io' H') : FzT K io' H' a xs := by
  rcases h with ⟨r, n⟩ | h
  · exact .inl (rd_keeps r n s)
  · exact .inr h
theorem FzL.stp {a : Addr} {xs : List V} (h : FzL io H a xs) (s : Stp io H io' H') : FzL io' H' a xs := ⟨s.keep a _ h.1 fun z => h.2 (.inl z), s.outs h.1 h.2⟩
theorem FzD.stp {a : Addr} {xs : List (Key × V)} (h : FzD io H a xs) (s : Stp io H io' H') : FzD io' H' a xs := rd_keeps h.1 h.2 s
theorem FzT.sq {a : Addr} {xs : List V} (h : FzT K io H a xs) : SqT K H a xs := by
  rcases h with ⟨r, _⟩ | h
  · exact .inl r
  · exact .inr h
theorem FzL.sq {a : Addr} {xs : List V} (h : FzL io H a xs) : SqL K H a xs := .inl (.inl h.1)
theorem ScrAt.stp {a : Addr} {ns : List Int} (h : ScrAt K H a ns) (s : Stp io H io' H') : ScrAt K H' a ns := by
  rcases h with ⟨o, e⟩ | h
  · exact .inl ⟨o, s.frz _ _ _ e⟩
  · exact .inr h
theorem ScrAt.sq {a : Addr} {ns : List Int} (h : ScrAt K H a ns) : SqL K H a (ns.map V.int) := by
  rcases h with ⟨o, e⟩ | h
  · exact .inl (.inr ⟨o, e⟩)
  · exact .inr h
mutual
theorem RelD.stp (s : Stp io H io' H') : ∀ {d : D} {v : V}, RelD K io H d v → RelD K io' H' d v
  | _, _, .non => .non
  | _, _, .bl b => .bl b
  | _, _, .int i => .int i
  | _, _, .str x => .str x
  | _, _, .tup f r => .tup (f.stp s) (RelL.stp s r)
  | _, _, .lst f r => .lst (f.stp s) (RelL.stp s r)
  | _, _, .dct f r => .dct (f.stp s) (RelM.stp s r)
  | _, _, .ref e => .ref (s.at e)
  | _, _, .scr e => .scr (e.stp s)
theorem RelL.stp (s : Stp io H io' H') : ∀ {d : List D} {v : List V}, RelL K io H d v → RelL K io' H' d v
  | _, _, .nil => .nil
  | _, _, .cons a r => .cons (RelD.stp s a) (RelL.stp s r)
theorem RelM.stp (s : Stp io H io' H') : ∀ {d : List (Key × D)} {v : List (Key × V)}, RelM K io H d v → RelM K io' H' d v
  | _, _, .nil => .nil
  | _, _, .cons a r => .cons (RelD.stp s a) (RelM.stp s r)
end
theorem RelS.stp (s : Stp io H io' H') {d : List (Option D)} {v : List (Option V)} (h : RelS K io H d v) : RelS K io' H' d v := by
  induction h with
  | nil => exact .nil
  | none _ ih => exact .none ih
  | some r _ ih => exact .some (r.stp s) ih
theorem RelO.stp (s : Stp io H io' H') : ∀ {o : DO} {ho : HO}, RelO K io H o ho → RelO K io' H' o ho
  | .lst _, _, ⟨vs, e, r⟩ => ⟨vs, e, r.stp s⟩
  | .dct _, _, ⟨vs, e, r⟩ => ⟨vs, e, r.stp s⟩
  | .ins _ _, _, ⟨dx, vs, e, r, l⟩ => ⟨dx, vs, e, r.stp s, l⟩
  | .lck _, _, ⟨ob, u, e, r⟩ => ⟨ob, u, e, RelO.stp s r⟩
/-! ### lists -/
theorem RelL.length {ds : List D} {vs : List V} (h : RelL K io H ds vs) : ds.length = vs.length := by
  induction ds generalizing vs with
  | nil => cases h; rfl
  | cons d ds ih => cases h with | cons _ r => simp [ih r]
theorem RelL.get {ds : List D} {vs : List V} (h : RelL K io H ds vs) {i : Nat} {d : D} (e : ds[i]? = some d) : ∃ v, vs[i]? = some v ∧ RelD K io H d v := by
  induction ds generalizing vs i with
  | nil => simp at e
  | cons x ds ih =>
    cases h with
    | cons a r =>
      cases i with
      | zero => simp at e; subst e; exact ⟨_, rfl, a⟩
      | succ i => simpa using ih r (by simpa using e)
theorem RelL.append {ds es : List D} {vs us : List V} (h : RelL K io H ds vs) (g : RelL K io H es us) : RelL K io H (ds ++ es) (vs ++ us) := by
  induction ds generalizing vs with
  | nil => cases h; exact g
  | cons x ds ih => cases h with | cons a r => exact .cons a (ih r)
theorem RelL.take {ds : List D} {vs : List V} (h : RelL K io H ds vs) (n : Nat) : RelL K io H (ds.take n) (vs.take n) := by
  induction ds generalizing vs n with
  | nil => cases h; simp; exact .nil
  | cons x ds ih =>
    cases h with
    | cons a r =>
      cases n with
      | zero => exact .nil
      | succ n => exact .cons a (ih r n)
theorem RelL.drop {ds : List D} {vs : List V} (h : RelL K io H ds vs) (n : Nat) : RelL K io H (ds.drop n) (vs.drop n) := by
  induction ds generalizing vs n with
  | nil => cases h; simp; exact .nil
  | cons x ds ih =>
    cases h with
    | cons a r =>
      cases n with
      | zero => exact .cons a r
      | succ n => exact ih r n
theorem RelL.set {ds : List D} {vs : List V} (h : RelL K io H ds vs) (i : Nat) {d : D} {v : V} (q : RelD K io H d v) : RelL K io H (ds.set i d) (vs.set i v) := by
  induction ds generalizing vs i with
  | nil => cases h; simp; exact .nil
  | cons x ds ih =>
    cases h with
    | cons a r =>
      cases i with
      | zero => exact .cons q r
      | succ i => exact .cons a (ih r i)
theorem RelL.one {d : D} {v : V} (q : RelD K io H d v) : RelL K io H [d] [v] := .cons q .nil
theorem RelL.two {d e : D} {v u : V} (q : RelD K io H d v) (r : RelD K io H e u) : RelL K io H [d, e] [v, u] := .cons q (.cons r .nil)
/-! ### names -/
theorem RelS.length {ds : List (Option D)} {vs : List (Option V)} (h : RelS K io H ds vs) : ds.length = vs.length := by
  induction h with
  | nil => rfl
  | none _ ih => simp [ih]
  | some _ _ ih => simp [ih]
theorem RelS.get {ds : List (Option D)} {vs : List (Option V)} (h : RelS K io H ds vs) {i : Nat} {d : D} (e : ds[i]? = Option.some (Option.some d)) : ∃ v, vs[i]? = Option.some (Option.some v) ∧ RelD K io H d v := by
  induction h generalizing i with
  | nil => simp at e
  | none _ ih =>
    cases i with
    | zero => simp at e
    | succ i => simpa using ih (by simpa using e)
  | some r _ ih =>
    cases i with
    | zero => simp at e; subst e; exact ⟨_, rfl, r⟩
    | succ i => simpa using ih (by simpa using e)
theorem RelS.set {ds : List (Option D)} {vs : List (Option V)} (h : RelS K io H ds vs) (i : Nat) {d : D} {v : V} (q : RelD K io H d v) : RelS K io H (ds.set i (Option.some d)) (vs.set i (Option.some v)) := by
  induction h generalizing i with
  | nil => exact .nil
  | none r ih =>
    cases i with
    | zero => exact .some q r
    | succ i => exact .none (ih i)
  | some r t ih =>
    cases i with
    | zero => exact .some q t
    | succ i => exact .some r (ih i)
theorem RelS.unset {ds : List (Option D)} {vs : List (Option V)} (h : RelS K io H ds vs) (i : Nat) (o : Option V) : RelS K io H (ds.set i Option.none) (vs.set i o) := by
  induction h generalizing i with
  | nil => exact .nil
  | none r ih =>
    cases i with
    | zero => exact .none r
    | succ i => exact .none (ih i)
  | some r t ih =>
    cases i with
    | zero => exact .none t
    | succ i => exact .some r (ih i)
theorem RelS.of_args {ds : List D} {vs : List V} (h : RelL K io H ds vs) (n : Nat) : RelS K io H (ds.map Option.some ++ List.replicate n Option.none) (vs.map Option.some ++ List.replicate n Option.none) := by
  induction ds generalizing vs with
  | nil =>
    cases h
    show RelS K io H (List.replicate n Option.none) (List.replicate n Option.none)
    induction n with
    | zero => exact .nil
    | succ n ih => exact .none ih
  | cons x ds ih => cases h with | cons a r => exact .some a (ih r)
/-! ### heaps: a new object, a changed one -/
/-- all as it was, seen from a later heap in which the numbered objects stand as they stood -/
theorem RelH.keep {h : DH} (r : RelH K io H h) (s : Stp io H io H') (k : ∀ a ∈ io.nums, H' a = H a) : RelH K io H' h where
  len := r.len
  nd := r.nd
  pv := fun a ha => ⟨(r.pv a ha).1, by
    obtain ⟨_, ho, e⟩ := r.pv a ha
    exact s.there a ho e⟩
  obj := fun i a o e1 e2 => by
    obtain ⟨ho, q, w⟩ := r.obj i a o e1 e2
    exact ⟨ho, by rw [k a (List.mem_of_getElem? e1)]; exact q, w.stp s⟩
theorem RelH.mem {h : DH} (r : RelH K io H h) {a : Addr} (ha : a ∈ io.nums) : ∃ ho, H a = some ho := by
  obtain ⟨i, e⟩ := List.getElem?_of_mem ha
  have hi : i < h.length := by rw [← r.len]; exact (List.getElem?_eq_some_iff.mp e).1
  obtain ⟨ho, q, _⟩ := r.obj i a h[i] e (List.getElem?_eq_getElem hi)
  exact ⟨ho, q⟩
theorem RelH.at {h : DH} (r : RelH K io H h) {i : Nat} {o : DO} (e : h[i]? = some o) : ∃ a ho, io.nums[i]? = some a ∧ H a = some ho ∧ RelO K io H o ho := by
  have hi : i < io.nums.length := by rw [r.len]; exact (List.getElem?_eq_some_iff.mp e).1
  obtain ⟨ho, q, w⟩ := r.obj i io.nums[i] o (List.getElem?_eq_getElem hi) e
  exact ⟨_, ho, List.getElem?_eq_getElem hi, q, w⟩
/-- a new object that is not numbered -/
theorem stp_new {p : Addr} {o : HO} (hp : H p = none) : Stp io H io (upd H p o) where
  pre := ⟨[], by simp, fun _ z => nomatch z⟩
  psub := fun _ z => z
  pnew := fun _ z => .inl z
  keep := fun a u e _ => by rw [upd_ne (ne_of_none e hp)]; exact e
  there := fun a u e => ⟨u, by rw [upd_ne (ne_of_none e hp)]; exact e⟩
  frz := fun a u v e => by rw [upd_ne (ne_of_none e hp)]; exact e
theorem RelH.new {h : DH} (r : RelH K io H h) {p : Addr} {o : HO} (hp : H p = none) : RelH K io (upd H p o) h :=
  r.keep (stp_new hp) fun a ha => by
    obtain ⟨u, e⟩ := r.mem ha
    rw [upd_ne (ne_of_none e hp)]
theorem RelH.fresh {h : DH} (r : RelH K io H h) {p : Addr} (hp : H p = none) : ¬ io.has p := fun hm => by
  rcases hm with hm | hm
  · obtain ⟨u, e⟩ := r.mem hm
    rw [hp] at e
    cases e
  · obtain ⟨_, u, e⟩ := r.pv p hm
    rw [hp] at e
    cases e
/-- a new object that is numbered -/
theorem stp_num {p : Addr} {o : HO} (hp : H p = none) : Stp io H (io.add p) (upd H p o) where
  pre := ⟨[p], rfl, fun a ha => by simp at ha; subst ha; exact hp⟩
  psub := fun _ z => z
  pnew := fun _ z => .inl z
  keep := fun a u e _ => by rw [upd_ne (ne_of_none e hp)]; exact e
  there := fun a u e => ⟨u, by rw [upd_ne (ne_of_none e hp)]; exact e⟩
  frz := fun a u v e => by rw [upd_ne (ne_of_none e hp)]; exact e
theorem RelH.num {h : DH} (r : RelH K io H h) {p : Addr} {o : DO} {ho : HO} (hp : H p = none) (w : RelO K (io.add p) (upd H p ho) o ho) : RelH K (io.add p) (upd H p ho) (h ++ [o]) where
  len := by simp [Io.add, r.len]
  nd := List.nodup_append.mpr ⟨r.nd, by simp, fun a ha b hb => by
    simp at hb
    subst hb
    intro e
    subst e
    exact r.fresh hp (.inl ha)⟩
  pv := fun a ha => by
    obtain ⟨n, u, e⟩ := r.pv a ha
    refine ⟨fun z => ?_, u, by rw [upd_ne (ne_of_none e hp)]; exact e⟩
    rcases List.mem_append.mp z with z | z
    · exact n z
    · simp at z
      subst z
      rw [hp] at e
      cases e
  obj := fun i a u e1 e2 => by
    replace e1 : (io.nums ++ [p])[i]? = some a := e1
    by_cases hi : i < io.nums.length
    · rw [List.getElem?_append_left hi] at e1
      rw [List.getElem?_append_left (by rw [← r.len]; exact hi)] at e2
      obtain ⟨ho', q, w'⟩ := r.obj i a u e1 e2
      exact ⟨ho', by rw [upd_ne (ne_of_none q hp)]; exact q, w'.stp (stp_num hp)⟩
    · have hi' : i = io.nums.length := by
        have := (List.getElem?_eq_some_iff.mp e1).1
        simp at this
        omega
      subst hi'
      rw [List.getElem?_append_right (Nat.le_refl _)] at e1
      rw [List.getElem?_append_right (by rw [r.len]; exact Nat.le_refl _)] at e2
      simp at e1
      simp [r.len] at e2
      subst e1 e2
      exact ⟨ho, upd_same, w⟩
/-- a numbered object is changed -/
theorem stp_put {a : Addr} {o : HO} (ha : a ∈ io.nums) (hz : ∀ ob u, H a ≠ some (.frz ob u)) : Stp io H io (upd H a o) where
  pre := ⟨[], by simp, fun _ z => nomatch z⟩
  psub := fun _ z => z
  pnew := fun _ z => .inl z
  keep := fun b u e n => by rw [upd_ne (fun z => n (by rw [z]; exact ha))]; exact e
  there := fun b u e => by
    by_cases hb : b = a
    · subst hb; exact ⟨o, upd_same⟩
    · exact ⟨u, by rw [upd_ne hb]; exact e⟩
  frz := fun b ob u e => by rw [upd_ne (fun z => hz ob u (by rw [← z]; exact e))]; exact e
theorem RelH.put {h : DH} (r : RelH K io H h) {i : Nat} {a : Addr} {o : DO} {ho : HO} (e : io.nums[i]? = some a) (hz : ∀ ob u, H a ≠ some (.frz ob u)) (w : RelO K io (upd H a ho) o ho) : RelH K io (upd H a ho) (h.set i o) where
  len := by simp [r.len]
  nd := r.nd
  pv := fun b hb => by
    obtain ⟨n, u, q⟩ := r.pv b hb
    exact ⟨n, (stp_put (o := ho) (List.mem_of_getElem? e) hz).there b u q⟩
  obj := fun j b u e1 e2 => by
    by_cases hj : j = i
    · subst hj
      rw [e] at e1
      cases e1
      have hl : j < h.length := by rw [← r.len]; exact (List.getElem?_eq_some_iff.mp e).1
      rw [List.getElem?_set_self hl] at e2
      cases e2
      exact ⟨ho, upd_same, w⟩
    · rw [List.getElem?_set_ne (Ne.symm hj)] at e2
      obtain ⟨ho', q, w'⟩ := r.obj j b u e1 e2
      have hb : b ≠ a := fun z => by
        subst z
        exact hj (nodup_ix' r.nd e1 e)
      exact ⟨ho', by rw [upd_ne hb]; exact q, w'.stp (stp_put (List.mem_of_getElem? e) hz)⟩
end
end DL
set_option maxRecDepth 100000
set_option maxHeartbeats 2000000
namespace DL
open PySem PySem.Spec L2
open PyProof.Rows hiding St

/-- how an expression ends: a value, an error, or no word (then nothing is claimed) -/
inductive Out (α : Type) where
  | ok (a : α) (h : DH) | er (c : Ec) (h : DH) | bad
abbrev Rho := List (Option D)
abbrev Ex := Rho → DH → Out D
abbrev Ax := Rho → DH → Out (List D)
abbrev Tx := Rho → DH → Out Bool
def Out.bnd {α β : Type} (o : Out α) (k : α → DH → Out β) : Out β := match o with
  | .ok a h => k a h
  | .er c h => .er c h
  | .bad => .bad
/-- a statement's end -/
inductive OutS where
  | nx (r : Rho) (h : DH) | rt (v : D) (h : DH) | bk (r : Rho) (h : DH) | ct (r : Rho) (h : DH) | er (c : Ec) (r : Rho) (h : DH) | bad
abbrev Sx := Rho → DH → OutS
abbrev Fn := List D → DH → Out D

/-- what is known of an error's class: which clauses name it -/
def XOk (K : PySem.W.Frag) (c : Ec) : Prop := ∀ c' : Ec, (He.Fa.glo c'.nm).ok K = true → PySem.W.exmOne K (.ref (He.ga K c.nm)) (.ref (He.ga K c'.nm)) = some (c.isSub c')

/-- what must follow -/
def Post {α β : Type} (K : PySem.W.Frag) (R : Io → Hp → α → β → Prop) (W : WX) (io : Io) (H : Hp) (sg : St) (Q : β → Hp → Prop) : Out α → Prop
  | .ok a h' => ∀ io' H' b, Stp io H io' H' → RelH K io' H' h' → R io' H' a b → Q b H'
  | .er c h' => XOk K c → ∀ io' H', Stp io H io' H' → RelH K io' H' h' → W (.ref (He.ga K c.nm)) none sg H'
  | .bad => False
theorem Post.stp {α β : Type} {K : PySem.W.Frag} {R : Io → Hp → α → β → Prop} {W : WX} {io io1 : Io} {H H1 : Hp} {sg : St} {Q : β → Hp → Prop} {o : Out α} (p : Post K R W io H sg Q o) (s : Stp io H io1 H1) : Post K R W io1 H1 sg Q o := by
  cases o with
  | ok a h => exact fun io' H' b s' => p io' H' b (s.trans s')
  | er c h => exact fun x io' H' s' => p x io' H' (s.trans s')
  | bad => exact p
def tG {α β : Type} (K : PySem.W.Frag) (R : Io → Hp → α → β → Prop) (W : WX) (f : Rho → DH → Out α) : St → Hp → (β → Hp → Prop) → Prop := fun sg H Q =>
  ∃ io rho h, RelS K io H rho sg ∧ RelH K io H h ∧ Post K R W io H sg Q (f rho h)
abbrev rEq (α : Type) : Io → Hp → α → α → Prop := fun _ _ a b => a = b
abbrev tX (K : PySem.W.Frag) (W : WX) (f : Ex) : TE := tG K (RelD K) W f
abbrev tA (K : PySem.W.Frag) (W : WX) (f : Ax) : TA := tG K (RelL K) W f
abbrev tT (K : PySem.W.Frag) (W : WX) (f : Tx) : TT := tG K (rEq Bool) W f

theorem bnd_ok {α α' β β' : Type} {K : PySem.W.Frag} {RA : Io → Hp → α → α' → Prop} {RB : Io → Hp → β → β' → Prop} {W : WX} {io : Io} {H : Hp} {sg : St} {Q : β' → Hp → Prop} {R : α' → Hp → Prop} {f : Rho → DH → Out α} {g : α → DH → Out β} {rho : Rho} {h : DH}
    (rs : RelS K io H rho sg) (rh : RelH K io H h) (p : Post K RB W io H sg Q ((f rho h).bnd g))
    (k : ∀ io1 H1 d v h1, Stp io H io1 H1 → RelS K io1 H1 rho sg → RelH K io1 H1 h1 → RA io1 H1 d v → Post K RB W io1 H1 sg Q (g d h1) → R v H1) : tG K RA W f sg H R := by
  refine ⟨io, rho, h, rs, rh, ?_⟩
  cases e : f rho h with
  | ok a h1 =>
    rw [e] at p
    exact fun io1 H1 b s r1 ra => k io1 H1 a b h1 s (rs.stp s) r1 ra (Post.stp p s)
  | er c h1 =>
    rw [e] at p
    exact p
  | bad =>
    rw [e] at p
    exact p
theorem PE.imp {X : Cx} {e : Expr} {t t' : TE} (h : PE X e t) (i : ∀ sg H Q, t' sg H Q → t sg H Q) : PE X e t' := ⟨fun pins s sg H Q I q => h.run pins s sg H Q I (i sg H Q q)⟩
theorem PT.imp {X : Cx} {e : Expr} {t t' : TT} (h : PT X e t) (i : ∀ sg H Q, t' sg H Q → t sg H Q) : PT X e t' := ⟨fun pins s sg H Q I q => h.run pins s sg H Q I (i sg H Q q)⟩
theorem PW.imp {X : Cx} {e : Expr} {t t' : TT} (h : PW X e t) (i : ∀ sg H Q, t' sg H Q → t sg H Q) : PW X e t' := ⟨fun wh pins s sg H Q I q => h.run wh pins s sg H Q I (i sg H Q q)⟩
theorem PA.imp {X : Cx} {e : List Expr} {t t' : TA} (h : PA X e t) (i : ∀ sg H Q, t' sg H Q → t sg H Q) : PA X e t' := ⟨fun pos pins s sg H Q I q => h.run pos pins s sg H Q I (i sg H Q q)⟩
theorem PS.imp {X : Cx} {e : Stmt} {t t' : TS} (h : PS X e t) (i : ∀ Dn sg H, t' Dn sg H → t Dn sg H) : PS X e t' := ⟨fun pins s sg H Dn I q => h.run pins s sg H Dn I (i Dn sg H q)⟩
theorem PSs.imp {X : Cx} {e : List Stmt} {t t' : TS} (h : PSs X e t) (i : ∀ Dn sg H, t' Dn sg H → t Dn sg H) : PSs X e t' := ⟨fun pins s sg H Dn I q => h.run pins s sg H Dn I (i Dn sg H q)⟩

section
variable {X : Cx} {W : WX}
/-! ### names, constants -/
def xVar (i : Nat) : Ex := fun r h => match r[i]? with
  | some (some d) => .ok d h
  | _ => .bad
theorem de_var {x : Str} {pos : Pos} (i : Nat) (hN : X.N[i]? = some x := by rfl) (hv : Vis X.env.scope x := by first | exact Or.inl rfl | exact Or.inr (Or.inl rfl) | exact Or.inr (Or.inr rfl)) (hd : (x == ("__debug__" : Str)) = false := by decide)
    (hcd : (x == ("__classdict__" : Str)) = false := by decide) : PE X (.Name x pos) (tX X.K W (xVar i)) := PE.imp (pe_var hN hv hd hcd) fun sg H Q h => by
  obtain ⟨io, rho, dh, rs, rh, p⟩ := h
  unfold xVar at p
  cases e : rho[i]? with
  | none => rw [e] at p; exact p.elim
  | some o =>
    cases o with
    | none => rw [e] at p; exact p.elim
    | some d =>
      rw [e] at p
      obtain ⟨v, q, r⟩ := rs.get e
      exact ⟨v, q, p io H v .refl rh r⟩
def xC (d : D) : Ex := fun _ h => .ok d h
theorem de_of_const {e : Expr} {d : D} {v : V} (hp : PE X e (tC v)) (hr : ∀ io H, RelD X.K io H d v) : PE X e (tX X.K W (xC d)) := PE.imp hp fun sg H Q h => by
  obtain ⟨io, rho, dh, rs, rh, p⟩ := h
  exact p io H v .refl rh (hr io H)
theorem de_int {i : Int} {j : Nat} {pos : Pos} : PE X (.Constant (.int i) j pos) (tX X.K W (xC (.int i))) := de_of_const pe_int fun _ _ => .int i
theorem de_bl {b : Bool} {j : Nat} {pos : Pos} : PE X (.Constant (.bool b) j pos) (tX X.K W (xC (.bl b))) := de_of_const pe_bl fun _ _ => .bl b
theorem de_non {j : Nat} {pos : Pos} : PE X (.Constant .none j pos) (tX X.K W (xC .non)) := de_of_const pe_non fun _ _ => .non
theorem de_str {x : Str} {j : Nat} {pos : Pos} : PE X (.Constant (.str x) j pos) (tX X.K W (xC (.str x))) := de_of_const pe_str fun _ _ => .str x
/-- a constant of the module -/
structure GlobC (K : PySem.W.Frag) (mg : Str → Option Value) (x : Str) (d : D) : Prop where
  ex : ∃ (v : V) (u : Value), mg x = some u ∧ RelV v u ∧ ∀ io H, RelD K io H d v
theorem de_glob {x : Str} {pos : Pos} {d : D} (g : GlobC X.K X.mg x d) (hg : Gl X x := by rfl) (hd : (x == ("__debug__" : Str)) = false := by decide) : PE X (.Name x pos) (tX X.K W (xC d)) := by
  obtain ⟨v, u, h1, h2, h3⟩ := g.ex
  exact de_of_const (pe_glob hg h1 h2 hd) h3

/-! ### operations on values that change nothing -/
/-- a binary one: by the heap; none: no word -/
abbrev P2 := DH → D → D → Option D
abbrev P1 := DH → D → Option D
def Out.of {α : Type} (o : Option α) (h : DH) : Out α := match o with
  | some a => .ok a h
  | none => .bad
theorem Post.of {α β : Type} {K : PySem.W.Frag} {R : Io → Hp → α → β → Prop} {W : WX} {io : Io} {H : Hp} {sg : St} {Q : β → Hp → Prop} {o : Option α} {h : DH} (p : Post K R W io H sg Q (Out.of o h)) : ∃ a, o = some a ∧ ∀ io' H' b, Stp io H io' H' → RelH K io' H' h → R io' H' a b → Q b H' := by
  cases o with
  | none => exact p.elim
  | some a => exact ⟨a, rfl, p⟩
def xBin (o : P2) (fa fb : Ex) : Ex := fun r h => (fa r h).bnd fun x h1 => (fb r h1).bnd fun y h2 => .of (o h2 x y) h2
def rP2 (K : PySem.W.Frag) (o : P2) : R2 := fun x y H Q => ∃ io h dx dy d, RelD K io H dx x ∧ RelD K io H dy y ∧ RelH K io H h ∧ o h dx dy = some d ∧ ∀ H' u, Stp io H io H' → RelH K io H' h → RelD K io H' d u → Q u H'
abbrev OpD (X : Cx) (f : Value → Value → Sem Value) (o : P2) : Prop := OpR X f (rP2 X.K o)
theorem tOp_of {K : PySem.W.Frag} {o : P2} {fa fb : Ex} {sg : St} {H : Hp} {Q : VK} (h : tX K W (xBin o fa fb) sg H Q) : tOp (rP2 K o) (tX K W fa) (tX K W fb) sg H Q := by
  obtain ⟨io, rho, dh, rs, rh, p⟩ := h
  refine bnd_ok rs rh p fun io1 H1 x v h1 s1 rs1 rh1 r1 p1 => ?_
  refine bnd_ok rs1 rh1 p1 fun io2 H2 y u h2 s2 rs2 rh2 r2 p2 => ?_
  obtain ⟨d, e, q⟩ := Post.of p2
  exact ⟨io2, h2, x, y, d, r1.stp s2, r2, rh2, e, fun H' w s r rd => q io2 H' w s r rd⟩
theorem de_bin {op : Operator} {a b : Expr} {pos : Pos} {o : P2} {fa fb : Ex} (ho : OpD X (binaryOp op) o) (ha : PE X a (tX X.K W fa)) (hb : PE X b (tX X.K W fb)) : PE X (.BinOp a op b pos) (tX X.K W (xBin o fa fb)) :=
  PE.imp (pe_op ho ha hb) fun _ _ _ h => tOp_of h
theorem de_cmp {op : CmpOp} {a b : Expr} {pos : Pos} {o : P2} {fa fb : Ex} (ho : OpD X (compareOp op) o) (ha : PE X a (tX X.K W fa)) (hb : PE X b (tX X.K W fb)) (hm : behindInMarks op b = false := by first | exact nomark _ | rfl | with_unfolding_all rfl) : PE X (.Compare a [op] [b] pos) (tX X.K W (xBin o fa fb)) :=
  PE.imp (pe_cmpR ho ha hb hm) fun _ _ _ h => tOp_of h
def xBool : D → Option Bool
  | .bl b => some b
  | _ => none
theorem xBool_some {d : D} {b : Bool} (e : xBool d = some b) : d = .bl b := by
  cases d with
  | bl c => cases e; rfl
  | _ => cases e
/-- a value that is True or False, as a test -/
def xTB (f : Ex) : Tx := fun r h => (f r h).bnd fun d h1 => .of (xBool d) h1
theorem tTest_of {K : PySem.W.Frag} {f : Ex} {sg : St} {H : Hp} {Q : Bool → Hp → Prop} (h : tT K W (xTB f) sg H Q) : tX K W f sg H fun x H1 => ∃ k, x = .bl k ∧ Q k H1 := by
  obtain ⟨io, rho, dh, rs, rh, p⟩ := h
  refine bnd_ok rs rh p fun io1 H1 x v h1 s1 rs1 rh1 r1 p1 => ?_
  obtain ⟨b, e, q⟩ := Post.of p1
  have ex := xBool_some e
  subst ex
  cases r1
  exact ⟨b, rfl, q io1 H1 b .refl rh1 rfl⟩
theorem dt_cmp {op : CmpOp} {a b : Expr} {pos : Pos} {o : P2} {fa fb : Ex} (ho : OpD X (compareOp op) o) (ha : PE X a (tX X.K W fa)) (hb : PE X b (tX X.K W fb)) (hm : behindInMarks op b = false := by first | exact nomark _ | rfl | with_unfolding_all rfl) : PT X (.Compare a [op] [b] pos) (tT X.K W (xTB (xBin o fa fb))) :=
  PT.imp (pt_cmpR ho ha hb hm) fun sg H Q h => by
    have h2 := tTest_of h
    obtain ⟨io, rho, dh, rs, rh, p⟩ := h2
    exact tOp_of ⟨io, rho, dh, rs, rh, p⟩
/-- a op b op' c -/
def xChain (o o' : P2) (fa fb fc : Ex) : Ex := fun r h => (fa r h).bnd fun x h1 => (fb r h1).bnd fun y h2 => match o h2 x y with
  | some (.bl true) => (fc r h2).bnd fun z h3 => .of (o' h3 y z) h3
  | some (.bl false) => .ok (.bl false) h2
  | _ => .bad
theorem tChain_of {K : PySem.W.Frag} {o o' : P2} {fa fb fc : Ex} {sg : St} {H : Hp} {Q : VK} (h : tX K W (xChain o o' fa fb fc) sg H Q) : tChain (rP2 K o) (rP2 K o') (tX K W fa) (tX K W fb) (tX K W fc) sg H Q := by
  obtain ⟨io, rho, dh, rs, rh, p⟩ := h
  refine bnd_ok rs rh p fun io1 H1 x v h1 s1 rs1 rh1 r1 p1 => ?_
  refine bnd_ok rs1 rh1 p1 fun io2 H2 y u h2 s2 rs2 rh2 r2 p2 => ?_
  cases e : o h2 x y with
  | none => rw [e] at p2; exact p2.elim
  | some d =>
    rw [e] at p2
    refine ⟨io2, h2, x, y, d, r1.stp s2, r2, rh2, e, fun H' w' s r rd => ?_⟩
    cases d with
    | bl k =>
      cases rd
      cases k with
      | false => exact ⟨false, rfl, by rw [if_neg Bool.false_ne_true]; exact p2 io2 H' _ s r (.bl false)⟩
      | true =>
        refine ⟨true, rfl, ?_⟩
        rw [if_pos rfl]
        refine bnd_ok (rs2.stp s) r (Post.stp p2 s) fun io3 H3 z w3 h3 s3 rs3 rh3 r3 p3 => ?_
        obtain ⟨d, e', q⟩ := Post.of p3
        exact ⟨io3, h3, y, z, d, (r2.stp s).stp s3, r3, rh3, e', fun H' w s r rd => q io3 H' w s r rd⟩
    | _ => exact p2.elim
theorem de_chain {op op' : CmpOp} {a b c : Expr} {pos : Pos} {o o' : P2} {fa fb fc : Ex} (ho : OpD X (compareOp op) o) (ho' : OpD X (compareOp op') o') (ha : PE X a (tX X.K W fa)) (hb : PE X b (tX X.K W fb)) (hc : PE X c (tX X.K W fc)) (hm : lastMarks [op, op'] [b, c] = false := by with_unfolding_all rfl) : PE X (.Compare a [op, op'] [b, c] pos) (tX X.K W (xChain o o' fa fb fc)) :=
  PE.imp (pe_chain ho ho' ha hb hc hm) fun _ _ _ h => tChain_of h
theorem dt_chain {op op' : CmpOp} {a b c : Expr} {pos : Pos} {o o' : P2} {fa fb fc : Ex} (ho : OpD X (compareOp op) o) (ho' : OpD X (compareOp op') o') (ha : PE X a (tX X.K W fa)) (hb : PE X b (tX X.K W fb)) (hc : PE X c (tX X.K W fc)) (hm : lastMarks [op, op'] [b, c] = false := by with_unfolding_all rfl) : PT X (.Compare a [op, op'] [b, c] pos) (tT X.K W (xTB (xChain o o' fa fb fc))) :=
  PT.imp (pt_chain ho ho' ha hb hc hm) fun sg H Q h => tChain_of (tTest_of h)
def xUn (o : P1) (fa : Ex) : Ex := fun r h => (fa r h).bnd fun x h1 => .of (o h1 x) h1
def rP1 (K : PySem.W.Frag) (o : P1) : V → Hp → VK → Prop := fun x H Q => ∃ io h dx d, RelD K io H dx x ∧ RelH K io H h ∧ o h dx = some d ∧ ∀ H' u, Stp io H io H' → RelH K io H' h → RelD K io H' d u → Q u H'
theorem tUn_of {K : PySem.W.Frag} {o : P1} {fa : Ex} {sg : St} {H : Hp} {Q : VK} (h : tX K W (xUn o fa) sg H Q) : tX K W fa sg H fun x H1 => rP1 K o x H1 Q := by
  obtain ⟨io, rho, dh, rs, rh, p⟩ := h
  refine bnd_ok rs rh p fun io1 H1 x v h1 s1 rs1 rh1 r1 p1 => ?_
  obtain ⟨d, e, q⟩ := Post.of p1
  exact ⟨io1, h1, x, d, r1, rh1, e, fun H' w s r rd => q io1 H' w s r rd⟩
def oNeg : P1 := fun _ d => match d with
  | .int i => some (.int (-i))
  | _ => none
theorem un_negD : UnR X (unaryOp .USub) (rP1 X.K oNeg) := fun pins s sg H x v Q I rx h => by
  obtain ⟨io, dh, dx, d, r, rh, e, q⟩ := h
  cases dx with
  | int i =>
    cases r
    cases e
    exact un_neg pins s sg H _ v Q I rx ⟨i, rfl, q H _ .refl rh (.int _)⟩
  | _ => cases e
theorem de_neg {a : Expr} {pos : Pos} {fa : Ex} (ha : PE X a (tX X.K W fa)) : PE X (.UnaryOp .USub a pos) (tX X.K W (xUn oNeg fa)) := PE.imp (pe_un un_negD ha) fun _ _ _ h => tUn_of h
/-! ### not, and, or, if as values -/
def xNot (fa : Ex) : Ex := fun r h => (fa r h).bnd fun x h1 => .of ((xBool x).map fun b => .bl (!b)) h1
theorem de_not {a : Expr} {pos : Pos} {fa : Ex} (ha : PE X a (tX X.K W fa)) : PE X (.UnaryOp .Not a pos) (tX X.K W (xNot fa)) := PE.imp (pe_not ha) fun sg H Q h => by
  obtain ⟨io, rho, dh, rs, rh, p⟩ := h
  refine bnd_ok rs rh p fun io1 H1 x v h1 s1 rs1 rh1 r1 p1 => ?_
  obtain ⟨d, e, q⟩ := Post.of p1
  cases e2 : xBool x with
  | none => rw [e2] at e; cases e
  | some b =>
    rw [e2] at e
    cases e
    have := xBool_some e2
    subst this
    cases r1
    exact ⟨b, rfl, q io1 H1 _ .refl rh1 (.bl _)⟩
def xAnd (fa fb : Ex) : Ex := fun r h => (fa r h).bnd fun x h1 => match x with
  | .bl true => fb r h1
  | .bl false => .ok (.bl false) h1
  | _ => .bad
def xOr (fa fb : Ex) : Ex := fun r h => (fa r h).bnd fun x h1 => match x with
  | .bl false => fb r h1
  | .bl true => .ok (.bl true) h1
  | _ => .bad
theorem de_and {a b : Expr} {rest : List Expr} {pos : Pos} {fa fb : Ex} (ha : PE X a (tX X.K W fa)) (hb : PE X (.BoolOp .And (b :: rest) pos) (tX X.K W fb)) : PE X (.BoolOp .And (a :: b :: rest) pos) (tX X.K W (xAnd fa fb)) := PE.imp (pe_and ha hb) fun sg H Q h => by
  obtain ⟨io, rho, dh, rs, rh, p⟩ := h
  refine bnd_ok rs rh p fun io1 H1 x v h1 s1 rs1 rh1 r1 p1 => ?_
  cases x with
  | bl c =>
    cases r1
    refine ⟨c, rfl, ?_⟩
    cases c with
    | true => rw [if_pos rfl]; exact ⟨io1, rho, h1, rs1, rh1, p1⟩
    | false => rw [if_neg Bool.false_ne_true]; exact p1 io1 H1 _ .refl rh1 (.bl false)
  | _ => exact p1.elim
theorem de_or {a b : Expr} {rest : List Expr} {pos : Pos} {fa fb : Ex} (ha : PE X a (tX X.K W fa)) (hb : PE X (.BoolOp .Or (b :: rest) pos) (tX X.K W fb)) : PE X (.BoolOp .Or (a :: b :: rest) pos) (tX X.K W (xOr fa fb)) := PE.imp (pe_or ha hb) fun sg H Q h => by
  obtain ⟨io, rho, dh, rs, rh, p⟩ := h
  refine bnd_ok rs rh p fun io1 H1 x v h1 s1 rs1 rh1 r1 p1 => ?_
  cases x with
  | bl c =>
    cases r1
    refine ⟨c, rfl, ?_⟩
    cases c with
    | true => rw [if_pos rfl]; exact p1 io1 H1 _ .refl rh1 (.bl true)
    | false => rw [if_neg Bool.false_ne_true]; exact ⟨io1, rho, h1, rs1, rh1, p1⟩
  | _ => exact p1.elim
theorem de_one {op : BoolOp} {a : Expr} {pos : Pos} {fa : Ex} (ha : PE X a (tX X.K W fa)) : PE X (.BoolOp op [a] pos) (tX X.K W fa) := pe_one ha
def xIf (c : Tx) (fa fb : Ex) : Ex := fun r h => (c r h).bnd fun b h1 => match b with
  | true => fa r h1
  | false => fb r h1
theorem de_ifExp {c a b : Expr} {pos : Pos} {fc : Tx} {fa fb : Ex} (hc : PT X c (tT X.K W fc)) (ha : PE X a (tX X.K W fa)) (hb : PE X b (tX X.K W fb)) : PE X (.IfExp c a b pos) (tX X.K W (xIf fc fa fb)) := PE.imp (pe_ifExp hc ha hb) fun sg H Q h => by
  obtain ⟨io, rho, dh, rs, rh, p⟩ := h
  refine bnd_ok rs rh p fun io1 H1 x v h1 s1 rs1 rh1 r1 p1 => ?_
  cases r1
  cases x with
  | true => rw [if_pos rfl]; exact ⟨io1, rho, h1, rs1, rh1, p1⟩
  | false => rw [if_neg Bool.false_ne_true]; exact ⟨io1, rho, h1, rs1, rh1, p1⟩
/-! ### tests -/
def yNot (fa : Tx) : Tx := fun r h => (fa r h).bnd fun b h1 => .ok (!b) h1
def yAnd (fa fb : Tx) : Tx := fun r h => (fa r h).bnd fun b h1 => match b with
  | true => fb r h1
  | false => .ok false h1
def yOr (fa fb : Tx) : Tx := fun r h => (fa r h).bnd fun b h1 => match b with
  | true => .ok true h1
  | false => fb r h1
theorem dt_not {a : Expr} {pos : Pos} {fa : Tx} (ha : PT X a (tT X.K W fa)) : PT X (.UnaryOp .Not a pos) (tT X.K W (yNot fa)) := PT.imp (pt_not ha) fun sg H Q h => by
  obtain ⟨io, rho, dh, rs, rh, p⟩ := h
  refine bnd_ok rs rh p fun io1 H1 x v h1 s1 rs1 rh1 r1 p1 => ?_
  cases r1
  exact p1 io1 H1 _ .refl rh1 rfl
theorem dw_and1 {a : Expr} {pos : Pos} {fa : Tx} (ha : PT X a (tT X.K W fa)) : PW X (.BoolOp .And [a] pos) (tT X.K W fa) := pw_and1 ha
theorem dw_or1 {a : Expr} {pos : Pos} {fa : Tx} (ha : PT X a (tT X.K W fa)) : PW X (.BoolOp .Or [a] pos) (tT X.K W fa) := pw_or1 ha
theorem dw_and {a b : Expr} {rest : List Expr} {pos : Pos} {fa fb : Tx} (ha : PT X a (tT X.K W fa)) (hb : PW X (.BoolOp .And (b :: rest) pos) (tT X.K W fb)) : PW X (.BoolOp .And (a :: b :: rest) pos) (tT X.K W (yAnd fa fb)) := PW.imp (pw_and ha hb) fun sg H Q h => by
  obtain ⟨io, rho, dh, rs, rh, p⟩ := h
  refine bnd_ok rs rh p fun io1 H1 x v h1 s1 rs1 rh1 r1 p1 => ?_
  cases r1
  cases x with
  | true => rw [if_pos rfl]; exact ⟨io1, rho, h1, rs1, rh1, p1⟩
  | false => rw [if_neg Bool.false_ne_true]; exact p1 io1 H1 _ .refl rh1 rfl
theorem dw_or {a b : Expr} {rest : List Expr} {pos : Pos} {fa fb : Tx} (ha : PT X a (tT X.K W fa)) (hb : PW X (.BoolOp .Or (b :: rest) pos) (tT X.K W fb)) : PW X (.BoolOp .Or (a :: b :: rest) pos) (tT X.K W (yOr fa fb)) := PW.imp (pw_or ha hb) fun sg H Q h => by
  obtain ⟨io, rho, dh, rs, rh, p⟩ := h
  refine bnd_ok rs rh p fun io1 H1 x v h1 s1 rs1 rh1 r1 p1 => ?_
  cases r1
  cases x with
  | true => rw [if_pos rfl]; exact p1 io1 H1 _ .refl rh1 rfl
  | false => rw [if_neg Bool.false_ne_true]; exact ⟨io1, rho, h1, rs1, rh1, p1⟩
theorem dt_w {e : Expr} {f : Tx} (h : PW X e (tT X.K W f)) : PT X e (tT X.K W f) := PW.pt h
/-- truth of any value -/
def truD (h : DH) : D → Option Bool
  | .non => some false
  | .bl b => some b
  | .int i => some (i != 0)
  | .str y => if y.length ≤ sizeLine then some ((y.length : Int) != 0) else none
  | .tup xs => some (!xs.isEmpty)
  | .lst xs => some (!xs.isEmpty)
  | .dct es => some (!es.isEmpty)
  | .ref i => match h[i]? with
    | some (.lst xs) => some (!xs.isEmpty)
    | some (.dct es) => some (!es.isEmpty)
    | _ => none
  | .scr ns => some (!ns.isEmpty)
def xTru (fa : Ex) : Tx := fun r h => (fa r h).bnd fun d h1 => .of (truD h1 d) h1
theorem RelL.empty {K : PySem.W.Frag} {io : Io} {H : Hp} {ds : List D} {vs : List V} (h : RelL K io H ds vs) : ds.isEmpty = vs.isEmpty := by cases h <;> rfl
theorem RelM.empty {K : PySem.W.Frag} {io : Io} {H : Hp} {ds : List (Key × D)} {vs : List (Key × V)} (h : RelM K io H ds vs) : ds.isEmpty = vs.isEmpty := by cases h <;> rfl
def rTru (K : PySem.W.Frag) : V → Hp → (Bool → Hp → Prop) → Prop := fun x H Q => ∃ io h d b, RelD K io H d x ∧ RelH K io H h ∧ truD h d = some b ∧ Q b H
theorem tru_D : TruR X (rTru X.K) := fun pins s sg H x v Q I rx h => by
  obtain ⟨io, dh, d, b, r, rh, e, q⟩ := h
  have go : ∀ k, TruV X.K x H k → Q k H → wpAny (model X.prog X.w) X.A (truthy v) (TP X pins sg Q) X.xe s := fun k t q => tru_ok pins s sg H x v Q I rx ⟨k, t, q⟩
  have goD : ∀ (a : Addr) (kvs : List (Key × V)), x = .ref a → Rd H a (.dK kvs) → Q (!kvs.isEmpty) H → wpAny (model X.prog X.w) X.A (truthy v) (TP X pins sg Q) X.xe s := fun a kvs ex rd q => by
    subst ex
    cases (show v = Value.ref a from rx)
    exact d_truth I rd fun s' I' => ⟨H, I', q⟩
  cases r with
  | non => cases e; exact go _ rfl q
  | bl c => cases e; exact go _ rfl q
  | int i => cases e; exact go _ rfl q
  | str y =>
    simp only [truD] at e
    split at e
    · cases e; exact go _ ⟨by assumption, rfl⟩ q
    · cases e
  | tup f rl =>
    cases e
    exact go _ (.inr (.inl ⟨_, f.sq, by rw [rl.empty]⟩)) q
  | lst f rl =>
    cases e
    exact go _ (.inl ⟨_, f.sq, by rw [rl.empty]⟩) q
  | dct f rl =>
    cases e
    exact goD _ _ rfl f.1 (by rw [← rl.empty]; exact q)
  | ref ei =>
    rename_i i a
    simp only [truD] at e
    cases e1 : dh[i]? with
    | none => rw [e1] at e; cases e
    | some o =>
      rw [e1] at e
      obtain ⟨ho, h1, h2⟩ := rh.obj i a o ei e1
      cases o with
      | lst xs =>
        cases e
        obtain ⟨vs, rfl, rl⟩ := h2
        exact go _ (.inl ⟨_, .inl (.inl h1), by rw [rl.empty]⟩) q
      | dct es =>
        cases e
        obtain ⟨vs, rfl, rl⟩ := h2
        exact goD _ _ rfl (.inl h1) (by rw [← rl.empty]; exact q)
      | ins c vs => cases e
      | lck o => cases e
  | scr ei =>
    rename_i a ns
    cases e
    exact go _ (.inl ⟨_, ei.sq, by cases ns <;> rfl⟩) q
theorem dt_tru {a : Expr} {fa : Ex} (ha : PE X a (tX X.K W fa)) (he : ∀ whole, isTrue a X.env whole = (do let v ← whole; standAt a.pos; holding [v] (truthy v)) := by intro _; rfl) : PT X a (tT X.K W (xTru fa)) := by
  refine ⟨fun pins s sg H Q I h => ?_⟩
  have h2 : tX X.K W fa sg H fun x H1 => rTru X.K x H1 Q := by
    obtain ⟨io, rho, dh, rs, rh, p⟩ := h
    refine bnd_ok rs rh p fun io1 H1 x v h1 s1 rs1 rh1 r1 p1 => ?_
    obtain ⟨b, e, q⟩ := Post.of p1
    exact ⟨io1, h1, x, b, r1, rh1, e, q io1 H1 b .refl rh1 rfl⟩
  exact isTrue_plain (thn (ha.run pins s sg H _ I h2) fun v s1 ⟨x, H1, I1, r1, q1⟩ => tru_D pins s1 sg H1 x v Q I1 r1 q1) (he _)
/-- as a value, by truth: not e -/
def xNotT (fa : Ex) : Ex := fun r h => (fa r h).bnd fun x h1 => .of ((truD h1 x).map fun b => .bl (!b)) h1
/-! ### arguments -/
def xNil : Ax := fun _ h => .ok [] h
def xCons (fa : Ex) (fs : Ax) : Ax := fun r h => (fa r h).bnd fun d h1 => (fs r h1).bnd fun ds h2 => .ok (d :: ds) h2
theorem da_nil : PA X [] (tA X.K W xNil) := PA.imp pa_nil fun sg H Q h => by
  obtain ⟨io, rho, dh, rs, rh, p⟩ := h
  exact p io H _ .refl rh .nil
theorem da_cons {e : Expr} {es : List Expr} {fa : Ex} {fs : Ax} (ha : PE X e (tX X.K W fa)) (hs : PA X es (tA X.K W fs)) (hst : starEach (e :: es) X.env = (false, eval e X.env) :: starEach es X.env := by rfl) : PA X (e :: es) (tA X.K W (xCons fa fs)) := PA.imp (pa_cons ha hs hst) fun sg H Q h => by
  obtain ⟨io, rho, dh, rs, rh, p⟩ := h
  refine bnd_ok rs rh p fun io1 H1 x v h1 s1 rs1 rh1 r1 p1 => ?_
  refine bnd_ok rs1 rh1 p1 fun io2 H2 y u h2 s2 rs2 rh2 r2 p2 => ?_
  exact p2 io2 H2 _ .refl rh2 (.cons (r1.stp s2) r2)
end
end DL
set_option maxRecDepth 100000
set_option maxHeartbeats 2000000
namespace DL
open PySem PySem.Spec L2
open PyProof.Rows hiding St

/-! ### lists, read -/
def lstOf (h : DH) : D → Option (List D)
  | .lst xs => some xs
  | .ref i => match h[i]? with
    | some (.lst xs) => some xs
    | _ => none
  | _ => none
section
variable {K : PySem.W.Frag} {io : Io} {H : Hp} {h : DH}
theorem lstOf_ok {d : D} {x : V} {xs : List D} (r : RelD K io H d x) (rh : RelH K io H h) (e : lstOf h d = some xs) : ∃ a vs, x = .ref a ∧ H a = some (.lst vs) ∧ RelL K io H xs vs := by
  cases r with
  | lst f rl => cases e; exact ⟨_, _, rfl, f.1, rl⟩
  | ref ei =>
    rename_i i a
    simp only [lstOf] at e
    cases e1 : h[i]? with
    | none => rw [e1] at e; cases e
    | some o =>
      rw [e1] at e
      obtain ⟨ho, h1, h2⟩ := rh.obj i a o ei e1
      cases o with
      | lst ys =>
        cases e
        obtain ⟨vs, rfl, rl⟩ := h2
        exact ⟨a, vs, rfl, h1, rl⟩
      | _ => cases e
  | _ => cases e
/-- a new tuple, list -/
theorem rel_tup {p : Addr} {ds : List D} {vs : List V} (rh : RelH K io H h) (rl : RelL K io H ds vs) (hp : H p = none) : Stp io H io (upd H p (.tup vs)) ∧ RelH K io (upd H p (.tup vs)) h ∧ RelD K io (upd H p (.tup vs)) (.tup ds) (.ref p) :=
  ⟨stp_new hp, rh.new hp, .tup (.inl ⟨.inl upd_same, rh.fresh hp⟩) (rl.stp (stp_new hp))⟩
theorem rel_lst {p : Addr} {ds : List D} {vs : List V} (rh : RelH K io H h) (rl : RelL K io H ds vs) (hp : H p = none) : Stp io H io (upd H p (.lst vs)) ∧ RelH K io (upd H p (.lst vs)) h ∧ RelD K io (upd H p (.lst vs)) (.lst ds) (.ref p) :=
  ⟨stp_new hp, rh.new hp, .lst ⟨upd_same, rh.fresh hp⟩ (rl.stp (stp_new hp))⟩
theorem RelL.rep {ds : List D} {vs : List V} (r : RelL K io H ds vs) (n : Nat) : RelL K io H (List.replicate n ds).flatten (List.replicate n vs).flatten := by
  induction n with
  | zero => exact .nil
  | succ n ih => rw [List.replicate_succ, List.replicate_succ, List.flatten_cons, List.flatten_cons]; exact r.append ih
end

/-! ### + - * // % ** -/
def oAdd : P2 := fun h x y => match x, y with
  | .int i, .int j => some (.int (i + j))
  | .tup a, .tup b => if a.length + b.length ≤ sizeLine then some (.tup (a ++ b)) else none
  | .str a, .str b => if a.length + b.length ≤ sizeLine then some (.str (a ++ b)) else none
  | a, b => match lstOf h a, lstOf h b with
    | some xs, some ys => if xs.length + ys.length ≤ sizeLine then some (.lst (xs ++ ys)) else none
    | _, _ => none
def oSub : P2 := fun _ x y => match x, y with
  | .int i, .int j => some (.int (i - j))
  | _, _ => none
def oMul : P2 := fun h x y => match x, y with
  | .int i, .int j => if (-(2 ^ 64) < i ∧ i < 2 ^ 64) ∨ (-(2 ^ 64) < j ∧ j < 2 ^ 64) then some (.int (i * j)) else none
  | .tup xs, .int k => if k ≤ 1000 ∧ -1000 ≤ k ∧ xs.length ≤ 1000 ∧ xs ≠ [] then some (.tup (List.replicate k.toNat xs).flatten) else none
  | .str z, .int k => if k = 0 then some (.str Str.empty) else if k = 1 then some (.str z) else none
  | a, .int k => match lstOf h a with
    | some xs => if k ≤ 1000 ∧ -1000 ≤ k ∧ xs.length ≤ 1000 then some (.lst (List.replicate k.toNat xs).flatten) else none
    | none => none
  | _, _ => none
def oDiv : P2 := fun _ x y => match x, y with
  | .int i, .int j => if 0 < j ∧ j < 1073741824 then some (.int (i / j)) else none
  | _, _ => none
def oMod : P2 := fun _ x y => match x, y with
  | .int i, .int j => if 0 < j then some (.int (i % j)) else none
  | _, _ => none
def oPow : P2 := fun _ x y => match x, y with
  | .int i, .int j => if 0 ≤ j ∧ j ≤ 1000000 ∧ i.natAbs < 2 ^ 64 then some (.int (i ^ j.toNat)) else none
  | _, _ => none
section
variable {X : Cx}
theorem od_ints {f : Value → Value → Sem Value} {C : Int → Int → Prop} {g : Int → Int → D} {gv : Int → Int → V} {o : P2} (ho : OpR X f (rI C gv)) (hg : ∀ i j io H, RelD X.K io H (g i j) (gv i j)) (e : ∀ h x y d, o h x y = some d → ∃ i j, x = .int i ∧ y = .int j ∧ C i j ∧ d = g i j) : OpD X f o := by
  intro pins s sg H x y v u Q I rx ry hq
  obtain ⟨io, h, dx, dy, d, r1, r2, rh, eo, q⟩ := hq
  obtain ⟨i, j, e1, e2, hc, e3⟩ := e h dx dy d eo
  subst e1 e2 e3
  cases r1
  cases r2
  exact ho pins s sg H _ _ v u Q I rx ry ⟨i, j, rfl, rfl, hc, q H _ .refl rh (hg i j io H)⟩
theorem rI_of0 {f : Value → Value → Sem Value} {gv : Int → Int → V} (h : OpR X f (rI0 gv)) : OpR X f (rI (fun _ _ => True) gv) := fun pins s sg H x y v u Q I rx ry ⟨i, j, e1, e2, _, q⟩ => h pins s sg H x y v u Q I rx ry ⟨i, j, e1, e2, q⟩
theorem od_sub : OpD X (binaryOp .Sub) oSub := od_ints (rI_of0 op_sub) (g := fun i j => .int (i - j)) (fun _ _ _ _ => .int _) fun h x y d e => by
  unfold oSub at e
  split at e
  · cases e; exact ⟨_, _, rfl, rfl, trivial, rfl⟩
  · cases e
theorem od_div : OpD X (binaryOp .FloorDiv) oDiv := od_ints op_fdiv (g := fun i j => .int (i / j)) (fun _ _ _ _ => .int _) fun h x y d e => by
  unfold oDiv at e
  split at e
  · split at e
    · rename_i hc; cases e; exact ⟨_, _, rfl, rfl, hc, rfl⟩
    · cases e
  · cases e
theorem od_mod : OpD X (binaryOp .Mod) oMod := od_ints op_mod (g := fun i j => .int (i % j)) (fun _ _ _ _ => .int _) fun h x y d e => by
  unfold oMod at e
  split at e
  · split at e
    · rename_i hc; cases e; exact ⟨_, _, rfl, rfl, hc, rfl⟩
    · cases e
  · cases e
theorem od_pow : OpD X (binaryOp .Pow) oPow := od_ints op_pow (g := fun i j => .int (i ^ j.toNat)) (fun _ _ _ _ => .int _) fun h x y d e => by
  unfold oPow at e
  split at e
  · split at e
    · rename_i hc; cases e; exact ⟨_, _, rfl, rfl, hc, rfl⟩
    · cases e
  · cases e
theorem RelL.nil_iff {K : PySem.W.Frag} {io : Io} {H : Hp} {ds : List D} {vs : List V} (r : RelL K io H ds vs) : ds = [] ↔ vs = [] := by cases r <;> simp
theorem od_add : OpD X (binaryOp .Add) oAdd := by
  intro pins s sg H x y v u Q I rx ry hq
  obtain ⟨io, h, dx, dy, d, r1, r2, rh, eo, q⟩ := hq
  unfold oAdd at eo
  split at eo
  · cases eo
    cases r1
    cases r2
    exact op_add pins s sg H _ _ v u Q I rx ry ⟨_, _, rfl, rfl, q H _ .refl rh (.int _)⟩
  · split at eo
    · rename_i a b hl
      cases eo
      cases r1 with
      | tup f1 l1 =>
        cases r2 with
        | tup f2 l2 =>
          rename_i a1 vs1 a2 vs2
          refine op_catA pins s sg H _ _ v u Q I rx ry ⟨a1, a2, vs1, vs2, rfl, rfl, f1.sq, f2.sq, by rw [← l1.length, ← l2.length]; exact hl, fun e => ?_, fun _ e => ?_, fun _ _ p hp => ?_⟩
          · have e1 := l1.nil_iff.mpr e
            subst e1
            exact q H _ .refl rh (.tup f2 l2)
          · have e1 := l2.nil_iff.mpr e
            subst e1
            rw [List.append_nil] at q
            exact q H _ .refl rh (.tup f1 l1)
          · obtain ⟨s1, r1, rd⟩ := rel_tup rh (l1.append l2) hp
            exact q _ _ s1 r1 rd
    · cases eo
  · split at eo
    · rename_i a b hl
      cases eo
      cases r1
      cases r2
      exact op_add_str pins s sg H _ _ v u Q I rx ry ⟨a, b, rfl, rfl, hl, q H _ .refl rh (.str _)⟩
    · cases eo
  · split at eo
    · rename_i xs ys e1 e2
      split at eo
      · rename_i hl
        cases eo
        obtain ⟨a1, v1, rfl, h1, l1⟩ := lstOf_ok r1 rh e1
        obtain ⟨a2, v2, rfl, h2, l2⟩ := lstOf_ok r2 rh e2
        refine op_cat pins s sg H _ _ v u Q I rx ry ⟨a1, a2, v1, v2, rfl, rfl, h1, h2, by rw [← l1.length, ← l2.length]; exact hl, fun p hp => ?_⟩
        obtain ⟨s1, r1, rd⟩ := rel_lst rh (l1.append l2) hp
        exact q _ _ s1 r1 rd
      · cases eo
    · cases eo
/-! tuple * k, k at most 1 -/
theorem tuple_mul1 (l : Addr) (items : Array Value) (n : Nat) (dd : Option Addr) (sl : Array (Option Value)) (x : Int) (u : Tok) (c0 : (decide (x < -(2 ^ 63)) || decide (x ≥ 2 ^ 63)) = false) (c1 : (items.isEmpty || x == 1) = true) :
    Meets (Builtin.«tuple.__mul__» ⟨[.ref l, .int x u], []⟩) (fun _ R s => s.heap.get? l = some { cls := .type "tuple", dict := dd, data := .seq items n, slots := sl } ∧ ∀ tk, R (.ok (.ret (Value.ref l))) { s with toks := tk }) :=
  .of_wp fun prog w A R s h => by
    obtain ⟨hp, g, d, tk, os⟩ := s
    obtain ⟨hl, h⟩ := h
    have f1 := AutoSeq1.idx_int
    wp_walk using wpAny_loadPart' hl
    repeat (first
      | (refine wpAny_ite_false (decide_eq_false (by rw [c0]; exact Bool.false_ne_true)) ?_; wp_walk using wpAny_loadPart' hl)
      | (refine wpAny_ite_true (decide_eq_true c1) ?_; wp_walk using wpAny_loadPart' hl))
    exact ⟨_, rfl, h tk⟩
theorem tuple_mul0 (l : Addr) (items : Array Value) (n : Nat) (dd : Option Addr) (sl : Array (Option Value)) (x : Int) (u : Tok) (c0 : (decide (x < -(2 ^ 63)) || decide (x ≥ 2 ^ 63)) = false) (c1 : (items.isEmpty || x == 1) = false) (c2 : (decide (x ≤ 0) || items.isEmpty) = true) :
    Meets (Builtin.«tuple.__mul__» ⟨[.ref l, .int x u], []⟩) (fun _ R s => s.heap.get? l = some { cls := .type "tuple", dict := dd, data := .seq items n, slots := sl } ∧
      R (.ok (.ret (Value.ref s.heap.objs.size))) { s with heap := s.heap.push { cls := Value.type "tuple", data := Data.seq #[] }, toks := s.toks }) :=
  .of_wp fun prog w A R s h => by
    obtain ⟨hp, g, d, tk, os⟩ := s
    obtain ⟨hl, h⟩ := h
    have f1 := AutoSeq1.idx_int
    wp_walk using wpAny_loadPart' hl
    repeat (first
      | (refine wpAny_ite_false (decide_eq_false (by rw [c0]; exact Bool.false_ne_true)) ?_; wp_walk using wpAny_loadPart' hl)
      | (refine wpAny_ite_false (decide_eq_false (by rw [c1]; exact Bool.false_ne_true)) ?_; wp_walk using wpAny_loadPart' hl)
      | (refine wpAny_ite_true (decide_eq_true c2) ?_; wp_walk using wpAny_loadPart' hl))
    exact ⟨_, rfl, h⟩
def rRepT1 (K : PySem.W.Frag) : R2 := fun x y H Q => ∃ l k xs, x = .ref l ∧ y = .int k ∧ SqT K H l xs ∧ xs ≠ [] ∧ k ≤ 1 ∧ -1000 ≤ k ∧ (k = 1 → Q (.ref l) H) ∧ (k < 1 → ∀ p, H p = none → Q (.ref p) (upd H p (.tup [])))
theorem op_repT1 : OpR X (binaryOp .Mult) (rRepT1 X.K) := by
  intro pins s sg H x y v u Q I rx ry h
  obtain ⟨l, k, xs, rfl, rfl, hT, hne, h1, h2, q1, q0⟩ := h
  cases rx
  obtain ⟨t, rfl⟩ := ry
  obtain ⟨its, r, ⟨⟨cls, dd, data, sl⟩, ho, hc, n, hd⟩, hs⟩ := I.tuple hT
  simp only at hc hd
  subst hc hd
  have hle : its.length = xs.length := r.length.symm
  have hn : its ≠ [] := fun e => hne (by
    rw [e] at hle
    exact List.eq_nil_of_length_eq_zero hle.symm)
  have hi : its.toArray.isEmpty = false := by
    cases its with
    | nil => exact absurd rfl hn
    | cons a b => rfl
  have c0 : (decide (k < -(2 ^ 63)) || decide (k ≥ 2 ^ 63)) = false := by
    rw [decide_eq_false (by omega), decide_eq_false (by omega)] <;> rfl
  by_cases hk : k = 1
  · have c1 : (its.toArray.isEmpty || k == 1) = true := by
      rw [hk]
      simp
    refine wpAny_binaryOp_repeat_ref (T := "tuple") (U := "int") (by decide) ⟨_, ho, rfl⟩ (fun s' => typeIs_int s' k t) noFill_tuple_mul F.fills_int_mul F.slot_int_rmul repeat_tuple F.slot_int_index.lookup
      (call_meets F.slot_int_rmul (typeIs_int s k t) F.entry_int_rmul (F.args_int_rmul_2 _ _) (int_rmul_tuple k t l its.toArray n dd sl)
        ⟨ho, rfl, ⟨_, ho, rfl⟩, call_meets F.slot_tuple_mul ⟨_, ho, rfl⟩ F.entry_tuple_mul (F.args_tuple_mul_2 _ _) (tuple_mul1 l its.toArray n dd sl k t c0 c1) ⟨ho, fun tk => ?_⟩⟩)
    exact ⟨.ref l, H, I.tok _, rfl, q1 hk⟩
  · have c1 : (its.toArray.isEmpty || k == 1) = false := by
      rw [hi, Bool.false_or]
      exact beq_eq_false_iff_ne.mpr hk
    have c2 : (decide (k ≤ 0) || its.toArray.isEmpty) = true := by
      rw [hi, Bool.or_false]
      exact decide_eq_true (by omega)
    refine wpAny_binaryOp_repeat_ref (T := "tuple") (U := "int") (by decide) ⟨_, ho, rfl⟩ (fun s' => typeIs_int s' k t) noFill_tuple_mul F.fills_int_mul F.slot_int_rmul repeat_tuple F.slot_int_index.lookup
      (call_meets F.slot_int_rmul (typeIs_int s k t) F.entry_int_rmul (F.args_int_rmul_2 _ _) (int_rmul_tuple k t l its.toArray n dd sl)
        ⟨ho, rfl, ⟨_, ho, rfl⟩, call_meets F.slot_tuple_mul ⟨_, ho, rfl⟩ F.entry_tuple_mul (F.args_tuple_mul_2 _ _) (tuple_mul0 l its.toArray n dd sl k t c0 c1 c2) ⟨ho, ?_⟩⟩)
    refine ⟨.ref s.heap.objs.size, _, I.laid (t' := s.toks) (o := .tup []) (fun b ob q => Heap.get?_push_of_some _ q) (Nat.le_refl _) ?_, rfl, q0 (by omega) _ (I.hok.fresh (Nat.le_refl _))⟩
    exact ⟨Nat.zero_le _, [], .nil, IsTup.new _ _⟩
/-- text * 0, text * 1 -/
theorem op_repS : OpR X (binaryOp .Mult) (fun x y H Q => ∃ z k, x = .str z ∧ y = .int k ∧ ((k = 0 ∧ Q (.str Str.empty) H) ∨ (k = 1 ∧ Q (.str z) H))) := by
  intro pins s sg H x y v u Q I rx ry h
  obtain ⟨z, k, rfl, rfl, h⟩ := h
  obtain ⟨t, rfl⟩ := rx
  obtain ⟨t', rfl⟩ := ry
  rcases h with ⟨rfl, q⟩ | ⟨rfl, q⟩
  · exact P.mul_str_none (by decide) (by decide) ⟨.str Str.empty, H, I.tok _, ⟨_, rfl⟩, q⟩
  · refine P.mul_str (by decide) (fun _ e => by simp at e) (fun _ e => by simp at e) ?_
    rw [if_neg (by decide), if_pos (by simp)]
    exact ⟨.str z, H, I, ⟨_, rfl⟩, q⟩
theorem od_mul : OpD X (binaryOp .Mult) oMul := by
  intro pins s sg H x y v u Q I rx ry hq
  obtain ⟨io, h, dx, dy, d, r1, r2, rh, eo, q⟩ := hq
  unfold oMul at eo
  split at eo
  · split at eo
    · rename_i i j hc
      cases eo
      cases r1
      cases r2
      exact op_mul pins s sg H _ _ v u Q I rx ry ⟨i, j, rfl, rfl, hc, q H _ .refl rh (.int _)⟩
    · cases eo
  · split at eo
    · rename_i xs k hc
      obtain ⟨c1, c2, c3, c4⟩ := hc
      cases eo
      cases r2
      cases r1 with
      | tup f1 l1 =>
        rename_i a1 vs1
        have hne : vs1 ≠ [] := fun e => c4 (l1.nil_iff.mpr e)
        by_cases hk : 2 ≤ k
        · refine op_repT pins s sg H _ _ v u Q I rx ry ⟨a1, k, vs1, rfl, rfl, f1.sq, hne, hk, c1, by rw [← l1.length]; exact c3, fun p hp => ?_⟩
          obtain ⟨s1, r1, rd⟩ := rel_tup rh (l1.rep k.toNat) hp
          exact q _ _ s1 r1 rd
        · refine op_repT1 pins s sg H _ _ v u Q I rx ry ⟨a1, k, vs1, rfl, rfl, f1.sq, hne, by omega, c2, fun e => ?_, fun e p hp => ?_⟩
          · subst e
            have e1 : (List.replicate (Int.toNat 1) xs).flatten = xs := by
              show (List.replicate 1 xs).flatten = xs
              simp
            rw [e1] at q
            exact q H _ .refl rh (.tup f1 l1)
          · have e1 : (List.replicate k.toNat xs).flatten = [] := by
              have : k.toNat = 0 := by omega
              rw [this]
              rfl
            rw [e1] at q
            obtain ⟨s1, r1, rd⟩ := rel_tup rh (RelL.nil (K := X.K) (io := io) (H := H)) hp
            exact q _ _ s1 r1 rd
    · cases eo
  · cases r1
    cases r2
    rename_i z k
    split at eo
    · rename_i hk
      cases eo
      exact op_repS pins s sg H _ _ v u Q I rx ry ⟨z, k, rfl, rfl, .inl ⟨hk, q H _ .refl rh (.str _)⟩⟩
    · split at eo
      · rename_i hk
        cases eo
        exact op_repS pins s sg H _ _ v u Q I rx ry ⟨z, k, rfl, rfl, .inr ⟨hk, q H _ .refl rh (.str _)⟩⟩
      · cases eo
  · split at eo
    · rename_i e1
      split at eo
      · rename_i hc
        obtain ⟨c1, c2, c3⟩ := hc
        cases eo
        cases r2
        obtain ⟨a1, v1, rfl, h1, l1⟩ := lstOf_ok r1 rh e1
        refine op_rep pins s sg H _ _ v u Q I rx ry ⟨a1, _, v1, rfl, rfl, h1, by omega, by omega, ?_, fun p hp => ?_⟩
        · rw [← l1.length, sizeLine_eq]
          exact Nat.le_trans (Nat.mul_le_mul c3 (show _ ≤ 1000 by omega)) (by decide)
        · obtain ⟨s1, r1, rd⟩ := rel_lst rh (l1.rep _) hp
          exact q _ _ s1 r1 rd
      · cases eo
    · cases eo
  · cases eo
end
end DL
set_option maxRecDepth 100000
set_option maxHeartbeats 2000000
namespace DL
open PySem PySem.Spec L2
open PyProof.Rows hiding St

/-! ### == of data -/
mutual
def eqD : D → D → Bool
  | .non, .non => true
  | .bl a, .bl b => a == b
  | .bl a, .int j => (if a then 1 else 0) == j
  | .int i, .bl b => i == (if b then 1 else 0)
  | .int i, .int j => i == j
  | .str x, .str y => x == y
  | .lst xs, .lst ys => eqL xs ys
  | .tup xs, .tup ys => eqL xs ys
  | _, _ => false
def eqL : List D → List D → Bool
  | [], [] => true
  | x :: xs, y :: ys => eqD x y && eqL xs ys
  | _, _ => false
end
mutual
/-- data that hold no objects, dicts -/
def okD : D → Bool
  | .non => true
  | .bl _ => true
  | .int _ => true
  | .str x => PyData.strOk x
  | .lst xs => okL xs
  | .tup xs => okL xs
  | _ => false
def okL : List D → Bool
  | [] => true
  | x :: xs => okD x && okL xs
end
mutual
def depD : D → Nat
  | .lst xs => depL xs + 1
  | .tup xs => depL xs + 1
  | _ => 0
def depL : List D → Nat
  | [] => 0
  | x :: xs => max (depD x) (depL xs)
end
mutual
def toPy : D → PyData
  | .non => .none
  | .bl b => .bool b
  | .int i => .int i
  | .str x => .str x
  | .lst xs => .list (toPyL xs)
  | .tup xs => .tuple (toPyL xs)
  | _ => .none
def toPyL : List D → List PyData
  | [] => []
  | x :: xs => toPy x :: toPyL xs
end
mutual
theorem eqD_py : ∀ (a b : D), okD a = true → okD b = true → eqD a b = PyData.eqv (toPy a) (toPy b)
  | a, b, ha, hb => by
    cases a <;> cases b <;> simp only [eqD, toPy, PyData.eqv, okD, Bool.false_eq_true] at * <;> first | rfl | exact eqL_py _ _ ha hb | skip
theorem eqL_py : ∀ (a b : List D), okL a = true → okL b = true → eqL a b = PyData.eqvAll (toPyL a) (toPyL b)
  | [], [], _, _ => rfl
  | [], _ :: _, _, _ => rfl
  | _ :: _, [], _, _ => rfl
  | x :: xs, y :: ys, ha, hb => by
    simp only [okL, Bool.and_eq_true] at ha hb
    show (eqD x y && eqL xs ys) = (PyData.eqv (toPy x) (toPy y) && PyData.eqvAll (toPyL xs) (toPyL ys))
    rw [eqD_py x y ha.1 hb.1, eqL_py xs ys ha.2 hb.2]
end
#print axioms eqD_py
example : eqD (.tup [.int 3, .lst [.str "a"]]) (.tup [.int 3, .lst [.str "a"]]) = true := by rfl
example : eqD (.tup [.int 3, .lst [.str "a"]]) (.tup [.int 3, .lst [.str "a"]]) = true := by decide +kernel
mutual
theorem okD_py : ∀ (a : D), okD a = true → (toPy a).canLay0 = true ∧ (toPy a).depth = depD a
  | .non, _ => ⟨by simp [toPy, PyData.canLay0], by simp [toPy, PyData.depth, depD]⟩
  | .bl _, _ => ⟨by simp [toPy, PyData.canLay0], by simp [toPy, PyData.depth, depD]⟩
  | .int _, _ => ⟨by simp [toPy, PyData.canLay0], by simp [toPy, PyData.depth, depD]⟩
  | .str x, h => ⟨by simpa [toPy, PyData.canLay0, okD] using h, by simp [toPy, PyData.depth, depD]⟩
  | .lst xs, h => by
    obtain ⟨h1, h2⟩ := okL_py xs (by simpa [okD] using h)
    exact ⟨by simpa [toPy, PyData.canLay0] using h1, by simp [toPy, PyData.depth, depD, h2]⟩
  | .tup xs, h => by
    obtain ⟨h1, h2⟩ := okL_py xs (by simpa [okD] using h)
    exact ⟨by simpa [toPy, PyData.canLay0] using h1, by simp [toPy, PyData.depth, depD, h2]⟩
  | .dct _, h => by simp [okD] at h
  | .ref _, h => by simp [okD] at h
  | .scr _, h => by simp [okD] at h
theorem okL_py : ∀ (a : List D), okL a = true → PyData.canLayAll0 (toPyL a) = true ∧ PyData.depthAll (toPyL a) = depL a
  | [], _ => ⟨by simp [toPyL, PyData.canLayAll0], by simp [toPyL, PyData.depthAll, depL]⟩
  | x :: xs, h => by
    simp only [okL, Bool.and_eq_true] at h
    obtain ⟨h1, h2⟩ := okD_py x h.1
    obtain ⟨h3, h4⟩ := okL_py xs h.2
    exact ⟨by simp [toPyL, PyData.canLayAll0, h1, h3], by simp [toPyL, PyData.depthAll, depL, h2, h4]⟩
end
theorem shaped_of {a : D} (h : okD a = true) (d : depD a ≤ 64) : SeqAt.shaped (toPy a) = true := by
  obtain ⟨h1, h2⟩ := okD_py a h
  unfold SeqAt.shaped
  rw [h1, h2, decide_eq_true d]
  rfl
mutual
theorem RelD.dp {K : PySem.W.Frag} {io : Io} {H : Hp} : ∀ (a : D) (v : V), okD a = true → RelD K io H a v → Dp K H v (toPy a)
  | .non, _, _, r => by cases r; simp only [toPy]; exact .non
  | .bl _, _, _, r => by cases r; simp only [toPy]; exact .bl _
  | .int _, _, _, r => by cases r; simp only [toPy]; exact .int _
  | .str x, _, _, r => by cases r; simp only [toPy]; exact .str _
  | .lst xs, _, h, r => by
    cases r with
    | lst f rl => simp only [toPy]; exact .lst f.sq (RelL.dp xs _ (by simpa [okD] using h) rl)
  | .tup xs, _, h, r => by
    cases r with
    | tup f rl => simp only [toPy]; exact .tup f.sq (RelL.dp xs _ (by simpa [okD] using h) rl)
  | .dct _, _, h, _ => by simp [okD] at h
  | .ref _, _, h, _ => by simp [okD] at h
  | .scr _, _, h, _ => by simp [okD] at h
theorem RelL.dp {K : PySem.W.Frag} {io : Io} {H : Hp} : ∀ (a : List D) (v : List V), okL a = true → RelL K io H a v → DpAll K H v (toPyL a)
  | [], _, _, r => by cases r; simp only [toPyL]; exact .nil
  | x :: xs, _, h, r => by
    simp only [okL, Bool.and_eq_true] at h
    cases r with
    | cons a b => simp only [toPyL]; exact .cons (RelD.dp x _ h.1 a) (RelL.dp xs _ h.2 b)
end
/-- an object that is a list, as the list -/
def derefL (h : DH) : D → D
  | .ref i => match h[i]? with
    | some (.lst xs) => .lst xs
    | _ => .ref i
  | d => d
def shpD (d : D) : Bool := okD d && decide (depD d ≤ 64)
def oEqB (h : DH) (x y : D) : Option Bool := if shpD (derefL h x) && shpD (derefL h y) then some (eqD (derefL h x) (derefL h y)) else none
def oEq : P2 := fun h x y => (oEqB h x y).map .bl
def oNe : P2 := fun h x y => (oEqB h x y).map fun b => .bl (!b)
section
variable {X : Cx}
theorem derefL_dp {K : PySem.W.Frag} {io : Io} {H : Hp} {h : DH} {d : D} {x : V} (r : RelD K io H d x) (rh : RelH K io H h) (hs : shpD (derefL h d) = true) : Dp K H x (toPy (derefL h d)) ∧ SeqAt.shaped (toPy (derefL h d)) = true := by
  unfold shpD at hs
  rw [Bool.and_eq_true] at hs
  refine ⟨?_, shaped_of hs.1 (of_decide_eq_true hs.2)⟩
  cases d with
  | ref i =>
    cases r with
    | ref ei =>
      rename_i a
      unfold derefL at hs ⊢
      cases e1 : h[i]? with
      | none => simp [e1, okD] at hs
      | some o =>
        cases o with
        | lst xs =>
          obtain ⟨ho, h1, h2⟩ := rh.obj i a _ ei e1
          obtain ⟨vs, rfl, rl⟩ := h2
          simp only [e1] at hs ⊢
          simp only [toPy]
          exact .lst (.inl (.inl h1)) (RelL.dp xs vs (by simpa [okD] using hs.1) rl)
        | dct _ => simp [e1, okD] at hs
        | ins _ _ => simp [e1, okD] at hs
        | lck _ => simp [e1, okD] at hs
  | _ => exact RelD.dp _ _ hs.1 r
theorem oEqB_ok {h : DH} {x y : D} {b : Bool} (e : oEqB h x y = some b) : shpD (derefL h x) = true ∧ shpD (derefL h y) = true ∧ b = PyData.eqv (toPy (derefL h x)) (toPy (derefL h y)) := by
  unfold oEqB at e
  split at e
  · rename_i hc
    rw [Bool.and_eq_true] at hc
    cases e
    refine ⟨hc.1, hc.2, eqD_py _ _ ?_ ?_⟩
    · have := hc.1; unfold shpD at this; rw [Bool.and_eq_true] at this; exact this.1
    · have := hc.2; unfold shpD at this; rw [Bool.and_eq_true] at this; exact this.1
  · cases e
theorem od_eq (hu : X.A.units + 64 < cLine) : OpD X (compareOp .Eq) oEq := by
  intro pins s sg H x y v u Q I rx ry hq
  obtain ⟨io, h, dx, dy, d, r1, r2, rh, eo, q⟩ := hq
  unfold oEq at eo
  cases e : oEqB h dx dy with
  | none => rw [e] at eo; cases eo
  | some b =>
    rw [e] at eo
    cases eo
    obtain ⟨s1, s2, rfl⟩ := oEqB_ok e
    obtain ⟨d1, p1⟩ := derefL_dp r1 rh s1
    obtain ⟨d2, p2⟩ := derefL_dp r2 rh s2
    exact op_eqD hu pins s sg H x y v u Q I rx ry ⟨_, _, d1, d2, p1, p2, q H _ .refl rh (.bl _)⟩
theorem od_ne (hu : X.A.units + 64 < cLine) : OpD X (compareOp .NotEq) oNe := by
  intro pins s sg H x y v u Q I rx ry hq
  obtain ⟨io, h, dx, dy, d, r1, r2, rh, eo, q⟩ := hq
  unfold oNe at eo
  cases e : oEqB h dx dy with
  | none => rw [e] at eo; cases eo
  | some b =>
    rw [e] at eo
    cases eo
    obtain ⟨s1, s2, rfl⟩ := oEqB_ok e
    obtain ⟨d1, p1⟩ := derefL_dp r1 rh s1
    obtain ⟨d2, p2⟩ := derefL_dp r2 rh s2
    exact op_neD hu pins s sg H x y v u Q I rx ry ⟨_, _, d1, d2, p1, p2, q H _ .refl rh (.bl _)⟩
/-! ### < <= > >= of ints -/
def oLt : P2 := fun _ x y => match x, y with
  | .int i, .int j => some (.bl (decide (i < j)))
  | _, _ => none
def oLe : P2 := fun _ x y => match x, y with
  | .int i, .int j => some (.bl (decide (i ≤ j)))
  | _, _ => none
def oGt : P2 := fun _ x y => match x, y with
  | .int i, .int j => some (.bl (decide (j < i)))
  | _, _ => none
def oGe : P2 := fun _ x y => match x, y with
  | .int i, .int j => some (.bl (decide (j ≤ i)))
  | _, _ => none
theorem od_lt : OpD X (compareOp .Lt) oLt := od_ints (rI_of0 op_lt) (g := fun i j => .bl (decide (i < j))) (fun _ _ _ _ => .bl _) fun h x y d e => by
  unfold oLt at e
  split at e
  · cases e; exact ⟨_, _, rfl, rfl, trivial, rfl⟩
  · cases e
theorem od_le : OpD X (compareOp .LtE) oLe := od_ints (rI_of0 op_le) (g := fun i j => .bl (decide (i ≤ j))) (fun _ _ _ _ => .bl _) fun h x y d e => by
  unfold oLe at e
  split at e
  · cases e; exact ⟨_, _, rfl, rfl, trivial, rfl⟩
  · cases e
theorem od_gt : OpD X (compareOp .Gt) oGt := od_ints (rI_of0 op_gt) (g := fun i j => .bl (decide (j < i))) (fun _ _ _ _ => .bl _) fun h x y d e => by
  unfold oGt at e
  split at e
  · cases e; exact ⟨_, _, rfl, rfl, trivial, rfl⟩
  · cases e
theorem od_ge : OpD X (compareOp .GtE) oGe := od_ints (rI_of0 op_ge) (g := fun i j => .bl (decide (j ≤ i))) (fun _ _ _ _ => .bl _) fun h x y d e => by
  unfold oGe at e
  split at e
  · cases e; exact ⟨_, _, rfl, rfl, trivial, rfl⟩
  · cases e
end
end DL
set_option maxRecDepth 100000
set_option maxHeartbeats 2000000
namespace DL
open PySem PySem.Spec L2
open PyProof.Rows hiding St

/-! ### dicts, read -/
def keyD : D → Option Key
  | .int i => some (.inl i)
  | .str x => some (.inr x)
  | _ => none
def dKey : Key → D
  | .inl i => .int i
  | .inr x => .str x
def getK (es : List (Key × D)) (k : Key) : Option D := match es with
  | [] => none
  | (k', d) :: r => if k' = k then some d else getK r k
def putD (es : List (Key × D)) (k : Key) (d : D) : List (Key × D) :=
  if (es.any fun kv => decide (kv.1 = k)) = true then es.map (fun kv => if kv.1 = k then (kv.1, d) else kv) else es ++ [(k, d)]
def dropD (es : List (Key × D)) (k : Key) : List (Key × D) := es.filter fun kv => decide (kv.1 ≠ k)
/-- no key twice -/
def dctOf (h : DH) : D → Option (List (Key × D))
  | .dct es => some es
  | .ref i => match h[i]? with
    | some (.dct es) => some es
    | some (.lck (.dct es)) => some es
    | _ => none
  | _ => none
section
variable {K : PySem.W.Frag} {io : Io} {H : Hp} {h : DH}
theorem keyD_ok {d : D} {x : V} {k : Key} (r : RelD K io H d x) (e : keyD d = some k) : x = kV k := by
  cases r with
  | int i => cases e; rfl
  | str i => cases e; rfl
  | _ => cases e
theorem relD_key (k : Key) : RelD K io H (dKey k) (kV k) := by
  cases k with
  | inl i => exact .int i
  | inr x => exact .str x
theorem RelM.get {es : List (Key × D)} {kvs : List (Key × V)} (r : RelM K io H es kvs) (k : Key) : (∀ d, getK es k = some d → ∃ v, valV kvs k = some v ∧ RelD K io H d v) ∧ (getK es k = none → valV kvs k = none) := by
  induction es generalizing kvs with
  | nil => cases r; exact ⟨fun d e => (by cases e), fun _ => rfl⟩
  | cons p es ih =>
    obtain ⟨k', d'⟩ := p
    cases r with
    | cons a r =>
      rename_i v' vs'
      by_cases hk : k' = k
      · have e1 : getK ((k', d') :: es) k = some d' := by show (if k' = k then _ else _) = _; rw [if_pos hk]
        have e2 : valV ((k', v') :: vs') k = some v' := valV_pos hk
        rw [e1, e2]
        exact ⟨fun d e => (by cases e; exact ⟨_, rfl, a⟩), fun e => (by cases e)⟩
      · have e1 : getK ((k', d') :: es) k = getK es k := by show (if k' = k then _ else _) = _; rw [if_neg hk]
        have e2 : valV ((k', v') :: vs') k = valV vs' k := valV_neg hk
        rw [e1, e2]
        exact ih r
theorem RelM.length {es : List (Key × D)} {kvs : List (Key × V)} (r : RelM K io H es kvs) : es.length = kvs.length := by
  induction es generalizing kvs with
  | nil => cases r; rfl
  | cons p es ih => cases r with | cons _ r => simp [ih r]
theorem RelM.keys {es : List (Key × D)} {kvs : List (Key × V)} (r : RelM K io H es kvs) : es.map (·.1) = kvs.map (·.1) := by
  induction es generalizing kvs with
  | nil => cases r; rfl
  | cons p es ih => cases r with | cons _ r => simp [ih r]
theorem RelM.isSome {es : List (Key × D)} {kvs : List (Key × V)} (r : RelM K io H es kvs) (k : Key) : (getK es k).isSome = (valV kvs k).isSome := by
  obtain ⟨h1, h2⟩ := r.get k
  cases e : getK es k with
  | none => rw [h2 e]; rfl
  | some d => obtain ⟨v, e2, _⟩ := h1 d e; rw [e2]; rfl
theorem RelM.append {es es' : List (Key × D)} {kvs kvs' : List (Key × V)} (r : RelM K io H es kvs) (r' : RelM K io H es' kvs') : RelM K io H (es ++ es') (kvs ++ kvs') := by
  induction es generalizing kvs with
  | nil => cases r; exact r'
  | cons p es ih => cases r with | cons a r => exact .cons a (ih r)
theorem RelM.put {es : List (Key × D)} {kvs : List (Key × V)} (r : RelM K io H es kvs) (k : Key) {d : D} {v : V} (q : RelD K io H d v) : RelM K io H (putD es k d) (putK kvs k v) := by
  have e : (es.any fun kv => decide (kv.1 = k)) = (kvs.any fun kv => decide (kv.1 = k)) := by
    induction es generalizing kvs with
    | nil => cases r; rfl
    | cons p es ih => cases r with | cons a r => simp [ih r]
  unfold putD putK
  rw [e]
  split
  · clear e
    induction es generalizing kvs with
    | nil => cases r; exact .nil
    | cons p es ih =>
      cases r with
      | cons a r =>
        rename_i k' d' v' vs' h1
        rw [List.map_cons, List.map_cons]
        have e2 : RelM K io H (List.map (fun kv => if kv.1 = k then (kv.1, d) else kv) es) (List.map (fun kv => if kv.1 = k then (kv.1, v) else kv) vs') := by
          clear ih h1
          induction es generalizing vs' with
          | nil => cases r; exact .nil
          | cons p es ih =>
            cases r with
            | cons a r =>
              rename_i k' d' v' vs'
              rw [List.map_cons, List.map_cons]
              by_cases hk : k' = k
              · simp only [hk, if_true]; exact .cons q (ih r)
              · simp only [hk, if_false]; exact .cons a (ih r)
        by_cases hk : k' = k
        · simp only [hk, if_true]; exact .cons q e2
        · simp only [hk, if_false]; exact .cons a e2
  · exact r.append (.cons q .nil)
theorem RelM.drop {es : List (Key × D)} {kvs : List (Key × V)} (r : RelM K io H es kvs) (k : Key) : RelM K io H (dropD es k) (dropK kvs k) := by
  unfold dropD dropK
  induction es generalizing kvs with
  | nil => cases r; exact .nil
  | cons p es ih =>
    cases r with
    | cons a r =>
      rename_i k' d' v' vs'
      rw [List.filter_cons, List.filter_cons]
      by_cases hk : k' = k
      · simp only [hk, ne_eq, not_true_eq_false, decide_false, Bool.false_eq_true, if_false]
        exact ih r
      · simp only [hk, ne_eq, not_false_eq_true, decide_true, if_true]
        exact .cons a (ih r)
theorem dctOf_ok {d : D} {x : V} {es : List (Key × D)} (r : RelD K io H d x) (rh : RelH K io H h) (e : dctOf h d = some es) : ∃ a kvs, x = .ref a ∧ Rd H a (.dK kvs) ∧ RelM K io H es kvs := by
  cases r with
  | dct f rl => cases e; exact ⟨_, _, rfl, f.1, rl⟩
  | ref ei =>
    rename_i i a
    simp only [dctOf] at e
    cases e1 : h[i]? with
    | none => rw [e1] at e; cases e
    | some o =>
      rw [e1] at e
      obtain ⟨ho, h1, h2⟩ := rh.obj i a o ei e1
      cases o with
      | dct ys =>
        cases e
        obtain ⟨vs, rfl, rl⟩ := h2
        exact ⟨a, vs, rfl, .inl h1, rl⟩
      | lck o' =>
        cases o' with
        | dct ys =>
          cases e
          obtain ⟨ob, u, rfl, vs, rfl, rl⟩ := h2
          exact ⟨a, vs, rfl, .inr ⟨ob, h1⟩, rl⟩
        | _ => cases e
      | _ => cases e
  | _ => cases e
end

/-! ### in, not in -/
def flatD : D → Bool
  | .non => true
  | .bl _ => true
  | .int _ => true
  | .str _ => true
  | _ => false
def seqOf (h : DH) : D → Option (List D)
  | .tup xs => some xs
  | d => lstOf h d
def inD (x : D) (xs : List D) : Bool := xs.any fun y => eqD y x
def oInB (h : DH) (x y : D) : Option Bool :=
  match dctOf h y with
  | some es => (keyD x).map fun k => (getK es k).isSome
  | none => match seqOf h y with
    | some xs => if flatD x && xs.all flatD then some (inD x xs) else none
    | none => match x, y with
      | .str a, .str z => match a.cps.toList with
        | [c] => some (decide (c ∈ z.cps.toList))
        | _ => none
      | _, _ => none
def oIn : P2 := fun h x y => (oInB h x y).map .bl
def oNotIn : P2 := fun h x y => (oInB h x y).map fun b => .bl (!b)
section
variable {X : Cx} {K : PySem.W.Frag} {io : Io} {H : Hp} {h : DH}
theorem seqOf_ok {d : D} {x : V} {xs : List D} (r : RelD K io H d x) (rh : RelH K io H h) (e : seqOf h d = some xs) : ∃ a vs, x = .ref a ∧ (SqL K H a vs ∨ SqT K H a vs) ∧ RelL K io H xs vs := by
  cases d with
  | tup ys =>
    cases e
    cases r with
    | tup f rl => exact ⟨_, _, rfl, .inr f.sq, rl⟩
  | _ =>
    obtain ⟨a, vs, e1, e2, rl⟩ := lstOf_ok r rh e
    exact ⟨a, vs, e1, .inl (.inl (.inl e2)), rl⟩
theorem flat_eq {a b : D} {x y : V} (fa : flatD a = true) (fb : flatD b = true) (r1 : RelD K io H a x) (r2 : RelD K io H b y) : eqD a b = eqV x y := by
  cases r1 <;> cases r2 <;> first | rfl | (cases fa; done) | (cases fb; done)
theorem flat_flat {a : D} {x : V} (fa : flatD a = true) (r1 : RelD K io H a x) : flatV x = true := by
  cases r1 <;> first | rfl | (cases fa; done)
theorem flat_all {xs : List D} {vs : List V} (r : RelL K io H xs vs) (f : xs.all flatD = true) : vs.all flatV = true := by
  induction xs generalizing vs with
  | nil => cases r; rfl
  | cons x xs ih =>
    cases r with
    | cons a r =>
      rw [List.all_cons, Bool.and_eq_true] at f ⊢
      exact ⟨flat_flat f.1 a, ih r f.2⟩
theorem inD_eq {x : D} {v : V} {xs : List D} {vs : List V} (fx : flatD x = true) (f : xs.all flatD = true) (rx : RelD K io H x v) (r : RelL K io H xs vs) : inD x xs = inV v vs := by
  induction xs generalizing vs with
  | nil => cases r; rfl
  | cons y xs ih =>
    cases r with
    | cons a r =>
      rw [List.all_cons, Bool.and_eq_true] at f
      have := ih f.2 r
      unfold inD inV at this ⊢
      rw [List.any_cons, List.any_cons, this, flat_eq f.1 fx a rx]
theorem one_sign {a : Str} {c : Nat} (e : a.cps.toList = [c]) : a = ⟨#[c]⟩ := by
  obtain ⟨ar⟩ := a
  have : ar = #[c] := Array.toList_inj.mp e
  rw [this]
theorem op_inS (neg : Bool) : OpR X (compareOp (if neg then .NotIn else .In)) (fun x y H Q => ∃ (c : Nat) (z : Str), x = .str ⟨#[c]⟩ ∧ y = .str z ∧ Q (.bl (if neg then !decide (c ∈ z.cps.toList) else decide (c ∈ z.cps.toList))) H) := by
  cases neg with
  | false => exact op_in_sign
  | true => exact op_notIn_sign
theorem op_inQ (neg : Bool) : OpR X (compareOp (if neg then .NotIn else .In)) (rIn X.K neg) := by
  cases neg with
  | false => exact op_in_seq
  | true => exact op_notIn_seq
theorem op_inK (hu : X.A.units + 1 < cLine) (neg : Bool) : OpR X (compareOp (if neg then .NotIn else .In)) (fun x y H Q => ∃ a kvs k, y = .ref a ∧ Rd H a (.dK kvs) ∧ x = kV k ∧ Q (.bl (if neg then !(valV kvs k).isSome else (valV kvs k).isSome)) H) := by
  intro pins s sg H x y v u Q I rx ry hq
  obtain ⟨a, kvs, k, rfl, rd, rfl, q⟩ := hq
  cases ry
  cases neg with
  | false => exact d_in hu I (.inl ⟨kvs, k, rd, rfl, rfl⟩) rx fun s' I' => ⟨.bl _, H, I', rfl, q⟩
  | true => exact d_notIn hu I (.inl ⟨kvs, k, rd, rfl, rfl⟩) rx fun s' I' => ⟨.bl _, H, I', rfl, q⟩
theorem od_inB (hu : X.A.units + 1 < cLine) (neg : Bool) : OpD X (compareOp (if neg then .NotIn else .In)) (fun h x y => (oInB h x y).map fun b => .bl (if neg then !b else b)) := by
  intro pins s sg H x y v u Q I rx ry hq
  obtain ⟨io, h, dx, dy, d, r1, r2, rh, eo, q⟩ := hq
  replace eo : (oInB h dx dy).map (fun b => D.bl (if neg then !b else b)) = some d := eo
  cases e : oInB h dx dy with
  | none => rw [e] at eo; cases eo
  | some b =>
    rw [e] at eo
    cases eo
    unfold oInB at e
    split at e
    · rename_i es e1
      obtain ⟨a, kvs, rfl, rd, rm⟩ := dctOf_ok r2 rh e1
      cases e2 : keyD dx with
      | none => rw [e2] at e; cases e
      | some k =>
        rw [e2] at e
        cases e
        have := keyD_ok r1 e2
        subst this
        exact op_inK hu neg pins s sg H _ _ v u Q I rx ry ⟨a, kvs, k, rfl, rd, rfl, by rw [← rm.isSome]; exact q H _ .refl rh (.bl _)⟩
    · split at e
      · rename_i xs e1
        split at e
        · rename_i hc
          rw [Bool.and_eq_true] at hc
          cases e
          obtain ⟨a, vs, rfl, sq, rl⟩ := seqOf_ok r2 rh e1
          refine op_inQ neg pins s sg H _ _ v u Q I rx ry ⟨a, vs, rfl, sq, flat_flat hc.1 r1, flat_all rl hc.2, ?_⟩
          rw [← inD_eq hc.1 hc.2 r1 rl]
          exact q H _ .refl rh (.bl _)
        · cases e
      · split at e
        · split at e
          · rename_i c ec
            cases e
            cases r1
            cases r2
            have ea := one_sign ec
            subst ea
            exact op_inS neg pins s sg H _ _ v u Q I rx ry ⟨c, _, rfl, rfl, q H _ .refl rh (.bl _)⟩
          · cases e
        · cases e
theorem od_in (hu : X.A.units + 64 < cLine) : OpD X (compareOp .In) oIn := od_inB (by omega) false
theorem od_notIn (hu : X.A.units + 64 < cLine) : OpD X (compareOp .NotIn) oNotIn := od_inB (by omega) true
/-! ### is, is not: None, True, False -/
def isNon : D → Bool
  | .non => true
  | _ => false
def oIsB (x y : D) : Option Bool := match y with
  | .non => some (isNon x)
  | .bl b => match x with
    | .bl a => some (decide (a = b))
    | _ => none
  | _ => none
def oIs : P2 := fun _ x y => (oIsB x y).map .bl
def oIsNot : P2 := fun _ x y => (oIsB x y).map fun b => .bl (!b)
theorem isNon_eq {x : D} {v : V} (r : RelD K io H x v) : isNon x = decide (v = .non) := by
  cases r <;> simp [isNon]
theorem od_is : OpD X (compareOp .Is) oIs := by
  intro pins s sg H x y v u Q I rx ry hq
  obtain ⟨io, h, dx, dy, d, r1, r2, rh, eo, q⟩ := hq
  unfold oIs oIsB at eo
  cases dy with
  | non =>
    cases eo
    cases r2
    exact op_isN pins s sg H _ _ v u Q I rx ry ⟨rfl, by rw [← isNon_eq r1]; exact q H _ .refl rh (.bl _)⟩
  | bl b =>
    cases dx with
    | bl a =>
      cases eo
      cases r1
      cases r2
      exact op_is_bl pins s sg H _ _ v u Q I rx ry ⟨a, b, rfl, rfl, q H _ .refl rh (.bl _)⟩
    | _ => cases eo
  | _ => cases eo
theorem od_isNot : OpD X (compareOp .IsNot) oIsNot := by
  intro pins s sg H x y v u Q I rx ry hq
  obtain ⟨io, h, dx, dy, d, r1, r2, rh, eo, q⟩ := hq
  unfold oIsNot oIsB at eo
  cases dy with
  | non =>
    cases eo
    cases r2
    exact op_notN pins s sg H _ _ v u Q I rx ry ⟨rfl, by rw [← isNon_eq r1]; exact q H _ .refl rh (.bl _)⟩
  | bl b =>
    cases dx with
    | bl a =>
      cases eo
      cases r1
      cases r2
      exact op_isnot_bl pins s sg H _ _ v u Q I rx ry ⟨a, b, rfl, rfl, q H _ .refl rh (.bl _)⟩
    | _ => cases eo
  | _ => cases eo
/-! ### items -/
def oIx : P2 := fun h x y => match y with
  | .int i => match x with
    | .scr ns => (atI ns i).map .int
    | .str z => if z.length ≤ sizeLine then (atI z.cps.toList i).map fun c => .str ⟨#[c]⟩ else none
    | _ => match seqOf h x with
      | some xs => atI xs i
      | none => match dctOf h x with
        | some es => getK es (.inl i)
        | none => none
  | .str k => match dctOf h x with
    | some es => getK es (.inr k)
    | none => none
  | _ => none
theorem RelL.atI {xs : List D} {vs : List V} (r : RelL K io H xs vs) {i : Int} {d : D} (e : L2.atI xs i = some d) : ∃ v, L2.atI vs i = some v ∧ RelD K io H d v := by
  unfold L2.atI at e ⊢
  rw [← r.length]
  cases e1 : ixN xs.length i with
  | none => rw [e1] at e; cases e
  | some j =>
    rw [e1] at e
    exact r.get e
theorem atI_map {α β : Type} (f : α → β) (xs : List α) (i : Int) : L2.atI (xs.map f) i = (L2.atI xs i).map f := by
  unfold L2.atI
  rw [List.length_map]
  cases ixN xs.length i with
  | none => rfl
  | some j => simp
theorem ix_dict (hu : X.A.units + 1 < cLine) : IxR X (fun x y H Q => ∃ a kvs k v, x = .ref a ∧ Rd H a (.dK kvs) ∧ y = kV k ∧ valV kvs k = some v ∧ Q v H) := by
  intro value slice pins s sg H x y v u Q I rx ry hq hs
  obtain ⟨a, kvs, k, z, rfl, rd, rfl, e, q⟩ := hq
  cases rx
  have g : DGet H a (kV k) (some z) := .inl ⟨kvs, k, rd, rfl, e.symm⟩
  exact tail_any (dict_typeIs I g) F.slot_dict_getitem.lookup (d_getItem hu I g ry fun w' s' I' r' => ⟨z, H, I', r', q⟩) hs
theorem ix_D (hu : X.A.units + 1 < cLine) : IxR X (rP2 X.K oIx) := by
  intro value slice pins s sg H x y v u Q I rx ry hq hs
  obtain ⟨io, h, dx, dy, d, r1, r2, rh, eo, q⟩ := hq
  unfold oIx at eo
  have dict : ∀ (k : Key) (es : List (Key × D)), dctOf h dx = some es → y = kV k → getK es k = some d → wpAny (model X.prog X.w) X.A (subscriptTail value slice v u) (EP X pins sg Q) X.xe s := fun k es e1 ey e2 => by
    obtain ⟨a, kvs, rfl, rd, rm⟩ := dctOf_ok r1 rh e1
    obtain ⟨z, ez, rz⟩ := (rm.get k).1 d e2
    exact ix_dict hu value slice pins s sg H _ _ v u Q I rx ry ⟨a, kvs, k, z, rfl, rd, ey, ez, q H _ .refl rh rz⟩ hs
  have seq : ∀ (i : Int) (xs : List D), seqOf h dx = some xs → y = .int i → L2.atI xs i = some d → wpAny (model X.prog X.w) X.A (subscriptTail value slice v u) (EP X pins sg Q) X.xe s := fun i xs e1 ey e2 => by
    obtain ⟨a, vs, rfl, sq, rl⟩ := seqOf_ok r1 rh e1
    obtain ⟨z, ez, rz⟩ := rl.atI e2
    refine ix_seq value slice pins s sg H _ _ v u Q I rx ry ?_ hs
    rcases sq with sq | sq
    · exact .inl ⟨a, vs, i, z, rfl, ey, sq, ez, q H _ .refl rh rz⟩
    · exact .inr (.inl ⟨a, vs, i, z, rfl, ey, sq, ez, q H _ .refl rh rz⟩)
  cases dy with
  | int i =>
    cases r2
    simp only at eo
    split at eo
    · rename_i ns
      cases r1 with
      | scr ei =>
        rename_i a
        cases e2 : L2.atI ns i with
        | none => rw [e2] at eo; cases eo
        | some n =>
          rw [e2] at eo
          cases eo
          refine ix_seq value slice pins s sg H _ _ v u Q I rx ry (.inl ⟨a, _, i, .int n, rfl, rfl, ei.sq, ?_, q H _ .refl rh (.int n)⟩) hs
          rw [atI_map, e2]
          rfl
    · split at eo
      · rename_i z hz
        cases r1
        cases e2 : L2.atI z.cps.toList i with
        | none => rw [e2] at eo; cases eo
        | some c =>
          rw [e2] at eo
          cases eo
          exact ix_seq value slice pins s sg H _ _ v u Q I rx ry (.inr (.inr ⟨z, i, c, rfl, rfl, hz, e2, q H _ .refl rh (.str _)⟩)) hs
      · cases eo
    · split at eo
      · rename_i xs e1
        exact seq i xs e1 rfl eo
      · split at eo
        · rename_i es e1
          exact dict (.inl i) es e1 rfl eo
        · cases eo
  | str k =>
    cases r2
    simp only at eo
    split at eo
    · rename_i es e1
      exact dict (.inr k) es e1 rfl eo
    · cases eo
  | _ => cases eo
theorem de_ix {W : WX} {a b : Expr} {pos : Pos} {fa fb : Ex} (hu : X.A.units + 64 < cLine) (ha : PE X a (tX X.K W fa)) (hb : PE X b (tX X.K W fb)) (hs : PlainIx b := by exact fun _ _ => rfl) : PE X (.Subscript a b pos) (tX X.K W (xBin oIx fa fb)) :=
  PE.imp (pe_ix (ix_D (by omega)) ha hb hs) fun _ _ _ h => tOp_of h
end
end DL
set_option maxRecDepth 100000
set_option maxHeartbeats 2000000
namespace DL
open PySem PySem.Spec L2
open PyProof.Rows hiding St

/-! ### slices -/
abbrev Ox := Rho → DH → Out (Option Int)
abbrev tO (K : PySem.W.Frag) (W : WX) (f : Ox) : TO := tG K (rEq (Option Int)) W f
def xNoPart : Ox := fun _ h => .ok none h
def intD : D → Option Int
  | .int i => some i
  | _ => none
def xPart (fa : Ex) : Ox := fun r h => (fa r h).bnd fun d h1 => .of ((intD d).map some) h1
def cutL {α : Type} (xs : List α) (lo hi : Option Int) : List α := (xs.drop (HT.sIx xs.length 0 lo)).take (HT.sIx xs.length xs.length hi - HT.sIx xs.length 0 lo)
def oSl (h : DH) (x : D) (lo hi : Option Int) : Option D := match x with
  | .tup xs => some (.tup (cutL xs lo hi))
  | .str z => if z.length ≤ sizeLine then some (.str (cutS z lo hi)) else none
  | _ => (lstOf h x).map fun xs => .lst (cutL xs lo hi)
def xSl (fa : Ex) (fl fh : Ox) : Ex := fun r h => (fa r h).bnd fun x h1 => (fl r h1).bnd fun lo h2 => (fh r h2).bnd fun hi h3 => .of (oSl h3 x lo hi) h3
section
variable {X : Cx} {W : WX} {K : PySem.W.Frag} {io : Io} {H : Hp} {h : DH}
theorem PO.imp {e : Option Expr} {t t' : TO} (h : PO X e t) (i : ∀ sg H Q, t' sg H Q → t sg H Q) : PO X e t' := ⟨fun pins s sg H Q I q => h.run pins s sg H Q I (i sg H Q q)⟩
theorem do_none : PO X none (tO X.K W xNoPart) := PO.imp po_none fun sg H Q hq => by
  obtain ⟨io, rho, dh, rs, rh, p⟩ := hq
  exact p io H none .refl rh rfl
theorem do_some {e : Expr} {fa : Ex} (ha : PE X e (tX X.K W fa)) : PO X (some e) (tO X.K W (xPart fa)) := PO.imp (po_some ha) fun sg H Q hq => by
  obtain ⟨io, rho, dh, rs, rh, p⟩ := hq
  refine bnd_ok rs rh p fun io1 H1 x v h1 s1 rs1 rh1 r1 p1 => ?_
  obtain ⟨b, e, q⟩ := Post.of p1
  cases x with
  | int i =>
    cases r1
    cases e
    exact ⟨i, rfl, q io1 H1 _ .refl rh1 rfl⟩
  | _ => cases e
theorem RelL.cut {xs : List D} {vs : List V} (r : RelL K io H xs vs) (lo hi : Option Int) : RelL K io H (cutL xs lo hi) (cutV vs lo hi) := by
  unfold cutL cutV
  rw [r.length]
  exact (r.drop _).take _
theorem cutL_whole {α : Type} {xs : List α} {lo hi : Option Int} (h : HT.sIx xs.length 0 lo = 0 ∧ HT.sIx xs.length xs.length hi = xs.length) : cutL xs lo hi = xs := by
  unfold cutL
  rw [h.1, h.2]
  simp
def rSlD (K : PySem.W.Frag) : V → Option Int → Option Int → Hp → VK → Prop := fun x lo hi H Q => ∃ io h dx d, RelD K io H dx x ∧ RelH K io H h ∧ oSl h dx lo hi = some d ∧ ∀ H' u, Stp io H io H' → RelH K io H' h → RelD K io H' d u → Q u H'
theorem sl_D : SlR X (rSlD X.K) := by
  intro pins s sg H x v vl vu lo hi sl Q I rx hs pl pu hq
  obtain ⟨io, h, dx, d, r, rh, e, q⟩ := hq
  unfold oSl at e
  split at e
  · cases e
    cases r with
    | tup f rl =>
      rename_i a vs
      refine sl_tupA pins s sg H _ v vl vu lo hi sl Q I rx hs pl pu ⟨a, vs, rfl, f.sq, fun w => ?_, fun w p hp => ?_⟩
      · rw [← rl.length] at w
        rw [cutL_whole w] at q
        exact q H _ .refl rh (.tup f rl)
      · obtain ⟨s1, r1, rd⟩ := rel_tup rh (rl.cut lo hi) hp
        exact q _ _ s1 r1 rd
  · split at e
    · rename_i z hz
      cases e
      cases r
      exact sl_str pins s sg H _ v vl vu lo hi sl Q I rx hs pl pu ⟨z, rfl, hz, q H _ .refl rh (.str _)⟩
    · cases e
  · cases e1 : lstOf h dx with
    | none => rw [e1] at e; cases e
    | some xs =>
      rw [e1] at e
      cases e
      obtain ⟨a, vs, rfl, h1, rl⟩ := lstOf_ok r rh e1
      refine sl_list pins s sg H _ v vl vu lo hi sl Q I rx hs pl pu ⟨a, vs, rfl, .inl (.inl h1), fun p hp => ?_⟩
      obtain ⟨s1, r1, rd⟩ := rel_lst rh (rl.cut lo hi) hp
      exact q _ _ s1 r1 rd
theorem de_slice {e : Expr} {lo hi : Option Expr} {p2 pos : Pos} {fa : Ex} {fl fh : Ox} (ha : PE X e (tX X.K W fa)) (hl : PO X lo (tO X.K W fl)) (hh : PO X hi (tO X.K W fh)) : PE X (.Subscript e (.Slice lo hi none p2) pos) (tX X.K W (xSl fa fl fh)) := PE.imp (pe_slice sl_D ha hl hh) fun sg H Q hq => by
  obtain ⟨io, rho, dh, rs, rh, p⟩ := hq
  refine bnd_ok rs rh p fun io1 H1 x v h1 s1 rs1 rh1 r1 p1 => ?_
  refine bnd_ok rs1 rh1 p1 fun io2 H2 l l' h2 s2 rs2 rh2 r2 p2 => ?_
  refine bnd_ok rs2 rh2 p2 fun io3 H3 u u' h3 s3 rs3 rh3 r3 p3 => ?_
  cases r2
  cases r3
  obtain ⟨d, e, q⟩ := Post.of p3
  exact ⟨io3, h3, x, d, (r1.stp s2).stp s3, rh3, e, fun H' w s r rd => q io3 H' w s r rd⟩
/-! ### displays -/
def xTup (fs : Ax) : Ex := fun r h => (fs r h).bnd fun ds h1 => if ds.length ≤ sizeLine then .ok (.tup ds) h1 else .bad
def xLst (fs : Ax) : Ex := fun r h => (fs r h).bnd fun ds h1 => if ds.length ≤ sizeLine then .ok (.lst ds) h1 else .bad
/-- a list that is to be changed -/
def xLstN (fs : Ax) : Ex := fun r h => (fs r h).bnd fun ds h1 => if ds.length ≤ sizeLine then .ok (.ref h1.length) (h1 ++ [.lst ds]) else .bad
theorem de_tup {es : List Expr} {x1} {pos : Pos} {fs : Ax} (hs : PA X es (tA X.K W fs)) : PE X (.Tuple es x1 pos) (tX X.K W (xTup fs)) := PE.imp (pe_tup hs) fun sg H Q hq => by
  obtain ⟨io, rho, dh, rs, rh, p⟩ := hq
  refine bnd_ok rs rh p fun io1 H1 x v h1 s1 rs1 rh1 r1 p1 => ?_
  split at p1
  · rename_i hl
    refine ⟨by rw [← r1.length]; exact hl, fun q hp => ?_⟩
    obtain ⟨s2, r2, rd⟩ := rel_tup rh1 r1 hp
    exact p1 io1 _ _ s2 r2 rd
  · exact p1.elim
theorem de_lst {es : List Expr} {pos : Pos} {fs : Ax} (hs : PA X es (tA X.K W fs)) : PE X (.List es pos) (tX X.K W (xLst fs)) := PE.imp (pe_lst hs) fun sg H Q hq => by
  obtain ⟨io, rho, dh, rs, rh, p⟩ := hq
  refine bnd_ok rs rh p fun io1 H1 x v h1 s1 rs1 rh1 r1 p1 => ?_
  split at p1
  · rename_i hl
    refine ⟨by rw [← r1.length]; exact hl, fun q hp => ?_⟩
    obtain ⟨s2, r2, rd⟩ := rel_lst rh1 r1 hp
    exact p1 io1 _ _ s2 r2 rd
  · exact p1.elim
theorem rel_num {p : Addr} {o : DO} {ho : HO} (rh : RelH K io H h) (ro : RelO K io H o ho) (hp : H p = none) : Stp io H (io.add p) (upd H p ho) ∧ RelH K (io.add p) (upd H p ho) (h ++ [o]) ∧ RelD K (io.add p) (upd H p ho) (.ref h.length) (.ref p) :=
  ⟨stp_num hp, rh.num hp (ro.stp (stp_num hp)), .ref (by rw [← rh.len]; simp [Io.add])⟩
theorem de_lstN {es : List Expr} {pos : Pos} {fs : Ax} (hs : PA X es (tA X.K W fs)) : PE X (.List es pos) (tX X.K W (xLstN fs)) := PE.imp (pe_lst hs) fun sg H Q hq => by
  obtain ⟨io, rho, dh, rs, rh, p⟩ := hq
  refine bnd_ok rs rh p fun io1 H1 x v h1 s1 rs1 rh1 r1 p1 => ?_
  split at p1
  · rename_i hl
    refine ⟨by rw [← r1.length]; exact hl, fun q hp => ?_⟩
    obtain ⟨s2, r2, rd⟩ := rel_num (o := .lst x) (ho := .lst v) rh1 ⟨v, rfl, r1⟩ hp
    exact p1 _ _ _ s2 r2 rd
  · exact p1.elim
def xDctN : Ex := fun _ h => .ok (.ref h.length) (h ++ [.dct []])
theorem de_dctN {pos : Pos} : PE X (.Dict [] [] pos) (tX X.K W xDctN) := PE.imp pe_dnewK fun sg H Q hq => by
  obtain ⟨io, rho, dh, rs, rh, p⟩ := hq
  intro q hp
  obtain ⟨s2, r2, rd⟩ := rel_num (o := .dct []) (ho := .dK []) rh ⟨[], rfl, .nil⟩ hp
  exact p _ _ _ s2 r2 rd
/-! ### built-in functions of one and of two arguments -/
def rC1 (K : PySem.W.Frag) (o : P1) : List V → Hp → VK → Prop := fun xs H Q => ∃ x, xs = [x] ∧ rP1 K o x H Q
def rC2 (K : PySem.W.Frag) (o : P2) : List V → Hp → VK → Prop := fun xs H Q => ∃ x y, xs = [x, y] ∧ rP2 K o x y H Q
theorem de_call1 {x : Str} {id : String} {o : P1} {e : Expr} {p pos : Pos} {fa : Ex} (hc : CallR X (.builtin id) (rC1 X.K o)) (hm : X.mg x = none) (hv : bootBuiltins x = some (.builtin id)) (ha : PE X e (tX X.K W fa)) (hg : Gl X x := by rfl) (hn : x ≠ "__name__" := by decide) (hdb : (x == ("__debug__" : Str)) = false := by decide)
    (he : starEach [e] X.env = (false, eval e X.env) :: starEach [] X.env := by rfl) : PE X (.Call (.Name x p) [e] [] pos) (tX X.K W (xUn o fa)) := PE.imp (pe_callB hc hg hm hv (pa_cons ha pa_nil he) hn hdb he (by rfl)) fun sg H Q hq => by
  obtain ⟨io, rho, dh, rs, rh, p⟩ := tUn_of hq
  refine ⟨io, rho, dh, rs, rh, ?_⟩
  cases e2 : fa rho dh with
  | ok d h1 => rw [e2] at p; exact fun io' H' b s r rd => ⟨b, rfl, p io' H' b s r rd⟩
  | er c h1 => rw [e2] at p; exact p
  | bad => rw [e2] at p; exact p
theorem de_callT1 {x : Str} {T : String} {o : P1} {e : Expr} {p pos : Pos} {fa : Ex} (hc : CallR X (.type T) (rC1 X.K o)) (hm : X.mg x = none) (hv : bootBuiltins x = some (.type T)) (ha : PE X e (tX X.K W fa)) (hg : Gl X x := by rfl) (hn : x ≠ "__name__" := by decide) (hdb : (x == ("__debug__" : Str)) = false := by decide)
    (he : starEach [e] X.env = (false, eval e X.env) :: starEach [] X.env := by rfl) : PE X (.Call (.Name x p) [e] [] pos) (tX X.K W (xUn o fa)) := PE.imp (pe_callTy hc hg hm hv (pa_cons ha pa_nil he) hn hdb he (by rfl)) fun sg H Q hq => by
  obtain ⟨io, rho, dh, rs, rh, p⟩ := tUn_of hq
  refine ⟨io, rho, dh, rs, rh, ?_⟩
  cases e2 : fa rho dh with
  | ok d h1 => rw [e2] at p; exact fun io' H' b s r rd => ⟨b, rfl, p io' H' b s r rd⟩
  | er c h1 => rw [e2] at p; exact p
  | bad => rw [e2] at p; exact p
theorem de_call2 {x : Str} {id : String} {o : P2} {e e' : Expr} {p pos : Pos} {fa fb : Ex} (hc : CallR X (.builtin id) (rC2 X.K o)) (hm : X.mg x = none) (hv : bootBuiltins x = some (.builtin id)) (ha : PE X e (tX X.K W fa)) (hb : PE X e' (tX X.K W fb)) (hg : Gl X x := by rfl) (hn : x ≠ "__name__" := by decide) (hdb : (x == ("__debug__" : Str)) = false := by decide)
    (he : starEach [e, e'] X.env = (false, eval e X.env) :: starEach [e'] X.env := by rfl) (he' : starEach [e'] X.env = (false, eval e' X.env) :: starEach [] X.env := by rfl) (hpl : (backTo pos (starEach [e'] X.env)).any (·.1) = false := by rfl) : PE X (.Call (.Name x p) [e, e'] [] pos) (tX X.K W (xBin o fa fb)) := PE.imp (pe_callB hc hg hm hv (pa_cons ha (pa_cons hb pa_nil he') he) hn hdb he hpl) fun sg H Q hq => by
  obtain ⟨io, rho, dh, rs, rh, p⟩ := hq
  refine bnd_ok rs rh p fun io1 H1 x v h1 s1 rs1 rh1 r1 p1 => ?_
  refine bnd_ok rs1 rh1 p1 fun io2 H2 y u h2 s2 rs2 rh2 r2 p2 => ?_
  obtain ⟨d, e, q⟩ := Post.of p2
  exact ⟨v, u, rfl, io2, h2, x, y, d, r1.stp s2, r2, rh2, e, fun H' w s r rd => q io2 H' w s r rd⟩
def oLen : P1 := fun h d => match d with
  | .scr ns => some (.int ns.length)
  | .str z => if z.length ≤ sizeLine then some (.int z.length) else none
  | _ => match seqOf h d with
    | some xs => some (.int xs.length)
    | none => match dctOf h d with
      | some es => some (.int es.length)
      | none => none
theorem cd_len : CallR X (.builtin "len") (rC1 X.K oLen) := by
  intro pins s sg H xs us Q I r hq
  obtain ⟨x, rfl, io, h, dx, d, rx, rh, e, q⟩ := hq
  unfold oLen at e
  split at e
  · cases e
    cases rx with
    | scr ei =>
      rename_i ns a
      refine call_len pins s sg H _ us Q I r ⟨_, ns.length, rfl, .inl ⟨_, ei.sq, by simp⟩, ?_⟩
      exact q H _ .refl rh (.int _)
  · split at e
    · rename_i z hz
      cases e
      cases rx
      exact call_len pins s sg H _ us Q I r ⟨_, z.length, rfl, ⟨hz, rfl⟩, q H _ .refl rh (.int _)⟩
    · cases e
  · split at e
    · rename_i ys e1
      cases e
      obtain ⟨a, vs, rfl, sq, rl⟩ := seqOf_ok rx rh e1
      refine call_len pins s sg H _ us Q I r ⟨_, ys.length, rfl, ?_, q H _ .refl rh (.int _)⟩
      rcases sq with sq | sq
      · exact .inl ⟨vs, sq, rl.length⟩
      · exact .inr ⟨vs, sq, rl.length⟩
    · split at e
      · rename_i es e1
        cases e
        obtain ⟨a, kvs, rfl, rd, rm⟩ := dctOf_ok rx rh e1
        rw [Vals.ref1 r]
        exact d_len I rd fun t s' I' => ⟨.int _, H, I', ⟨t, rfl⟩, by rw [← rm.length]; exact q H _ .refl rh (.int _)⟩
      · cases e
/-- tuple(x), list(x): of a list or a tuple -/
def oTuple : P1 := fun h d => (seqOf h d).map .tup
def oList : P1 := fun h d => (seqOf h d).map .lst
theorem cd_tuple : CallR X (.type "tuple") (rC1 X.K oTuple) := by
  intro pins s sg H xs us Q I r hq
  obtain ⟨x, rfl, io, h, dx, d, rx, rh, e, q⟩ := hq
  unfold oTuple at e
  cases e1 : seqOf h dx with
  | none => rw [e1] at e; cases e
  | some ys =>
    rw [e1] at e
    cases e
    cases dx with
    | tup zs =>
      cases e1
      cases rx with
      | tup f rl =>
        rename_i a vs
        exact call_tuple_of pins s sg H _ us Q I r ⟨a, vs, rfl, .inr ⟨f.sq, q H _ .refl rh (.tup f rl)⟩⟩
    | _ =>
      obtain ⟨a, vs, rfl, h1, rl⟩ := lstOf_ok rx rh e1
      refine call_tuple_of pins s sg H _ us Q I r ⟨a, vs, rfl, .inl ⟨.inl (.inl h1), fun p hp => ?_⟩⟩
      obtain ⟨s2, r2, rd⟩ := rel_tup rh rl hp
      exact q _ _ s2 r2 rd
theorem cd_list : CallR X (.type "list") (rC1 X.K oList) := by
  intro pins s sg H xs us Q I r hq
  obtain ⟨x, rfl, io, h, dx, d, rx, rh, e, q⟩ := hq
  unfold oList at e
  cases e1 : seqOf h dx with
  | none => rw [e1] at e; cases e
  | some ys =>
    rw [e1] at e
    cases e
    obtain ⟨a, vs, rfl, sq, rl⟩ := seqOf_ok rx rh e1
    refine call_list_of pins s sg H _ us Q I r ⟨a, vs, rfl, sq, fun p hp => ?_⟩
    obtain ⟨s2, r2, rd⟩ := rel_lst rh rl hp
    exact q _ _ s2 r2 rd
/-- list(x), to be changed -/
def xListN (fa : Ex) : Ex := fun r h => (fa r h).bnd fun d h1 => match seqOf h1 d with
  | some xs => .ok (.ref h1.length) (h1 ++ [.lst xs])
  | none => .bad
theorem de_listN {e : Expr} {p pos : Pos} {fa : Ex} (hm : X.mg "list" = none) (ha : PE X e (tX X.K W fa)) (hg : Gl X "list" := by rfl) (he : starEach [e] X.env = (false, eval e X.env) :: starEach [] X.env := by rfl) : PE X (.Call (.Name "list" p) [e] [] pos) (tX X.K W (xListN fa)) := PE.imp (pe_callTy call_list_of hg hm (by decide +kernel) (pa_cons ha pa_nil he) (by decide) (by decide) he (by rfl)) fun sg H Q hq => by
  obtain ⟨io, rho, dh, rs, rh, p⟩ := hq
  refine bnd_ok rs rh p fun io1 H1 x v h1 s1 rs1 rh1 r1 p1 => ?_
  split at p1
  · rename_i xs e1
    obtain ⟨a, vs, rfl, sq, rl⟩ := seqOf_ok r1 rh1 e1
    refine ⟨a, vs, rfl, sq, fun p hp => ?_⟩
    obtain ⟨s2, r2, rd⟩ := rel_num (o := .lst xs) (ho := .lst vs) rh1 ⟨vs, rfl, rl⟩ hp
    exact p1 _ _ _ s2 r2 rd
  · exact p1.elim
/-- int(x) of a number or a truth value -/
def oInt : P1 := fun _ d => match d with
  | .int i => some (.int i)
  | .bl b => some (.int (if b then 1 else 0))
  | _ => none
theorem cd_int : CallR X (.type "int") (rC1 X.K oInt) := by
  intro pins s sg H xs us Q I r hq
  obtain ⟨x, rfl, io, h, dx, d, rx, rh, e, q⟩ := hq
  cases dx with
  | int i =>
    cases e
    cases rx
    exact call_int1 pins s sg H _ us Q I r (.inl ⟨i, rfl, q H _ .refl rh (.int _)⟩)
  | bl b =>
    cases e
    cases rx
    exact call_int1 pins s sg H _ us Q I r (.inr ⟨b, rfl, q H _ .refl rh (.int _)⟩)
  | _ => cases e
def oMax2 : P2 := fun _ x y => match x, y with
  | .int i, .int j => some (.int (if j > i then j else i))
  | _, _ => none
def oMin2 : P2 := fun _ x y => match x, y with
  | .int i, .int j => some (.int (if j < i then j else i))
  | _, _ => none
theorem cd_max2 (hc : X.calm = true) : CallR X (.builtin "max") (rC2 X.K oMax2) := by
  intro pins s sg H xs us Q I r hq
  obtain ⟨x, y, rfl, io, h, dx, dy, d, r1, r2, rh, e, q⟩ := hq
  unfold oMax2 at e
  split at e
  · rename_i i j
    cases e
    cases r1
    cases r2
    exact call_max2 hc pins s sg H _ us Q I r ⟨i, j, rfl, q H _ .refl rh (.int _)⟩
  · cases e
theorem cd_min2 (hc : X.calm = true) : CallR X (.builtin "min") (rC2 X.K oMin2) := by
  intro pins s sg H xs us Q I r hq
  obtain ⟨x, y, rfl, io, h, dx, dy, d, r1, r2, rh, e, q⟩ := hq
  unfold oMin2 at e
  split at e
  · rename_i i j
    cases e
    cases r1
    cases r2
    exact call_min2 hc pins s sg H _ us Q I r ⟨i, j, rfl, q H _ .refl rh (.int _)⟩
  · cases e
end
end DL
set_option maxRecDepth 100000
set_option maxHeartbeats 2000000
namespace DL
open PySem PySem.Spec L2
open PyProof.Rows hiding St

/-! ### a def's promise: it does what a function on data does -/
def spD (K : PySem.W.Frag) (n : Nat) (F : Fn) : Sp := fun vs H Q E => ∃ io h ds, RelL K io H ds vs ∧ ds.length = n ∧ RelH K io H h ∧ Post K (RelD K) (fun cls d _ H' => E cls d H') io H [] Q (F ds h)
theorem Post.sg {α β : Type} {K : PySem.W.Frag} {R : Io → Hp → α → β → Prop} {W : WX} {io : Io} {H : Hp} {sg : St} {Q : β → Hp → Prop} {o : Out α} (p : Post K R W io H sg Q o) : Post K R (fun cls d _ H' => W cls d sg H') io H [] Q o := by
  cases o with
  | ok a h => exact p
  | er c h => exact p
  | bad => exact p
theorem Post.imp {α β : Type} {K : PySem.W.Frag} {R : Io → Hp → α → β → Prop} {W W' : WX} {io : Io} {H : Hp} {sg sg' : St} {Q Q' : β → Hp → Prop} {o : Out α} (p : Post K R W io H sg Q o) (hq : ∀ b H', Q b H' → Q' b H') (hw : ∀ c d H', W c d sg H' → W' c d sg' H') : Post K R W' io H sg' Q' o := by
  cases o with
  | ok a h => exact fun io' H' b s r q => hq b H' (p io' H' b s r q)
  | er c h => exact fun x io' H' s r => hw _ _ H' (p x io' H' s r)
  | bad => exact p
/-- F knows how many arguments it takes -/
def Takes_ (n : Nat) (F : Fn) : Prop := ∀ ds h, ds.length ≠ n → F ds h = .bad
theorem Post.len {K : PySem.W.Frag} {n : Nat} {F : Fn} {β : Type} {R : Io → Hp → D → β → Prop} {W : WX} {io : Io} {H : Hp} {sg : St} {Q : β → Hp → Prop} {ds : List D} {h : DH} (t : Takes_ n F) (p : Post K R W io H sg Q (F ds h)) : ds.length = n := by
  by_cases e : ds.length = n
  · exact e
  · rw [t ds h e] at p
    exact p.elim
structure FnD (P : Program) (w : World) (K : PySem.W.Frag) (mg : Str → Option Value) (base : Heap) (k : Nat) (x : Str) (n : Nat) (F : Fn) : Prop where
  len : Takes_ n F
  ex : ∃ f fd ps, FnOk P w K mg base (L2.CX P w) k f fd ps (spD K n F) ∧ mg x = some (.ref f) ∧ PySem.W.keepIn K (.ref f) = true ∧ Binds K fd ps []
structure MethD (P : Program) (w : World) (K : PySem.W.Frag) (mg : Str → Option Value) (base : Heap) (k : Nat) (c : Cl) (m : Str) (n : Nat) (F : Fn) : Prop where
  len : Takes_ n F
  cl : Cls K (He.ga K c.nm)
  ex : ∃ f fd ps, FnOk P w K mg base (L2.CX P w) k f fd ps (spD K n F) ∧ Meth K (He.ga K c.nm) m f ∧ Binds K fd ps []
structure MakeD (P : Program) (w : World) (K : PySem.W.Frag) (mg : Str → Option Value) (base : Heap) (k : Nat) (c : Cl) (n : Nat) (F : Fn) : Prop where
  len : Takes_ n F
  ex : ∃ f fd ps, FnOk P w K mg base (L2.CX P w) k f fd ps (spD K n F) ∧ Mk K (He.ga K c.nm) f ∧ mg c.nm = some (.ref (He.ga K c.nm)) ∧ Binds K fd ps []
def xCall (F : Fn) (fs : Ax) : Ex := fun r h => (fs r h).bnd fun ds h1 => F ds h1
section
variable {X : Cx} {W : WX} {k n : Nat} {F : Fn}
theorem callS_of {K : PySem.W.Frag} {fs : Ax} {sg : St} {H : Hp} {Q : VK} (t : Takes_ n F) (hq : tX K W (xCall F fs) sg H Q) : tA K W fs sg H fun vs H1 => spD K n F vs H1 Q (WE W sg) := by
  obtain ⟨io, rho, dh, rs, rh, p⟩ := hq
  refine bnd_ok rs rh p fun io1 H1 ds vs h1 s1 rs1 rh1 r1 p1 => ?_
  exact ⟨io1, h1, ds, r1, Post.len t p1, rh1, Post.sg p1⟩
theorem de_call {x : Str} {e : Expr} {es : List Expr} {p pos : Pos} {fs : Ax} (G : FnD X.prog X.w X.K X.mg X.base k x n F) (hr : Room k X.A) (tk : Takes X W) (ha : PA X (e :: es) (tA X.K W fs)) (hg : Gl X x := by rfl) (hdb : (x == ("__debug__" : Str)) = false := by decide)
    (he : starEach (e :: es) X.env = (false, eval e X.env) :: starEach es X.env := by rfl) (hpl : (backTo pos (starEach es X.env)).any (·.1) = false := by rfl) : PE X (.Call (.Name x p) (e :: es) [] pos) (tX X.K W (xCall F fs)) := by
  obtain ⟨f, fd, ps, ok, hm, hk, hb⟩ := G.ex
  exact PE.imp (pe_callS ok hr hg hm hk hb (fun sg => passAt tk sg) ha hdb he hpl) fun sg H Q hq => callS_of G.len hq
/-! ### methods -/
def isCl (h : DH) (c : Cl) (i : Nat) : Bool := match h[i]? with
  | some (.ins c' _) => decide (c' = c)
  | _ => false
def refD : D → Option Nat
  | .ref i => some i
  | _ => none
def xMeth (c : Cl) (F : Fn) (fa : Ex) (fs : Ax) : Ex := fun r h => (fa r h).bnd fun d h1 => match refD d with
  | some i => if isCl h1 c i = true then (fs r h1).bnd fun ds h2 => F (.ref i :: ds) h2 else .bad
  | none => .bad
theorem isCl_ok {K : PySem.W.Frag} {io : Io} {H : Hp} {h : DH} {c : Cl} {i : Nat} {a : Addr} (rh : RelH K io H h) (ei : io.nums[i]? = some a) (e : isCl h c i = true) : ∃ dx ds vs, H a = some (.ins (He.ga K c.nm) dx (c.fs.zip vs)) ∧ h[i]? = some (.ins c ds) ∧ RelL K io H ds vs ∧ ds.length ≤ c.fs.length := by
  unfold isCl at e
  split at e
  · rename_i c' ds e1
    have ec : c' = c := of_decide_eq_true e
    subst ec
    obtain ⟨ho, h1, dx, vs, rfl, rl, le⟩ := rh.obj i a _ ei e1
    exact ⟨dx, ds, vs, h1, e1, rl, le⟩
  · cases e
theorem lookup_zip_none {c : List Str} {vs : List V} {m : Str} (h : m ∉ c) : (c.zip vs).lookup m = none := by
  induction c generalizing vs with
  | nil => rfl
  | cons a c ih =>
    cases vs with
    | nil => rfl
    | cons v vs =>
      have hne : (m == a) = false := beq_eq_false_iff_ne.mpr fun e => h (by rw [e]; exact List.mem_cons_self)
      show (match m == a with | true => some v | false => (c.zip vs).lookup m) = none
      rw [hne]
      exact ih fun hm => h (List.mem_cons_of_mem _ hm)
def tMethS (C : Addr) (m : Str) (sp : Sp) (E : St → XK) (ta : TE) (t : TA) : TE := fun sg H Q => ta sg H fun x H1 => ∃ a dx fs, x = .ref a ∧ H1 a = some (.ins C dx fs) ∧ fs.lookup m = none ∧ t sg H1 fun vs H2 => sp (x :: vs) H2 Q (E sg)
theorem pe_methS {CX : CXT} {f C : Addr} {fd : FuncData} {ps : List Str} {sp : Sp} {E : St → XK} {m : Str} {pos apos : Pos} {e o : Expr} {es : List Expr} {ta : TE} {t : TA} {pl : Sem Bool} (ho : PE X o ta) (c : Cls X.K C) (hm : Meth X.K C m f) (G : FnOk X.prog X.w X.K X.mg X.base CX k f fd ps sp) (hr : Room k X.A) (hb : Binds X.K fd ps []) (hx : ∀ sg, PassesAt CX X sg (E sg)) (ha : PA X (e :: es) t)
    (hst : starEach (e :: es) X.env = (false, eval e X.env) :: starEach es X.env := by rfl) (hpl : (backTo pos (starEach es X.env)).any (·.1) = false := by rfl)
    (ht : eval (.Call (.Attribute o m apos) (e :: es) [] pos) X.env = (do
      let ov ← eval o X.env
      standAt apos.atName
      let (f, first) ← holding [ov] (getMethod ov m pl)
      callWith pos f first (backTo pos (starEach (e :: es) X.env)) (backToKw pos (keywordEach [] X.env))) := by rfl) :
    PE X (.Call (.Attribute o m apos) (e :: es) [] pos) (tMethS C m sp E ta t) := ⟨fun pins s sg H Q I hq => by
  refine PySem.W.methodCall_KW (pl := pl) (thn (ho.run pins s sg H _ I hq) fun u s1 ⟨x, H1, I1, rx, a, dx, fs, ex, ea, l, q⟩ => ?_) ht
  subst ex
  cases (show u = Value.ref a from rx)
  refine getmeth_ok I1 ea c hm l (PySem.W.callWith_K (first := [.ref a]) (h₀ := X.base) I.ok.mod.kin hm.kp (thn (ha.run pos pins s1 sg H1 _ I1 q) fun us s2 ⟨vs, H2, I2, rv, q2⟩ => ⟨I2.kIn, ?_⟩) hst hpl)
  exact run_fnS (us := .ref a :: us) (vs := .ref a :: vs) G hr hb (hx sg) I2 (.cons rfl rv) q2⟩
theorem pe_methS0 {CX : CXT} {f C : Addr} {fd : FuncData} {ps : List Str} {sp : Sp} {E : St → XK} {m : Str} {pos apos : Pos} {o : Expr} {ta : TE} {pl : Sem Bool} (ho : PE X o ta) (c : Cls X.K C) (hm : Meth X.K C m f) (G : FnOk X.prog X.w X.K X.mg X.base CX k f fd ps sp) (hr : Room k X.A) (hb : Binds X.K fd ps []) (hx : ∀ sg, PassesAt CX X sg (E sg))
    (ht : eval (.Call (.Attribute o m apos) [] [] pos) X.env = (do
      let ov ← eval o X.env
      standAt apos.atName
      let (f, first) ← holding [ov] (getMethod ov m pl)
      callWith pos f first (backTo pos (starEach [] X.env)) (backToKw pos (keywordEach [] X.env))) := by rfl) :
    PE X (.Call (.Attribute o m apos) [] [] pos) (tMethS C m sp E ta tNil) := ⟨fun pins s sg H Q I hq => by
  refine PySem.W.methodCall_KW (pl := pl) (thn (ho.run pins s sg H _ I hq) fun u s1 ⟨x, H1, I1, rx, a, dx, fs, ex, ea, l, q⟩ => ?_) ht
  subst ex
  cases (show u = Value.ref a from rx)
  refine getmeth_ok I1 ea c hm l ?_
  exact PySem.W.callWith_K0 (first := [.ref a]) I1.kIn hm.kp (run_fnS (us := [.ref a]) (vs := [.ref a]) G hr hb (hx sg) I1 (.cons rfl .nil) q)⟩
theorem methS_of {K : PySem.W.Frag} {c : Cl} {m : Str} {fa : Ex} {fs : Ax} {sg : St} {H : Hp} {Q : VK} (t : Takes_ n F) (hn : m ∉ c.fs) (hq : tX K W (xMeth c F fa fs) sg H Q) : tMethS (He.ga K c.nm) m (spD K n F) (WE W) (tX K W fa) (tA K W fs) sg H Q := by
  obtain ⟨io, rho, dh, rs, rh, p⟩ := hq
  refine bnd_ok rs rh p fun io1 H1 x v h1 s1 rs1 rh1 r1 p1 => ?_
  cases x with
  | ref i =>
    cases r1 with
    | ref ei =>
      rename_i a
      simp only [refD] at p1
      split at p1
      · rename_i hc
        obtain ⟨dx, ds0, vs0, e1, e2, rl0, _⟩ := isCl_ok rh1 ei hc
        refine ⟨a, dx, _, rfl, e1, lookup_zip_none hn, ?_⟩
        refine bnd_ok rs1 rh1 p1 fun io2 H2 ds vs h2 s2 rs2 rh2 r2 p2 => ?_
        exact ⟨io2, h2, .ref i :: ds, .cons (.ref (s2.at ei)) r2, Post.len t p2, rh2, Post.sg p2⟩
      · exact p1.elim
  | _ => exact p1.elim
theorem de_meth {c : Cl} {m : Str} {o e : Expr} {es : List Expr} {apos pos : Pos} {fa : Ex} {fs : Ax} {pl : Sem Bool} (G : MethD X.prog X.w X.K X.mg X.base k c m n F) (hr : Room k X.A) (tk : Takes X W) (ho : PE X o (tX X.K W fa)) (ha : PA X (e :: es) (tA X.K W fs)) (hn : m ∉ c.fs := by decide)
    (hst : starEach (e :: es) X.env = (false, eval e X.env) :: starEach es X.env := by rfl) (hpl : (backTo pos (starEach es X.env)).any (·.1) = false := by rfl)
    (ht : eval (.Call (.Attribute o m apos) (e :: es) [] pos) X.env = (do
      let ov ← eval o X.env
      standAt apos.atName
      let (f, first) ← holding [ov] (getMethod ov m pl)
      callWith pos f first (backTo pos (starEach (e :: es) X.env)) (backToKw pos (keywordEach [] X.env))) := by rfl) :
    PE X (.Call (.Attribute o m apos) (e :: es) [] pos) (tX X.K W (xMeth c F fa fs)) := by
  obtain ⟨f, fd, ps, ok, hm, hb⟩ := G.ex
  exact PE.imp (pe_methS ho G.cl hm ok hr hb (fun sg => passAt tk sg) ha hst hpl ht) fun sg H Q hq => methS_of G.len hn hq
theorem de_meth0 {c : Cl} {m : Str} {o : Expr} {apos pos : Pos} {fa : Ex} {pl : Sem Bool} (G : MethD X.prog X.w X.K X.mg X.base k c m n F) (hr : Room k X.A) (tk : Takes X W) (ho : PE X o (tX X.K W fa)) (hn : m ∉ c.fs := by decide)
    (ht : eval (.Call (.Attribute o m apos) [] [] pos) X.env = (do
      let ov ← eval o X.env
      standAt apos.atName
      let (f, first) ← holding [ov] (getMethod ov m pl)
      callWith pos f first (backTo pos (starEach [] X.env)) (backToKw pos (keywordEach [] X.env))) := by rfl) :
    PE X (.Call (.Attribute o m apos) [] [] pos) (tX X.K W (xMeth c F fa xNil)) := by
  obtain ⟨f, fd, ps, ok, hm, hb⟩ := G.ex
  refine PE.imp (pe_methS0 ho G.cl hm ok hr hb (fun sg => passAt tk sg) ht) fun sg H Q hq => ?_
  obtain ⟨io, rho, dh, rs, rh, p⟩ := methS_of G.len hn hq
  refine ⟨io, rho, dh, rs, rh, Post.imp p (fun b H' ⟨a, dx, fs, e1, e2, e3, q⟩ => ⟨a, dx, fs, e1, e2, e3, ?_⟩) fun _ _ _ w => w⟩
  obtain ⟨io, rho, dh, rs, rh, p⟩ := q
  exact p io _ _ .refl rh .nil
/-! ### a new instance -/
def xMake (c : Cl) (F : Fn) (fs : Ax) : Ex := fun r h => (fs r h).bnd fun ds h1 => (F (.ref h1.length :: ds) (h1 ++ [.ins c []])).bnd fun v h2 => if isNon v then .ok (.ref h1.length) h2 else .bad
theorem run_makeS {CX : CXT} {f C : Addr} {fd : FuncData} {ps : List Str} {sp : Sp} {E : XK} {pins : List (Addr × Obj)} {sg : St} {H : Hp} {s : Shared} {Q : VK} {us : List Value} {vs : List V} (M : Mk X.K C f) (G : FnOk X.prog X.w X.K X.mg X.base CX k f fd ps sp) (hr : Room (k + 1) X.A) (hb : Binds X.K fd ps []) (hx : PassesAt CX X sg E) (I : Inv X pins sg H s) (r : Vals vs us)
    (hq : ∀ x dx, H x = none → H dx = none → dx ≠ x → sp (.ref x :: vs) (upd (upd H dx (.own x)) x (.ins C dx [])) (fun v H2 => v = .non ∧ Q (.ref x) H2) E) : wpAny (model X.prog X.w) X.A (call (.ref C) us) (EP X pins sg Q) X.xe s := by
  have q0 := hq (s.heap.objs.size + 1) s.heap.objs.size (I.hok.fresh (Nat.le_succ _)) (I.hok.fresh (Nat.le_refl _)) (Nat.ne_of_lt (Nat.lt_succ_self _))
  have J := Inv.made (C := C) I
  have rv : Vals (V.ref (s.heap.objs.size + 1) :: vs) (Value.ref (s.heap.objs.size + 1) :: us) := .cons rfl r
  have hl : ((Value.ref (s.heap.objs.size + 1) :: us) ++ []).length = ps.length := by
    have e := rv.length
    rw [G.len _ _ _ _ q0] at e
    rw [List.append_nil]
    exact e.symm
  have b := hb _ (Value.ref (s.heap.objs.size + 1) :: us) J.kIn hl
  rw [List.append_nil] at b
  refine wpAny_call (make_map (f := f) I.kIn M.makes M.init (beq_iff_eq.mp M.fn) (codeAny_mono (G.run _ X.stack _ _ ⟨Value.ref (s.heap.objs.size + 1) :: us, []⟩ (Value.ref (s.heap.objs.size + 1) :: us) _ _ E (hr.make C us []) (J.env0.make C us []) b rv q0) fun r s' hq' => ?_))
  cases r with
  | error e => exact hx pins _ _ e s' J hq'
  | ok fl =>
    cases fl with
    | ret u =>
      obtain ⟨v, H', J3, rw', ev, q3⟩ := J.after hq'
      subst ev
      exact ⟨rw', ⟨V.ref (s.heap.objs.size + 1), H', J3, rfl, q3⟩⟩
    | next => exact False.elim hq'
    | brk => exact False.elim hq'
    | cont => exact False.elim hq'
def tMakeS (C : Addr) (sp : Sp) (E : St → XK) (t : TA) : TE := fun sg H Q => t sg H fun vs H1 => ∀ x dx, H1 x = none → H1 dx = none → dx ≠ x → sp (.ref x :: vs) (upd (upd H1 dx (.own x)) x (.ins C dx [])) (fun v H2 => v = .non ∧ Q (.ref x) H2) (E sg)
theorem pe_makeS {CX : CXT} {f C : Addr} {fd : FuncData} {ps : List Str} {sp : Sp} {E : St → XK} {x : Str} {p pos : Pos} {e : Expr} {es : List Expr} {t : TA} (M : Mk X.K C f) (G : FnOk X.prog X.w X.K X.mg X.base CX k f fd ps sp) (hr : Room (k + 1) X.A) (hg : Gl X x) (hm : X.mg x = some (.ref C)) (hb : Binds X.K fd ps []) (hx : ∀ sg, PassesAt CX X sg (E sg)) (ha : PA X (e :: es) t)
    (hdb : (x == ("__debug__" : Str)) = false := by decide) (he : starEach (e :: es) X.env = (false, eval e X.env) :: starEach es X.env := by rfl) (hpl : (backTo pos (starEach es X.env)).any (·.1) = false := by rfl) : PE X (.Call (.Name x p) (e :: es) [] pos) (tMakeS C sp E t) := ⟨fun pins s sg H Q I hq => by
  refine wpAny_Call_Name_kw (ld_glob I hg hm ?_ hdb)
  exact PySem.W.callWith_K (h₀ := X.base) I.ok.mod.kin M.kp (thn (ha.run pos pins s sg H _ I hq) fun us s1 ⟨vs, H1, I1, r, q⟩ => ⟨I1.kIn, run_makeS M G hr hb (hx sg) I1 r q⟩) he hpl⟩
theorem made_rel {K : PySem.W.Frag} {io : Io} {H : Hp} {h : DH} {x dx : Addr} (c : Cl) (rh : RelH K io H h) (hx : H x = none) (hdx : H dx = none) (ne : dx ≠ x) : Stp io H (io.add x) (upd (upd H dx (.own x)) x (.ins (He.ga K c.nm) dx [])) ∧ RelH K (io.add x) (upd (upd H dx (.own x)) x (.ins (He.ga K c.nm) dx [])) (h ++ [.ins c []]) ∧ RelD K (io.add x) (upd (upd H dx (.own x)) x (.ins (He.ga K c.nm) dx [])) (.ref h.length) (.ref x) := by
  have hx2 : upd H dx (.own x) x = none := by rw [upd_ne ne.symm]; exact hx
  obtain ⟨s2, r2, rd⟩ := rel_num (o := .ins c []) (ho := .ins (He.ga K c.nm) dx []) (rh.new (o := .own x) hdx) ⟨dx, [], by simp, .nil, Nat.zero_le _⟩ hx2
  exact ⟨(stp_new hdx).trans s2, r2, rd⟩
theorem de_make {c : Cl} {e : Expr} {es : List Expr} {p pos : Pos} {fs : Ax} (G : MakeD X.prog X.w X.K X.mg X.base k c n F) (hr : Room (k + 1) X.A) (tk : Takes X W) (ha : PA X (e :: es) (tA X.K W fs)) (hg : Gl X c.nm := by rfl) (hdb : (c.nm == ("__debug__" : Str)) = false := by decide)
    (he : starEach (e :: es) X.env = (false, eval e X.env) :: starEach es X.env := by rfl) (hpl : (backTo pos (starEach es X.env)).any (·.1) = false := by rfl) : PE X (.Call (.Name c.nm p) (e :: es) [] pos) (tX X.K W (xMake c F fs)) := by
  obtain ⟨f, fd, ps, ok, mk, hm, hb⟩ := G.ex
  refine PE.imp (pe_makeS mk ok hr hg hm hb (fun sg => passAt tk sg) ha hdb he hpl) fun sg H Q hq => ?_
  obtain ⟨io, rho, dh, rs, rh, p⟩ := hq
  refine bnd_ok rs rh p fun io1 H1 ds vs h1 s1 rs1 rh1 r1 p1 => ?_
  intro x dx hx hdx ne
  obtain ⟨s2, r2, rd⟩ := made_rel c rh1 hx hdx ne
  have p2 := Post.stp p1 s2
  cases e2 : F (.ref h1.length :: ds) (h1 ++ [.ins c []]) with
  | bad => rw [e2] at p2; exact p2.elim
  | er c' h2 =>
    rw [e2] at p2
    refine ⟨_, _, _, .cons rd (r1.stp s2), ?_, r2, ?_⟩
    · by_cases hl : (D.ref h1.length :: ds).length = n
      · exact hl
      · rw [G.len _ _ hl] at e2; cases e2
    · rw [e2]
      exact p2
  | ok v h2 =>
    rw [e2] at p2
    have p3 : Post X.K (RelD X.K) W (io1.add x) _ sg Q (if isNon v then .ok (.ref h1.length) h2 else .bad) := p2
    refine ⟨_, _, _, .cons rd (r1.stp s2), ?_, r2, ?_⟩
    · by_cases hl : (D.ref h1.length :: ds).length = n
      · exact hl
      · rw [G.len _ _ hl] at e2; cases e2
    · rw [e2]
      intro io' H' b s r rb
      cases v with
      | non =>
        cases rb
        refine ⟨rfl, p3 io' H' _ s r ?_⟩
        exact rd.stp s
      | _ => exact p3.elim
end
end DL
set_option maxRecDepth 100000
set_option maxHeartbeats 2000000
namespace DL
open PySem PySem.Spec L2
open PyProof.Rows hiding St

def PostS (K : PySem.W.Frag) (W : WX) (io : Io) (H : Hp) (N : Ends) : OutS → Prop
  | .nx r h => ∀ io' sg H', Stp io H io' H' → RelS K io' H' r sg → RelH K io' H' h → N.nx sg H'
  | .rt d h => ∀ io' v H', Stp io H io' H' → RelD K io' H' d v → RelH K io' H' h → N.rt v H'
  | .bk r h => ∀ io' sg H', Stp io H io' H' → RelS K io' H' r sg → RelH K io' H' h → N.bk sg H'
  | .ct r h => ∀ io' sg H', Stp io H io' H' → RelS K io' H' r sg → RelH K io' H' h → N.ct sg H'
  | .er c r h => XOk K c → ∀ io' sg H', Stp io H io' H' → RelS K io' H' r sg → RelH K io' H' h → W (.ref (He.ga K c.nm)) none sg H'
  | .bad => False
theorem PostS.stp {K : PySem.W.Frag} {W : WX} {io io1 : Io} {H H1 : Hp} {N : Ends} {o : OutS} (p : PostS K W io H N o) (s : Stp io H io1 H1) : PostS K W io1 H1 N o := by
  cases o with
  | nx r h => exact fun io' sg H' s' => p io' sg H' (s.trans s')
  | rt d h => exact fun io' sg H' s' => p io' sg H' (s.trans s')
  | bk r h => exact fun io' sg H' s' => p io' sg H' (s.trans s')
  | ct r h => exact fun io' sg H' s' => p io' sg H' (s.trans s')
  | er c r h => exact fun x io' sg H' s' => p x io' sg H' (s.trans s')
  | bad => exact p
def tS (K : PySem.W.Frag) (W : WX) (f : Sx) : TS := fun N sg H => ∃ io rho h, RelS K io H rho sg ∧ RelH K io H h ∧ PostS K W io H N (f rho h)
def Out.toS {α : Type} (o : Out α) (r : Rho) (k : α → DH → OutS) : OutS := match o with
  | .ok a h => k a h
  | .er c h => .er c r h
  | .bad => .bad
theorem toS_ok {α α' : Type} {K : PySem.W.Frag} {RA : Io → Hp → α → α' → Prop} {W : WX} {io : Io} {H : Hp} {sg : St} {N : Ends} {R : α' → Hp → Prop} {f : Rho → DH → Out α} {g : α → DH → OutS} {rho : Rho} {h : DH}
    (rs : RelS K io H rho sg) (rh : RelH K io H h) (p : PostS K W io H N ((f rho h).toS rho g))
    (k : ∀ io1 H1 d v h1, Stp io H io1 H1 → RelS K io1 H1 rho sg → RelH K io1 H1 h1 → RA io1 H1 d v → PostS K W io1 H1 N (g d h1) → R v H1) : tG K RA W f sg H R := by
  refine ⟨io, rho, h, rs, rh, ?_⟩
  cases e : f rho h with
  | ok a h1 =>
    rw [e] at p
    exact fun io1 H1 b s r1 ra => k io1 H1 a b h1 s (rs.stp s) r1 ra (PostS.stp p s)
  | er c h1 =>
    rw [e] at p
    exact fun x io' H' s r => p x io' sg H' s (rs.stp s) r
  | bad =>
    rw [e] at p
    exact p
section
variable {X : Cx} {W : WX}
/-! ### blocks -/
def zNext : Sx := fun r h => .nx r h
def zSeq (a b : Sx) : Sx := fun r h => match a r h with
  | .nx r1 h1 => b r1 h1
  | .rt v h1 => .rt v h1
  | .bk r1 h1 => .bk r1 h1
  | .ct r1 h1 => .ct r1 h1
  | .er c r1 h1 => .er c r1 h1
  | .bad => .bad
theorem dss_nil : PSs X [] (tS X.K W zNext) := PSs.imp pss_nil fun N sg H hq => by
  obtain ⟨io, rho, dh, rs, rh, p⟩ := hq
  exact p io sg H .refl rs rh
theorem seq_of {K : PySem.W.Frag} {a b : Sx} {N : Ends} {sg : St} {H : Hp} (hq : tS K W (zSeq a b) N sg H) : tSeq (tS K W a) (tS K W b) N sg H := by
  obtain ⟨io, rho, dh, rs, rh, p⟩ := hq
  refine ⟨io, rho, dh, rs, rh, ?_⟩
  unfold zSeq at p
  cases e : a rho dh with
  | nx r1 h1 =>
    rw [e] at p
    exact fun io' sg' H' s rs' rh' => ⟨io', r1, h1, rs', rh', PostS.stp p s⟩
  | rt v h1 => rw [e] at p; exact p
  | bk r1 h1 => rw [e] at p; exact p
  | ct r1 h1 => rw [e] at p; exact p
  | er c r1 h1 => rw [e] at p; exact p
  | bad => rw [e] at p; exact p
theorem dss_cons {st : Stmt} {rest : List Stmt} {a b : Sx} (ha : PS X st (tS X.K W a)) (hb : PSs X rest (tS X.K W b)) : PSs X (st :: rest) (tS X.K W (zSeq a b)) := PSs.imp (pss_cons ha hb) fun _ _ _ hq => seq_of hq
theorem dss_one {st : Stmt} {a : Sx} (ha : PS X st (tS X.K W a)) : PSs X [st] (tS X.K W a) := pss_one ha
theorem ds_pass {pos : Pos} : PS X (.Pass pos) (tS X.K W zNext) := PS.imp ps_pass fun N sg H hq => by
  obtain ⟨io, rho, dh, rs, rh, p⟩ := hq
  exact p io sg H .refl rs rh
def zBreak : Sx := fun r h => .bk r h
theorem ds_break {pos : Pos} : PS X (.Break pos) (tS X.K W zBreak) := PS.imp ps_break fun N sg H hq => by
  obtain ⟨io, rho, dh, rs, rh, p⟩ := hq
  exact p io sg H .refl rs rh
def zRet (fa : Ex) : Sx := fun r h => (fa r h).toS r fun v h1 => .rt v h1
theorem ds_ret {e : Expr} {pos : Pos} {fa : Ex} (ha : PE X e (tX X.K W fa)) : PS X (.Return (some e) pos) (tS X.K W (zRet fa)) := PS.imp (ps_ret ha) fun N sg H hq => by
  obtain ⟨io, rho, dh, rs, rh, p⟩ := hq
  exact toS_ok rs rh p fun io1 H1 d v h1 s1 rs1 rh1 r1 p1 => p1 io1 v H1 .refl r1 rh1
def zRetN : Sx := fun _ h => .rt .non h
theorem ds_retN {pos : Pos} : PS X (.Return none pos) (tS X.K W zRetN) := PS.imp ps_retN fun N sg H hq => by
  obtain ⟨io, rho, dh, rs, rh, p⟩ := hq
  exact p io _ H .refl .non rh
def zExpr (fa : Ex) : Sx := fun r h => (fa r h).toS r fun _ h1 => .nx r h1
theorem ds_expr {e : Expr} {pos : Pos} {fa : Ex} (ha : PE X e (tX X.K W fa)) (hs : swapsWith e none pos.line X.env = pure false := by rfl) : PS X (.Expr e pos) (tS X.K W (zExpr fa)) := PS.imp (ps_expr ha hs) fun N sg H hq => by
  obtain ⟨io, rho, dh, rs, rh, p⟩ := hq
  exact toS_ok rs rh p fun io1 H1 d v h1 s1 rs1 rh1 r1 p1 => p1 io1 sg H1 .refl rs1 rh1
def zIf (c : Tx) (a b : Sx) : Sx := fun r h => (c r h).toS r fun k h1 => match k with
  | true => a r h1
  | false => b r h1
theorem ds_if {c : Expr} {xs ys : List Stmt} {pos : Pos} {fc : Tx} {a b : Sx} (hc : PT X c (tT X.K W fc)) (ha : PSs X xs (tS X.K W a)) (hb : PSs X ys (tS X.K W b)) : PS X (.If c xs ys pos) (tS X.K W (zIf fc a b)) := PS.imp (ps_if hc ha hb) fun N sg H hq => by
  obtain ⟨io, rho, dh, rs, rh, p⟩ := hq
  refine toS_ok rs rh p fun io1 H1 d v h1 s1 rs1 rh1 r1 p1 => ?_
  cases r1
  cases d with
  | true => rw [if_pos rfl]; exact ⟨io1, rho, h1, rs1, rh1, p1⟩
  | false => rw [if_neg Bool.false_ne_true]; exact ⟨io1, rho, h1, rs1, rh1, p1⟩
/-! ### targets -/
abbrev Gx := D → Rho → Option Rho
def TgD (K : PySem.W.Frag) (g : TG) (G : Gx) : Prop := ∀ io H d x r r' sg Q, RelD K io H d x → RelS K io H r sg → G d r = some r' → (∀ sg', RelS K io H r' sg' → Q sg' H) → g x sg H Q
def TgsD (K : PySem.W.Frag) (g : TGs) (G : List D → Rho → Option Rho) : Prop := ∀ io H ds xs r r' sg Q, RelL K io H ds xs → RelS K io H r sg → G ds r = some r' → (∀ sg', RelS K io H r' sg' → Q sg' H) → g xs sg H Q
structure TgX (X : Cx) (tg : Expr) (G : Gx) : Prop where
  ex : ∃ g, PG X tg g ∧ TgD X.K g G
structure TgsX (X : Cx) (tgs : List Expr) (G : List D → Rho → Option Rho) : Prop where
  ex : ∃ g, PGs X tgs g ∧ TgsD X.K g G
def gN (i : Nat) : Gx := fun d r => some (r.set i (some d))
theorem dg_name {x : Str} {pos : Pos} (i : Nat) (hN : X.N.Nodup) (hi : X.N[i]? = some x := by rfl) (hx : Loc X.env.scope x := by first | exact Or.inl rfl | exact Or.inr rfl) (hf : X.fn x = true ∨ X.env.scope.names.lookup x = some .local := by first | exact .inl rfl | exact .inr rfl) : TgX X (.Name x pos) (gN i) :=
  ⟨gName i, pg_name hN hi hx hf, fun io H d x r r' sg Q rd rs e k => by cases e; exact k _ (rs.set i rd)⟩
def gsNilD : List D → Rho → Option Rho := fun ds r => match ds with
  | [] => some r
  | _ => none
def gsConsD (G : Gx) (Gs : List D → Rho → Option Rho) : List D → Rho → Option Rho := fun ds r => match ds with
  | d :: ds => (G d r).bind fun r1 => Gs ds r1
  | [] => none
theorem dgs_nil : TgsX X [] gsNilD := ⟨gNil, pgs_nil, fun io H ds xs r r' sg Q rl rs e k => by
  cases rl with
  | nil => cases e; exact ⟨rfl, k _ rs⟩
  | cons _ _ => cases e⟩
theorem dgs_cons {e : Expr} {es : List Expr} {G : Gx} {Gs : List D → Rho → Option Rho} (h1 : TgX X e G) (h2 : TgsX X es Gs) (hs : (assignEach (e :: es) X.env).map (·.2) = assign e X.env :: (assignEach es X.env).map (·.2) := by rfl) : TgsX X (e :: es) (gsConsD G Gs) := by
  obtain ⟨g, pg, hg⟩ := h1.ex
  obtain ⟨gs, pgs, hgs⟩ := h2.ex
  refine ⟨_, pgs_cons pg pgs hs, fun io H ds xs r r' sg Q rl rs e k => ?_⟩
  cases rl with
  | nil => cases e
  | cons a rl =>
    rename_i d v ds vs
    replace e : (G d r).bind (fun r1 => Gs ds r1) = some r' := e
    cases e1 : G d r with
    | none => rw [e1] at e; cases e
    | some r1 =>
      rw [e1] at e
      exact ⟨v, vs, rfl, hg io H d v r r1 sg _ a rs e1 fun sg' rs' => hgs io H ds vs r1 r' sg' Q rl rs' e k⟩
def gTp (n : Nat) (Gs : List D → Rho → Option Rho) : Gx := fun d r => match d with
  | .tup ds => if ds.length = n then Gs ds r else none
  | _ => none
theorem dg_tup {es : List Expr} {k0} {pos : Pos} {n : Nat} {Gs : List D → Rho → Option Rho} (hc : X.calm = true) (h : TgsX X es Gs) (hn : (assignEach es X.env).length = n := by rfl) (hst : (assignEach es X.env).findIdx? (·.1) = none := by rfl) : TgX X (.Tuple es k0 pos) (gTp n Gs) := by
  obtain ⟨gs, pgs, hgs⟩ := h.ex
  refine ⟨_, pg_tup hc pgs hn hst, fun io H d x r r' sg Q rd rs e k => ?_⟩
  cases d with
  | tup ds =>
    cases rd with
    | tup f rl =>
      rename_i a vs
      simp only [gTp] at e
      split at e
      · rename_i hl
        exact ⟨a, vs, rfl, f.sq, by rw [← rl.length]; exact hl, hgs io H ds vs r r' sg Q rl rs e k⟩
      · cases e
  | _ => cases e
/-! ### assignments -/
def zAsg (fa : Ex) (G : Gx) : Sx := fun r h => (fa r h).toS r fun d h1 => match G d r with
  | some r1 => .nx r1 h1
  | none => .bad
theorem ds_asg {tg e : Expr} {pos : Pos} {fa : Ex} {G : Gx} (ha : PE X e (tX X.K W fa)) (hg : TgX X tg G) (hs : swapsWithSole [tg] e pos.line X.env = pure false := by rfl) (hw : swappedStores [tg] e X.env = pure none := by rfl)
    (h1 : (assignEach [tg] X.env).map (·.2) = [assign tg X.env] := by rfl) : PS X (.Assign [tg] e pos) (tS X.K W (zAsg fa G)) := by
  obtain ⟨g, pg, hgd⟩ := hg.ex
  refine PS.imp (ps_asg ha pg hs hw h1) fun N sg H hq => ?_
  obtain ⟨io, rho, dh, rs, rh, p⟩ := hq
  refine toS_ok rs rh p fun io1 H1 d v h1 s1 rs1 rh1 r1 p1 => ?_
  split at p1
  · rename_i r' e
    exact hgd io1 H1 d v rho r' sg _ r1 rs1 e fun sg' rs' => p1 io1 sg' H1 .refl rs' rh1
  · exact p1.elim
/-! ### raise -/
def zRaise (c : Ec) : Sx := fun r h => .er c r h
structure ExcD (K : PySem.W.Frag) (mg : Str → Option Value) (c : Ec) : Prop where
  mg : mg c.nm = some (.ref (He.ga K c.nm))
  facts : PySem.W.excIn K (He.ga K c.nm) He.veBase "ValueError.__new__" = true ∧ PySem.W.keepIn K (.ref (He.ga K c.nm)) = true ∧ PySem.W.subIn K (.ref (He.ga K c.nm)) (.type "BaseException") = some true ∧ PySem.W.typeIn K (.ref (He.ga K c.nm)) = some (.type "type")
  ok : XOk K c
theorem ds_raise {c : Ec} {m : Str} {p p2 pos pos2 : Pos} {j : Nat} (E : ExcD X.K X.mg c) (hc : X.calm = true) (tk : Takes X W) (hg : Gl X c.nm := by rfl) (hd : (c.nm == ("__debug__" : Str)) = false := by decide) : PS X (.Raise (some (.Call (.Name c.nm p) [.Constant (.str m) j p2] [] pos)) none pos2) (tS X.K W (zRaise c)) := by
  obtain ⟨q1, q2, q3, q4⟩ := E.facts
  refine PS.imp (ps_raise hc tk (pmk_own PySem.F.excBase_ValueError q1 E.mg q2 (raises_own q3 q4) hg hd)) fun N sg H hq => ?_
  obtain ⟨io, rho, dh, rs, rh, p⟩ := hq
  exact p E.ok io sg H .refl rs rh
end
/-! ### a def -/
def dFn (n N : Nat) (body : Sx) : Fn := fun ds h => if ds.length = n then (match body (ds.map some ++ List.replicate (N - n) none) h with
  | .nx _ h' => .ok .non h'
  | .rt v h' => .ok v h'
  | .er c _ h' => .er c h'
  | _ => .bad) else .bad
theorem dFn_takes (n N : Nat) (body : Sx) : Takes_ n (dFn n N body) := fun ds h hl => by unfold dFn; rw [if_neg hl]
theorem fn_ok {P : Program} {w : World} {K : PySem.W.Frag} {mg : Str → Option Value} {base : Heap} {x qual : Str} {params : Arguments} {body : List Stmt} {scope : Scope} {f : Addr} {fd : FuncData} {N ps : List Str} {k : Nat} {b : Sx} (F : FunD K x qual params body scope [] [] f fd) (S : FnScope N ps scope)
    (hb : ∀ (cdv : Value) (A : Around) (outer : List Env) (s : Shared) (H : Hp) (E : XK), Room k (A.deeper (envOfC qual scope s.heap.objs.size f cdv)) → Takes (cxOf (L2.CX P w) P w K mg base N qual scope f cdv A outer s H E) (fun cls d _ H' => E cls d H') →
      PSs (cxOf (L2.CX P w) P w K mg base N qual scope f cdv A outer s H E) body (tS K (fun cls d _ H' => E cls d H') b)) : FnOk P w K mg base (L2.CX P w) (k + 1) f fd ps (spD K ps.length (dFn ps.length N.length b)) := by
  refine F.ok S (fun vs H Q E hq => ?_) (fun cdv A outer s H vs Q E hr hq => ⟨tS K (fun cls d _ H' => E cls d H') b, hb cdv A outer s H E hr (takes_of rfl rfl rfl rfl), ?_⟩)
  · obtain ⟨io, h, ds, rl, hl, _⟩ := hq
    rw [← rl.length]
    exact hl
  · obtain ⟨io, h, ds, rl, hl, rh, p⟩ := hq
    refine ⟨io, ds.map some ++ List.replicate (N.length - ps.length) none, h, ?_, rh, ?_⟩
    · unfold L2.start
      rw [← rl.length, hl]
      exact RelS.of_args rl _
    · unfold dFn at p
      rw [if_pos hl] at p
      cases e : b (ds.map some ++ List.replicate (N.length - ps.length) none) h with
      | nx r h1 => rw [e] at p; exact fun io' sg H' s' _ r' => p io' H' _ s' r' .non
      | rt v h1 => rw [e] at p; exact fun io' u H' s' rd r' => p io' H' u s' r' rd
      | bk r h1 => rw [e] at p; exact p.elim
      | ct r h1 => rw [e] at p; exact p.elim
      | er c r h1 => rw [e] at p; exact fun x io' sg H' s' _ r' => p x io' H' s' r'
      | bad => rw [e] at p; exact p
end DL
set_option maxRecDepth 100000
set_option maxHeartbeats 2000000
namespace DL
open PySem PySem.Spec L2
open PyProof.Rows hiding St

/-- J walks these items, whatever the numbered objects become -/
def WalkD (K : PySem.W.Frag) (io : Io) (H : Hp) (ds : List D) (J : It) : Prop := ∀ io' H' h', Stp io H io' H' → RelH K io' H' h' →
  (∀ i d, ds[i]? = some d → J.go i H' ∧ ∀ x H'', J.yld i H' x H'' → Stp io' H' io' H'' ∧ RelH K io' H'' h' ∧ RelD K io' H'' d x) ∧ J.stop ds.length H'
abbrev Ix := Rho → DH → Out (List D)
abbrev tI (K : PySem.W.Frag) (W : WX) (f : Ix) : TI := tG K (WalkD K) W f
theorem WalkD.stp {K : PySem.W.Frag} {io io1 : Io} {H H1 : Hp} {ds : List D} {J : It} (w : WalkD K io H ds J) (s : Stp io H io1 H1) : WalkD K io1 H1 ds J := fun io' H' h' s' r => w io' H' h' (s.trans s') r
def zLoop (G : Gx) (body : Sx) : List D → Rho → DH → OutS
  | [], r, h => .nx r h
  | d :: ds, r, h => match G d r with
    | none => .bad
    | some r1 => match body r1 h with
      | .nx r2 h2 => zLoop G body ds r2 h2
      | .ct r2 h2 => zLoop G body ds r2 h2
      | .bk r2 h2 => .nx r2 h2
      | .rt v h2 => .rt v h2
      | .er c r2 h2 => .er c r2 h2
      | .bad => .bad
def zFor (fi : Ix) (G : Gx) (body : Sx) : Sx := fun r h => (fi r h).toS r fun ds h1 => zLoop G body ds r h1
section
variable {X : Cx} {W : WX}
theorem loop_ok {K : PySem.W.Frag} {io : Io} {H : Hp} {ds : List D} {J : It} {N : Ends} {G : Gx} {body : Sx} {g : TG} {rho : Rho} {h : DH} {sg : St} (hg : TgD K g G) (w : WalkD K io H ds J) (rs : RelS K io H rho sg) (rh : RelH K io H h) (p : PostS K W io H N (zLoop G body ds rho h)) :
    ∃ V : Nat → Nat → St → Hp → Prop, (∃ m, V 0 m sg H) ∧ ∀ i m sg H, V i m sg H → (J.stop i H ∧ N.nx sg H) ∨ (J.go i H ∧ ∃ M : St → Hp → Prop, (∀ sg' H', M sg' H' → ∃ m', m' < m ∧ V (i + 1) m' sg' H') ∧ ∀ x H', J.yld i H x H' → g x sg H' fun sg2 H2 => tS K W body { N with nx := M, ct := M, bk := N.nx } sg2 H2) := by
  refine ⟨fun i m sg' H' => ∃ io' r' h', Stp io H io' H' ∧ RelS K io' H' r' sg' ∧ RelH K io' H' h' ∧ i ≤ ds.length ∧ m = ds.length - i ∧ PostS K W io' H' N (zLoop G body (ds.drop i) r' h'), ⟨_, io, rho, h, .refl, rs, rh, Nat.zero_le _, rfl, p⟩, fun i m sg' H' hv => ?_⟩
  obtain ⟨io', r', h', s1, rs1, rh1, hi, hm, p1⟩ := hv
  obtain ⟨w1, w2⟩ := w io' H' h' s1 rh1
  by_cases he : i = ds.length
  · subst he
    refine .inl ⟨w2, ?_⟩
    rw [List.drop_length] at p1
    exact p1 io' sg' H' .refl rs1 rh1
  · have hlt : i < ds.length := by omega
    have hd : ds[i]? = some ds[i] := List.getElem?_eq_getElem hlt
    obtain ⟨g1, g2⟩ := w1 i _ hd
    rw [List.drop_eq_getElem_cons hlt] at p1
    refine .inr ⟨g1, fun sg2 H2 => ∃ m', m' < m ∧ ∃ io' r' h', Stp io H io' H2 ∧ RelS K io' H2 r' sg2 ∧ RelH K io' H2 h' ∧ i + 1 ≤ ds.length ∧ m' = ds.length - (i + 1) ∧ PostS K W io' H2 N (zLoop G body (ds.drop (i + 1)) r' h'), fun sg2 H2 z => z, fun x H2 hy => ?_⟩
    obtain ⟨s2, rh2, rd⟩ := g2 x H2 hy
    simp only [zLoop] at p1
    cases e1 : G ds[i] r' with
    | none => rw [e1] at p1; exact p1.elim
    | some r1 =>
      rw [e1] at p1
      refine hg io' H2 _ x r' r1 sg' _ rd (rs1.stp s2) e1 fun sg3 rs3 => ⟨io', r1, h', rs3, rh2, ?_⟩
      have p2 := PostS.stp p1 s2
      cases e2 : body r1 h' with
      | nx r2 h2 =>
        simp only [e2] at p2
        exact fun io4 sg4 H4 s4 rs4 rh4 => ⟨ds.length - (i + 1), by omega, io4, r2, h2, (s1.trans s2).trans s4, rs4, rh4, by omega, rfl, PostS.stp p2 s4⟩
      | ct r2 h2 =>
        simp only [e2] at p2
        exact fun io4 sg4 H4 s4 rs4 rh4 => ⟨ds.length - (i + 1), by omega, io4, r2, h2, (s1.trans s2).trans s4, rs4, rh4, by omega, rfl, PostS.stp p2 s4⟩
      | bk r2 h2 => simp only [e2] at p2; exact p2
      | rt v h2 => simp only [e2] at p2; exact p2
      | er c r2 h2 => simp only [e2] at p2; exact p2
      | bad => simp only [e2] at p2; exact p2
theorem ds_for {tg iter : Expr} {body : List Stmt} {pos : Pos} {fi : Ix} {G : Gx} {fb : Sx} (hp : PassesOwn (model X.prog X.w) X.A X.env X.xe) (hc : X.calm = true) (hi : PI X tg iter (tI X.K W fi)) (hg : TgX X tg G) (hb : PSs X body (tS X.K W fb))
    (hs : ∀ x, foldedSetIterable iter X.env x = pure x := by intro _; rfl) : PS X (.For tg iter body [] pos) (tS X.K W (zFor fi G fb)) := by
  obtain ⟨g, pg, hgd⟩ := hg.ex
  refine PS.imp (ps_for hp hc hi pg hb hs) fun N sg H hq => ?_
  obtain ⟨io, rho, dh, rs, rh, p⟩ := hq
  exact toS_ok rs rh p fun io1 H1 ds J h1 s1 rs1 rh1 r1 p1 => loop_ok hgd r1 rs1 rh1 p1
/-! ### what is walked -/
theorem PI.imp {tg iter : Expr} {w w' : TI} (h : PI X tg iter w) (i : ∀ sg H R, w' sg H R → w sg H R) : PI X tg iter w' := ⟨fun pins s sg H R I q => h.run pins s sg H R I (i sg H R q)⟩
/-- a list that is not changed, a tuple -/
def itL : D → Option (List D)
  | .lst xs => some xs
  | _ => none
def itT : D → Option (List D)
  | .tup xs => some xs
  | _ => none
def iLst (fa : Ex) : Ix := fun r h => (fa r h).bnd fun d h1 => .of (itL d) h1
def iTp (fa : Ex) : Ix := fun r h => (fa r h).bnd fun d h1 => .of (itT d) h1
theorem walk_list {K : PySem.W.Frag} {io : Io} {H : Hp} {a : Addr} {ds : List D} {vs : List V} (f : FzL io H a vs) (rl : RelL K io H ds vs) : WalkD K io H ds (Itl K a) := fun io' H' h' s r => by
  have f' : SqL K H' a vs := (f.stp s).sq
  have rl' := rl.stp s
  refine ⟨fun i d e => ?_, vs, f', Nat.le_of_eq rl.length.symm⟩
  obtain ⟨v, ev, rv⟩ := rl'.get e
  refine ⟨⟨vs, v, f', ev⟩, fun x H'' hy => ?_⟩
  obtain ⟨rfl, hy⟩ := hy
  have := hy vs f'
  rw [ev] at this
  cases this
  exact ⟨.refl, r, rv⟩
theorem walk_tup {K : PySem.W.Frag} {io : Io} {H : Hp} {a : Addr} {ds : List D} {vs : List V} (f : FzT K io H a vs) (rl : RelL K io H ds vs) : WalkD K io H ds (Itt K a) := fun io' H' h' s r => by
  have f' : SqT K H' a vs := (f.stp s).sq
  have rl' := rl.stp s
  refine ⟨fun i d e => ?_, vs, f', Nat.le_of_eq rl.length.symm⟩
  obtain ⟨v, ev, rv⟩ := rl'.get e
  refine ⟨⟨vs, v, f', ev⟩, fun x H'' hy => ?_⟩
  obtain ⟨rfl, hy⟩ := hy
  have := hy vs f'
  rw [ev] at this
  cases this
  exact ⟨.refl, r, rv⟩
theorem di_list {tg e : Expr} {fa : Ex} (ha : PE X e (tX X.K W fa)) : PI X tg e (tI X.K W (iLst fa)) := PI.imp (pi_list ha) fun sg H R hq => by
  obtain ⟨io, rho, dh, rs, rh, p⟩ := hq
  refine bnd_ok rs rh p fun io1 H1 d v h1 s1 rs1 rh1 r1 p1 => ?_
  obtain ⟨ds, e, q⟩ := Post.of p1
  cases d with
  | lst xs =>
    cases e
    cases r1 with
    | lst f rl => exact ⟨_, rfl, ⟨_, f.sq⟩, q io1 H1 _ .refl rh1 (walk_list f rl)⟩
  | _ => cases e
theorem di_tup {tg e : Expr} {fa : Ex} (ha : PE X e (tX X.K W fa)) : PI X tg e (tI X.K W (iTp fa)) := PI.imp (pi_tup ha) fun sg H R hq => by
  obtain ⟨io, rho, dh, rs, rh, p⟩ := hq
  refine bnd_ok rs rh p fun io1 H1 d v h1 s1 rs1 rh1 r1 p1 => ?_
  obtain ⟨ds, e, q⟩ := Post.of p1
  cases d with
  | tup xs =>
    cases e
    cases r1 with
    | tup f rl => exact ⟨_, rfl, ⟨_, f.sq⟩, q io1 H1 _ .refl rh1 (walk_tup f rl)⟩
  | _ => cases e
/-! ranges -/
def intsD (lo : Int) : Nat → List D
  | 0 => []
  | n + 1 => .int lo :: intsD (lo + 1) n
theorem intsD_length (lo : Int) (n : Nat) : (intsD lo n).length = n := by
  induction n generalizing lo with
  | zero => rfl
  | succ n ih => simp [intsD, ih]
theorem intsD_get (lo : Int) (n i : Nat) (h : i < n) : (intsD lo n)[i]? = some (.int (lo + i)) := by
  induction n generalizing lo i with
  | zero => omega
  | succ n ih =>
    cases i with
    | zero => simp [intsD]
    | succ i =>
      simp only [intsD, List.getElem?_cons_succ]
      rw [ih (lo + 1) i (by omega)]
      congr 2
      omega
theorem walk_range {K : PySem.W.Frag} {io : Io} {H : Hp} (lo : Int) (n : Nat) : WalkD K io H (intsD lo n) (Itr lo n) := fun io' H' h' s r => by
  refine ⟨fun i d e => ?_, by show n ≤ (intsD lo n).length; rw [intsD_length]; exact Nat.le_refl _⟩
  have hi : i < n := by
    have := (List.getElem?_eq_some_iff.mp e).1
    rw [intsD_length] at this
    exact this
  rw [intsD_get lo n i hi] at e
  cases e
  refine ⟨hi, fun x H'' hy => ?_⟩
  obtain ⟨rfl, rfl⟩ := hy
  exact ⟨.refl, r, .int _⟩
def rng1 : List D → Option (List D)
  | [.int j] => if -(2 ^ 62) ≤ j ∧ j < 2 ^ 62 then some (intsD 0 j.toNat) else none
  | _ => none
def rng2 : List D → Option (List D)
  | [.int i, .int j] => if -(2 ^ 62) ≤ i ∧ i < 2 ^ 62 ∧ -(2 ^ 62) ≤ j ∧ j < 2 ^ 62 then some (intsD i (j - i).toNat) else none
  | _ => none
def iRg1 (fs : Ax) : Ix := fun r h => (fs r h).bnd fun ds h1 => .of (rng1 ds) h1
def iRg2 (fs : Ax) : Ix := fun r h => (fs r h).bnd fun ds h1 => .of (rng2 ds) h1
theorem di_range1 {tg a : Expr} {p pos : Pos} {fs : Ax} (hm : X.mg "range" = none) (ha : PA X [a] (tA X.K W fs)) (hg : Gl X "range" := by rfl) (hs : starEach [a] X.env = [(false, eval a X.env)] := by rfl) : PI X tg (.Call (.Name "range" p) [a] [] pos) (tI X.K W (iRg1 fs)) := PI.imp (pi_range1 hg hm ha hs) fun sg H R hq => by
  obtain ⟨io, rho, dh, rs, rh, p⟩ := hq
  refine bnd_ok rs rh p fun io1 H1 d v h1 s1 rs1 rh1 r1 p1 => ?_
  obtain ⟨ds, e, q⟩ := Post.of p1
  unfold rng1 at e
  split at e
  · split at e
    · rename_i j hj
      cases e
      cases r1 with
      | cons a b =>
        cases a
        cases b
        exact ⟨j, rfl, hj.1, hj.2, q io1 H1 _ .refl rh1 (walk_range 0 _)⟩
    · cases e
  · cases e
theorem di_range2 {tg a b : Expr} {p pos : Pos} {fs : Ax} (hm : X.mg "range" = none) (ha : PA X [a, b] (tA X.K W fs)) (hg : Gl X "range" := by rfl) (hs : starEach [a, b] X.env = [(false, eval a X.env), (false, eval b X.env)] := by rfl) (hs2 : starEach [b] X.env = [(false, eval b X.env)] := by rfl) : PI X tg (.Call (.Name "range" p) [a, b] [] pos) (tI X.K W (iRg2 fs)) := PI.imp (pi_range2 hg hm ha hs hs2) fun sg H R hq => by
  obtain ⟨io, rho, dh, rs, rh, p⟩ := hq
  refine bnd_ok rs rh p fun io1 H1 d v h1 s1 rs1 rh1 r1 p1 => ?_
  obtain ⟨ds, e, q⟩ := Post.of p1
  unfold rng2 at e
  split at e
  · split at e
    · rename_i i j hj
      cases e
      cases r1 with
      | cons a b =>
        cases a
        cases b with
        | cons a b =>
          cases a
          cases b
          exact ⟨i, j, rfl, hj, q io1 H1 _ .refl rh1 (walk_range i _)⟩
    · cases e
  · cases e
/-! range with the step 2, upward -/
def ints2 (lo c : Int) : Nat → List D
  | 0 => []
  | n + 1 => .int lo :: ints2 (lo + c) c n
theorem ints2_length (lo c : Int) (n : Nat) : (ints2 lo c n).length = n := by
  induction n generalizing lo with
  | zero => rfl
  | succ n ih => simp [ints2, ih]
theorem ints2_get (lo c : Int) (n i : Nat) (h : i < n) : (ints2 lo c n)[i]? = some (.int (lo + i * c)) := by
  induction n generalizing lo i with
  | zero => omega
  | succ n ih =>
    cases i with
    | zero => simp [ints2]
    | succ i =>
      simp only [ints2, List.getElem?_cons_succ]
      rw [ih (lo + c) i (by omega)]
      congr 2
      rw [Int.natCast_add, Int.add_mul]
      omega
theorem walk_rangeC {K : PySem.W.Frag} {io : Io} {H : Hp} (lo c : Int) (n : Nat) : WalkD K io H (ints2 lo c n) (Itc lo c n) := fun io' H' h' s r => by
  refine ⟨fun i d e => ?_, by show n ≤ (ints2 lo c n).length; rw [ints2_length]; exact Nat.le_refl _⟩
  have hi : i < n := by
    have := (List.getElem?_eq_some_iff.mp e).1
    rw [ints2_length] at this
    exact this
  rw [ints2_get lo c n i hi] at e
  cases e
  refine ⟨hi, fun x H'' hy => ?_⟩
  obtain ⟨rfl, rfl⟩ := hy
  exact ⟨.refl, r, .int _⟩
def rng3 : List D → Option (List D)
  | [.int i, .int j, .int c] => if c ≠ 0 ∧ c.natAbs < 1073741824 ∧ Builtin.Range.small i j c = true ∧ 0 ≤ Builtin.Range.rangeSize i j c then some (ints2 i c (Builtin.Range.rangeSize i j c).toNat) else none
  | _ => none
def iRg3 (fs : Ax) : Ix := fun r h => (fs r h).bnd fun ds h1 => .of (rng3 ds) h1
theorem di_range3 {tg a b c : Expr} {p pos : Pos} {fs : Ax} (hm : X.mg "range" = none) (ha : PA X [a, b, c] (tA X.K W fs)) (hp : ∀ ta, PA X [a, b, c] ta → PI X tg (.Call (.Name "range" p) [a, b, c] [] pos) (iRng3 ta)) : PI X tg (.Call (.Name "range" p) [a, b, c] [] pos) (tI X.K W (iRg3 fs)) := PI.imp (hp _ ha) fun sg H R hq => by
  obtain ⟨io, rho, dh, rs, rh, p⟩ := hq
  refine bnd_ok rs rh p fun io1 H1 d v h1 s1 rs1 rh1 r1 p1 => ?_
  obtain ⟨ds, e, q⟩ := Post.of p1
  unfold rng3 at e
  split at e
  · split at e
    · rename_i i j c hj
      cases e
      cases r1 with
      | cons a b =>
        cases a
        cases b with
        | cons a b =>
          cases a
          cases b with
          | cons a b =>
            cases a
            cases b
            exact ⟨i, j, c, _, rfl, ⟨hj.1, hj.2.1, hj.2.2.1, (Int.toNat_of_nonneg hj.2.2.2).symm⟩, q io1 H1 _ .refl rh1 (walk_rangeC i c _)⟩
    · cases e
  · cases e
/-! a text, sign by sign -/
def signs (x : Str) : List D := x.cps.toList.map fun c => .str ⟨#[c]⟩
theorem walk_str {K : PySem.W.Frag} {io : Io} {H : Hp} (x : Str) : WalkD K io H (signs x) (Its x) := fun io' H' h' s r => by
  have hl : (signs x).length = x.cps.size := by simp [signs]
  refine ⟨fun i d e => ?_, by show x.cps.size ≤ _; rw [hl]; exact Nat.le_refl _⟩
  have hi : i < x.cps.size := by
    have := (List.getElem?_eq_some_iff.mp e).1
    omega
  refine ⟨hi, fun y H'' hy => ?_⟩
  obtain ⟨rfl, c, ec, rfl⟩ := hy
  have : d = .str ⟨#[c]⟩ := by
    unfold signs at e
    rw [List.getElem?_map, Array.getElem?_toList, ec] at e
    exact (Option.some.inj e).symm
  rw [this]
  exact ⟨.refl, r, .str _⟩
def itS : D → Option (List D)
  | .str x => some (signs x)
  | _ => none
def iStrD (fa : Ex) : Ix := fun r h => (fa r h).bnd fun d h1 => .of (itS d) h1
theorem di_str {tg e : Expr} {fa : Ex} (ha : PE X e (tX X.K W fa)) : PI X tg e (tI X.K W (iStrD fa)) := PI.imp (pi_str ha) fun sg H R hq => by
  obtain ⟨io, rho, dh, rs, rh, p⟩ := hq
  refine bnd_ok rs rh p fun io1 H1 d v h1 s1 rs1 rh1 r1 p1 => ?_
  obtain ⟨ds, e, q⟩ := Post.of p1
  cases d with
  | str x =>
    cases e
    cases r1
    exact ⟨x, rfl, q io1 H1 _ .refl rh1 (walk_str x)⟩
  | _ => cases e
/-! enumerate of a list that is not changed -/
def enumD (i : Nat) : List D → List D
  | [] => []
  | d :: ds => .tup [.int i, d] :: enumD (i + 1) ds
theorem enumD_length (i : Nat) (ds : List D) : (enumD i ds).length = ds.length := by
  induction ds generalizing i with
  | nil => rfl
  | cons d ds ih => simp [enumD, ih]
theorem enumD_get (k : Nat) (ds : List D) (i : Nat) {d : D} (h : (enumD k ds)[i]? = some d) : ∃ e, ds[i]? = some e ∧ d = .tup [.int ((k + i : Nat) : Int), e] := by
  induction ds generalizing k i with
  | nil => simp [enumD] at h
  | cons x ds ih =>
    cases i with
    | zero => simp [enumD] at h; exact ⟨x, rfl, h.symm⟩
    | succ i =>
      simp only [enumD, List.getElem?_cons_succ] at h
      obtain ⟨e, h1, h2⟩ := ih (k + 1) i h
      refine ⟨e, by simpa using h1, ?_⟩
      rw [h2, show k + 1 + i = k + (i + 1) by omega]
theorem walk_enum {K : PySem.W.Frag} {io : Io} {H : Hp} {a : Addr} {ds : List D} {vs : List V} (f : FzL io H a vs) (rl : RelL K io H ds vs) : WalkD K io H (enumD 0 ds) (Ite K a) := fun io' H' h' s r => by
  have f' : SqL K H' a vs := (f.stp s).sq
  have rl' := rl.stp s
  refine ⟨fun i d e => ?_, vs, f', by rw [enumD_length]; exact Nat.le_of_eq rl.length.symm⟩
  obtain ⟨d', e1, rfl⟩ := enumD_get 0 ds i e
  obtain ⟨v, ev, rv⟩ := rl'.get e1
  refine ⟨⟨vs, v, f', ev⟩, fun x H'' hy => ?_⟩
  obtain ⟨T, y, rfl, hT, rfl, hy⟩ := hy
  have := hy vs f'
  rw [ev] at this
  cases this
  obtain ⟨s2, r2, rd⟩ := rel_tup r (RelL.two (.int (i : Int)) rv) hT
  refine ⟨s2, r2, ?_⟩
  rw [Nat.zero_add]
  exact rd
def itE : List D → Option (List D)
  | [.lst xs] => some (enumD 0 xs)
  | _ => none
def iEnumD (fs : Ax) : Ix := fun r h => (fs r h).bnd fun ds h1 => .of (itE ds) h1
theorem di_enum {e : Expr} {p pos tpos : Pos} {elts : List Expr} {kk : Nat} {fs : Ax} (hm : X.mg "enumerate" = none) (ha : PA X [e] (tA X.K W fs)) (hg : Gl X "enumerate" := by rfl) (hs : starEach [e] X.env = [(false, eval e X.env)] := by rfl) : PI X (.Tuple elts kk tpos) (.Call (.Name "enumerate" p) [e] [] pos) (tI X.K W (iEnumD fs)) := PI.imp (pi_enum hg hm ha hs) fun sg H R hq => by
  obtain ⟨io, rho, dh, rs, rh, p⟩ := hq
  refine bnd_ok rs rh p fun io1 H1 d v h1 s1 rs1 rh1 r1 p1 => ?_
  obtain ⟨ds, e, q⟩ := Post.of p1
  unfold itE at e
  split at e
  · cases e
    cases r1 with
    | cons a b =>
      cases b
      cases a with
      | lst f rl => exact ⟨_, _, rfl, f.sq, q io1 H1 _ .refl rh1 (walk_enum f rl)⟩
  · cases e
end
end DL
set_option maxRecDepth 100000
set_option maxHeartbeats 2000000
namespace DL
open PySem PySem.Spec L2
open PyProof.Rows hiding St

/-! ### what is related stays so -/
structure Mv (io : Io) (H : Hp) (io' : Io) (H' : Hp) : Prop where
  num : ∀ (i : Nat) (a : Addr), io.nums[i]? = some a → io'.nums[i]? = some a
  tup : ∀ a xs, Rd H a (.tup xs) → ¬ io.has a → Rd H' a (.tup xs) ∧ ¬ io'.has a
  lst : ∀ a xs, H a = some (.lst xs) → ¬ io.has a → H' a = some (.lst xs) ∧ ¬ io'.has a
  dct : ∀ a kvs, Rd H a (.dK kvs) → ¬ io.has a → Rd H' a (.dK kvs) ∧ ¬ io'.has a
  scr : ∀ a o xs, H a = some (.frz o (.lst xs)) → H' a = some (.frz o (.lst xs))
section
variable {K : PySem.W.Frag} {io io' : Io} {H H' : Hp}
theorem FzT.mv {a : Addr} {xs : List V} (h : FzT K io H a xs) (m : Mv io H io' H') : FzT K io' H' a xs := by
  rcases h with ⟨r, n⟩ | h
  · exact .inl (m.tup a xs r n)
  · exact .inr h
mutual
theorem RelD.mv (m : Mv io H io' H') : ∀ {d : D} {v : V}, RelD K io H d v → RelD K io' H' d v
  | _, _, .non => .non
  | _, _, .bl b => .bl b
  | _, _, .int i => .int i
  | _, _, .str x => .str x
  | _, _, .tup f r => .tup (f.mv m) (RelL.mv m r)
  | _, _, .lst f r => .lst (m.lst _ _ f.1 f.2) (RelL.mv m r)
  | _, _, .dct f r => .dct (m.dct _ _ f.1 f.2) (RelM.mv m r)
  | _, _, .ref e => .ref (m.num _ _ e)
  | _, _, .scr e => .scr (by
    rcases e with ⟨o, e⟩ | e
    · exact .inl ⟨o, m.scr _ _ _ e⟩
    · exact .inr e)
theorem RelL.mv (m : Mv io H io' H') : ∀ {d : List D} {v : List V}, RelL K io H d v → RelL K io' H' d v
  | _, _, .nil => .nil
  | _, _, .cons a r => .cons (RelD.mv m a) (RelL.mv m r)
theorem RelM.mv (m : Mv io H io' H') : ∀ {d : List (Key × D)} {v : List (Key × V)}, RelM K io H d v → RelM K io' H' d v
  | _, _, .nil => .nil
  | _, _, .cons a r => .cons (RelD.mv m a) (RelM.mv m r)
end
theorem RelS.mv (m : Mv io H io' H') {d : List (Option D)} {v : List (Option V)} (h : RelS K io H d v) : RelS K io' H' d v := by
  induction h with
  | nil => exact .nil
  | none _ ih => exact .none ih
  | some r _ ih => exact .some (r.mv m) ih
theorem RelO.mv (m : Mv io H io' H') : ∀ {o : DO} {ho : HO}, RelO K io H o ho → RelO K io' H' o ho
  | .lst _, _, ⟨vs, e, r⟩ => ⟨vs, e, r.mv m⟩
  | .dct _, _, ⟨vs, e, r⟩ => ⟨vs, e, r.mv m⟩
  | .ins _ _, _, ⟨dx, vs, e, r, l⟩ => ⟨dx, vs, e, r.mv m, l⟩
  | .lck _, _, ⟨ob, u, e, r⟩ => ⟨ob, u, e, RelO.mv m r⟩
/-- p is hidden -/
theorem stp_hide {p : Addr} {o : HO} (hp : H p = none) : Stp io H (io.hide p) (upd H p o) where
  pre := ⟨[], by simp [Io.hide], fun _ z => nomatch z⟩
  psub := fun a z => List.mem_cons_of_mem _ z
  pnew := fun a z => by
    rcases List.mem_cons.mp z with z | z
    · subst z; exact .inr hp
    · exact .inl z
  keep := fun a u e _ => by rw [upd_ne (ne_of_none e hp)]; exact e
  there := fun a u e => ⟨u, by rw [upd_ne (ne_of_none e hp)]; exact e⟩
  frz := fun a u v e => by rw [upd_ne (ne_of_none e hp)]; exact e
theorem RelH.hide {h : DH} (r : RelH K io H h) {p : Addr} {o : HO} (hp : H p = none) : RelH K (io.hide p) (upd H p o) h where
  len := r.len
  nd := r.nd
  pv := fun a ha => by
    rcases List.mem_cons.mp ha with z | z
    · subst z
      exact ⟨fun hm => r.fresh hp (.inl hm), o, upd_same⟩
    · obtain ⟨n, u, e⟩ := r.pv a z
      exact ⟨n, u, by rw [upd_ne (ne_of_none e hp)]; exact e⟩
  obj := fun i a u e1 e2 => by
    obtain ⟨ho', q, w'⟩ := r.obj i a u e1 e2
    exact ⟨ho', by rw [upd_ne (ne_of_none q hp)]; exact q, w'.stp (stp_hide hp)⟩
/-- the hidden one is changed -/
theorem mv_poke {p : Addr} {xs : List V} {o : HO} (hp : p ∈ io.priv) (e : H p = some (.lst xs)) : Mv io H io (upd H p o) := by
  have ne : ∀ a, ¬ io.has a → a ≠ p := fun a n z => n (by rw [z]; exact .inr hp)
  refine ⟨fun _ _ z => z, fun a ys r n => ⟨?_, n⟩, fun a ys r n => ⟨by rw [upd_ne (ne a n)]; exact r, n⟩, fun a ys r n => ⟨?_, n⟩, fun a ob ys r => ?_⟩
  · rcases r with r | ⟨ob, r⟩
    · exact .inl (by rw [upd_ne (ne a n)]; exact r)
    · exact .inr ⟨ob, by rw [upd_ne (ne a n)]; exact r⟩
  · rcases r with r | ⟨ob, r⟩
    · exact .inl (by rw [upd_ne (ne a n)]; exact r)
    · exact .inr ⟨ob, by rw [upd_ne (ne a n)]; exact r⟩
  · rw [upd_ne (fun z => by rw [z, e] at r; cases r)]
    exact r
theorem RelH.poke {h : DH} (r : RelH K io H h) {p : Addr} {xs : List V} {o : HO} (hp : p ∈ io.priv) (e : H p = some (.lst xs)) : RelH K io (upd H p o) h where
  len := r.len
  nd := r.nd
  pv := fun a ha => by
    obtain ⟨n, u, q⟩ := r.pv a ha
    refine ⟨n, ?_⟩
    by_cases z : a = p
    · subst z; exact ⟨o, upd_same⟩
    · exact ⟨u, by rw [upd_ne z]; exact q⟩
  obj := fun i a u e1 e2 => by
    obtain ⟨ho', q, w'⟩ := r.obj i a u e1 e2
    have ne : a ≠ p := fun z => (r.pv p hp).1 (by rw [← z]; exact List.mem_of_getElem? e1)
    exact ⟨ho', by rw [upd_ne ne]; exact q, w'.mv (mv_poke hp e)⟩
theorem Stp.poke {p : Addr} {o : HO} (s : Stp io H io' H') (hp : H p = none) : Stp io H io' (upd H' p o) where
  pre := s.pre
  psub := s.psub
  pnew := s.pnew
  keep := fun a u e n => by rw [upd_ne (ne_of_none e hp)]; exact s.keep a u e n
  there := fun a u e => by
    obtain ⟨u', e'⟩ := s.there a u e
    exact ⟨u', by rw [upd_ne (ne_of_none e hp)]; exact e'⟩
  frz := fun a u v e => by rw [upd_ne (ne_of_none e hp)]; exact s.frz a u v e
/-- it comes to light -/
def Io.show (io : Io) (p : Addr) : Io := ⟨io.nums, io.priv.filter fun a => decide (a ≠ p)⟩
theorem Io.show_has {p a : Addr} (n : ¬ io.has a) : ¬ (io.show p).has a := fun z => by
  rcases z with z | z
  · exact n (.inl z)
  · exact n (.inr (List.mem_filter.mp z).1)
theorem mv_show (p : Addr) : Mv io H (io.show p) H :=
  ⟨fun _ _ z => z, fun a xs r n => ⟨r, Io.show_has n⟩, fun a xs r n => ⟨r, Io.show_has n⟩, fun a xs r n => ⟨r, Io.show_has n⟩, fun _ _ _ z => z⟩
theorem RelH.show {h : DH} (r : RelH K io H h) (p : Addr) : RelH K (io.show p) H h where
  len := r.len
  nd := r.nd
  pv := fun a ha => r.pv a (List.mem_filter.mp ha).1
  obj := fun i a u e1 e2 => by
    obtain ⟨ho', q, w'⟩ := r.obj i a u e1 e2
    exact ⟨ho', q, w'.mv (mv_show p)⟩
theorem Stp.show {p : Addr} (s : Stp io H io' H') (hp : p ∉ io.priv) : Stp io H (io'.show p) H' where
  pre := s.pre
  psub := fun a ha => List.mem_filter.mpr ⟨s.psub a ha, decide_eq_true fun z => hp (by rw [← z]; exact ha)⟩
  pnew := fun a ha => s.pnew a (List.mem_filter.mp ha).1
  keep := s.keep
  there := s.there
  frz := s.frz
end
/-! ### comprehensions -/
/-- a target whose names are of the places vs -/
def TgW (K : PySem.W.Frag) (vs : List Nat) (g : TG) (G : Gx) : Prop := ∀ io H d x r r' sg Q, RelD K io H d x → RelS K io H r sg → G d r = some r' → (∀ sg', RelS K io H r' sg' → wipe sg' vs = wipe sg vs → Q sg' H) → g x sg H Q
def TgsW (K : PySem.W.Frag) (vs : List Nat) (g : TGs) (G : List D → Rho → Option Rho) : Prop := ∀ io H ds xs r r' sg Q, RelL K io H ds xs → RelS K io H r sg → G ds r = some r' → (∀ sg', RelS K io H r' sg' → wipe sg' vs = wipe sg vs → Q sg' H) → g xs sg H Q
theorem wipe_set {sg : St} {i : Nat} {v : Option V} : ∀ {vs : List Nat}, i ∈ vs → wipe (sg.set i v) vs = wipe sg vs
  | w :: vs, h => by
    show (wipe (sg.set i v) vs).set w none = (wipe sg vs).set w none
    rcases List.mem_cons.mp h with e | e
    · subst e
      have : ∀ (us : List Nat) (s t : St), s.set i none = t.set i none → (wipe s us).set i none = (wipe t us).set i none := by
        intro us
        induction us with
        | nil => intro s t h; exact h
        | cons u us ih =>
          intro s t h
          show ((wipe s us).set u none).set i none = ((wipe t us).set u none).set i none
          by_cases hu : u = i
          · subst hu
            rw [List.set_set, List.set_set]
            exact ih s t h
          · rw [List.set_comm _ _ hu, List.set_comm _ _ hu, ih s t h]
      exact this vs _ _ (by rw [List.set_set])
    · rw [wipe_set e]
theorem tgw_name {K : PySem.W.Frag} {vs : List Nat} {i : Nat} (h : i ∈ vs) : TgW K vs (gName i) (gN i) := fun io H d x r r' sg Q rd rs e k => by
  cases e
  exact k _ (rs.set i rd) (wipe_set h)
theorem tgsw_nil {K : PySem.W.Frag} {vs : List Nat} : TgsW K vs gNil gsNilD := fun io H ds xs r r' sg Q rl rs e k => by
  cases rl with
  | nil => cases e; exact ⟨rfl, k _ rs rfl⟩
  | cons _ _ => cases e
theorem tgsw_cons {K : PySem.W.Frag} {vs : List Nat} {g : TG} {gs : TGs} {G : Gx} {Gs : List D → Rho → Option Rho} (h1 : TgW K vs g G) (h2 : TgsW K vs gs Gs) : TgsW K vs (gCons g gs) (gsConsD G Gs) := fun io H ds xs r r' sg Q rl rs e k => by
  cases rl with
  | nil => cases e
  | cons a rl =>
    rename_i d v ds vs'
    replace e : (G d r).bind (fun r1 => Gs ds r1) = some r' := e
    cases e1 : G d r with
    | none => rw [e1] at e; cases e
    | some r1 =>
      rw [e1] at e
      exact ⟨v, vs', rfl, h1 io H d v r r1 sg _ a rs e1 fun sg' rs' w' => h2 io H ds vs' r1 r' sg' Q rl rs' e fun sg2 rs2 w2 => k sg2 rs2 (w2.trans w')⟩
theorem tgw_tup {K : PySem.W.Frag} {vs : List Nat} {n : Nat} {gs : TGs} {Gs : List D → Rho → Option Rho} (h : TgsW K vs gs Gs) : TgW K vs (gTup K n gs) (gTp n Gs) := fun io H d x r r' sg Q rd rs e k => by
  cases d with
  | tup ds =>
    cases rd with
    | tup f rl =>
      rename_i a us
      simp only [gTp] at e
      split at e
      · rename_i hl
        exact ⟨a, us, rfl, f.sq, by rw [← rl.length]; exact hl, h io H ds us r r' sg Q rl rs e k⟩
      · cases e
  | _ => cases e
def wipeR (r : Rho) : List Nat → Rho
  | [] => r
  | v :: vs => (wipeR r vs).set v none
theorem RelS.wipe {K : PySem.W.Frag} {io : Io} {H : Hp} {r : Rho} {sg : St} (h : RelS K io H r sg) : ∀ vs : List Nat, RelS K io H (wipeR r vs) (L2.wipe sg vs)
  | [] => h
  | v :: vs => (RelS.wipe h vs).unset v Option.none
def xYes : Tx := fun _ h => .ok true h
def zComp (G : Gx) (ft : Tx) (fe : Ex) (r : Rho) : List D → DH → List D → Out (List D)
  | [], h, acc => .ok acc h
  | d :: ds, h, acc => match G d r with
    | none => .bad
    | some r1 => match ft r1 h with
      | .ok true h1 => (match fe r1 h1 with
        | .ok y h2 => if acc.length < sizeLine then zComp G ft fe r ds h2 (acc ++ [y]) else .bad
        | _ => .bad)
      | .ok false h1 => zComp G ft fe r ds h1 acc
      | _ => .bad
def aComp (fi : Ix) (vs : List Nat) (G : Gx) (ft : Tx) (fe : Ex) : Ax := fun r h => (fi r h).bnd fun ds h1 => zComp G ft fe (wipeR r vs) ds h1 []
def xComp (fi : Ix) (vs : List Nat) (G : Gx) (ft : Tx) (fe : Ex) : Ex := fun r h => (aComp fi vs G ft fe r h).bnd fun acc h1 => .ok (.lst acc) h1
def xCompN (fi : Ix) (vs : List Nat) (G : Gx) (ft : Tx) (fe : Ex) : Ex := fun r h => (aComp fi vs G ft fe r h).bnd fun acc h1 => .ok (.ref h1.length) (h1 ++ [.lst acc])
abbrev W0 : WX := fun _ _ _ _ => False
theorem comp_ok {K : PySem.W.Frag} {io : Io} {H1 : Hp} {ds : List D} {J : It} {G : Gx} {ft : Tx} {fe : Ex} {g : TG} {rho : Rho} {h1 : DH} {sg : St} {vs : List Nat} {Q : VK} {Da : Addr} (hg : TgW K vs g G) (w : WalkD K io H1 ds J) (rs : RelS K io H1 rho sg) (rh : RelH K io H1 h1) (hD : H1 Da = none)
    (fin : ∀ h' acc, zComp G ft fe (wipeR rho vs) ds h1 [] = .ok acc h' → ∀ io' H' vacc, Stp io H1 io' H' → RelH K io' H' h' → RelL K io' H' acc vacc → Da ∈ io'.priv → H' Da = some (.lst vacc) → Q (.ref Da) H') (nb : ∃ h' acc, zComp G ft fe (wipeR rho vs) ds h1 [] = .ok acc h') :
    ∃ V : Nat → Nat → Hp → Prop, (∃ m, V 0 m (upd H1 Da (.lst []))) ∧ ∀ i m H, V i m H → (J.stop i H ∧ Q (.ref Da) H) ∨ (J.go i H ∧ ∃ Nx : Hp → Prop, (∀ H', Nx H' → ∃ m', m' < m ∧ V (i + 1) m' H') ∧ ∀ x H', J.yld i H x H' → g x (wipe sg vs) H' fun sg2 H2 => wipe sg2 vs = wipe sg vs ∧ tT K W0 ft sg2 H2 fun b H3 =>
      if b = true then tX K W0 fe sg2 H3 fun y H4 => ∃ acc, H4 Da = some (.lst acc) ∧ acc.length < sizeLine ∧ Nx (upd H4 Da (.lst (acc ++ [y]))) else Nx H3) := by
  obtain ⟨hf, accf, ef⟩ := nb
  have ww : ∀ s : St, wipe (wipe s vs) vs = wipe s vs := by
    intro s
    have : ∀ us : List Nat, (∀ u ∈ us, u ∈ vs) → wipe (wipe s us) vs = wipe s vs := by
      intro us
      induction us with
      | nil => intro _; rfl
      | cons u us ih =>
        intro hu
        show wipe ((wipe s us).set u none) vs = _
        rw [wipe_set (hu u List.mem_cons_self)]
        exact ih fun z hz => hu z (List.mem_cons_of_mem _ hz)
    exact this vs fun _ z => z
  refine ⟨fun i m H' => ∃ io' h' acc vacc, Stp io H1 io' H' ∧ RelH K io' H' h' ∧ RelL K io' H' acc vacc ∧ Da ∈ io'.priv ∧ H' Da = some (.lst vacc) ∧ i ≤ ds.length ∧ m = ds.length - i ∧ zComp G ft fe (wipeR rho vs) (ds.drop i) h' acc = .ok accf hf,
    ⟨_, io.hide Da, h1, [], [], stp_hide hD, rh.hide hD, .nil, List.mem_cons_self, upd_same, Nat.zero_le _, rfl, ef⟩, fun i m H' hv => ?_⟩
  obtain ⟨io', h', acc, vacc, s1, rh1, rl1, hpv, hDa, hi, hm, p1⟩ := hv
  obtain ⟨w1, w2⟩ := w io' H' h' s1 rh1
  by_cases he : i = ds.length
  · subst he
    refine .inl ⟨w2, ?_⟩
    rw [List.drop_length] at p1
    cases p1
    exact fin hf accf ef io' H' vacc s1 rh1 rl1 hpv hDa
  · have hlt : i < ds.length := by omega
    have hd : ds[i]? = some ds[i] := List.getElem?_eq_getElem hlt
    obtain ⟨g1, g2⟩ := w1 i _ hd
    rw [List.drop_eq_getElem_cons hlt] at p1
    refine .inr ⟨g1, fun H2 => ∃ m', m' < m ∧ ∃ io' h' acc vacc, Stp io H1 io' H2 ∧ RelH K io' H2 h' ∧ RelL K io' H2 acc vacc ∧ Da ∈ io'.priv ∧ H2 Da = some (.lst vacc) ∧ i + 1 ≤ ds.length ∧ m' = ds.length - (i + 1) ∧ zComp G ft fe (wipeR rho vs) (ds.drop (i + 1)) h' acc = .ok accf hf, fun H2 z => z, fun x H2 hy => ?_⟩
    obtain ⟨s2, rh2, rd⟩ := g2 x H2 hy
    simp only [zComp] at p1
    have pD : ∀ {io2 : Io} {H3 : Hp}, Stp io' H' io2 H3 → RelH K io2 H3 h' ∨ True → H3 Da = some (.lst vacc) := fun {io2 H3} s _ => s.keep Da _ hDa (rh1.pv Da hpv).1
    cases e1 : G ds[i] (wipeR rho vs) with
    | none => rw [e1] at p1; cases p1
    | some r1 =>
      rw [e1] at p1
      have s12 := s1.trans s2
      refine hg io' H2 _ x (wipeR rho vs) r1 (wipe sg vs) _ rd ((rs.stp s12).wipe vs) e1 fun sg3 rs3 w3 => ⟨w3.trans (ww sg), io', r1, h', rs3, rh2, ?_⟩
      cases e2 : ft r1 h' with
      | er c h2 => simp only [e2] at p1; cases p1
      | bad => simp only [e2] at p1; cases p1
      | ok b h2 =>
        simp only [e2] at p1
        intro io3 H3 b' s3 rh3 eb
        cases eb
        have s23 := s2.trans s3
        have hD3 := pD s23 (.inr trivial)
        cases b with
        | false =>
          rw [if_neg Bool.false_ne_true]
          exact ⟨ds.length - (i + 1), by omega, io3, h2, acc, vacc, s1.trans s23, rh3, rl1.stp s23, s23.psub Da hpv, hD3, by omega, rfl, p1⟩
        | true =>
          rw [if_pos rfl]
          refine ⟨io3, r1, h2, rs3.stp s3, rh3, ?_⟩
          cases e3 : fe r1 h2 with
          | er c h3 => simp only [e3] at p1; cases p1
          | bad => simp only [e3] at p1; cases p1
          | ok y h3 =>
            simp only [e3] at p1
            intro io4 H4 y' s4 rh4 ry
            split at p1
            · rename_i hz
              have s24 := s23.trans s4
              have hD4 := pD s24 (.inr trivial)
              have hp4 := s24.psub Da hpv
              have rl4 := rl1.stp s24
              refine ⟨vacc, hD4, by rw [← rl4.length]; exact hz, ds.length - (i + 1), by omega, io4, h3, acc ++ [y], vacc ++ [y'], (s1.trans s24).poke hD, rh4.poke hp4 hD4, (rl4.append (.one ry)).mv (mv_poke hp4 hD4), hp4, upd_same, by omega, rfl, p1⟩
            · cases p1
theorem aComp_cases {fi : Ix} {vs : List Nat} {G : Gx} {ft : Tx} {fe : Ex} {r : Rho} {ds : List D} {h : DH} : ∀ acc, (∃ h' acc', zComp G ft fe r ds h acc = .ok acc' h') ∨ zComp G ft fe r ds h acc = .bad := by
  induction ds generalizing h with
  | nil => exact fun acc => .inl ⟨h, acc, rfl⟩
  | cons d ds ih =>
    intro acc
    simp only [zComp]
    cases G d r with
    | none => exact .inr rfl
    | some r1 =>
      simp only
      cases ft r1 h with
      | ok b h1 =>
        cases b with
        | false => exact ih acc
        | true =>
          simp only
          cases fe r1 h1 with
          | ok y h2 =>
            simp only
            split
            · exact ih _
            · exact .inr rfl
          | er c h2 => exact .inr rfl
          | bad => exact .inr rfl
      | er c h1 => exact .inr rfl
      | bad => exact .inr rfl
section
variable {X : Cx} {W : WX}
theorem comp_run {K : PySem.W.Frag} {io : Io} {H1 : Hp} {ds : List D} {J : It} {G : Gx} {ft : Tx} {fe : Ex} {g : TG} {rho : Rho} {h1 : DH} {sg : St} {vs : List Nat} {Q : VK} (kf : List D → DH → Out D) (hg : TgW K vs g G) (w : WalkD K io H1 ds J) (rs : RelS K io H1 rho sg) (rh : RelH K io H1 h1)
    (p : Post K (RelD K) W io H1 sg Q ((zComp G ft fe (wipeR rho vs) ds h1 []).bnd kf))
    (hk : ∀ acc h' io' H' vacc (Da : Addr), Post K (RelD K) W io H1 sg Q (kf acc h') → H1 Da = none → Stp io H1 io' H' → RelH K io' H' h' → RelL K io' H' acc vacc → Da ∈ io'.priv → H' Da = some (.lst vacc) → Q (.ref Da) H') (Da : Addr) (hD : H1 Da = none) :
    ∃ V : Nat → Nat → Hp → Prop, (∃ m, V 0 m (upd H1 Da (.lst []))) ∧ ∀ i m H, V i m H → (J.stop i H ∧ Q (.ref Da) H) ∨ (J.go i H ∧ ∃ Nx : Hp → Prop, (∀ H', Nx H' → ∃ m', m' < m ∧ V (i + 1) m' H') ∧ ∀ x H', J.yld i H x H' → g x (wipe sg vs) H' fun sg2 H2 => wipe sg2 vs = wipe sg vs ∧ tT K W0 ft sg2 H2 fun b H3 =>
      if b = true then tX K W0 fe sg2 H3 fun y H4 => ∃ acc, H4 Da = some (.lst acc) ∧ acc.length < sizeLine ∧ Nx (upd H4 Da (.lst (acc ++ [y]))) else Nx H3) := by
  rcases aComp_cases (fi := fun _ h => .ok [] h) (vs := vs) (G := G) (ft := ft) (fe := fe) (r := wipeR rho vs) (ds := ds) (h := h1) [] with nb | nb
  · refine comp_ok hg w rs rh hD (fun h' acc e io' H' vacc s r rl hp hd => ?_) nb
    rw [e] at p
    exact hk acc h' io' H' vacc Da p hD s r rl hp hd
  · rw [nb] at p
    exact p.elim
theorem fz_end {K : PySem.W.Frag} {io io' : Io} {H1 H' : Hp} {Q : VK} {sg : St} {acc : List D} {h' : DH} {vacc : List V} {Da : Addr} {h1 : DH} (rh : RelH K io H1 h1) (p : Post K (RelD K) W io H1 sg Q (.ok (.lst acc) h')) (hD : H1 Da = none) (s : Stp io H1 io' H') (r : RelH K io' H' h') (rl : RelL K io' H' acc vacc) (hp : Da ∈ io'.priv) (hd : H' Da = some (.lst vacc)) : Q (.ref Da) H' := by
  refine p (io'.show Da) H' _ (s.show fun z => rh.fresh hD (.inr z)) (r.show Da) (.lst ⟨hd, fun z => ?_⟩ (rl.mv (mv_show Da)))
  rcases z with z | z
  · exact (r.pv Da hp).1 z
  · exact absurd rfl (of_decide_eq_true (List.mem_filter.mp z).2)
theorem nm_end {K : PySem.W.Frag} {io io' : Io} {H1 H' : Hp} {Q : VK} {sg : St} {acc : List D} {h' : DH} {vacc : List V} {Da : Addr} {h1 : DH} (rh : RelH K io H1 h1) (p : Post K (RelD K) W io H1 sg Q (.ok (.ref h'.length) (h' ++ [.lst acc]))) (hD : H1 Da = none) (s : Stp io H1 io' H') (r : RelH K io' H' h') (rl : RelL K io' H' acc vacc) (hp : Da ∈ io'.priv) (hd : H' Da = some (.lst vacc)) : Q (.ref Da) H' := by
  have hpn : Da ∉ io.priv := fun z => rh.fresh hD (.inr z)
  have sA : Stp io H1 ((io'.show Da).add Da) H' := by
    have t := s.show hpn
    refine ⟨?_, t.psub, t.pnew, t.keep, t.there, t.frz⟩
    obtain ⟨l, el, hl⟩ := t.pre
    refine ⟨l ++ [Da], by show (io'.show Da).nums ++ [Da] = _; rw [el, List.append_assoc], fun a ha => ?_⟩
    rcases List.mem_append.mp ha with z | z
    · exact hl a z
    · simp at z; subst z; exact hD
  have mA : Mv io' H' ((io'.show Da).add Da) H' := by
    have nh : ∀ a, ¬ io'.has a → ¬ ((io'.show Da).add Da).has a := fun a n z => by
      rcases z with z | z
      · rcases List.mem_append.mp z with z | z
        · exact n (.inl z)
        · simp at z; subst z; exact n (.inr hp)
      · exact n (.inr (List.mem_filter.mp z).1)
    refine ⟨fun i a e => ?_, fun a xs r n => ⟨r, nh a n⟩, fun a xs r n => ⟨r, nh a n⟩, fun a xs r n => ⟨r, nh a n⟩, fun _ _ _ z => z⟩
    show (io'.nums ++ [Da])[i]? = some a
    rw [List.getElem?_append_left (List.getElem?_eq_some_iff.mp e).1]
    exact e
  have nDa : Da ∉ io'.nums := (r.pv Da hp).1
  refine p ((io'.show Da).add Da) H' _ sA ⟨?_, ?_, ?_, ?_⟩ (.ref ?_)
  · show (io'.nums ++ [Da]).length = (h' ++ [_]).length
    simp [r.len]
  · refine List.nodup_append.mpr ⟨r.nd, by simp, fun a ha b hb => ?_⟩
    simp at hb
    subst hb
    intro e
    subst e
    exact nDa ha
  · intro a ha
    obtain ⟨ha1, ha2⟩ := List.mem_filter.mp ha
    obtain ⟨n, u, e⟩ := r.pv a ha1
    refine ⟨fun z => ?_, u, e⟩
    rcases List.mem_append.mp z with z | z
    · exact n z
    · simp at z; subst z; exact absurd rfl (of_decide_eq_true ha2)
  · intro i a o e1 e2
    replace e1 : (io'.nums ++ [Da])[i]? = some a := e1
    by_cases hi : i < io'.nums.length
    · rw [List.getElem?_append_left hi] at e1
      rw [List.getElem?_append_left (by rw [← r.len]; exact hi)] at e2
      obtain ⟨ho, q, w⟩ := r.obj i a o e1 e2
      exact ⟨ho, q, w.mv mA⟩
    · have hi' : i = io'.nums.length := by
        have := (List.getElem?_eq_some_iff.mp e1).1
        simp at this
        omega
      subst hi'
      rw [List.getElem?_append_right (Nat.le_refl _)] at e1
      rw [List.getElem?_append_right (by rw [r.len]; exact Nat.le_refl _)] at e2
      simp at e1
      simp [r.len] at e2
      subst e1 e2
      exact ⟨_, hd, vacc, rfl, rl.mv mA⟩
  · show (io'.nums ++ [Da])[h'.length]? = some Da
    rw [← r.len]
    simp
theorem comp_te {K : PySem.W.Frag} {fi : Ix} {vs : List Nat} {G : Gx} {ft : Tx} {fe : Ex} {g : TG} {sg : St} {H : Hp} {Q : VK} (hg : TgW K vs g G) (hq : tX K W (xComp fi vs G ft fe) sg H Q) : tLc (tI K W fi) g (tT K W0 ft) (tX K W0 fe) vs sg H Q := by
  obtain ⟨io, rho, dh, rs, rh, p⟩ := hq
  have p' : Post K (RelD K) W io H sg Q ((fi rho dh).bnd fun ds h1 => (zComp G ft fe (wipeR rho vs) ds h1 []).bnd fun acc h1 => .ok (.lst acc) h1) := by
    have e : xComp fi vs G ft fe rho dh = ((fi rho dh).bnd fun ds h1 => (zComp G ft fe (wipeR rho vs) ds h1 []).bnd fun acc h1 => .ok (.lst acc) h1) := by
      show ((fi rho dh).bnd _).bnd _ = _
      cases fi rho dh <;> rfl
    rw [← e]
    exact p
  refine bnd_ok rs rh p' fun io1 H1 ds J h1 s1 rs1 rh1 r1 p1 => ?_
  intro Da hD
  exact comp_run _ hg r1 rs1 rh1 p1 (fun acc h' io' H' vacc Da p hD s r rl hp hd => fz_end rh1 p hD s r rl hp hd) Da hD
theorem comp_teN {K : PySem.W.Frag} {fi : Ix} {vs : List Nat} {G : Gx} {ft : Tx} {fe : Ex} {g : TG} {sg : St} {H : Hp} {Q : VK} (hg : TgW K vs g G) (hq : tX K W (xCompN fi vs G ft fe) sg H Q) : tLc (tI K W fi) g (tT K W0 ft) (tX K W0 fe) vs sg H Q := by
  obtain ⟨io, rho, dh, rs, rh, p⟩ := hq
  have p' : Post K (RelD K) W io H sg Q ((fi rho dh).bnd fun ds h1 => (zComp G ft fe (wipeR rho vs) ds h1 []).bnd fun acc h1 => .ok (.ref h1.length) (h1 ++ [.lst acc])) := by
    have e : xCompN fi vs G ft fe rho dh = ((fi rho dh).bnd fun ds h1 => (zComp G ft fe (wipeR rho vs) ds h1 []).bnd fun acc h1 => .ok (.ref h1.length) (h1 ++ [.lst acc])) := by
      show ((fi rho dh).bnd _).bnd _ = _
      cases fi rho dh <;> rfl
    rw [← e]
    exact p
  refine bnd_ok rs rh p' fun io1 H1 ds J h1 s1 rs1 rh1 r1 p1 => ?_
  intro Da hD
  exact comp_run _ hg r1 rs1 rh1 p1 (fun acc h' io' H' vacc Da p hD s r rl hp hd => nm_end rh1 p hD s r rl hp hd) Da hD
theorem dts_nil {Y : Cx} : PTs Y [] (tT Y.K W0 xYes) := ⟨fun pins s sg H Q I hq => by
  refine pts_nil.run pins s sg H Q I ?_
  obtain ⟨io, rho, dh, rs, rh, p⟩ := hq
  exact p io H true .refl rh rfl⟩
theorem dts_one {Y : Cx} {c : Expr} {f : Tx} (h : PT Y c (tT Y.K W0 f)) : PTs Y [c] (tT Y.K W0 f) := pts_one h
theorem takes0 {Y : Cx} : Takes Y W0 := fun u s' ⟨_, _, _, _, _, _, _, _, _, _, _, _, _, _, _, _, w⟩ => w.elim
theorem de_lc {elt tg iter : Expr} {ifs : List Expr} {scope : Scope} {own : List (Str × Nat)} {pos : Pos} {fi : Ix} {g : TG} {G : Gx} {ft : Tx} {fe : Ex} (hc : X.calm = true) (hN : X.N.Nodup) (hi : PI X tg iter (tI X.K W fi)) (ok : BlkOk X.N X.env.scope scope own)
    (hg : ∀ (s : Shared) (H : Hp) (C : Addr) (cl : List (Str × Addr)) (fp : List Addr), PG (X.blk s H scope (compEnvC scope cl C X.env) fp) tg g) (hG : TgW X.K (own.map (·.2)) g G) (ht : ∀ (s : Shared) (H : Hp) (C : Addr) (cl : List (Str × Addr)) (fp : List Addr), PTs (X.blk s H scope (compEnvC scope cl C X.env) fp) ifs (tT X.K W0 ft))
    (he : ∀ (s : Shared) (H : Hp) (C : Addr) (cl : List (Str × Addr)) (fp : List Addr), PE (X.blk s H scope (compEnvC scope cl C X.env) fp) elt (tX X.K W0 fe)) (hs : ∀ x, foldedSetIterable iter X.env x = pure x := by intro _; rfl) :
    PE X (.ListComp elt [⟨tg, iter, ifs, 0⟩] scope pos) (tX X.K W (xComp fi (own.map (·.2)) G ft fe)) := PE.imp (pe_lc hc hN hi ok hg ht he hs) fun sg H Q hq => comp_te hG hq
theorem de_lcN {elt tg iter : Expr} {ifs : List Expr} {scope : Scope} {own : List (Str × Nat)} {pos : Pos} {fi : Ix} {g : TG} {G : Gx} {ft : Tx} {fe : Ex} (hc : X.calm = true) (hN : X.N.Nodup) (hi : PI X tg iter (tI X.K W fi)) (ok : BlkOk X.N X.env.scope scope own)
    (hg : ∀ (s : Shared) (H : Hp) (C : Addr) (cl : List (Str × Addr)) (fp : List Addr), PG (X.blk s H scope (compEnvC scope cl C X.env) fp) tg g) (hG : TgW X.K (own.map (·.2)) g G) (ht : ∀ (s : Shared) (H : Hp) (C : Addr) (cl : List (Str × Addr)) (fp : List Addr), PTs (X.blk s H scope (compEnvC scope cl C X.env) fp) ifs (tT X.K W0 ft))
    (he : ∀ (s : Shared) (H : Hp) (C : Addr) (cl : List (Str × Addr)) (fp : List Addr), PE (X.blk s H scope (compEnvC scope cl C X.env) fp) elt (tX X.K W0 fe)) (hs : ∀ x, foldedSetIterable iter X.env x = pure x := by intro _; rfl) :
    PE X (.ListComp elt [⟨tg, iter, ifs, 0⟩] scope pos) (tX X.K W (xCompN fi (own.map (·.2)) G ft fe)) := PE.imp (pe_lc hc hN hi ok hg ht he hs) fun sg H Q hq => comp_teN hG hq
/-- y = [..] -/
theorem ds_setLc {i : Nat} {y : Str} {py : Pos} {elt tg iter : Expr} {ifs : List Expr} {scope : Scope} {own : List (Str × Nat)} {pos spos : Pos} {fi : Ix} {g : TG} {G : Gx} {ft : Tx} {fe : Ex} (hc : X.calm = true) (hN : X.N.Nodup) (hy : X.N[i]? = some y) (hyl : X.env.scope.names.lookup y = some .local)
    (hsw : swapsWith (.ListComp elt [⟨tg, iter, ifs, 0⟩] scope pos) (some (.Name y py)) spos.line X.env = pure true) (hi : PI X tg iter (tI X.K W fi)) (ok : BlkOk X.N X.env.scope scope own)
    (hg : ∀ (s : Shared) (H : Hp) (C : Addr) (cl : List (Str × Addr)) (fp : List Addr), PG (X.blk s H scope (compEnvC scope cl C X.env) fp) tg g) (hG : TgW X.K (own.map (·.2)) g G) (ht : ∀ (s : Shared) (H : Hp) (C : Addr) (cl : List (Str × Addr)) (fp : List Addr), PTs (X.blk s H scope (compEnvC scope cl C X.env) fp) ifs (tT X.K W0 ft))
    (he : ∀ (s : Shared) (H : Hp) (C : Addr) (cl : List (Str × Addr)) (fp : List Addr), PE (X.blk s H scope (compEnvC scope cl C X.env) fp) elt (tX X.K W0 fe)) (hs : ∀ x, foldedSetIterable iter X.env x = pure x := by intro _; rfl) :
    PS X (.Assign [.Name y py] (.ListComp elt [⟨tg, iter, ifs, 0⟩] scope pos) spos) (tS X.K W (zAsg (xComp fi (own.map (·.2)) G ft fe) (gN i))) := PS.imp (ps_setLc hc hN hy hyl hsw hi ok hg ht he hs) fun Nd sg H hq => by
  obtain ⟨io, rho, dh, rs, rh, p⟩ := hq
  exact comp_te hG (toS_ok rs rh p fun io1 H1 d v h1 s1 rs1 rh1 r1 p1 => p1 io1 _ H1 .refl (rs1.set i r1) rh1)
theorem ds_setLcN {i : Nat} {y : Str} {py : Pos} {elt tg iter : Expr} {ifs : List Expr} {scope : Scope} {own : List (Str × Nat)} {pos spos : Pos} {fi : Ix} {g : TG} {G : Gx} {ft : Tx} {fe : Ex} (hc : X.calm = true) (hN : X.N.Nodup) (hy : X.N[i]? = some y) (hyl : X.env.scope.names.lookup y = some .local)
    (hsw : swapsWith (.ListComp elt [⟨tg, iter, ifs, 0⟩] scope pos) (some (.Name y py)) spos.line X.env = pure true) (hi : PI X tg iter (tI X.K W fi)) (ok : BlkOk X.N X.env.scope scope own)
    (hg : ∀ (s : Shared) (H : Hp) (C : Addr) (cl : List (Str × Addr)) (fp : List Addr), PG (X.blk s H scope (compEnvC scope cl C X.env) fp) tg g) (hG : TgW X.K (own.map (·.2)) g G) (ht : ∀ (s : Shared) (H : Hp) (C : Addr) (cl : List (Str × Addr)) (fp : List Addr), PTs (X.blk s H scope (compEnvC scope cl C X.env) fp) ifs (tT X.K W0 ft))
    (he : ∀ (s : Shared) (H : Hp) (C : Addr) (cl : List (Str × Addr)) (fp : List Addr), PE (X.blk s H scope (compEnvC scope cl C X.env) fp) elt (tX X.K W0 fe)) (hs : ∀ x, foldedSetIterable iter X.env x = pure x := by intro _; rfl) :
    PS X (.Assign [.Name y py] (.ListComp elt [⟨tg, iter, ifs, 0⟩] scope pos) spos) (tS X.K W (zAsg (xCompN fi (own.map (·.2)) G ft fe) (gN i))) := PS.imp (ps_setLc hc hN hy hyl hsw hi ok hg ht he hs) fun Nd sg H hq => by
  obtain ⟨io, rho, dh, rs, rh, p⟩ := hq
  exact comp_teN hG (toS_ok rs rh p fun io1 H1 d v h1 s1 rs1 rh1 r1 p1 => p1 io1 _ H1 .refl (rs1.set i r1) rh1)
end
end DL
set_option maxRecDepth 100000
set_option maxHeartbeats 2000000
namespace DL
open PySem PySem.Spec L2
open PyProof.Rows hiding St

/-! ### attributes -/
structure ClOk (K : PySem.W.Frag) (c : Cl) : Prop where
  cl : Cls K (He.ga K c.nm)
  na : ∀ f ∈ c.fs, NoAttr K (He.ga K c.nm) f
def fldAt (h : DH) (cs : List Cl) (k : Nat) (i : Nat) : Option D := match h[i]? with
  | some (.ins c vs) => if c ∈ cs then vs[k]? else none
  | _ => none
def xFld (cs : List Cl) (k : Nat) (fa : Ex) : Ex := fun r h => (fa r h).bnd fun d h1 => .of ((refD d).bind fun i => fldAt h1 cs k i) h1
theorem lookup_zip {c : List Str} {vs : List V} {k : Nat} {f : Str} {v : V} (nd : c.Nodup) (e1 : c[k]? = some f) (e2 : vs[k]? = some v) : (c.zip vs).lookup f = some v := by
  induction c generalizing vs k with
  | nil => simp at e1
  | cons a c ih =>
    cases vs with
    | nil => simp at e2
    | cons u vs =>
      cases k with
      | zero =>
        simp at e1 e2
        subst e1 e2
        show (match a == a with | true => some u | false => _) = some u
        rw [beq_self_eq_true]
      | succ k =>
        simp at e1 e2
        have hne : (f == a) = false := beq_eq_false_iff_ne.mpr fun e => by
          subst e
          exact (List.nodup_cons.mp nd).1 (List.mem_of_getElem? e1)
        show (match f == a with | true => some u | false => (c.zip vs).lookup f) = some v
        rw [hne]
        exact ih (List.nodup_cons.mp nd).2 e1 e2
theorem fs_nodup (c : Cl) : c.fs.Nodup := by cases c <;> decide +kernel
section
variable {X : Cx} {W : WX} {K : PySem.W.Frag} {io : Io} {H : Hp} {h : DH}
theorem fldAt_ok {cs : List Cl} {k i : Nat} {a : Addr} {d : D} (rh : RelH K io H h) (ei : io.nums[i]? = some a) (e : fldAt h cs k i = some d) : ∃ c ∈ cs, ∃ dx ds vs v, h[i]? = some (.ins c ds) ∧ H a = some (.ins (He.ga K c.nm) dx (c.fs.zip vs)) ∧ RelL K io H ds vs ∧ ds.length ≤ c.fs.length ∧ vs[k]? = some v ∧ RelD K io H d v := by
  unfold fldAt at e
  split at e
  · rename_i c ds e1
    split at e
    · rename_i hc
      obtain ⟨ho, h1, dx, vs, rfl, rl, le⟩ := rh.obj i a _ ei e1
      obtain ⟨v, ev, rv⟩ := rl.get e
      exact ⟨c, hc, dx, ds, vs, v, e1, h1, rl, le, ev, rv⟩
    · cases e
  · cases e
theorem de_fld {e : Expr} {f : Str} {pos : Pos} {fa : Ex} (cs : List Cl) (k : Nat) (hk : ∀ c ∈ cs, ClOk X.K c) (ha : PE X e (tX X.K W fa)) (hf : ∀ c ∈ cs, c.fs[k]? = some f := by decide +kernel) (hb : attributeBase e f X.env (eval e X.env) = eval e X.env := by rfl) : PE X (.Attribute e f pos) (tX X.K W (xFld cs k fa)) := PE.imp (pe_fld ha hb) fun sg H Q hq => by
  obtain ⟨io, rho, dh, rs, rh, p⟩ := hq
  refine bnd_ok rs rh p fun io1 H1 d v h1 s1 rs1 rh1 r1 p1 => ?_
  obtain ⟨d', e, q⟩ := Post.of p1
  cases d with
  | ref i =>
    cases r1 with
    | ref ei =>
      rename_i a
      obtain ⟨c, hc, dx, ds, vs, w, _, hH, _, _, ew, rw'⟩ := fldAt_ok rh1 ei e
      exact ⟨a, _, dx, _, w, rfl, hH, (hk c hc).cl, (hk c hc).na f (List.mem_of_getElem? (hf c hc)), lookup_zip (fs_nodup c) (hf c hc) ew, q io1 H1 w .refl rh1 rw'⟩
  | _ => cases e
/-- o.f = e -/
def putFd (vs : List D) (k : Nat) (d : D) : Option (List D) := if k < vs.length then some (vs.set k d) else if k = vs.length then some (vs ++ [d]) else none
def setFld (h : DH) (cs : List Cl) (k : Nat) (i : Nat) (d : D) : Option DH := match h[i]? with
  | some (.ins c vs) => if c ∈ cs then (putFd vs k d).map fun ws => h.set i (.ins c ws) else none
  | _ => none
def zFld (cs : List Cl) (k : Nat) (fo fv : Ex) : Sx := fun r h => (fv r h).toS r fun d h1 => (fo r h1).toS r fun o h2 => match (refD o).bind fun i => setFld h2 cs k i d with
  | some h3 => .nx r h3
  | none => .bad
theorem putF_zip {c : List Str} {vs : List V} {k : Nat} {f : Str} {v : V} (nd : c.Nodup) (e : c[k]? = some f) (hk : k ≤ vs.length) : putF f v (c.zip vs) = c.zip (if k < vs.length then vs.set k v else vs ++ [v]) := by
  induction c generalizing vs k with
  | nil => simp at e
  | cons a c ih =>
    cases k with
    | zero =>
      simp at e
      subst e
      cases vs with
      | nil => simp [putF]
      | cons u vs =>
        show (if a = a then (a, v) :: c.zip vs else _) = _
        rw [if_pos rfl]
        simp
    | succ k =>
      simp at e
      have hne : a ≠ f := fun z => by
        subst z
        exact (List.nodup_cons.mp nd).1 (List.mem_of_getElem? e)
      cases vs with
      | nil => simp at hk
      | cons u vs =>
        simp at hk
        show (if a = f then _ else (a, u) :: putF f v (c.zip vs)) = _
        rw [if_neg hne, ih (List.nodup_cons.mp nd).2 e hk]
        by_cases h1 : k < vs.length
        · simp [h1]
        · simp [h1]
theorem putFd_ok {ds ds' : List D} {vs : List V} {k : Nat} {d : D} {v : V} (rl : RelL K io H ds vs) (rd : RelD K io H d v) (e : putFd ds k d = some ds') : k ≤ vs.length ∧ RelL K io H ds' (if k < vs.length then vs.set k v else vs ++ [v]) ∧ (ds'.length ≤ max ds.length (k + 1)) := by
  unfold putFd at e
  rw [rl.length] at e
  split at e
  · rename_i h1
    cases e
    refine ⟨by omega, ?_, by simp; omega⟩
    rw [if_pos h1]
    exact rl.set k rd
  · rename_i h1
    split at e
    · rename_i h2
      cases e
      refine ⟨by omega, ?_, by simp; rw [rl.length]; omega⟩
      rw [if_neg h1]
      exact rl.append (.one rd)
    · cases e
theorem fs_few (c : Cl) : c.fs.length ≤ 3 := by cases c <;> decide
theorem setFld_ok {cs : List Cl} {k i : Nat} {a : Addr} {d : D} {v : V} {h' : DH} {f : Str} (hf : ∀ c ∈ cs, c.fs[k]? = some f) (rh : RelH K io H h) (ei : io.nums[i]? = some a) (rd : RelD K io H d v) (e : setFld h cs k i d = some h') : ∃ c ∈ cs, ∃ dx vs, H a = some (.ins (He.ga K c.nm) dx (c.fs.zip vs)) ∧ (c.fs.zip vs).length < 1000 ∧
    Stp io H io (upd H a (.ins (He.ga K c.nm) dx (putF f v (c.fs.zip vs)))) ∧ RelH K io (upd H a (.ins (He.ga K c.nm) dx (putF f v (c.fs.zip vs)))) h' := by
  unfold setFld at e
  split at e
  · rename_i c ds e1
    split at e
    · rename_i hc
      cases e2 : putFd ds k d with
      | none => rw [e2] at e; cases e
      | some ds' =>
        rw [e2] at e
        cases e
        obtain ⟨ho, h1, dx, vs, rfl, rl, le⟩ := rh.obj i a _ ei e1
        obtain ⟨k1, k2, k3⟩ := putFd_ok rl rd e2
        have hz : ∀ ob u, H a ≠ some (.frz ob u) := fun ob u z => by rw [h1] at z; cases z
        have hk : k < c.fs.length := (List.getElem?_eq_some_iff.mp (hf c hc)).1
        refine ⟨c, hc, dx, vs, h1, ?_, stp_put (List.mem_of_getElem? ei) hz, ?_⟩
        · have := fs_few c
          rw [List.length_zip]
          omega
        · refine rh.put ei hz ⟨dx, _, by rw [putF_zip (fs_nodup c) (hf c hc) k1], k2.stp (stp_put (List.mem_of_getElem? ei) hz), by omega⟩
    · cases e
  · cases e
theorem ds_fld {o value : Expr} {f : Str} {pos pos' : Pos} {fo fv : Ex} (cs : List Cl) (k : Nat) (hk : ∀ c ∈ cs, ClOk X.K c) (ho : PE X o (tX X.K W fo)) (hv : PE X value (tX X.K W fv)) (hf : ∀ c ∈ cs, c.fs[k]? = some f := by decide +kernel) (hs : swapsWith value (some (.Attribute o f pos')) pos.line X.env = pure false := by rfl) : PS X (.Assign [.Attribute o f pos'] value pos) (tS X.K W (zFld cs k fo fv)) := PS.imp (ps_fld ho hv hs) fun N sg H hq => by
  obtain ⟨io, rho, dh, rs, rh, p⟩ := hq
  refine toS_ok rs rh p fun io1 H1 d v h1 s1 rs1 rh1 r1 p1 => ?_
  refine toS_ok rs1 rh1 p1 fun io2 H2 o' x h2 s2 rs2 rh2 r2 p2 => ?_
  split at p2
  · rename_i h3 e
    cases o' with
    | ref i =>
      cases r2 with
      | ref ei =>
        rename_i a
        obtain ⟨c, hc, dx, vs, hH, hl, s3, rh3⟩ := setFld_ok hf rh2 ei (r1.stp s2) e
        exact ⟨a, _, dx, _, rfl, hH, (hk c hc).cl, (hk c hc).na f (List.mem_of_getElem? (hf c hc)), hl, p2 io2 sg _ s3 (rs2.stp s3) rh3⟩
    | _ => cases e
  · exact p2.elim
/-- o.f op= n -/
def zFldAug (cs : List Cl) (k : Nat) (op : Int → Int → Int) (fo fv : Ex) : Sx := fun r h => (fo r h).toS r fun o h1 => match (refD o).bind fun i => (fldAt h1 cs k i).map fun d => (i, d) with
  | some (i, .int x) => (fv r h1).toS r fun y h2 => match y with
    | .int y => (match setFld h2 cs k i (.int (op x y)) with
      | some h3 => .nx r h3
      | none => .bad)
    | _ => .bad
  | _ => .bad
theorem ds_fldaug {o value : Expr} {f : Str} {pos tpos : Pos} {fo fv : Ex} {ao : Operator} {op : Int → Int → Int} (c0 : Cl) (k : Nat) (hk : ClOk X.K c0) (hop : InOp X ao (fun x y H Q => ∃ i j, x = .int i ∧ y = .int j ∧ Q (.int (op i j)) H)) (ho : PE X o (tX X.K W fo)) (hv : PE X value (tX X.K W fv)) (hf : c0.fs[k]? = some f := by decide +kernel) : PS X (.AugAssign (.Attribute o f tpos) ao value pos) (tS X.K W (zFldAug [c0] k op fo fv)) := PS.imp (ps_fldaug ho hv hop) fun N sg H hq => by
  obtain ⟨io, rho, dh, rs, rh, p⟩ := hq
  refine toS_ok rs rh p fun io1 H1 o' x h1 s1 rs1 rh1 r1 p1 => ?_
  cases o' with
  | ref i =>
    cases r1 with
    | ref ei =>
      rename_i a
      replace p1 : PostS X.K W io1 H1 N (match (fldAt h1 [c0] k i).map fun d => (i, d) with
        | some (i, .int x) => (fv rho h1).toS rho fun y h2 => match y with
          | .int y => (match setFld h2 [c0] k i (.int (op x y)) with
            | some h3 => .nx rho h3
            | none => .bad)
          | _ => .bad
        | _ => .bad) := p1
      cases e1 : fldAt h1 [c0] k i with
      | none => rw [e1] at p1; exact p1.elim
      | some d =>
        rw [e1] at p1
        obtain ⟨c, hc, dx, ds, vs, w, _, hH, _, _, ew, rw'⟩ := fldAt_ok rh1 ei e1
        have hc0 : c = c0 := by simpa using hc
        subst hc0
        cases d with
        | int n =>
          cases rw'
          refine ⟨a, _, dx, _, _, rfl, hH, hk.cl, hk.na f (List.mem_of_getElem? hf), lookup_zip (fs_nodup c) hf ew, ?_⟩
          refine toS_ok rs1 rh1 p1 fun io2 H2 y u h2 s2 rs2 rh2 r2 p2 => ?_
          cases y with
          | int m =>
            cases r2
            simp only at p2
            cases e3 : setFld h2 [c] k i (.int (op n m)) with
            | none => rw [e3] at p2; exact p2.elim
            | some h3 =>
              rw [e3] at p2
              obtain ⟨c', hc', dx', vs', hH', hl, s3, rh3⟩ := setFld_ok (f := f) (fun c' hc' => by simp at hc'; subst hc'; exact hf) rh2 (s2.at ei) (.int (op n m)) e3
              have hc1 : c' = c := by simpa using hc'
              subst hc1
              exact ⟨n, m, rfl, rfl, dx', _, hH', hl, p2 io2 sg _ s3 (rs2.stp s3) rh3⟩
          | _ => exact p2.elim
        | _ => exact p1.elim
  | _ => exact p1.elim
/-! ### items stored -/
def setIt (h : DH) (o i v : D) : Option DH := match o with
  | .ref j => match h[j]? with
    | some (.lst xs) => (intD i).bind fun k => (ixN xs.length k).map fun n => h.set j (.lst (xs.set n v))
    | some (.dct es) => (keyD i).bind fun k => if es.length < sizeLine then some (h.set j (.dct (putD es k v))) else none
    | _ => none
  | _ => none
def rSetD (K : PySem.W.Frag) : TSet := fun o i v H Q => ∃ io h do' di dv h', RelD K io H do' o ∧ RelD K io H di i ∧ RelD K io H dv v ∧ RelH K io H h ∧ setIt h do' di dv = some h' ∧ ∀ H', Stp io H io H' → RelH K io H' h' → Q H'
theorem set_D (hu : X.A.units + 1 < cLine) : PSet X (rSetD X.K) := by
  intro pins s sg H o i v ov iv u Q I ro ri rv hq
  obtain ⟨io, h, do', di, dv, h', r1, r2, r3, rh, e, q⟩ := hq
  unfold setIt at e
  cases do' with
  | ref j =>
    cases r1 with
    | ref ej =>
      rename_i a
      simp only at e
      split at e
      · rename_i xs e1
        obtain ⟨ho, h1, vs, rfl, rl⟩ := rh.obj j a _ ej e1
        cases di with
        | int k =>
          cases r2
          simp only [intD, Option.bind_some] at e
          cases e2 : ixN xs.length k with
          | none => rw [e2] at e; cases e
          | some n =>
            rw [e2] at e
            cases e
            have hz : ∀ ob u, H a ≠ some (.frz ob u) := fun ob u z => by rw [h1] at z; cases z
            have st := stp_put (o := .lst (vs.set n v)) (List.mem_of_getElem? ej) hz
            refine set_list pins s sg H _ _ v ov iv u Q I ro ri rv ⟨a, vs, k, n, rfl, rfl, h1, by rw [← rl.length]; exact e2, ?_⟩
            exact q _ st (rh.put ej hz ⟨_, rfl, (rl.set n r3).stp st⟩)
        | _ => cases e
      · rename_i es e1
        obtain ⟨ho, h1, vs, rfl, rl⟩ := rh.obj j a _ ej e1
        cases e2 : keyD di with
        | none => rw [e2] at e; cases e
        | some k =>
          rw [e2] at e
          simp only [Option.bind_some] at e
          split at e
          · rename_i hl
            cases e
            have ek := keyD_ok r2 e2
            subst ek
            have hz : ∀ ob u, H a ≠ some (.frz ob u) := fun ob u z => by rw [h1] at z; cases z
            have st := stp_put (o := .dK (putK vs k v)) (List.mem_of_getElem? ej) hz
            cases (show ov = Value.ref a from ro)
            refine d_setItem hu I (.inl ⟨vs, k, h1, rfl, by rw [← rl.length]; exact hl, rfl⟩) ri rv fun s' I' => ⟨_, I', ?_⟩
            exact q _ st (rh.put ej hz ⟨_, rfl, (rl.put k r3).stp st⟩)
          · cases e
      · cases e
  | _ => cases e
def zItem (fo fi fv : Ex) : Sx := fun r h => (fv r h).toS r fun v h1 => (fo r h1).toS r fun o h2 => (fi r h2).toS r fun i h3 => match setIt h3 o i v with
  | some h4 => .nx r h4
  | none => .bad
theorem ds_item {o i e : Expr} {pos tpos : Pos} {fo fi fv : Ex} (hu : X.A.units + 64 < cLine) (ho : PE X o (tX X.K W fo)) (hi : PE X i (tX X.K W fi)) (hv : PE X e (tX X.K W fv))
    (ha : ∀ v, assign (.Subscript o i tpos) X.env v = (do
      let ov ← holding [v] (eval o X.env)
      let iv ← holding [v, ov] (eval i X.env)
      standAt tpos
      holding [v, ov, iv] (setItem ov iv v)
      release [v, ov, iv] []) := by intro _; rfl) (hs : swapsWithSole [.Subscript o i tpos] e pos.line X.env = pure false := by rfl) (hw : swappedStores [.Subscript o i tpos] e X.env = pure none := by rfl)
    (h1 : (assignEach [.Subscript o i tpos] X.env).map (·.2) = [assign (.Subscript o i tpos) X.env] := by rfl) : PS X (.Assign [.Subscript o i tpos] e pos) (tS X.K W (zItem fo fi fv)) := PS.imp (ps_asg hv (pg_sub ho hi (set_D (by omega)) ha) hs hw h1) fun N sg H hq => by
  obtain ⟨io, rho, dh, rs, rh, p⟩ := hq
  refine toS_ok rs rh p fun io1 H1 d v h1 s1 rs1 rh1 r1 p1 => ?_
  refine toS_ok rs1 rh1 p1 fun io2 H2 o' x h2 s2 rs2 rh2 r2 p2 => ?_
  refine toS_ok rs2 rh2 p2 fun io3 H3 i' y h3 s3 rs3 rh3 r3 p3 => ?_
  split at p3
  · rename_i h4 e
    exact ⟨io3, h3, o', i', d, h4, r2.stp s3, r3, (r1.stp s2).stp s3, rh3, e, fun H' s r => p3 io3 sg H' s (rs3.stp s) r⟩
  · exact p3.elim
/-! ### xs.append(e) -/
def appD (h : DH) (o v : D) : Option DH := match o with
  | .ref j => match h[j]? with
    | some (.lst xs) => if xs.length < sizeLine then some (h.set j (.lst (xs ++ [v]))) else none
    | _ => none
  | _ => none
def xApp (fo fv : Ex) : Ex := fun r h => (fo r h).bnd fun o h1 => match lstOf h1 o with
  | some _ => (fv r h1).bnd fun v h2 => (match appD h2 o v with
    | some h3 => .ok .non h3
    | none => .bad)
  | none => .bad
theorem de_app {o e : Expr} {apos cpos : Pos} {fo fv : Ex} (ho : PE X o (tX X.K W fo)) (hv : PE X e (tX X.K W fv)) (hbase : attributeBase o "append" X.env (eval o X.env) = eval o X.env := by rfl)
    (hfew : ((backTo cpos (starEach [e] X.env)).all (fun x => !x.1) && (backToKw cpos (keywordEach [] X.env)).all (fun x => x.1.isSome)
      && decide (([e] : List Expr).length + ([] : List Keyword).length + (if ([] : List Keyword).isEmpty then 0 else 1) < 30)) = true := by rfl)
    (hline : (apos.endLine == cpos.line) = true := by rfl) (hs : starEach [e] X.env = (false, eval e X.env) :: starEach [] X.env := by rfl) : PE X (.Call (.Attribute o "append" apos) [e] [] cpos) (tX X.K W (xApp fo fv)) :=
  PE.imp (pe_bm PySem.F.plainAttrs_list PySem.F.slot_list_append PySem.F.type_list_append mt_append ho (pa_cons hv pa_nil hs) hbase hfew hline hs (by rfl)) fun sg H Q hq => by
  obtain ⟨io, rho, dh, rs, rh, p⟩ := hq
  refine bnd_ok rs rh p fun io1 H1 o' x h1 s1 rs1 rh1 r1 p1 => ?_
  split at p1
  · rename_i ys e0
    obtain ⟨a0, vs0, rfl, hh0, _⟩ := lstOf_ok r1 rh1 e0
    refine ⟨.inl ⟨rfl, vs0, .inl (.inl hh0)⟩, ?_⟩
    refine bnd_ok rs1 rh1 p1 fun io2 H2 v' y h2 s2 rs2 rh2 r2 p2 => ?_
    split at p2
    · rename_i h3 e
      unfold appD at e
      cases o' with
      | ref j =>
        cases r1 with
        | ref ej =>
          simp only at e
          split at e
          · rename_i xs e1
            split at e
            · rename_i hl
              cases e
              obtain ⟨ho, hh, vs, rfl, rl⟩ := rh2.obj j a0 _ (s2.at ej) e1
              have hz : ∀ ob u, H2 a0 ≠ some (.frz ob u) := fun ob u z => by rw [hh] at z; cases z
              have st := stp_put (o := .lst (vs ++ [y])) (List.mem_of_getElem? (s2.at ej)) hz
              exact ⟨a0, vs, y, rfl, rfl, hh, by rw [← rl.length]; exact hl, p2 io2 _ _ st (rh2.put (s2.at ej) hz ⟨_, rfl, (rl.append (.one r2)).stp st⟩) .non⟩
            · cases e
          · cases e
      | _ => cases e
    · exact p2.elim
  · exact p1.elim
end
end DL
set_option maxRecDepth 100000
set_option maxHeartbeats 2000000
namespace DL
open PySem PySem.Spec L2
open PyProof.Rows hiding St

/-! ### try .. except X: .. -/
def noEr : OutS → OutS
  | .er _ _ _ => .bad
  | .nx r h => .nx r h
  | .rt v h => .rt v h
  | .bk r h => .bk r h
  | .ct r h => .ct r h
  | .bad => .bad
def catch_ (c : Ec) (r : Rho) (h : DH) : List (Ec × Sx) → OutS
  | [] => .er c r h
  | (c', f) :: rest => if c.isSub c' then noEr (f r h) else catch_ c r h rest
def zTry (body : Sx) (hs : List (Ec × Sx)) : Sx := fun r h => match body r h with
  | .er c r1 h1 => catch_ c r1 h1 hs
  | .nx r1 h1 => .nx r1 h1
  | .rt v h1 => .rt v h1
  | .bk r1 h1 => .bk r1 h1
  | .ct r1 h1 => .ct r1 h1
  | .bad => .bad
def hdl (K : PySem.W.Frag) (hs : List (Ec × Sx)) : List (Value × (Addr → Value → Option Addr → TS)) := hs.map fun p => (.ref (He.ga K p.1.nm), fun _ _ _ => tS K W0 p.2)
section
variable {X : Cx} {W : WX}
theorem noEr_post {K : PySem.W.Frag} {io : Io} {H : Hp} {N : Ends} {o : OutS} (p : PostS K W io H N (noEr o)) : PostS K W0 io H N o := by
  cases o with
  | er c r h => exact p.elim
  | nx r h => exact p
  | rt v h => exact p
  | bk r h => exact p
  | ct r h => exact p
  | bad => exact p
theorem catch_ok {K : PySem.W.Frag} {c : Ec} {r : Rho} {h : DH} {N : Ends} (xo : XOk K c) : ∀ {hs : List (Ec × Sx)} {io : Io} {H : Hp} {sg : St}, (∀ p ∈ hs, (He.Fa.glo p.1.nm).ok K = true) → PostS K W io H N (catch_ c r h hs) → RelS K io H r sg → RelH K io H h → wMany K W N (hdl K hs) (.ref (He.ga K c.nm)) none sg H
  | [], io, H, sg, _, p, rs, rh => p xo io sg H .refl rs rh
  | (c', f) :: rest, io, H, sg, hp, p, rs, rh => by
    refine ⟨c.isSub c', xo c' (hp _ List.mem_cons_self), fun e a ha => ?_, fun e => ?_⟩
    · simp only [catch_] at p
      rw [if_pos e] at p
      exact ⟨io, r, h, rs, rh, noEr_post p⟩
    · simp only [catch_] at p
      rw [e, if_neg Bool.false_ne_true] at p
      exact catch_ok xo (fun p hq => hp p (List.mem_cons_of_mem _ hq)) p rs rh
structure HdsD (X : Cx) (hds : List ExceptHandler) (hs : List (Ec × Sx)) : Prop where
  ok : HdsOk X hds (hdl X.K hs)
  here : ∀ p ∈ hs, (He.Fa.glo p.1.nm).ok X.K = true
theorem hds_nil : HdsD X [] [] := ⟨.nil, fun _ z => nomatch z⟩
structure HereD (K : PySem.W.Frag) (mg : Str → Option Value) (c : Ec) : Prop where
  mg : mg c.nm = some (.ref (He.ga K c.nm))
  here : (He.Fa.glo c.nm).ok K = true
theorem hds_cons {c : Ec} {b0 : Stmt} {suite : List Stmt} {np pos' : Pos} {hds : List ExceptHandler} {f : Sx} {hs : List (Ec × Sx)} (hh : HereD X.K X.mg c) (hsu : ∀ (a : Addr) (oe : Obj) (pn : List (Addr × Obj)), PSs (X.suite a ((a, oe) :: pn)) (b0 :: suite) (tS X.K W0 f)) (r : HdsD X hds hs) (hg : Gl X c.nm := by rfl) (hd : (c.nm == ("__debug__" : Str)) = false := by decide) :
    HdsD X (.ExceptHandler (some (.Name c.nm np)) none (b0 :: suite) pos' :: hds) ((c, f) :: hs) :=
  ⟨.cons ⟨hg, hd, .inl hh.mg⟩ (fun a oe cls d pn _ _ => hsu a oe pn) r.ok, fun p hp => by
    rcases List.mem_cons.mp hp with e | e
    · subst e; exact hh.here
    · exact r.here p e⟩
theorem ds_try {body : List Stmt} {h0 : ExceptHandler} {hds : List ExceptHandler} {pos : Pos} {fb : Sx} {hs : List (Ec × Sx)} (tk : Takes X W)
    (hb : ∀ (W' : WX) (pn : List (Addr × Obj)) (xe : Value → Shared → Prop), Takes (X.tr pn xe) W' → PassesOwn (model X.prog X.w) X.A X.env xe → PSs (X.tr pn xe) body (tS X.K W' fb)) (hh : HdsD X (h0 :: hds) hs) (hst : X.stack = X.env :: X.outer := by rfl) (hf : X.env.frame = some X.env.locals := by rfl) : PS X (.Try body (h0 :: hds) [] [] pos) (tS X.K W (zTry fb hs)) :=
  PS.imp (ps_try_many (tb := fun W' => tS X.K W' fb) hst hf tk hb hh.ok) fun N sg H hq => by
  obtain ⟨io, rho, dh, rs, rh, p⟩ := hq
  refine ⟨io, rho, dh, rs, rh, ?_⟩
  unfold zTry at p
  cases e : fb rho dh with
  | nx r h => rw [e] at p; exact p
  | rt v h => rw [e] at p; exact p
  | bk r h => rw [e] at p; exact p
  | ct r h => rw [e] at p; exact p
  | bad => rw [e] at p; exact p
  | er c r h =>
    rw [e] at p
    exact fun xo io' sg' H' s rs' rh' => catch_ok xo hh.here (PostS.stp p s) rs' rh'
theorem takesW0 {Y : Cx} : Takes Y W0 := takes0
/-! ### while -/
def zWhile (c : Tx) (b : Sx) : Nat → Rho → DH → OutS
  | 0, _, _ => .bad
  | n + 1, r, h => (c r h).toS r fun k h1 => match k with
    | false => .nx r h1
    | true => match b r h1 with
      | .nx r2 h2 => zWhile c b n r2 h2
      | .ct r2 h2 => zWhile c b n r2 h2
      | .bk r2 h2 => .nx r2 h2
      | .rt v h2 => .rt v h2
      | .er c r2 h2 => .er c r2 h2
      | .bad => .bad
theorem ds_while {c : Expr} {body : List Stmt} {pos : Pos} {fc : Tx} {fb : Sx} (n : Nat) (hp : PassesOwn (model X.prog X.w) X.A X.env X.xe) (hc : PT X c (tT X.K W fc)) (hb : PSs X body (tS X.K W fb)) : PS X (.While c body [] pos) (tS X.K W (zWhile fc fb n)) := PS.imp (ps_while hp hc hb) fun N sg H hq => by
  obtain ⟨io, rho, dh, rs, rh, p⟩ := hq
  refine ⟨fun m sg H => ∃ io r h, RelS X.K io H r sg ∧ RelH X.K io H h ∧ PostS X.K W io H N (zWhile fc fb m r h), ⟨n, io, rho, dh, rs, rh, p⟩, fun m sg H hv => ?_⟩
  obtain ⟨io, rho, dh, rs, rh, p⟩ := hv
  cases m with
  | zero => exact p.elim
  | succ m =>
    simp only [zWhile] at p
    refine toS_ok rs rh p fun io1 H1 b b' h1 s1 rs1 rh1 r1 p1 => ?_
    cases r1
    cases b with
    | false => rw [if_neg Bool.false_ne_true]; exact p1 io1 sg H1 .refl rs1 rh1
    | true =>
      rw [if_pos rfl]
      refine ⟨fun sg' H' => ∃ m', m' < m + 1 ∧ ∃ io r h, RelS X.K io H' r sg' ∧ RelH X.K io H' h ∧ PostS X.K W io H' N (zWhile fc fb m' r h), fun sg' H' z => z, io1, rho, h1, rs1, rh1, ?_⟩
      cases e : fb rho h1 with
      | nx r2 h2 => simp only [e] at p1; exact fun io4 sg4 H4 s4 rs4 rh4 => ⟨m, by omega, io4, r2, h2, rs4, rh4, PostS.stp p1 s4⟩
      | ct r2 h2 => simp only [e] at p1; exact fun io4 sg4 H4 s4 rs4 rh4 => ⟨m, by omega, io4, r2, h2, rs4, rh4, PostS.stp p1 s4⟩
      | bk r2 h2 => simp only [e] at p1; exact p1
      | rt v h2 => simp only [e] at p1; exact p1
      | er c r2 h2 => simp only [e] at p1; exact p1
      | bad => simp only [e] at p1; exact p1
/-! ### x += e -/
def zAug (i : Nat) (op : Int → Int → Int) (fa : Ex) : Sx := fun r h => match r[i]? with
  | some (some (.int x)) => (fa r h).toS r fun d h1 => match d with
    | .int y => .nx (r.set i (some (.int (op x y)))) h1
    | _ => .bad
  | _ => .bad
theorem ds_aug {x : Str} {e : Expr} {pos pos' : Pos} {ao : Operator} {op : Int → Int → Int} {fa : Ex} (i : Nat) (hN : X.N.Nodup) (ho : PIp X ao (ipI op)) (ha : PE X e (tX X.K W fa)) (hi : X.N[i]? = some x := by rfl) (hx : Loc X.env.scope x := by first | exact Or.inl rfl | exact Or.inr rfl) (hf : X.fn x = true ∨ X.env.scope.names.lookup x = some .local := by first | exact .inl rfl | exact .inr rfl) : PS X (.AugAssign (.Name x pos') ao e pos) (tS X.K W (zAug i op fa)) := PS.imp (ps_aug hN hi hx ha ho hf) fun N sg H hq => by
  obtain ⟨io, rho, dh, rs, rh, p⟩ := hq
  unfold zAug at p
  split at p
  · rename_i n e1
    obtain ⟨v, ev, rv⟩ := rs.get e1
    cases rv
    refine ⟨_, ev, toS_ok rs rh p fun io1 H1 d w h1 s1 rs1 rh1 r1 p1 => ?_⟩
    cases d with
    | int m =>
      cases r1
      exact ⟨n, m, rfl, rfl, p1 io1 _ H1 .refl (rs1.set i (.int _)) rh1⟩
    | _ => exact p1.elim
  · exact p.elim
theorem de_notT {a : Expr} {pos : Pos} {fa : Ex} (ha : PE X a (tX X.K W fa)) : PE X (.UnaryOp .Not a pos) (tX X.K W (xNotT fa)) := ⟨fun pins s sg H Q I hq => by
  have h2 : tX X.K W fa sg H fun x H1 => rTru X.K x H1 fun b H2 => Q (.bl (!b)) H2 := by
    obtain ⟨io, rho, dh, rs, rh, p⟩ := hq
    refine bnd_ok rs rh p fun io1 H1 x v h1 s1 rs1 rh1 r1 p1 => ?_
    obtain ⟨d, e, q⟩ := Post.of p1
    cases e1 : truD h1 x with
    | none => rw [e1] at e; cases e
    | some b =>
      rw [e1] at e
      cases e
      exact ⟨io1, h1, x, b, r1, rh1, e1, q io1 H1 _ .refl rh1 (.bl _)⟩
  refine UnaryOp_ (thn (ha.run pins s sg H _ I h2) fun v s1 ⟨x, H1, I1, r1, q1⟩ => ?_)
  exact not_of (thn (tru_D pins s1 sg H1 x v (fun c H2 => Q (.bl (!c)) H2) I1 r1 q1) fun c s2 ⟨H2, I2, q2⟩ => ⟨.bl (!c), H2, I2, rfl, q2⟩)⟩
/-! ### isinstance -/
inductive Tk where
  | non | bool | int | str | tuple | list | dict
  deriving DecidableEq
def Tk.nm : Tk → String
  | .non => "NoneType"
  | .bool => "bool"
  | .int => "int"
  | .str => "str"
  | .tuple => "tuple"
  | .list => "list"
  | .dict => "dict"
def Tk.sub (a b : Tk) : Bool := decide (a = b) || (decide (a = .bool) && decide (b = .int))
theorem Tk.kit (a b : Tk) (h : b ≠ .non) : kitB a.nm b.nm = some (a.sub b) := by
  cases a <;> cases b <;> first | exact absurd rfl h | decide +kernel
def tkOf (h : DH) : D → Option Tk
  | .non => some .non
  | .bl _ => some .bool
  | .int _ => some .int
  | .str _ => some .str
  | .tup _ => some .tuple
  | .lst _ => some .list
  | .dct _ => none
  | .scr _ => some .list
  | .ref i => match h[i]? with
    | some (.lst _) => some .list
    | some (.dct _) => some .dict
    | _ => none
theorem tkOf_ok {K : PySem.W.Frag} {io : Io} {H : Hp} {h : DH} {d : D} {x : V} {t : Tk} (r : RelD K io H d x) (rh : RelH K io H h) (e : tkOf h d = some t) : TyX K H x (.type t.nm) := by
  cases r with
  | non => cases e; exact .base .non
  | bl b => cases e; exact .base (.bl b)
  | int i => cases e; exact .base (.int i)
  | str y => cases e; exact .base (.str y)
  | tup f rl =>
    cases e
    rcases f with ⟨(f | ⟨o, f⟩), _⟩ | ⟨o, its, n, f1, f2, _⟩
    · exact .base (.tup f)
    · exact .fTuple f
    · exact .kTuple f1 f2
  | lst f rl => cases e; exact .base (.lst f.1)
  | dct f rl => cases e
  | scr f =>
    cases e
    rcases f with ⟨o, f⟩ | ⟨o, its, n, f1, f2, _⟩
    · exact .base (.frz f)
    · exact .kList f1 f2
  | ref ei =>
    rename_i i a
    simp only [tkOf] at e
    split at e
    · rename_i xs e1
      cases e
      obtain ⟨ho, h1, vs, rfl, rl⟩ := rh.obj i a _ ei e1
      exact .base (.lst h1)
    · rename_i es e1
      cases e
      obtain ⟨ho, h1, vs, rfl, rl⟩ := rh.obj i a _ ei e1
      exact .base (.dK h1)
    · cases e
def xIs (t : Tk) (fa : Ex) : Ex := xUn (fun h d => (tkOf h d).map fun k => .bl (k.sub t)) fa
theorem isi_of {c : V} {u : Value} (hc : ClsV c u) {o : P1} (ho : ∀ io H h d x b, RelD X.K io H d x → RelH X.K io H h → o h d = some b → ∃ t k, TyX X.K H x t ∧ PySem.W.kitOne X.K t u = some k ∧ b = .bl k) {e eT : Expr} {p pos : Pos} {fa : Ex} (ha : PE X e (tX X.K W fa)) (hT : PE X eT (tC c)) (hm : X.mg "isinstance" = none) (hg : Gl X "isinstance" := by rfl)
    (he : starEach [e, eT] X.env = (false, eval e X.env) :: starEach [eT] X.env := by rfl) (he' : starEach [eT] X.env = (false, eval eT X.env) :: starEach [] X.env := by rfl) (hpl : (backTo pos (starEach [eT] X.env)).any (·.1) = false := by rfl) : PE X (.Call (.Name "isinstance" p) [e, eT] [] pos) (tX X.K W (xUn o fa)) :=
  PE.imp (pe_callB call_isi hg hm (by decide +kernel) (pa_cons ha (pa_cons hT pa_nil he') he) (by decide) (by decide) he hpl) fun sg H Q hq => by
  obtain ⟨io, rho, dh, rs, rh, p⟩ := hq
  refine bnd_ok rs rh p fun io1 H1 x v h1 s1 rs1 rh1 r1 p1 => ?_
  obtain ⟨d, e, q⟩ := Post.of p1
  obtain ⟨t, k, ty, kt, rfl⟩ := ho io1 H1 h1 x v d r1 rh1 e
  exact ⟨v, c, t, u, k, rfl, hc, ty, kt, q io1 H1 _ .refl rh1 (.bl k)⟩
theorem de_is {e : Expr} {p pT pos : Pos} {fa : Ex} (t : Tk) (x : Str) (ht : t ≠ .non) (hx : bootBuiltins x = some (.type t.nm)) (ha : PE X e (tX X.K W fa)) (hm : X.mg "isinstance" = none) (hmx : X.mg x = none) (hgx : Gl X x := by rfl) (hn : x ≠ "__name__" := by decide) (hd : (x == ("__debug__" : Str)) = false := by decide) (hg : Gl X "isinstance" := by rfl)
    (he : starEach [e, .Name x pT] X.env = (false, eval e X.env) :: starEach [.Name x pT] X.env := by rfl) (he' : starEach [.Name x pT] X.env = (false, eval (.Name x pT) X.env) :: starEach [] X.env := by rfl) (hpl : (backTo pos (starEach [.Name x pT] X.env)).any (·.1) = false := by rfl) : PE X (.Call (.Name "isinstance" p) [e, .Name x pT] [] pos) (tX X.K W (xIs t fa)) :=
  isi_of (.ty t.nm) (fun io H h d x b r rh e => by
    cases e1 : tkOf h d with
    | none => rw [e1] at e; cases e
    | some k =>
      rw [e1] at e
      cases e
      exact ⟨_, _, tkOf_ok r rh e1, kit_ty (Tk.kit k t ht), rfl⟩) ha (pe_bltn hgx hmx hx rfl hn hd) hm hg he he' hpl
/-- what isinstance(.., C) asks of an own class C -/
structure IsOwn (K : PySem.W.Frag) (mg : Str → Option Value) (c : Cl) : Prop where
  mg : mg c.nm = some (.ref (He.ga K c.nm))
  cl : Cls K (He.ga K c.nm)
  ha : PySem.W.findIn K (.ref (He.ga K c.nm)) "__class__" = some (some (.builtin "object.__class__"))
  hn : PySem.W.specialIn K (.builtin "object.__class__") "__get__" = some (some (.builtin "getset_descriptor.__get__"))
  htk : PySem.W.takesIn K (.builtin "object.__class__") = some true
  hm : PySem.W.mroIn K (He.ga K c.nm) (.type "object") = some true
  yes : PySem.W.kitOne K (.ref (He.ga K c.nm)) (.ref (He.ga K c.nm)) = some true
  no : ∀ t : Tk, PySem.W.kitOne K (.type t.nm) (.ref (He.ga K c.nm)) = some false
def isOwnB (c : Cl) : P1 := fun h d => match tkOf h d with
  | some _ => some (.bl false)
  | none => match refD d with
    | some i => if isCl h c i then some (.bl true) else none
    | none => none
theorem de_isOwn {e : Expr} {p pT pos : Pos} {fa : Ex} (c : Cl) (O : IsOwn X.K X.mg c) (ha : PE X e (tX X.K W fa)) (hm : X.mg "isinstance" = none) (hgx : Gl X c.nm := by rfl) (hd : (c.nm == ("__debug__" : Str)) = false := by decide) (hg : Gl X "isinstance" := by rfl)
    (he : starEach [e, .Name c.nm pT] X.env = (false, eval e X.env) :: starEach [.Name c.nm pT] X.env := by rfl) (he' : starEach [.Name c.nm pT] X.env = (false, eval (.Name c.nm pT) X.env) :: starEach [] X.env := by rfl) (hpl : (backTo pos (starEach [.Name c.nm pT] X.env)).any (·.1) = false := by rfl) : PE X (.Call (.Name "isinstance" p) [e, .Name c.nm pT] [] pos) (tX X.K W (xUn (isOwnB c) fa)) :=
  isi_of (.own _) (fun io H h d x b r rh e => by
    unfold isOwnB at e
    split at e
    · rename_i t e1
      cases e
      exact ⟨_, _, tkOf_ok r rh e1, O.no t, rfl⟩
    · split at e
      · rename_i i e2
        split at e
        · rename_i e3
          cases e
          cases d with
          | ref j =>
            cases e2
            cases r with
            | ref ei =>
              obtain ⟨dx, ds, vs, h1, _⟩ := isCl_ok rh ei e3
              exact ⟨_, _, .base (.ins h1 O.cl O.ha O.hn O.htk O.hm), O.yes, rfl⟩
          | _ => cases e2
        · cases e
      · cases e) ha (pe_glob hgx O.mg rfl hd) hm hg he he' hpl
end
end DL
namespace DL
open PySem PySem.Spec L2
def c_CELLS : D := .int 8
def c_MOST_CELL : D := .int 999
def c_MOST_BLOCKS : D := .int 200
def c_MOST_STEPS : D := .int 100000
def c_MARK : D := .int 77
def c_HEAD : D := .int 8
def c_FIRST_NODE : D := .int 9
def c_POINTERS : D := .int 5
def c_MOST_SIZE : D := .int 40
def c_FILE : D := .int 1
def c_DRAWER : D := .int 2
def c_MOST_WAY : D := .int 6
def c_MOST_WRITES : D := .int 7
def c_SMALL : D := .str "abcdefghijklmnopqrstuvwxyz"
def c_FREE : D := .tup [.int 0, .int 0, .int 0, .int 0, .int 0, .int 0, .int 0, .int 0]
theorem glo_free {K : PySem.W.Frag} {x : Str} (h1 : (He.Fa.glo x).ok K = true) (h2 : (He.Fa.free x).ok K = true) : False := by
  have e1 := He.eqO_ok h1
  have e2 := He.eqO_ok h2
  rw [e1] at e2
  cases e2
def whileFuel : Nat := 1000
end DL
set_option maxRecDepth 100000
set_option maxHeartbeats 2000000
namespace DL
open PySem PySem.Spec L2
open PyProof.Rows hiding St
/-- the end of a law -/
theorem walk_law {l : PySem.W.OpenLaw} {k : Nat} {q : Program} {loose : List Str} {XP : (Str → Option Value) → Heap → Prop} {YP : World → Heap → Prop} {d : DefRec} {F : Fn}
    (hn : l.most = some 63) (hdf : d.params.defaults = []) (hr : Room k callerA) (law : ∀ ns : List Int, ns.length ≤ 63 → ∃ h', F [.scr ns] [] = .ok (.bl true) h')
    (G : ∀ (w : World) (mg : Str → Option Value) (fa : Addr) (h : Heap), YP w h → h.Ns mainGlobals mg → mg d.name = some (.ref fa) →
      ∃ (K : PySem.W.Frag) (fd : FuncData), K.In h ∧ (∀ (s : Shared) (u : Value), BindsTo s fd ⟨[u], []⟩ [("script", u)]) ∧ ∀ base : Heap, K.In base → base.Ns mainGlobals mg → FnOk l.prog w K mg base (L2.CX l.prog w) k fa fd ["script"] (spD K 1 F)) :
    PySem.W.WalkO q loose XP YP l.row.toRowW d [] (fun f vs => PySem.call f vs) := by
  refine Att.attach_call hn hdf fun w s0 s1 mg mb fa o pm cd doc a vs ns Gd Y ho hd hcd hmg hobj hints hlen hg => ?_
  obtain ⟨K, fd, KX, hb, hF⟩ := G w mg fa _ Y Gd.T.g hmg
  refine law_call KX Gd.T.g Gd.T.b Gd.T.builtins Gd.T.nolimit hg hobj hints (Nat.le_trans hlen (by decide)) hr hF hb (fun H hO hS => ?_) fun H e s' z => ?_
  · obtain ⟨h', e⟩ := law ns hlen
    have sc : ScrAt K H a ns := by
      rcases hS with (z | ⟨o, z⟩) | z
      · rcases hO a with y | ⟨o, xs, y⟩
        · rw [y] at z; cases z
        · rw [y] at z; cases z
      · exact .inl ⟨o, z⟩
      · exact .inr z
    refine ⟨⟨[], []⟩, [], [.scr ns], .one (.scr sc), rfl, ⟨rfl, List.nodup_nil, (fun _ z => nomatch z), (fun i a o e => by simp at e)⟩, ?_⟩
    rw [e]
    intro io' H' b s r rb
    cases rb
    rfl
  · obtain ⟨a, B, H', cls, d, _, _, _, _, _, _, _, z⟩ := z
    exact z
end DL
set_option maxRecDepth 100000
set_option maxHeartbeats 2000000
namespace DL
open PySem PySem.Spec L2
open PyProof.Rows hiding St

/-! ### sorting, by insertion -/
def insG {α : Type} (lt : α → α → Bool) (n : α) : List α → List α
  | [] => [n]
  | m :: r => if lt m n then m :: insG lt n r else n :: m :: r
def sortG {α : Type} (lt : α → α → Bool) : List α → List α
  | [] => []
  | n :: r => insG lt n (sortG lt r)
def ltI (a b : Int) : Bool := decide (a < b)
abbrev sortI : List Int → List Int := sortG ltI
/-- without equal ones -/
def dupI : List Int → List Int
  | [] => []
  | n :: r => match dupI r with
    | [] => [n]
    | m :: q => if n = m then m :: q else n :: m :: q
def intsOf : List D → Option (List Int)
  | [] => some []
  | .int i :: r => (intsOf r).map (i :: ·)
  | _ => none
def strsOf : List D → Option (List Str)
  | [] => some []
  | .str i :: r => (strsOf r).map (i :: ·)
  | _ => none
/-- pairs of a text and a number -/
def prsOf : List D → Option (List (Str × Int))
  | [] => some []
  | .tup [.str x, .int i] :: r => (prsOf r).map ((x, i) :: ·)
  | _ => none
/-- a before b -/
def ltS (a b : Str) : Bool := ltCps a.cps.toList b.cps.toList
abbrev sortS : List Str → List Str := sortG ltS
def ltPr (a b : Str × Int) : Bool := ltS a.1 b.1 || (decide (a.1 = b.1) && decide (a.2 < b.2))
abbrev sortP : List (Str × Int) → List (Str × Int) := sortG ltPr
def dP (p : Str × Int) : D := .tup [.str p.1, .int p.2]
def itemsOf (h : DH) (d : D) : Option (List D) := match lstOf h d with
  | some xs => some xs
  | none => (dctOf h d).map fun es => es.map fun kv => dKey kv.1
def oSorted : P1 := fun h d => (itemsOf h d).bind fun ds => match intsOf ds with
  | some ns => if (lstOf h d).isSome || decide (ns.length < 64) then some (.lst ((sortI ns).map .int)) else none
  | none => match strsOf ds with
    | some ss => if ss.length < 64 then some (.lst ((sortS ss).map .str)) else none
    | none => if (lstOf h d).isSome then (prsOf ds).map fun ps => .lst ((sortP ps).map dP) else none
/-- sorted(set(xs)) of numbers -/
def oSortedSet : P1 := fun h d => (lstOf h d).bind fun ds => (intsOf ds).bind fun ns => if ns.length < 64 then some (.lst ((dupI (sortI ns)).map .int)) else none
/-- len(set(xs)) -/
def oLenSet : P1 := fun h d => (lstOf h d).bind fun ds => (intsOf ds).bind fun ns => if ns.length < 1000 then some (.int (dupI (sortI ns)).length) else none
/-! ### index -/
def ixD (y : D) : List D → Option Nat
  | [] => none
  | x :: r => if eqD x y then some 0 else (ixD y r).map (· + 1)
def smallS : Str := "abcdefghijklmnopqrstuvwxyz"
def oIndex : P2 := fun h x y => match lstOf h x with
  | some xs => if flatD y && xs.all flatD then (ixD y xs).map fun k => .int (k : Nat) else none
  | none => none
def oIndexS : P2 := fun _ x y => match x, y with
  | .str a, .str b => match b.cps.toList with
    | [c] => if a = smallS ∧ 97 ≤ c ∧ c ≤ 122 then some (.int ((c - 97 : Nat) : Int)) else none
    | _ => none
  | _, _ => none
def isLstB (h : DH) (d : D) : Bool := (lstOf h d).isSome
def isStrB (_ : DH) : D → Bool
  | .str _ => true
  | _ => false
/-- a method of one argument that changes nothing -/
def xMt (chk : DH → D → Bool) (op : P2) (fo fv : Ex) : Ex := fun r h => (fo r h).bnd fun x h1 => if chk h1 x then (fv r h1).bnd fun y h2 => .of (op h2 x y) h2 else .bad
/-! ### a dict's keys walked: it is locked -/
def iKeysD (fa : Ex) : Ix := fun r h => (fa r h).bnd fun d h1 => match refD d with
  | some i => match h1[i]? with
    | some (.dct es) => .ok (es.map fun kv => dKey kv.1) (h1.set i (.lck (.dct es)))
    | some (.lck (.dct es)) => .ok (es.map fun kv => dKey kv.1) h1
    | _ => .bad
  | none => .bad
/-! ### dict displays, items -/
def mkD (ks : List Key) (ds : List D) : List (Key × D) := (ks.zip ds).foldl (fun es kv => putD es kv.1 kv.2) []
def xDctE (ks : List Key) (fs : Ax) : Ex := fun r h => (fs r (h ++ [.dct []])).bnd fun ds h1 => match h1[h.length]? with
  | some (.dct []) => .ok (.ref h.length) (h1.set h.length (.dct (mkD ks ds)))
  | _ => .bad
def xGet (fo fk fd : Ex) : Ex := fun r h => (fo r h).bnd fun o h1 => match dctOf h1 o with
  | some _ => (fk r h1).bnd fun k h2 => (fd r h2).bnd fun d h3 => match dctOf h3 o, keyD k with
    | some es, some kk => .ok ((getK es kk).getD d) h3
    | _, _ => .bad
  | none => .bad
def numOf : D → Option Int
  | .int i => some i
  | _ => none
/-- o[i] op= v, o a dict -/
def zItemAug (op : Int → Int → Int) (fo fi fv : Ex) : Sx := fun r h => (fo r h).toS r fun o h1 => (fi r h1).toS r fun i h2 => match refD o, keyD i with
  | some a, some k => match h2[a]? with
    | some (.dct es) => match (getK es k).bind numOf with
      | some n => (fv r h2).toS r fun v h3 => match numOf v, h3[a]? with
        | some m, some (.dct es') => if es'.length < sizeLine then .nx r (h3.set a (.dct (putD es' k (.int (op n m))))) else .bad
        | _, _ => .bad
      | none => .bad
    | _ => .bad
  | _, _ => .bad
/-- o.pop(k), o a dict -/
def xPopK (fo fk : Ex) : Ex := fun r h => (fo r h).bnd fun o h1 => match refD o with
  | some a => match h1[a]? with
    | some (.dct _) => (fk r h1).bnd fun k h2 => match keyD k, h2[a]? with
      | some kk, some (.dct es) => match getK es kk with
        | some v => .ok v (h2.set a (.dct (dropD es kk)))
        | none => .bad
      | _, _ => .bad
    | _ => .bad
  | none => .bad
/-- o.pop(), o.pop(i), o a list -/
def xPopL (fo : Ex) : Ex := fun r h => (fo r h).bnd fun o h1 => match refD o with
  | some a => match h1[a]? with
    | some (.lst xs) => match xs[xs.length - 1]? with
      | some v => .ok v (h1.set a (.lst xs.dropLast))
      | none => .bad
    | _ => .bad
  | none => .bad
def xPopI (fo fi : Ex) : Ex := fun r h => (fo r h).bnd fun o h1 => match refD o with
  | some a => match h1[a]? with
    | some (.lst _) => (fi r h1).bnd fun i h2 => match numOf i, h2[a]? with
      | some n, some (.lst xs) => if 0 ≤ n ∧ n < xs.length then match xs[n.toNat]? with
          | some v => .ok v (h2.set a (.lst (xs.eraseIdx n.toNat)))
          | none => .bad
        else .bad
      | _, _ => .bad
    | _ => .bad
  | none => .bad
/-- o.count(True), a list of truth values -/
def blsOf : List D → Option (List Bool)
  | [] => some []
  | .bl b :: r => (blsOf r).map (b :: ·)
  | _ => none
def oCount : P2 := fun h x y => match y with
  | .bl true => (lstOf h x).bind fun xs => (blsOf xs).map fun bs => .int ((bs.count true : Nat) : Int)
  | _ => none
def oSum : P1 := fun h x => (lstOf h x).bind fun xs => (intsOf xs).map fun ns => .int ns.sum
def maxI : List Int → Option Int
  | [] => none
  | n :: r => match maxI r with
    | none => some n
    | some m => some (if m ≤ n then n else m)
def oMaxL : P1 := fun h x => (seqOf h x).bind fun xs => (intsOf xs).bind fun ns => (maxI ns).map .int
/-- dict(pairs) -/
def kvsOf : List D → Option (List (Key × D))
  | [] => some []
  | .tup [k, v] :: r => match keyD k with
    | some kk => (kvsOf r).map ((kk, v) :: ·)
    | none => none
  | _ => none
def xDictP (fa : Ex) : Ex := fun r h => (fa r h).bnd fun d h1 => match (lstOf h1 d).bind kvsOf with
  | some kvs => .ok (.ref h1.length) (h1 ++ [.dct (kvs.foldl (fun es kv => putD es kv.1 kv.2) [])])
  | none => .bad
/-- xs[::-1] -/
def oRev : P1 := fun h x => (lstOf h x).map fun xs => .lst xs.reverse
/-- x.strip(y) -/
def oStrip : P2 := fun _ x y => match x, y with
  | .str a, .str b => if a.length ≤ sizeLine then some (.str (Txt.stripChars a b)) else none
  | _, _ => none
/-- == {} -/
def oEmptyD : P1 := fun h d => (dctOf h d).map fun es => .bl es.isEmpty
/-- a numbered list walked -/
def iEnumT (fs : Ax) : Ix := fun r h => (fs r h).bnd fun ds h1 => .of (match ds with
  | [d] => (itT d).map (enumD 0)
  | _ => none) h1
end DL
namespace DL
open PySem PySem.Spec L2
open PyProof.Rows hiding St
def recFuel : Nat := 40
def oFullD : P1 := fun h d => (dctOf h d).map fun es => .bl (!es.isEmpty)
/-! ### numbered lists walked: read anew at each turn -/
abbrev Rdr := DH → Option (List D)
abbrev IxR' := Rho → DH → Out Rdr
def rdL (a : Nat) : Rdr := fun h => match h[a]? with
  | some (.lst xs) => some xs
  | _ => none
def rdE (a : Nat) : Rdr := fun h => (rdL a h).map (enumD 0)
def iLstR (fa : Ex) : IxR' := fun r h => (fa r h).bnd fun d h1 => .of ((refD d).bind fun i => match rdL i h1 with
  | some _ => some (rdL i)
  | none => none) h1
def iEnumR (fs : Ax) : IxR' := fun r h => (fs r h).bnd fun ds h1 => .of (match ds with
  | [d] => (refD d).bind fun i => match rdL i h1 with
    | some _ => some (rdE i)
    | none => none
  | _ => none) h1
def zLoopR (rd : Rdr) (G : Gx) (body : Sx) : Nat → Nat → Rho → DH → OutS
  | 0, _, _, _ => .bad
  | f + 1, i, r, h => match rd h with
    | none => .bad
    | some ds => match ds[i]? with
      | none => .nx r h
      | some d => match G d r with
        | none => .bad
        | some r1 => match body r1 h with
          | .nx r2 h2 => zLoopR rd G body f (i + 1) r2 h2
          | .ct r2 h2 => zLoopR rd G body f (i + 1) r2 h2
          | .bk r2 h2 => .nx r2 h2
          | .rt v h2 => .rt v h2
          | .er c r2 h2 => .er c r2 h2
          | .bad => .bad
def zForR (fi : IxR') (G : Gx) (body : Sx) (fuel : Nat) : Sx := fun r h => (fi r h).toS r fun rd h1 => zLoopR rd G body fuel 0 r h1
def zCompR (rd : Rdr) (G : Gx) (ft : Tx) (fe : Ex) (r : Rho) : Nat → Nat → DH → List D → Out (List D)
  | 0, _, _, _ => .bad
  | f + 1, i, h, acc => match rd h with
    | none => .bad
    | some ds => match ds[i]? with
      | none => .ok acc h
      | some d => match G d r with
        | none => .bad
        | some r1 => match ft r1 h with
          | .ok true h1 => (match fe r1 h1 with
            | .ok y h2 => if acc.length < sizeLine then zCompR rd G ft fe r f (i + 1) h2 (acc ++ [y]) else .bad
            | _ => .bad)
          | .ok false h1 => zCompR rd G ft fe r f (i + 1) h1 acc
          | _ => .bad
def aCompR (fi : IxR') (vs : List Nat) (G : Gx) (ft : Tx) (fe : Ex) : Ax := fun r h => (fi r h).bnd fun rd h1 => zCompR rd G ft fe (wipeR r vs) 1000 0 h1 []
def xCompR (fi : IxR') (vs : List Nat) (G : Gx) (ft : Tx) (fe : Ex) : Ex := fun r h => (aCompR fi vs G ft fe r h).bnd fun acc h1 => .ok (.lst acc) h1
def xCompNR (fi : IxR') (vs : List Nat) (G : Gx) (ft : Tx) (fe : Ex) : Ex := fun r h => (aCompR fi vs G ft fe r h).bnd fun acc h1 => .ok (.ref h1.length) (h1 ++ [.lst acc])
/-- [x] * k, to be changed -/
def xMulN (fa fb : Ex) : Ex := fun r h => (fa r h).bnd fun x h1 => (fb r h1).bnd fun y h2 => match y with
  | .int k => match lstOf h2 x with
    | some xs => if k ≤ 1000 ∧ -1000 ≤ k ∧ xs.length ≤ 1000 then .ok (.ref h2.length) (h2 ++ [.lst (List.replicate k.toNat xs).flatten]) else .bad
    | none => .bad
  | _ => .bad
/-- xs + ys, to be changed -/
def xAddN (fa fb : Ex) : Ex := fun r h => (fa r h).bnd fun x h1 => (fb r h1).bnd fun y h2 => match lstOf h2 x, lstOf h2 y with
  | some xs, some ys => if xs.length + ys.length ≤ sizeLine then .ok (.ref h2.length) (h2 ++ [.lst (xs ++ ys)]) else .bad
  | _, _ => .bad
/-- a table of the module, read -/
def xGetT (es : List (Key × D)) (fk fd : Ex) : Ex := fun r h => (fk r h).bnd fun k h1 => (fd r h1).bnd fun d h2 => match keyD k with
  | some kk => .ok ((getK es kk).getD d) h2
  | none => .bad
def c_CHANGES : List (Key × D) := [(.inr "file", .int 1), (.inr "drawer", .int 1), (.inr "link", .int 2), (.inr "remove", .int 1), (.inr "rename", .int 2)]
def c_OTHERS : List (Key × D) := [(.inr "write", .int 3), (.inr "cut", .int 2), (.inr "read", .int 3), (.inr "names", .int 1), (.inr "about", .int 1)]
end DL
set_option maxRecDepth 100000
set_option maxHeartbeats 2000000
namespace DL
open PySem PySem.Spec L2
open PyProof.Rows hiding St
/-! ### the order of texts -/
theorem ltC_eq (a b : List Nat) : ltCps a b = decide (a < b) := ltCps_eq a b
theorem ltC_asym {a b : List Nat} (h : ltCps a b = true) : ltCps b a = false := by
  rw [ltC_eq] at h ⊢
  exact decide_eq_false (fun z => List.lt_irrefl a (List.lt_trans (of_decide_eq_true h) z))
theorem ltC_tri {a b : List Nat} (h1 : ltCps a b = false) (h2 : ltCps b a = false) : a = b := by
  rw [ltC_eq] at h1 h2
  have e1 := of_decide_eq_false h1
  have e2 := of_decide_eq_false h2
  exact List.le_antisymm (List.not_lt.mp e2) (List.not_lt.mp e1)
theorem ltC_tr {a b c : List Nat} (h1 : ltCps b a = false) (h2 : ltCps c b = false) : ltCps c a = false := by
  cases e : ltCps c a with
  | false => rfl
  | true =>
    rw [ltC_eq] at h1 h2 e
    have e1 : a ≤ b := List.not_lt.mp (of_decide_eq_false h1)
    have e2 : b ≤ c := List.not_lt.mp (of_decide_eq_false h2)
    have e3 : a ≤ c := List.le_trans e1 e2
    exact absurd (of_decide_eq_true e) (List.not_lt.mpr e3)
theorem str_ext {a b : Str} (h : a.cps.toList = b.cps.toList) : a = b := by
  obtain ⟨x⟩ := a
  obtain ⟨y⟩ := b
  have : x = y := Array.toList_inj.mp h
  rw [this]
open SrtO (Swo Srtd Stb)
section
variable {α : Type} {lt : α → α → Bool}
theorem insG_perm (n : α) : ∀ l : List α, (insG lt n l).Perm (n :: l)
  | [] => .refl _
  | m :: r => by
    unfold insG
    split
    · exact ((insG_perm n r).cons m).trans (.swap n m r)
    · exact .refl _
theorem sortG_perm : ∀ l : List α, (sortG lt l).Perm l
  | [] => .refl _
  | n :: r => (insG_perm n _).trans ((sortG_perm r).cons n)
theorem insG_sorted (O : Swo lt) (n : α) : ∀ l : List α, Srtd lt l → Srtd lt (insG lt n l)
  | [], _ => List.pairwise_singleton _ _
  | m :: r, h => by
    obtain ⟨h1, h2⟩ := List.pairwise_cons.mp h
    unfold insG
    split
    · rename_i hn
      refine List.pairwise_cons.mpr ⟨fun x hx => ?_, insG_sorted O n r h2⟩
      rcases List.mem_cons.mp ((insG_perm n r).mem_iff.mp hx) with e | e
      · rw [e]; exact O.asym _ _ hn
      · exact h1 x e
    · rename_i hn
      have hn' : lt m n = false := by simpa using hn
      refine List.pairwise_cons.mpr ⟨fun x hx => ?_, h⟩
      rcases List.mem_cons.mp hx with e | e
      · rw [e]; exact hn'
      · exact O.tr n m x hn' (h1 x e)
theorem sortG_sorted (O : Swo lt) : ∀ l : List α, Srtd lt (sortG lt l)
  | [] => .nil
  | n :: r => insG_sorted O n _ (sortG_sorted O r)
theorem srt_uniq (anti : ∀ a b, lt a b = false → lt b a = false → a = b) {a b : List α} (p : a.Perm b) (ha : Srtd lt a) (hb : Srtd lt b) : a = b :=
  p.eq_of_pairwise (fun x y _ _ h1 h2 => anti x y h2 h1) ha hb
theorem sortG_of (O : Swo lt) (anti : ∀ a b, lt a b = false → lt b a = false → a = b) {l m : List α} (p : m.Perm l) (hs : Srtd lt m) : m = sortG lt l :=
  srt_uniq anti (p.trans (sortG_perm l).symm) hs (sortG_sorted O l)
end
theorem swo_I : Swo ltI := by
  refine ⟨fun x y h => ?_, fun x y z h1 h2 => ?_⟩ <;> simp only [ltI, decide_eq_true_eq, decide_eq_false_iff_not] at * <;> omega
theorem anti_I (a b : Int) (h1 : ltI a b = false) (h2 : ltI b a = false) : a = b := by
  simp only [ltI, decide_eq_false_iff_not] at *; omega
theorem swo_S : Swo ltS := ⟨fun _ _ h => ltC_asym h, fun _ _ _ h1 h2 => ltC_tr h1 h2⟩
theorem anti_S (a b : Str) (h1 : ltS a b = false) (h2 : ltS b a = false) : a = b := str_ext (ltC_tri h1 h2)
theorem ltS_irr (a : Str) : ltS a a = false := by
  cases e : ltS a a with
  | false => rfl
  | true => have := ltC_asym e; exact (this ▸ e : (false : Bool) = true) ▸ rfl
theorem ltPr_no {a b : Str × Int} : ltPr a b = false ↔ ltS a.1 b.1 = false ∧ (a.1 = b.1 → b.2 ≤ a.2) := by
  unfold ltPr
  rw [Bool.or_eq_false_iff]
  refine and_congr_right fun _ => ?_
  by_cases e : a.1 = b.1
  · simp [e]
  · simp [e]
theorem ltPr_yes {a b : Str × Int} : ltPr a b = true ↔ ltS a.1 b.1 = true ∨ (a.1 = b.1 ∧ a.2 < b.2) := by
  unfold ltPr
  simp
theorem swo_P : Swo ltPr := by
  refine ⟨fun x y h => ?_, fun x y z h1 h2 => ?_⟩
  · rw [ltPr_no]
    rcases ltPr_yes.mp h with e | ⟨e, e2⟩
    · refine ⟨ltC_asym e, fun z => ?_⟩
      rw [z, ltS_irr] at e
      cases e
    · refine ⟨by rw [e]; exact ltS_irr _, fun _ => by omega⟩
  · obtain ⟨a1, a2⟩ := ltPr_no.mp h1
    obtain ⟨b1, b2⟩ := ltPr_no.mp h2
    refine ltPr_no.mpr ⟨swo_S.tr _ _ _ a1 b1, fun e => ?_⟩
    have e1 : y.1 = x.1 := by
      have c1 : ltS x.1 y.1 = false := by rw [← e]; exact b1
      exact anti_S _ _ a1 c1
    have e2 : z.1 = y.1 := e.trans e1.symm
    have := a2 e1
    have := b2 e2
    omega
theorem anti_P (a b : Str × Int) (h1 : ltPr a b = false) (h2 : ltPr b a = false) : a = b := by
  obtain ⟨a1, a2⟩ := ltPr_no.mp h1
  obtain ⟨b1, b2⟩ := ltPr_no.mp h2
  have e := anti_S _ _ a1 b1
  have := a2 e
  have := b2 e.symm
  exact Prod.ext e (by omega)
theorem sortI_of {l m : List Int} (p : m.Perm l) (hs : m.Pairwise (· ≤ ·)) : m = sortI l := by
  refine sortG_of swo_I anti_I p (hs.imp fun {x y} h => ?_)
  simp only [ltI, decide_eq_false_iff_not]; omega
theorem risingS_pw : ∀ (p : Str) (l : List Str), risingS p l = true → Srtd ltS (p :: l)
  | p, [], _ => List.pairwise_singleton _ _
  | p, x :: r, h => by
    simp only [risingS, Bool.and_eq_true, Bool.not_eq_true'] at h
    have ih := risingS_pw x r h.2
    refine List.pairwise_cons.mpr ⟨fun y hy => ?_, ih⟩
    rcases List.mem_cons.mp hy with e | e
    · rw [e]; exact h.1
    · exact swo_S.tr p x y h.1 ((List.pairwise_cons.mp ih).1 y e)
theorem sortS_of {l m : List Str} (p : m.Perm l) (hs : sortedS m = true) : m = sortS l := by
  refine sortG_of swo_S anti_S p ?_
  cases m with
  | nil => exact .nil
  | cons x r => exact risingS_pw x r hs
end DL
set_option maxRecDepth 100000
set_option maxHeartbeats 2000000
namespace DL
open PySem PySem.Spec L2
open PyProof.Rows hiding St
open SrtO (Swo Srtd Stb)
/-- a pair of a text and a number -/
def IsSI (h : Heap) (v : Value) (p : Str × Int) : Prop := ∃ a o t u n, v = .ref a ∧ h.get? a = some o ∧ o.cls = .type "tuple" ∧ o.data = .seq #[.str p.1 t, .int p.2 u] n
theorem IsSI.keeps {h h' : Heap} {v : Value} {p : Str × Int} (q : IsSI h v p) (k : ∀ b o, h.get? b = some o → o.cls = .type "tuple" → h'.get? b = some o) : IsSI h' v p := by
  obtain ⟨a, o, t, u, n, e, ho, hc, hd⟩ := q
  exact ⟨a, o, t, u, n, e, k a o ho hc, hc, hd⟩
section
variable {prog : Program} {w : World} {A : Around} {E : Value → Shared → Prop} {s : Shared}
theorem si_firsts {h : Heap} {k : Value → Str × Int} : ∀ {vs : List Value}, (∀ v ∈ vs, IsSI h v (k v)) → ∃ fs : List Value, PySem.W.KatTups h vs fs ∧ fs.length = vs.length ∧ ∀ f ∈ fs, ∃ x t, f = Value.str x t
  | [], _ => ⟨[], .nil, rfl, fun _ z => nomatch z⟩
  | v :: vs, hp => by
    obtain ⟨fs, q1, q2, q3⟩ := si_firsts (k := k) (vs := vs) fun z hz => hp z (List.mem_cons_of_mem _ hz)
    obtain ⟨a, o, t, u, n, e, ho, hc, hd⟩ := hp v List.mem_cons_self
    rw [e]
    refine ⟨.str (k v).1 t :: fs, .cons ho hc hd rfl q1, by simp [q2], fun f hf => ?_⟩
    rcases List.mem_cons.mp hf with z | z
    · exact ⟨_, _, z⟩
    · exact q3 f z
theorem si_cmp {vs : List Value} {k : Value → Str × Int} (hp : ∀ v ∈ vs, IsSI s.heap v (k v)) : SrtO.Cmp prog w A s (tuples' true) (fun p => p.1 ∈ vs) (SrtO.lt2 fun v u => ltPr (k v) (k u)) := by
  intro p q hm hm'
  have q1 := hp _ hm
  have q2 := hp _ hm'
  show wpAny (model prog w) A (keyLt' (tuples' true) p.1 q.1) (fun r s' => s' = s ∧ r = ltPr (k p.1) (k q.1)) (fun _ _ => False) s
  generalize k p.1 = kp at q1 ⊢
  generalize k q.1 = kq at q2 ⊢
  obtain ⟨x, i⟩ := kp
  obtain ⟨y, j⟩ := kq
  obtain ⟨a, o, t, u, n, e, ho, hc, hd⟩ := q1
  obtain ⟨a2, o2, t2, u2, n2, e2, ho2, hc2, hd2⟩ := q2
  rw [e, e2]
  refine PySem.W.kat_lt ho hd ho2 hd2 ?_
  show PySem.W.KatLex prog w A true (decide (2 < 2)) _ [(.str x t, .str y t2), (.int i u, .int j u2)] 0 s
  refine PySem.W.kat_cons (SeqAt.EqAt.str_str x t y t2 prog w _ _ ?_)
  refine PySem.W.kat_go (fun c => ?_) (fun c => ?_)
  · have ex : x = y := eq_of_beq c
    have er : ltPr (x, i) (y, j) = decide (i < j) := by
      rw [ex]
      unfold ltPr
      simp only [ltS_irr, Bool.false_or, decide_true, Bool.true_and]
    refine PySem.W.kat_yes (PySem.W.kat_cons (SeqAt.EqAt.int_int i u j u2 prog w _ _ ?_))
    refine PySem.W.kat_go (fun d => ?_) (fun d => ?_)
    · have ei : i = j := eq_of_beq d
      refine PySem.W.kat_yes (PySem.W.kat_nil ⟨rfl, ?_⟩)
      rw [er, ei]
      exact (decide_eq_false (Int.lt_irrefl _)).symm
    · exact PySem.W.kat_no (PySem.W.kat_one _ _ (PyProof.Rows.lt_int (show s = s ∧ decide (i < j) = ltPr (x, i) (y, j) from ⟨rfl, er.symm⟩)))
  · have ex : x ≠ y := fun z => by rw [z, beq_self_eq_true] at c; cases c
    have er : ltPr (x, i) (y, j) = decide (x.cps.toList < y.cps.toList) := by
      unfold ltPr
      rw [decide_eq_false ex, Bool.false_and, Bool.or_false]
      exact ltC_eq _ _
    exact PySem.W.kat_no (oneLt_str ⟨rfl, er.symm⟩)
theorem si_sortable {a : Addr} {vs : List Value} {k : Value → Str × Int} (h0 : 0 < vs.length) (hp : ∀ v ∈ vs, IsSI s.heap v (k v)) (ha : ∀ o, s.heap.get? a = some o → o.cls ≠ .type "tuple") : SrtO.SortableO prog w A s a vs fun v u => ltPr (k v) (k u) := by
  intro h' keep
  have hp' : ∀ v ∈ vs, IsSI h' v (k v) := fun v hm => (hp v hm).keeps fun b o e c => keep b o (fun z => ha o (by rw [← z]; exact e) c) e
  obtain ⟨fs, q1, q2, q3⟩ := si_firsts hp'
  refine ⟨tuples' true, fun Q E hq => PySem.W.kat_kind (T := .type "str") q1 (by omega) (fun f hm => ?_) rfl ?_, si_cmp hp'⟩
  · obtain ⟨x, t, rfl⟩ := q3 f hm
    exact PySem.W.Looks.now
  · have e : (Value.type "str" != Value.type "tuple") = true := by first | decide +kernel | rfl | decide
    rw [e]
    exact hq
theorem swo_on {α β : Type} {lt : β → β → Bool} (O : Swo lt) (f : α → β) : Swo fun x y => lt (f x) (f y) := ⟨fun x y h => O.asym _ _ h, fun x y z h1 h2 => O.tr _ _ _ h1 h2⟩
end
def rSortedSP (K : PySem.W.Frag) : List V → Hp → VK → Prop := fun vs H Q => ∃ (a : Addr) (xs : List V) (k : V → Str × Int), vs = [V.ref a] ∧ SqL K H a xs ∧ (∀ x ∈ xs, ∃ t, x = V.ref t ∧ SqT K H t [.str (k x).1, .int (k x).2]) ∧
  ∀ ys p, ys.Perm xs → Srtd (fun x y => ltPr (k x) (k y)) ys → H p = none → Q (.ref p) (upd H p (.lst ys))
theorem cr_sortedSP {X : Cx} : CallR X (.builtin "sorted") (rSortedSP X.K) := by
  intro pins s sg H vs us Q I r h
  obtain ⟨a, xs, k, rfl, hs, hx, q⟩ := h
  obtain ⟨its, rv, hl, hz⟩ := I.list hs
  rw [Vals.ref1 r]
  obtain ⟨e1, e2⟩ := refs_back rv fun x m => by
    obtain ⟨t, e, _⟩ := hx x m
    exact ⟨t, e⟩
  have hp : ∀ v ∈ its, IsSI s.heap v (k (backV v)) := fun v hv => by
    obtain ⟨t, rfl⟩ := e2 v hv
    have hm : V.ref t ∈ xs := by rw [e1]; exact List.mem_map.mpr ⟨_, hv, rfl⟩
    obtain ⟨t', e, ht⟩ := hx _ hm
    cases e
    obtain ⟨its2, r2, ⟨o, ho, hc, n, hd⟩, _⟩ := I.tuple ht
    cases r2 with
    | cons ra rb =>
      cases rb with
      | cons rb rc =>
        cases rc
        obtain ⟨t1, rfl⟩ := ra
        obtain ⟨t2, rfl⟩ := rb
        exact ⟨t, o, t1, t2, n, rfl, ho, hc, hd⟩
  refine SrtO.sorted_ord (swo_on swo_P fun v => k (backV v)) hl.isList (by rw [← rv.length]; exact hz) (fun h2 h₁ b hb kk => ?_) fun out h1 h2 => ?_
  · refine si_sortable (s := { s with heap := h₁ }) (k := fun v => k (backV v)) (by omega) (fun v hm => (hp v hm).keeps fun c o e _ => (kk c o e).2) fun o e => ?_
    have e' : some o = some (seqObj "list" its.toArray 0) := e.symm.trans hb
    cases e'
    intro c
    exact absurd (Value.type.inj c) (by decide)
  · have h3 : ∀ u ∈ out, ∃ a, u = Value.ref a := fun u hu => e2 u (h2.perm.mem_iff.mp hu)
    have hpm : (out.map backV).Perm xs := by rw [e1]; exact h2.perm.map backV
    obtain ⟨ep, he⟩ := PyProof.Rows.sortedAll_at s.heap its out.toArray
    refine ⟨.ref _, upd H (s.heap.objs.size + 1) (.lst (out.map backV)), I.laid (t' := s.toks) (fun _ _ => PyProof.Rows.sortedAll_old) (Nat.le_succ _) ⟨by rw [hpm.length_eq]; exact hz, out, ep, vals_back h3, he⟩, rfl, q _ _ hpm ?_ (I.hok.fresh (Nat.le_succ _))⟩
    exact List.pairwise_map.mpr h1
/-! ### sorted, of data -/
section
variable {X : Cx} {K : PySem.W.Frag} {io : Io} {H : Hp} {h : DH}
theorem intsOf_ok {ds : List D} {vs : List V} {ns : List Int} (r : RelL K io H ds vs) (e : intsOf ds = some ns) : vs = ns.map V.int ∧ ds = ns.map D.int := by
  induction ds generalizing vs ns with
  | nil => cases r; cases e; exact ⟨rfl, rfl⟩
  | cons d ds ih =>
    cases r with
    | cons a r =>
      cases d with
      | int i =>
        cases a
        simp only [intsOf, Option.map_eq_some_iff] at e
        obtain ⟨ms, e, rfl⟩ := e
        obtain ⟨e1, e2⟩ := ih r e
        exact ⟨by rw [e1]; rfl, by rw [e2]; rfl⟩
      | _ => cases e
theorem strsOf_ok {ds : List D} {vs : List V} {ns : List Str} (r : RelL K io H ds vs) (e : strsOf ds = some ns) : vs = ns.map V.str ∧ ds = ns.map D.str := by
  induction ds generalizing vs ns with
  | nil => cases r; cases e; exact ⟨rfl, rfl⟩
  | cons d ds ih =>
    cases r with
    | cons a r =>
      cases d with
      | str i =>
        cases a
        simp only [strsOf, Option.map_eq_some_iff] at e
        obtain ⟨ms, e, rfl⟩ := e
        obtain ⟨e1, e2⟩ := ih r e
        exact ⟨by rw [e1]; rfl, by rw [e2]; rfl⟩
      | _ => cases e
theorem prsOf_eq : ∀ {ds : List D} {ps : List (Str × Int)}, prsOf ds = some ps → ds = ps.map dP
  | [], ps, e => by cases e; rfl
  | d :: ds, ps, e => by
    unfold prsOf at e
    split at e
    · rename_i z; cases z
    · rename_i z
      cases z
      rw [Option.map_eq_some_iff] at e
      obtain ⟨qs, e, rfl⟩ := e
      rw [prsOf_eq e]
      rfl
    · cases e
theorem relL_ints (ns : List Int) : RelL K io H (ns.map D.int) (ns.map V.int) := by
  induction ns with
  | nil => exact .nil
  | cons n ns ih => exact .cons (.int n) ih
theorem relL_strs (ns : List Str) : RelL K io H (ns.map D.str) (ns.map V.str) := by
  induction ns with
  | nil => exact .nil
  | cons n ns ih => exact .cons (.str n) ih
theorem relL_keys {es : List (Key × D)} {kvs : List (Key × V)} (r : RelM K io H es kvs) : RelL K io H (es.map fun kv => dKey kv.1) (kvs.map fun kv => kV kv.1) := by
  induction es generalizing kvs with
  | nil => cases r; exact .nil
  | cons p es ih => cases r with | cons a r => exact .cons (relD_key _) (ih r)
theorem keys_ints {kvs : List (Key × V)} {ns : List Int} (e : kvs.map (fun kv => kV kv.1) = ns.map V.int) : kvs.map (·.1) = ns.map Sum.inl := by
  induction kvs generalizing ns with
  | nil => cases ns with | nil => rfl | cons _ _ => cases e
  | cons p kvs ih =>
    cases ns with
    | nil => cases e
    | cons n ns =>
      obtain ⟨k, v⟩ := p
      simp only [List.map_cons, List.cons.injEq] at e ⊢
      refine ⟨?_, ih e.2⟩
      cases k with
      | inl i => have := e.1; simp only [kV, V.int.injEq] at this; rw [this]
      | inr x => cases e.1
theorem keys_strs {kvs : List (Key × V)} {ns : List Str} (e : kvs.map (fun kv => kV kv.1) = ns.map V.str) : kvs.map (·.1) = ns.map Sum.inr := by
  induction kvs generalizing ns with
  | nil => cases ns with | nil => rfl | cons _ _ => cases e
  | cons p kvs ih =>
    cases ns with
    | nil => cases e
    | cons n ns =>
      obtain ⟨k, v⟩ := p
      simp only [List.map_cons, List.cons.injEq] at e ⊢
      refine ⟨?_, ih e.2⟩
      cases k with
      | inl i => cases e.1
      | inr x => have := e.1; simp only [kV, V.str.injEq] at this; rw [this]
/-- the pair that a value is -/
noncomputable def keyV (K : PySem.W.Frag) (H : Hp) (x : V) : Str × Int := open Classical in if h : ∃ p : Str × Int, ∃ t, x = V.ref t ∧ SqT K H t [.str p.1, .int p.2] then h.choose else (Str.empty, 0)
theorem prs_mem {ps : List (Str × Int)} {vs : List V} (r : RelL K io H (ps.map dP) vs) : ∀ x ∈ vs, ∃ (p : Str × Int) (t : Addr), x = V.ref t ∧ FzT K io H t [.str p.1, .int p.2] := by
  induction ps generalizing vs with
  | nil => cases r; exact fun _ z => nomatch z
  | cons p ps ih =>
    cases r with
    | cons a r =>
      intro x hx
      rcases List.mem_cons.mp hx with e | e
      · rw [e]
        cases a with
        | tup f rl =>
          cases rl with
          | cons r1 rl =>
            cases rl with
            | cons r2 rl =>
              cases rl
              cases r1
              cases r2
              exact ⟨p, _, rfl, f⟩
      · exact ih r x e
end
end DL
set_option maxRecDepth 100000
set_option maxHeartbeats 2000000
namespace DL
open PySem PySem.Spec L2
open PyProof.Rows hiding St
open SrtO (Swo Srtd Stb)
section
variable {X : Cx} {K : PySem.W.Frag} {io : Io} {H : Hp} {h : DH}
theorem si_one {pins : List (Addr × Obj)} {sg : L2.St} {H : Hp} {s : Shared} (I : Inv X pins sg H s) {t : Addr} {p q : Str × Int} (h1 : SqT X.K H t [.str p.1, .int p.2]) (h2 : SqT X.K H t [.str q.1, .int q.2]) : p = q := by
  obtain ⟨i1, r1, ⟨o1, e1, _, n1, d1⟩, _⟩ := I.tuple h1
  obtain ⟨i2, r2, ⟨o2, e2, _, n2, d2⟩, _⟩ := I.tuple h2
  rw [e1] at e2
  cases e2
  rw [d1] at d2
  have d3 : i1.toArray = i2.toArray := by injection d2
  have d4 : i1 = i2 := by simpa using d3
  subst d4
  cases r1 with
  | cons a1 b1 =>
    cases r2 with
    | cons a2 b2 =>
      cases b1 with
      | cons c1 _ =>
        cases b2 with
        | cons c2 _ =>
          obtain ⟨t1, rfl⟩ := a1
          obtain ⟨t2, x2⟩ := a2
          obtain ⟨t3, rfl⟩ := c1
          obtain ⟨t4, x4⟩ := c2
          injection x2 with x2 _
          injection x4 with x4 _
          exact Prod.ext x2 x4
theorem keyV_spec {x : V} (h : ∃ p : Str × Int, ∃ t, x = V.ref t ∧ SqT K H t [.str p.1, .int p.2]) : ∃ t, x = V.ref t ∧ SqT K H t [.str (keyV K H x).1, .int (keyV K H x).2] := by
  unfold keyV
  rw [dif_pos h]
  exact h.choose_spec
theorem keyV_eq (one : ∀ t (p q : Str × Int), SqT K H t [.str p.1, .int p.2] → SqT K H t [.str q.1, .int q.2] → p = q) {x : V} {p : Str × Int} {t : Addr} (e : x = V.ref t) (f : SqT K H t [.str p.1, .int p.2]) : keyV K H x = p := by
  obtain ⟨t', e', f'⟩ := keyV_spec (K := K) (H := H) (x := x) ⟨p, t, e, f⟩
  rw [e] at e'
  cases e'
  exact one t _ _ f' f
theorem keyV_map (one : ∀ t (p q : Str × Int), SqT K H t [.str p.1, .int p.2] → SqT K H t [.str q.1, .int q.2] → p = q) {ps : List (Str × Int)} {vs : List V} (r : RelL K io H (ps.map dP) vs) : vs.map (keyV K H) = ps ∧ ∀ x ∈ vs, RelD K io H (dP (keyV K H x)) x := by
  induction ps generalizing vs with
  | nil => cases r; exact ⟨rfl, fun _ z => nomatch z⟩
  | cons p ps ih =>
    cases r with
    | cons a r =>
      obtain ⟨e1, e2⟩ := ih r
      have a' := a
      cases a with
      | tup f rl =>
        cases rl with
        | cons r1 rl =>
          cases rl with
          | cons r2 rl =>
            cases rl
            cases r1
            cases r2
            have e := keyV_eq one rfl f.sq
            refine ⟨by rw [List.map_cons, e, e1], fun x hx => ?_⟩
            rcases List.mem_cons.mp hx with z | z
            · rw [z, e]; exact a'
            · exact e2 x z
theorem relL_of {f : V → D} : ∀ {vs : List V}, (∀ x ∈ vs, RelD K io H (f x) x) → RelL K io H (vs.map f) vs
  | [], _ => .nil
  | x :: vs, h => .cons (h x List.mem_cons_self) (relL_of fun y hy => h y (List.mem_cons_of_mem _ hy))
theorem cd_sorted (hc : X.calm = true) : CallR X (.builtin "sorted") (rC1 X.K oSorted) := by
  intro pins s sg H xs us Q I r hq
  obtain ⟨x, rfl, io, h, dx, d, rx, rh, e, q⟩ := hq
  unfold oSorted itemsOf at e
  cases e1 : lstOf h dx with
  | some ds =>
    rw [e1] at e
    simp only [Option.bind_some, Option.isSome_some, Bool.true_or, if_true] at e
    obtain ⟨a, vs, rfl, ha, rl⟩ := lstOf_ok rx rh e1
    have sq : SqL X.K H a vs := .inl (.inl ha)
    split at e
    · rename_i ns e2
      cases e
      obtain ⟨v1, _⟩ := intsOf_ok rl e2
      subst v1
      refine cr_sortedI pins s sg H _ us Q I r ⟨a, ns, rfl, sq, fun ns' p hp hs hn => ?_⟩
      rw [sortI_of hp hs]
      obtain ⟨s2, r2, rd⟩ := rel_lst rh (relL_ints (sortI ns)) hn
      exact q _ _ s2 r2 rd
    · split at e
      · rename_i ss e2
        split at e
        · rename_i hl
          cases e
          obtain ⟨v1, _⟩ := strsOf_ok rl e2
          subst v1
          refine cr_sortedS pins s sg H _ us Q I r ⟨a, ss, rfl, sq, hl, fun ns' p hp hs hn => ?_⟩
          rw [sortS_of hp hs]
          obtain ⟨s2, r2, rd⟩ := rel_lst rh (relL_strs (sortS ss)) hn
          exact q _ _ s2 r2 rd
        · cases e
      · rw [Option.map_eq_some_iff] at e
        obtain ⟨ps, e2, rfl⟩ := e
        have e3 := prsOf_eq e2
        subst e3
        obtain ⟨k1, k2⟩ := keyV_map (fun t p q h1 h2 => si_one I h1 h2) rl
        refine cr_sortedSP pins s sg H _ us Q I r ⟨a, vs, keyV X.K H, rfl, sq, fun x hx => ?_, fun ys p hp hs hn => ?_⟩
        · obtain ⟨p, t, e, f⟩ := prs_mem rl x hx
          exact keyV_spec ⟨p, t, e, f.sq⟩
        · have e4 : ys.map (keyV X.K H) = sortP ps := sortG_of swo_P anti_P (by rw [← k1]; exact hp.map _) (List.pairwise_map.mpr hs)
          have e5 : RelL X.K io H ((sortP ps).map dP) ys := by
            rw [← e4, List.map_map]
            exact relL_of fun x hx => k2 x (hp.mem_iff.mp hx)
          obtain ⟨s2, r2, rd⟩ := rel_lst rh e5 hn
          exact q _ _ s2 r2 rd
  | none =>
    rw [e1] at e
    cases e0 : dctOf h dx with
    | none => rw [e0] at e; cases e
    | some es =>
      rw [e0] at e
      simp only [Option.map_some, Option.bind_some, Option.isSome_none, Bool.false_or, decide_eq_true_eq, Bool.false_eq_true, if_false] at e
      obtain ⟨a, kvs, rfl, rd0, rm⟩ := dctOf_ok rx rh e0
      have rl := relL_keys rm
      split at e
      · rename_i ns e2
        split at e
        · rename_i hl
          cases e
          obtain ⟨v1, _⟩ := intsOf_ok rl e2
          refine call_sortedDI hc pins s sg H _ us Q I r ⟨a, kvs, ns, rfl, rd0, keys_ints v1, hl, fun ns' p hp hs hn => ?_⟩
          rw [sortI_of hp hs]
          obtain ⟨s2, r2, rd⟩ := rel_lst rh (relL_ints (sortI ns)) hn
          exact q _ _ s2 r2 rd
        · cases e
      · split at e
        · rename_i ss e2
          split at e
          · rename_i hl
            cases e
            obtain ⟨v1, _⟩ := strsOf_ok rl e2
            refine call_sortedD hc pins s sg H _ us Q I r ⟨a, kvs, ss, rfl, rd0, keys_strs v1, hl, fun ns' p hp hs hn => ?_⟩
            rw [sortS_of hp hs]
            obtain ⟨s2, r2, rd⟩ := rel_lst rh (relL_strs (sortS ss)) hn
            exact q _ _ s2 r2 rd
          · cases e
        · cases e
end
end DL
set_option maxRecDepth 100000
set_option maxHeartbeats 4000000
namespace DL
open PySem PySem.Spec L2
open PyProof.Rows hiding St
/-- an empty set, just made -/
abbrev noSet (w : World) : Obj := ⟨.type "set", none, .set #[] 0 (.fresh 0 0 (!w.params.followText "set-order")), #[]⟩
section
variable {P : Program} {w : World} {A : Around} {E : Value → Shared → Prop} {s : Shared}
/-- what set(xs) leaves -/
abbrev SetDone (w : World) (s : Shared) (ns : List Int) (s2 : Shared) : Prop := ∃ (hp : Heap) (tk c : Nat), s2 = { s with heap := hp, toks := tk } ∧ SetR w hp s.heap.objs.size (fun j => decide (j ∈ ns)) c ∧ c ≤ ns.length ∧ ∀ b o, s.heap.get? b = some o → hp.get? b = some o
theorem init_ints {l : Addr} {its : Array Value} (ns : List Int) (hh : A.handled = none) (hl : s.heap.IsList l its) (hi : IntsAre its.toList ns) (hb : ns.length + 1 < scanBound) :
    codeAny (model P w) A (.call (.builtin "set.__init__") ⟨[.ref s.heap.objs.size, .ref l], []⟩) (wants (fun r s2 => r = .none ∧ SetDone w s ns s2) E) { s with heap := s.heap.push (noSet w) } := by
  have z : its.size = ns.length := by have q := IntsAre.length hi; rwa [Array.length_toList] at q
  have hS : (s.heap.push (noSet w)).get? s.heap.objs.size = some (noSet w) := Heap.get?_push_size _ rfl
  have hT : Shared.TypeIs { s with heap := s.heap.push (noSet w) } (.ref s.heap.objs.size) "set" := ⟨_, hS, rfl⟩
  refine codeAny_call_builtin F.called_set.init.plain F.entry_set_init (check_set_init_1 hT ?_)
  obtain ⟨⟨oc, od, odt, osl⟩, g, hc, nl, hd⟩ := hl
  simp only at hc hd
  subst hc; subst hd
  have g1 : (s.heap.push (noSet w)).get? l = some ⟨.type "list", od, .seq its nl, osl⟩ := Heap.get?_push_of_some _ g
  have k1 := F.sub_list_set
  have k2 := F.sub_list_frozenset
  have k3 : (Value.type "list" == Value.type "dict") = false := by decide
  have L1 : (s.heap.push (noSet w)).IsList l its := ⟨_, g1, rfl, nl, rfl⟩
  unfold Builtin.«set.__init__» noKeywords Builtin.Frozenset.updateFrom
  generalize ePI : pyIter = PI
  wp_walk
  subst ePI
  refine wpAny_pyIter_list L1 (wpAny_bind (wpAny_runValue ?_))
  have lt1 : l < s.heap.objs.size := Heap.lt_size g
  have sz : (s.heap.push (noSet w)).objs.size = s.heap.objs.size + 1 := Heap.size_push ..
  have ne1 : l ≠ (s.heap.push (noSet w)).objs.size := by rw [sz]; exact Nat.ne_of_lt (Nat.lt_succ_of_lt lt1)
  have ne2 : s.heap.objs.size ∉ [(s.heap.push (noSet w)).objs.size, l] := by
    rw [sz]
    simp only [List.mem_cons, List.not_mem_nil, or_false, not_or]
    exact ⟨Nat.ne_of_lt (Nat.lt_succ_self _), Nat.ne_of_gt lt1⟩
  have hv : ∀ (i : Nat) (v : Value), its[i]? = some v → ∃ k t, ns[i]? = some k ∧ v = .int k t := fun i v e => by
    have il : i < ns.length := by rw [← z]; exact (Array.getElem?_eq_some_iff.mp e).1
    obtain ⟨t, e'⟩ := PyProof.Rows.IntsAre.int_at hi i v (by rw [Array.getElem?_toList]; exact e)
    refine ⟨ns[i], t, List.getElem?_eq_getElem il, e'.trans ?_⟩
    rw [List.getD_eq_getElem?_getD, List.getElem?_eq_getElem il]
    rfl
  refine set_update_ints ((Walks.list (by simp [hh]) _ l ne1 its).toS) s.heap.objs.size ne2 ns z hb hv (its.size - 0) 0 _ (by omega) (Nat.zero_le _) ⟨⟨_, Heap.get?_push_size _ rfl, rfl, rfl⟩, (L1.push _)⟩ ⟨0, Nat.le_refl 0, setR_new_at (Heap.get?_push_of_some _ hS)⟩ fun s2 c m hc2 R2 => ?_
  obtain ⟨hp, gg, dr, tk, os⟩ := s2
  obtain rfl : gg = s.gens := m.gens
  obtain rfl : dr = s.drawn := m.drawn
  obtain rfl : os = s.os := m.os
  refine wpAny_pure (wpAny_pure ⟨rfl, hp, tk, c, rfl, R2, by omega, fun b o e => ?_⟩)
  have bl : b < s.heap.objs.size := Heap.lt_size e
  refine m.heap b o ?_ (Heap.get?_push_of_some _ (Heap.get?_push_of_some _ e))
  rw [sz]
  simp only [List.mem_cons, List.not_mem_nil, or_false, not_or]
  exact ⟨Nat.ne_of_lt bl, Nat.ne_of_lt (Nat.lt_succ_of_lt bl)⟩
theorem set_ints {l : Addr} {its : Array Value} (ns : List Int) {Q : Value → Shared → Prop} (hh : A.handled = none) (hl : s.heap.IsList l its) (hi : IntsAre its.toList ns) (hb : ns.length + 1 < scanBound)
    (h : ∀ s2, SetDone w s ns s2 → Q (.ref s.heap.objs.size) s2) : wpAny (model P w) A (call (.type "set") [.ref l]) Q E s := by
  obtain ⟨c, tl, hmro⟩ := F.called_set.mro
  have m1 := F.called_set.made
  have m2 := F.called_set.sub
  refine wpAny_call (codeAny_of_tree (wpAny_pure ⟨Code.quiet_builtin _ (by decide +kernel), codeAny_builtin F.entry_type_call ?_⟩))
  rw [Around.under_plain (weight_type_call_type "set" [.ref l] []) rfl]
  have m3 := F.called_set.notType
  have m4 := F.called_set.canCreate
  have m5 := F.typeCall_set_1 (.ref l)
  repeat (any_goals (first | assumption | wp_step))
  refine codeAny_mono (code_set_led1 (.ref l) (E := E) (Q₁ := fun ob s1 => ob = .ref s.heap.objs.size ∧ s1 = { s with heap := s.heap.push (noSet w) }) ⟨rfl, rfl⟩) fun r s1 hr => ?_
  cases r with
  | error e => exact hr
  | ok fl =>
    cases fl with
    | ret ob =>
      obtain ⟨rfl, rfl⟩ := hr
      have hS : (s.heap.push (noSet w)).get? s.heap.objs.size = some (noSet w) := Heap.get?_push_size _ rfl
      have hT : Shared.TypeIs { s with heap := s.heap.push (noSet w) } (.ref s.heap.objs.size) "set" := ⟨_, hS, rfl⟩
      have m6 := F.called_set.init.lookup
      have m7 := F.called_set.init.bind (.ref s.heap.objs.size)
      repeat (any_goals (first | assumption | wp_step))
      refine codeAny_mono (init_ints (E := E) ns (by simp [hh]) hl hi hb) fun r2 s2 hr2 => ?_
      cases r2 with
      | error e => exact hr2
      | ok fl2 =>
        cases fl2 with
        | ret u =>
          obtain ⟨rfl, hd⟩ := hr2
          repeat (any_goals (first | assumption | wp_step))
          exact h _ hd
        | _ => exact hr2.elim
    | _ => exact hr.elim
end
end DL
set_option maxRecDepth 100000
set_option maxHeartbeats 2000000
namespace DL
open PySem PySem.Spec L2
open PyProof.Rows hiding St
section
variable {X : Cx} {W : WX} {K : PySem.W.Frag} {io : Io} {H : Hp} {h : DH}
def rSetI (K : PySem.W.Frag) (w : World) : List V → Hp → VK → Prop := fun xs H Q => ∃ (a : Addr) (ns : List Int), xs = [V.ref a] ∧ SqL K H a (ns.map V.int) ∧ ns.length < 1000 ∧
  ∀ p n, n ≤ ns.length → H p = none → Q (.ref p) (upd H p (SetO w p (fun j => decide (j ∈ ns)) n))
theorem cr_setI (hc : X.calm = true) : CallR X (.type "set") (rSetI X.K X.w) := by
  intro pins s sg H xs us Q I r hq
  obtain ⟨a, ns, rfl, hs, hl, q⟩ := hq
  rw [Vals.ref1 r]
  obtain ⟨its, rv, hl2, hz⟩ := I.list hs
  refine set_ints (w := X.w) ns (I.ok.hd hc) hl2.isList rv.ints (by unfold scanBound; omega) fun s2 ⟨hp, tk, c, e, R, hc2, k⟩ => ?_
  subst e
  exact ⟨.ref _, upd H s.heap.objs.size (SetO X.w s.heap.objs.size (fun j => decide (j ∈ ns)) c), I.laid (t' := tk) k (Nat.le_refl _) (setO_new R), rfl, q _ c hc2 (I.hok.fresh (Nat.le_refl _))⟩
/-! strictly rising lists -/
theorem dupI_mem (x : Int) : ∀ l : List Int, x ∈ dupI l ↔ x ∈ l
  | [] => Iff.rfl
  | n :: r => by
    have ih := dupI_mem x r
    unfold dupI
    cases e : dupI r with
    | nil =>
      rw [e] at ih
      simp only [List.mem_cons, List.not_mem_nil, or_false]
      constructor
      · exact .inl
      · rintro (z | z)
        · exact z
        · exact absurd (ih.mpr z) (by simp)
    | cons m q =>
      rw [e] at ih
      simp only
      split
      · rename_i em
        subst em
        rw [ih]
        simp only [List.mem_cons]
        constructor
        · exact .inr
        · rintro (z | z)
          · exact ih.mp (by rw [z]; exact List.mem_cons_self)
          · exact z
      · simp only [List.mem_cons] at ih ⊢
        rw [ih]
theorem dupI_rise : ∀ l : List Int, l.Pairwise (· ≤ ·) → (dupI l).Pairwise (· < ·)
  | [], _ => .nil
  | n :: r, h => by
    obtain ⟨h1, h2⟩ := List.pairwise_cons.mp h
    have ih := dupI_rise r h2
    unfold dupI
    cases e : dupI r with
    | nil => exact List.pairwise_singleton _ _
    | cons m q =>
      rw [e] at ih
      simp only
      split
      · exact ih
      · rename_i ne
        refine List.pairwise_cons.mpr ⟨fun x hx => ?_, ih⟩
        have hm : n ≤ m := h1 m ((dupI_mem m r).mp (by rw [e]; exact List.mem_cons_self))
        rcases List.mem_cons.mp hx with z | z
        · omega
        · have := (List.pairwise_cons.mp ih).1 x z
          omega
theorem rise_uniq {a b : List Int} (ha : a.Pairwise (· < ·)) (hb : b.Pairwise (· < ·)) (h : ∀ x, x ∈ a ↔ x ∈ b) : a = b := by
  have na : a.Nodup := ha.imp fun {x y} h => by omega
  have nb : b.Nodup := hb.imp fun {x y} h => by omega
  have p : a.Perm b := (List.perm_ext_iff_of_nodup na nb).mpr h
  exact p.eq_of_pairwise (fun x y _ _ h1 h2 => by omega) ha hb
theorem sortI_mem {x : Int} {l : List Int} : x ∈ sortI l ↔ x ∈ l := (sortG_perm l).mem_iff
theorem sortI_le (l : List Int) : (sortI l).Pairwise (· ≤ ·) := (sortG_sorted swo_I l).imp fun {x y} h => by simp only [ltI, decide_eq_false_iff_not] at h; omega
theorem set_uniq {ns ms : List Int} (hm : ms.Pairwise (· < ·)) (h : ∀ k : Int, k ∈ ms ↔ decide (k ∈ ns) = true) : ms = dupI (sortI ns) :=
  rise_uniq hm (dupI_rise _ (sortI_le ns)) fun x => by rw [h, dupI_mem, sortI_mem, decide_eq_true_eq]
theorem de_sortedSet {e : Expr} {p p' pos pos' : Pos} {fa : Ex} (hc : X.calm = true) (hm : X.mg "sorted" = none) (hm' : X.mg "set" = none) (ha : PE X e (tX X.K W fa)) (hg : Gl X "sorted" := by rfl) (hg' : Gl X "set" := by rfl)
    (he : starEach [e] X.env = (false, eval e X.env) :: starEach [] X.env := by rfl) (he' : starEach [.Call (.Name "set" p') [e] [] pos'] X.env = (false, eval (.Call (.Name "set" p') [e] [] pos') X.env) :: starEach [] X.env := by rfl) :
    PE X (.Call (.Name "sorted" p) [.Call (.Name "set" p') [e] [] pos'] [] pos) (tX X.K W (xUn oSortedSet fa)) := by
  have h1 : PE X (.Call (.Name "set" p') [e] [] pos') _ := pe_callTy (cr_setI hc) hg' hm' (by decide +kernel) (pa_cons ha pa_nil he) (by decide) (by decide) he (by rfl)
  refine PE.imp (pe_callB (cr_sortedSet hc) hg hm (by decide +kernel) (pa_cons h1 pa_nil he') (by decide) (by decide) he' (by rfl)) fun sg H Q hq => ?_
  obtain ⟨io, rho, dh, rs, rh, p⟩ := hq
  refine bnd_ok rs rh p fun io1 H1 x v h1 s1 rs1 rh1 r1 p1 => ?_
  obtain ⟨d, e, q⟩ := Post.of p1
  unfold oSortedSet at e
  cases e1 : lstOf h1 x with
  | none => rw [e1] at e; cases e
  | some ds =>
    rw [e1] at e
    simp only [Option.bind_some] at e
    cases e2 : intsOf ds with
    | none => rw [e2] at e; cases e
    | some ns =>
      rw [e2] at e
      simp only [Option.bind_some] at e
      split at e
      · rename_i hl
        cases e
        obtain ⟨a, vs, rfl, ha, rl⟩ := lstOf_ok r1 rh1 e1
        obtain ⟨v1, _⟩ := intsOf_ok rl e2
        subst v1
        refine ⟨a, ns, rfl, .inl (.inl ha), by omega, fun p n hn hp => ?_⟩
        refine ⟨p, _, n, rfl, upd_same, by omega, fun ms p2 hr hk hlen hp2 => ?_⟩
        rw [set_uniq hr hk]
        have rh2 := rh1.new (o := SetO X.w p (fun j => decide (j ∈ ns)) n) hp
        obtain ⟨s3, r3, rd⟩ := rel_lst rh2 (relL_ints (dupI (sortI ns))) hp2
        exact q io1 _ _ ((stp_new hp).trans s3) r3 rd
      · cases e
end
end DL
set_option maxRecDepth 100000
set_option maxHeartbeats 2000000
namespace DL
open PySem PySem.Spec L2
open PyProof.Rows hiding St
section
variable {X : Cx} {W : WX} {K : PySem.W.Frag} {io : Io} {H : Hp} {h : DH}
/-! ### dict displays -/
structure DPr (X : Cx) (W : WX) (pos : Pos) (keys : List (Option Expr)) (values : List Expr) (ks : List Key) (fs : Ax) : Prop where
  all : keys.all (·.isSome) = true
  len : keys.length = values.length
  ln2 : keys.length = ks.length
  ex : ∃ trs, PPs X pos keys values trs ∧ ∀ sg H (Q : List (V × V) → Hp → Prop), tA X.K W fs sg H (fun vs H1 => vs.length = ks.length → Q ((ks.zip vs).map fun kv => (kV kv.1, kv.2)) H1) → tPairs trs sg H Q
theorem dp_nil {pos : Pos} : DPr X W pos [] [] [] xNil := ⟨rfl, rfl, rfl, [], pps_nil, fun sg H Q hq => by
  obtain ⟨io, rho, dh, rs, rh, p⟩ := hq
  exact p io H [] .refl rh .nil rfl⟩
theorem dp_cons {pos : Pos} {k : Key} {ke v : Expr} {keys : List (Option Expr)} {values : List Expr} {ks : List Key} {fa : Ex} {fs : Ax} (hk : PE X ke (tC (kV k))) (hv : PE X v (tX X.K W fa)) (hr : DPr X W pos keys values ks fs) : DPr X W pos (some ke :: keys) (v :: values) (k :: ks) (xCons fa fs) := by
  obtain ⟨a, b, c, trs, pp, g⟩ := hr
  refine ⟨by simp [a], by simp [b], by simp [c], _, pps_cons hk hv pp, fun sg H Q hq => ?_⟩
  obtain ⟨io, rho, dh, rs, rh, p⟩ := hq
  refine bnd_ok rs rh p fun io1 H1 x v h1 s1 rs1 rh1 r1 p1 => ?_
  refine g sg H1 _ (bnd_ok rs1 rh1 p1 fun io2 H2 y u h2 s2 rs2 rh2 r2 p2 => ?_)
  intro hl
  exact p2 io2 H2 (v :: u) .refl rh2 (.cons (r1.stp s2) r2) (by simp [hl])
theorem dp_str {pos p : Pos} {x : Str} {j : Nat} {v : Expr} {keys : List (Option Expr)} {values : List Expr} {ks : List Key} {fa : Ex} {fs : Ax} (hv : PE X v (tX X.K W fa)) (hr : DPr X W pos keys values ks fs) : DPr X W pos (some (.Constant (.str x) j p) :: keys) (v :: values) (.inr x :: ks) (xCons fa fs) := dp_cons pe_str hv hr
theorem dp_int {pos p : Pos} {x : Int} {j : Nat} {v : Expr} {keys : List (Option Expr)} {values : List Expr} {ks : List Key} {fa : Ex} {fs : Ax} (hv : PE X v (tX X.K W fa)) (hr : DPr X W pos keys values ks fs) : DPr X W pos (some (.Constant (.int x) j p) :: keys) (v :: values) (.inl x :: ks) (xCons fa fs) := dp_cons pe_int hv hr
theorem RelM.fold {es : List (Key × D)} {kvs : List (Key × V)} (r : RelM K io H es kvs) : ∀ {ps : List (Key × D)} {qs : List (Key × V)}, RelM K io H ps qs → RelM K io H (ps.foldl (fun es kv => putD es kv.1 kv.2) es) (qs.foldl (fun acc kv => putK acc kv.1 kv.2) kvs) := by
  intro ps
  induction ps generalizing es kvs with
  | nil => intro qs rq; cases rq; exact r
  | cons p ps ih =>
    intro qs rq
    cases rq with
    | cons a rq => exact ih (r.put _ a) rq
theorem RelM.zip : ∀ {ks : List Key} {ds : List D} {vs : List V}, RelL K io H ds vs → RelM K io H (ks.zip ds) (ks.zip vs)
  | [], _, _, _ => by simp; exact .nil
  | k :: ks, [], _, r => by cases r; exact .nil
  | k :: ks, d :: ds, _, r => by
    cases r with
    | cons a r => exact .cons a (RelM.zip r)
theorem de_dctE {keys : List (Option Expr)} {values : List Expr} {pos : Pos} {ks : List Key} {fs : Ax} (h0 : keys ≠ []) (h15 : keys.length ≤ 15) (hp : DPr X W pos keys values ks fs) : PE X (.Dict keys values pos) (tX X.K W (xDctE ks fs)) := by
  obtain ⟨a, b, c, trs, pp, g⟩ := hp
  refine PE.imp (pe_disp pp a b h0 h15) fun sg H Q hq => ?_
  obtain ⟨io, rho, dh, rs, rh, p⟩ := hq
  intro q hq0
  obtain ⟨s2, r2, rd⟩ := rel_num (o := .dct []) (ho := .dK []) rh ⟨[], rfl, .nil⟩ hq0
  refine g sg _ _ ?_
  have p2 : Post X.K (RelD X.K) W (io.add q) (upd H q (.dK [])) sg Q ((fs rho (dh ++ [.dct []])).bnd fun ds h1 => match h1[dh.length]? with
    | some (.dct []) => .ok (.ref dh.length) (h1.set dh.length (.dct (mkD ks ds)))
    | _ => .bad) := Post.stp p s2
  refine bnd_ok (rs.stp s2) r2 p2 fun io3 H3 ds vs h3 s3 rs3 rh3 r3 p3 => ?_
  intro hl
  split at p3
  · rename_i e3
    have rd3 : RelD X.K io3 H3 (.ref dh.length) (.ref q) := rd.stp s3
    cases rd3 with
    | ref ei =>
      obtain ⟨ho, e4, kvs, e5, rm⟩ := rh3.obj _ q _ ei e3
      subst e5
      cases rm
      refine ⟨e4, ks.zip vs, rfl, by simp [hl]; omega, ?_⟩
      have nz : ∀ ob u, H3 q ≠ some (.frz ob u) := fun ob u z => by rw [e4] at z; cases z
      have rmk : RelM X.K io3 H3 (mkD ks ds) (mergeK [] (ks.zip vs)) := RelM.fold .nil (RelM.zip r3)
      have st := stp_put (o := HO.dK (mergeK [] (ks.zip vs))) (List.mem_of_getElem? ei) nz
      exact p3 io3 _ _ st (rh3.put (o := .dct (mkD ks ds)) ei nz ⟨_, rfl, rmk.stp st⟩) (.ref ei)
  · exact p3.elim
/-! ### d.get(k, x) -/
theorem isD_of {d : D} {x : V} {es : List (Key × D)} (r : RelD K io H d x) (rh : RelH K io H h) (e : dctOf h d = some es) : ∃ a kvs, x = .ref a ∧ Rd H a (.dK kvs) ∧ RelM K io H es kvs := dctOf_ok r rh e
theorem de_get {o e f : Expr} {apos cpos : Pos} {fo fk fd : Ex} (hu : X.A.units + 64 < cLine) (ho : PE X o (tX X.K W fo)) (hk : PE X e (tX X.K W fk)) (hd : PE X f (tX X.K W fd)) (m : M2 X o "get" apos e f cpos := by exact ⟨rfl, rfl, rfl, rfl⟩) : PE X (.Call (.Attribute o "get" apos) [e, f] [] cpos) (tX X.K W (xGet fo fk fd)) := PE.imp (pe_dget2 (by omega) ho hk hd m) fun sg H Q hq => by
  obtain ⟨io, rho, dh, rs, rh, p⟩ := hq
  refine bnd_ok rs rh p fun io1 H1 x v h1 s1 rs1 rh1 r1 p1 => ?_
  split at p1
  · rename_i es0 e0
    obtain ⟨a, kvs0, rfl, rd0, rm0⟩ := dctOf_ok r1 rh1 e0
    refine ⟨a, rfl, .inl ⟨_, rd0⟩, ?_⟩
    refine bnd_ok rs1 rh1 p1 fun io2 H2 k vk h2 s2 rs2 rh2 r2 p2 => ?_
    refine bnd_ok rs2 rh2 p2 fun io3 H3 d vd h3 s3 rs3 rh3 r3 p3 => ?_
    split at p3
    · rename_i es kk e1 e2
      obtain ⟨a', kvs, ea, rd, rm⟩ := dctOf_ok ((r1.stp s2).stp s3) rh3 e1
      cases ea
      have ek := keyD_ok (r2.stp s3) e2
      subst ek
      refine ⟨valV kvs kk, .inl ⟨kvs, kk, rd, rfl, rfl⟩, ?_⟩
      obtain ⟨g1, g2⟩ := rm.get kk
      cases e3 : getK es kk with
      | none =>
        rw [g2 e3]
        rw [e3] at p3
        exact p3 io3 H3 _ .refl rh3 r3
      | some d2 =>
        obtain ⟨v2, e4, rv⟩ := g1 d2 e3
        rw [e4]
        rw [e3] at p3
        exact p3 io3 H3 _ .refl rh3 rv
    · exact p3.elim
  · exact p1.elim
/-! ### d.pop(k) -/
theorem de_popK {o e : Expr} {apos cpos : Pos} {fo fk : Ex} (ho : PE X o (tX X.K W fo)) (hk : PE X e (tX X.K W fk)) (m : M1 X o "pop" apos e cpos := by exact ⟨rfl, rfl, rfl, rfl⟩) : PE X (.Call (.Attribute o "pop" apos) [e] [] cpos) (tX X.K W (xPopK fo fk)) := PE.imp (pe_dpop1 ho hk m) fun sg H Q hq => by
  obtain ⟨io, rho, dh, rs, rh, p⟩ := hq
  refine bnd_ok rs rh p fun io1 H1 x v h1 s1 rs1 rh1 r1 p1 => ?_
  cases x with
  | ref i =>
    cases r1 with
    | ref ei =>
      rename_i a
      simp only [refD] at p1
      split at p1
      · rename_i es0 e0
        obtain ⟨ho, q1, kvs0, rfl, rm0⟩ := rh1.obj i a _ ei e0
        refine ⟨a, rfl, .inl ⟨_, .inl q1⟩, ?_⟩
        refine bnd_ok rs1 rh1 p1 fun io2 H2 k vk h2 s2 rs2 rh2 r2 p2 => ?_
        split at p2
        · rename_i kk es e1 e2
          have ek := keyD_ok r2 e1
          subst ek
          have ei2 := s2.at ei
          obtain ⟨ho2, q2, kvs, rfl, rm⟩ := rh2.obj i a _ ei2 e2
          split at p2
          · rename_i dv e3
            obtain ⟨g1, g2⟩ := rm.get kk
            obtain ⟨v2, e4, rv⟩ := g1 dv e3
            have nz : ∀ ob u, H2 a ≠ some (.frz ob u) := fun ob u z => by rw [q2] at z; cases z
            have st := stp_put (o := HO.dK (dropK kvs kk)) (List.mem_of_getElem? ei2) nz
            exact ⟨kvs, kk, v2, q2, rfl, e4, p2 io2 _ _ st (rh2.put (o := .dct (dropD es kk)) ei2 nz ⟨_, rfl, (rm.drop kk).stp st⟩) (rv.stp st)⟩
          · exact p2.elim
        · exact p2.elim
      · exact p1.elim
  | _ => exact p1.elim
end
end DL
set_option maxRecDepth 100000
set_option maxHeartbeats 2000000
namespace DL
open PySem PySem.Spec L2
open PyProof.Rows hiding St
section
variable {X : Cx} {W : WX} {K : PySem.W.Frag} {io : Io} {H : Hp} {h : DH}
/-! ### a method of one argument that changes nothing -/
theorem de_mt {T : String} {name : Str} {id : String} {rr : V → List V → Hp → VK → Prop} {chk : DH → D → Bool} {op : P2} {o e : Expr} {apos cpos : Pos} {fo fv : Ex} (pa : PlainAttrs T) (slot : Slot T name id) (hty : typeOf (.builtin id) = pure (.type "method_descriptor")) (hm : MtR X id rr)
    (hok : ∀ io H h dx dy d x y Q, RelD X.K io H dx x → RelD X.K io H dy y → RelH X.K io H h → op h dx dy = some d → (∀ H' u, Stp io H io H' → RelH X.K io H' h → RelD X.K io H' d u → Q u H') → rr x [y] H Q)
    (hT : ∀ io H h dx x, RelD X.K io H dx x → RelH X.K io H h → chk h dx = true → tyV X.K T x H)
    (ho : PE X o (tX X.K W fo)) (hv : PE X e (tX X.K W fv)) (hbase : attributeBase o name X.env (eval o X.env) = eval o X.env)
    (hfew : ((backTo cpos (starEach [e] X.env)).all (fun x => !x.1) && (backToKw cpos (keywordEach [] X.env)).all (fun x => x.1.isSome)
      && decide (([e] : List Expr).length + ([] : List Keyword).length + (if ([] : List Keyword).isEmpty then 0 else 1) < 30)) = true)
    (hline : (apos.endLine == cpos.line) = true) (hs : starEach [e] X.env = (false, eval e X.env) :: starEach [] X.env) : PE X (.Call (.Attribute o name apos) [e] [] cpos) (tX X.K W (xMt chk op fo fv)) :=
  PE.imp (pe_bm pa slot hty hm ho (pa_cons hv pa_nil hs) hbase hfew hline hs (by rfl)) fun sg H Q hq => by
  obtain ⟨io, rho, dh, rs, rh, p⟩ := hq
  refine bnd_ok rs rh p fun io1 H1 dx x h1 s1 rs1 rh1 r1 p1 => ?_
  split at p1
  · rename_i hc
    refine ⟨hT io1 H1 h1 dx x r1 rh1 hc, bnd_ok rs1 rh1 p1 fun io2 H2 dy y h2 s2 rs2 rh2 r2 p2 => ?_⟩
    obtain ⟨d, e, q⟩ := Post.of p2
    exact hok io2 H2 h2 dx dy d x y Q (r1.stp s2) r2 rh2 e fun H' u s r rd => q io2 H' u s r rd
  · exact p1.elim
theorem isLst_ty {d : D} {x : V} (r : RelD K io H d x) (rh : RelH K io H h) (e : isLstB h d = true) : tyV K "list" x H := by
  unfold isLstB at e
  cases e1 : lstOf h d with
  | none => rw [e1] at e; cases e
  | some xs =>
    obtain ⟨a, vs, rfl, ha, _⟩ := lstOf_ok r rh e1
    exact .inl ⟨rfl, vs, .inl (.inl ha)⟩
theorem isStr_ty {d : D} {x : V} (r : RelD K io H d x) (e : isStrB h d = true) : tyV K "str" x H := by
  cases d with
  | str z => cases r; rfl
  | _ => cases e
theorem ixD_ok {y : D} {vy : V} (fy : flatD y = true) (ry : RelD K io H y vy) : ∀ {xs : List D} {vs : List V} {k : Nat}, xs.all flatD = true → RelL K io H xs vs → ixD y xs = some k → ∃ z, vs[k]? = some z ∧ eqV z vy = true ∧ ∀ (m : Nat) (z' : V), m < k → vs[m]? = some z' → eqV z' vy = false
  | [], vs, k, _, r, e => by cases e
  | x :: xs, vs, k, f, r, e => by
    rw [List.all_cons, Bool.and_eq_true] at f
    cases r with
    | cons a r =>
      unfold ixD at e
      split at e
      · rename_i hx
        cases e
        exact ⟨_, rfl, by rw [← flat_eq f.1 fy a ry]; exact hx, fun m z' hm => absurd hm (Nat.not_lt_zero m)⟩
      · rename_i hx
        rw [Option.map_eq_some_iff] at e
        obtain ⟨k', e, rfl⟩ := e
        obtain ⟨z, e1, e2, e3⟩ := ixD_ok fy ry f.2 r e
        refine ⟨z, by simpa using e1, e2, fun m z' hm hz => ?_⟩
        cases m with
        | zero =>
          simp at hz
          subst hz
          rw [← flat_eq f.1 fy a ry]
          simpa using hx
        | succ m => exact e3 m z' (by omega) (by simpa using hz)
theorem de_index {o e : Expr} {apos cpos : Pos} {fo fv : Ex} (ho : PE X o (tX X.K W fo)) (hv : PE X e (tX X.K W fv)) (hbase : attributeBase o "index" X.env (eval o X.env) = eval o X.env := by rfl)
    (hfew : ((backTo cpos (starEach [e] X.env)).all (fun x => !x.1) && (backToKw cpos (keywordEach [] X.env)).all (fun x => x.1.isSome)
      && decide (([e] : List Expr).length + ([] : List Keyword).length + (if ([] : List Keyword).isEmpty then 0 else 1) < 30)) = true := by rfl)
    (hline : (apos.endLine == cpos.line) = true := by rfl) (hs : starEach [e] X.env = (false, eval e X.env) :: starEach [] X.env := by rfl) : PE X (.Call (.Attribute o "index" apos) [e] [] cpos) (tX X.K W (xMt isLstB oIndex fo fv)) := by
  refine de_mt PySem.F.plainAttrs_list PySem.F.slot_list_index PySem.F.type_list_index mt_index (fun io H h dx dy d x y Q r1 r2 rh e q => ?_) (fun io H h dx x r rh c => isLst_ty r rh c) ho hv hbase hfew hline hs
  unfold oIndex at e
  split at e
  · rename_i xs e1
    split at e
    · rename_i hf
      rw [Bool.and_eq_true] at hf
      rw [Option.map_eq_some_iff] at e
      obtain ⟨k, e, rfl⟩ := e
      obtain ⟨a, vs, rfl, ha, rl⟩ := lstOf_ok r1 rh e1
      obtain ⟨z, z1, z2, z3⟩ := ixD_ok hf.1 r2 hf.2 rl e
      exact ⟨a, vs, y, k, z, rfl, rfl, .inl (.inl ha), flat_flat hf.1 r2, flat_all rl hf.2, z1, z2, z3, q H _ .refl rh (.int _)⟩
    · cases e
  · cases e
theorem small_ix : ∀ c : Fin 26, Builtin.Str.occurrences smallS ⟨#[97 + c.val]⟩ 0 smallS.length 1 = [c.val] := by decide +kernel
theorem de_indexS {o e : Expr} {apos cpos : Pos} {fo fv : Ex} (ho : PE X o (tX X.K W fo)) (hv : PE X e (tX X.K W fv)) (hbase : attributeBase o "index" X.env (eval o X.env) = eval o X.env := by rfl)
    (hfew : ((backTo cpos (starEach [e] X.env)).all (fun x => !x.1) && (backToKw cpos (keywordEach [] X.env)).all (fun x => x.1.isSome)
      && decide (([e] : List Expr).length + ([] : List Keyword).length + (if ([] : List Keyword).isEmpty then 0 else 1) < 30)) = true := by rfl)
    (hline : (apos.endLine == cpos.line) = true := by rfl) (hs : starEach [e] X.env = (false, eval e X.env) :: starEach [] X.env := by rfl) : PE X (.Call (.Attribute o "index" apos) [e] [] cpos) (tX X.K W (xMt isStrB oIndexS fo fv)) := by
  refine de_mt PySem.F.plainAttrs_str PySem.F.slot_str_index PySem.F.type_str_index mt_sindex (fun io H h dx dy d x y Q r1 r2 rh e q => ?_) (fun io H h dx x r rh c => isStr_ty r c) ho hv hbase hfew hline hs
  unfold oIndexS at e
  split at e
  · split at e
    · rename_i a b c ec
      split at e
      · rename_i hc
        obtain ⟨rfl, c1, c2⟩ := hc
        cases e
        cases r1
        cases r2
        have eb := one_sign ec
        subst eb
        have := small_ix ⟨c - 97, by omega⟩
        simp only at this
        rw [show 97 + (c - 97) = c by omega] at this
        exact ⟨smallS, ⟨#[c]⟩, c - 97, [], rfl, rfl, this, q H _ .refl rh (.int _)⟩
      · cases e
    · cases e
  · cases e
theorem de_strip {o e : Expr} {apos cpos : Pos} {fo fv : Ex} (ho : PE X o (tX X.K W fo)) (hv : PE X e (tX X.K W fv)) (hbase : attributeBase o "strip" X.env (eval o X.env) = eval o X.env := by rfl)
    (hfew : ((backTo cpos (starEach [e] X.env)).all (fun x => !x.1) && (backToKw cpos (keywordEach [] X.env)).all (fun x => x.1.isSome)
      && decide (([e] : List Expr).length + ([] : List Keyword).length + (if ([] : List Keyword).isEmpty then 0 else 1) < 30)) = true := by rfl)
    (hline : (apos.endLine == cpos.line) = true := by rfl) (hs : starEach [e] X.env = (false, eval e X.env) :: starEach [] X.env := by rfl) : PE X (.Call (.Attribute o "strip" apos) [e] [] cpos) (tX X.K W (xMt isStrB oStrip fo fv)) := by
  refine de_mt PySem.F.plainAttrs_str PySem.F.slot_str_strip PySem.F.type_str_strip mt_stripChars (fun io H h dx dy d x y Q r1 r2 rh e q => ?_) (fun io H h dx x r rh c => isStr_ty r c) ho hv hbase hfew hline hs
  unfold oStrip at e
  split at e
  · split at e
    · rename_i a b hl
      cases e
      cases r1
      cases r2
      exact ⟨a, b, rfl, rfl, hl, q H _ .refl rh (.str _)⟩
    · cases e
  · cases e
/-! ### o[k] op= v -/
theorem ds_itemaug {o i value : Expr} {pos tpos : Pos} {fo fi fv : Ex} {ao : Operator} {op : Int → Int → Int} (hu : X.A.units + 64 < cLine) (hop : InOp X ao (fun x y H Q => ∃ i j, x = .int i ∧ y = .int j ∧ Q (.int (op i j)) H)) (ho : PE X o (tX X.K W fo)) (hi : PE X i (tX X.K W fi)) (hv : PE X value (tX X.K W fv))
    (ha : ∀ ov iv new, augStore i ov iv new = (do holding [new, ov, iv] (setItem ov iv new); release [new, ov, iv] []; pure .next) := by intro _ _ _; rfl) : PS X (.AugAssign (.Subscript o i tpos) ao value pos) (tS X.K W (zItemAug op fo fi fv)) := PS.imp (ps_daug (by omega) ho hi hv hop ha) fun N sg H hq => by
  obtain ⟨io, rho, dh, rs, rh, p⟩ := hq
  refine toS_ok rs rh p fun io1 H1 dx x h1 s1 rs1 rh1 r1 p1 => ?_
  refine toS_ok rs1 rh1 p1 fun io2 H2 dy y h2 s2 rs2 rh2 r2 p2 => ?_
  split at p2
  · rename_i a k e1 e2
    cases dx with
    | ref a' =>
      cases e1
      have r1' := r1.stp s2
      cases r1' with
      | ref ei =>
        rename_i ad
        have ek := keyD_ok r2 e2
        subst ek
        split at p2
        · rename_i es e3
          obtain ⟨ho, q1, kvs, rfl, rm⟩ := rh2.obj _ ad _ ei e3
          split at p2
          · rename_i n e4
            cases e5 : getK es k with
            | none => rw [e5] at e4; cases e4
            | some dv =>
              rw [e5] at e4
              cases dv with
              | int n' =>
                cases e4
                obtain ⟨g1, g2⟩ := rm.get k
                obtain ⟨v2, e6, rv⟩ := g1 _ e5
                cases rv
                refine ⟨ad, _, rfl, .inl ⟨kvs, k, .inl q1, rfl, e6.symm⟩, ?_⟩
                refine toS_ok rs2 rh2 p2 fun io3 H3 dz z h3 s3 rs3 rh3 r3 p3 => ?_
                split at p3
                · rename_i m es' e7 e8
                  split at p3
                  · rename_i hs
                    cases dz with
                    | int m' =>
                      cases e7
                      cases r3
                      refine ⟨_, _, rfl, rfl, ?_⟩
                      have ei3 := s3.at ei
                      obtain ⟨ho3, q3, kvs3, rfl, rm3⟩ := rh3.obj _ ad _ ei3 e8
                      have nz : ∀ ob u, H3 ad ≠ some (.frz ob u) := fun ob u z => by rw [q3] at z; cases z
                      have st := stp_put (o := HO.dK (putK kvs3 k (.int (op n m)))) (List.mem_of_getElem? ei3) nz
                      have hlt : kvs3.length < sizeLine := by rw [← rm3.length]; exact hs
                      exact ⟨_, .inl ⟨kvs3, k, q3, rfl, hlt, rfl⟩, p3 io3 sg _ st (rs3.stp st) (rh3.put (o := .dct (putD es' k (.int (op n m)))) ei3 nz ⟨_, rfl, (rm3.put k (.int _)).stp st⟩)⟩
                    | _ => cases e7
                  · exact p3.elim
                · exact p3.elim
              | _ => cases e4
          · exact p2.elim
        · exact p2.elim
    | _ => cases e1
  · exact p2.elim
/-! ### the keys of a dict walked: it is locked from then on -/
theorem pi_lockKeys {tg e : Expr} {te : TE} (he : PE X e te) : PI X tg e (fun sg H R => te sg H fun x H1 => ∃ d kvs, x = .ref d ∧ ((H1 d = some (.dK kvs) ∧ ∀ o, R (Itk d o kvs) (upd H1 d (.frz o (.dK kvs)))) ∨ ∃ o, H1 d = some (.frz o (.dK kvs)) ∧ R (Itk d o kvs) H1)) := by
  refine ⟨fun pins s sg H R I hq => ?_⟩
  refine thn (he.run pins s sg H _ I hq) fun u s1 ⟨x, H1, I1, rx, d, kvs, ex, q⟩ => ?_
  subst ex
  obtain rfl : u = Value.ref d := rx
  rcases q with ⟨q1, q⟩ | ⟨o, q1, q⟩
  · obtain ⟨o, I2⟩ := I1.lock q1 trivial
    have q2 : upd H1 d (.frz o (.dK kvs)) d = some (.frz o (.dK kvs)) := upd_same
    obtain ⟨hs, hgd, hx, es, ep, vs, hdt, hsz, kv, hm⟩ := I2.frzK q2
    refine iter_keys hs hgd hx hdt (pi_one (tk := s1.toks) I2 _ (turn_keys _ hdt) ⟨_, Heap.get?_push_size _ rfl, rfl, ?_⟩ (q o))
    rw [hsz]
    rfl
  · obtain ⟨hs, hgd, hx, es, ep, vs, hdt, hsz, kv, hm⟩ := I1.frzK q1
    refine iter_keys hs hgd hx hdt (pi_one (tk := s1.toks) I1 _ (turn_keys _ hdt) ⟨_, Heap.get?_push_size _ rfl, rfl, ?_⟩ q)
    rw [hsz]
    rfl
theorem walk_keysD {d : Addr} {o : Obj} {es : List (Key × D)} {kvs : List (Key × V)} (hd : H d = some (.frz o (.dK kvs))) (rm : RelM K io H es kvs) : WalkD K io H (es.map fun kv => dKey kv.1) (Itk d o kvs) := fun io' H' h' s r => by
  have hd' := s.frz d o _ hd
  have rk := relL_keys (rm.stp s)
  refine ⟨fun i dd e => ?_, hd', by rw [List.length_map, rm.length]; exact Nat.le_refl _⟩
  obtain ⟨v, ev, rv⟩ := rk.get e
  rw [List.getElem?_map, Option.map_eq_some_iff] at ev
  obtain ⟨kv, ek, rfl⟩ := ev
  refine ⟨⟨hd', (List.getElem?_eq_some_iff.mp ek).1⟩, fun x H'' hy => ?_⟩
  obtain ⟨rfl, k, v, e1, rfl⟩ := hy
  rw [ek] at e1
  cases e1
  exact ⟨.refl, r, rv⟩
theorem di_keys {tg e : Expr} {fa : Ex} (ha : PE X e (tX X.K W fa)) : PI X tg e (tI X.K W (iKeysD fa)) := PI.imp (pi_lockKeys ha) fun sg H R hq => by
  obtain ⟨io, rho, dh, rs, rh, p⟩ := hq
  refine bnd_ok rs rh p fun io1 H1 d v h1 s1 rs1 rh1 r1 p1 => ?_
  cases d with
  | ref i =>
    cases r1 with
    | ref ei =>
      rename_i a
      simp only [refD] at p1
      split at p1
      · rename_i es e0
        obtain ⟨ho, q1, kvs, rfl, rm⟩ := rh1.obj i a _ ei e0
        refine ⟨a, kvs, rfl, .inl ⟨q1, fun o => ?_⟩⟩
        have nz : ∀ ob u, H1 a ≠ some (.frz ob u) := fun ob u z => by rw [q1] at z; cases z
        have st := stp_put (o := HO.frz o (.dK kvs)) (List.mem_of_getElem? ei) nz
        exact p1 io1 _ _ st (rh1.put (o := .lck (.dct es)) ei nz ⟨o, _, rfl, kvs, rfl, rm.stp st⟩) (walk_keysD upd_same (rm.stp st))
      · rename_i es e0
        obtain ⟨ho, q1, o, u, rfl, kvs, rfl, rm⟩ := rh1.obj i a _ ei e0
        exact ⟨a, kvs, rfl, .inr ⟨o, q1, p1 io1 _ _ .refl rh1 (walk_keysD q1 rm)⟩⟩
      · exact p1.elim
  | _ => exact p1.elim
/-! ### dict(pairs) -/
theorem kvsOf_ok : ∀ {ds : List D} {vs : List V} {es : List (Key × D)}, RelL K io H ds vs → kvsOf ds = some es → ∃ (ps : List Addr) (kvs : List (Key × V)), vs = ps.map V.ref ∧ Paired (fun p kv => SqT K H p [kV kv.1, kv.2]) ps kvs ∧ RelM K io H es kvs
  | [], vs, es, r, e => by
    cases r
    cases e
    exact ⟨[], [], rfl, .nil, .nil⟩
  | d :: ds, vs, es, r, e => by
    cases r with
    | cons a r =>
      unfold kvsOf at e
      split at e
      · rename_i z; cases z
      · rename_i k v rest z
        cases z
        cases e2 : keyD k with
        | none => rw [e2] at e; cases e
        | some kk =>
          rw [e2] at e
          simp only [Option.map_eq_some_iff] at e
          obtain ⟨es', e3, rfl⟩ := e
          obtain ⟨ps, kvs, e4, pr, rm⟩ := kvsOf_ok r e3
          cases a with
          | tup f rl =>
            rename_i ad vv
            cases rl with
            | cons r1 rl =>
              cases rl with
              | cons r2 rl =>
                cases rl
                have ek := keyD_ok r1 e2
                subst ek
                rename_i v2
                exact ⟨ad :: ps, (kk, v2) :: kvs, by rw [e4]; rfl, .cons f.sq pr, .cons r2 rm⟩
      · cases e
theorem de_dictP {e : Expr} {p pos : Pos} {fa : Ex} (hc : X.calm = true) (hm : X.mg "dict" = none) (ha : PE X e (tX X.K W fa)) (hg : Gl X "dict" := by rfl) (he : starEach [e] X.env = (false, eval e X.env) :: starEach [] X.env := by rfl) : PE X (.Call (.Name "dict" p) [e] [] pos) (tX X.K W (xDictP fa)) := PE.imp (pe_callTy (call_dictP hc) hg hm (by decide +kernel) (pa_cons ha pa_nil he) (by decide) (by decide) he (by rfl)) fun sg H Q hq => by
  obtain ⟨io, rho, dh, rs, rh, p⟩ := hq
  refine bnd_ok rs rh p fun io1 H1 x v h1 s1 rs1 rh1 r1 p1 => ?_
  split at p1
  · rename_i es e1
    cases e2 : lstOf h1 x with
    | none => rw [e2] at e1; cases e1
    | some ds =>
      rw [e2] at e1
      obtain ⟨a, vs, rfl, ha, rl⟩ := lstOf_ok r1 rh1 e2
      obtain ⟨ps, kvs, e3, pr, rm⟩ := kvsOf_ok rl e1
      subst e3
      refine ⟨a, ps, kvs, rfl, .inl (.inl ha), pr, fun p hp => ?_⟩
      obtain ⟨s2, r2, rd⟩ := rel_num (o := .dct (es.foldl (fun es kv => putD es kv.1 kv.2) [])) (ho := .dK (mergeK [] kvs)) rh1 ⟨_, rfl, RelM.fold .nil rm⟩ hp
      exact p1 _ _ _ s2 r2 rd
  · exact p1.elim
/-! ### lists: *, + to be changed; sum, max; [::-1] -/
theorem de_mulN {a b : Expr} {pos : Pos} {fa fb : Ex} (ha : PE X a (tX X.K W fa)) (hb : PE X b (tX X.K W fb)) : PE X (.BinOp a .Mult b pos) (tX X.K W (xMulN fa fb)) := PE.imp (pe_op op_rep ha hb) fun sg H Q hq => by
  obtain ⟨io, rho, dh, rs, rh, p⟩ := hq
  refine bnd_ok rs rh p fun io1 H1 x v h1 s1 rs1 rh1 r1 p1 => ?_
  refine bnd_ok rs1 rh1 p1 fun io2 H2 y u h2 s2 rs2 rh2 r2 p2 => ?_
  split at p2
  · rename_i k
    split at p2
    · rename_i xs e1
      split at p2
      · rename_i hc
        obtain ⟨c1, c2, c3⟩ := hc
        cases r2
        obtain ⟨a1, v1, rfl, h1, l1⟩ := lstOf_ok (r1.stp s2) rh2 e1
        refine ⟨a1, k, v1, rfl, rfl, h1, by omega, by omega, ?_, fun p hp => ?_⟩
        · rw [← l1.length, sizeLine_eq]
          exact Nat.le_trans (Nat.mul_le_mul c3 (show k.toNat ≤ 1000 by omega)) (by decide)
        · obtain ⟨s3, r3, rd⟩ := rel_num (o := .lst (List.replicate k.toNat xs).flatten) (ho := .lst (List.replicate k.toNat v1).flatten) rh2 ⟨_, rfl, l1.rep _⟩ hp
          exact p2 _ _ _ s3 r3 rd
      · exact p2.elim
    · exact p2.elim
  · exact p2.elim
theorem de_addN {a b : Expr} {pos : Pos} {fa fb : Ex} (ha : PE X a (tX X.K W fa)) (hb : PE X b (tX X.K W fb)) : PE X (.BinOp a .Add b pos) (tX X.K W (xAddN fa fb)) := PE.imp (pe_op op_cat ha hb) fun sg H Q hq => by
  obtain ⟨io, rho, dh, rs, rh, p⟩ := hq
  refine bnd_ok rs rh p fun io1 H1 x v h1 s1 rs1 rh1 r1 p1 => ?_
  refine bnd_ok rs1 rh1 p1 fun io2 H2 y u h2 s2 rs2 rh2 r2 p2 => ?_
  split at p2
  · rename_i xs ys e1 e2
    split at p2
    · rename_i hl
      obtain ⟨a1, v1, rfl, h1, l1⟩ := lstOf_ok (r1.stp s2) rh2 e1
      obtain ⟨a2, v2, rfl, h2, l2⟩ := lstOf_ok r2 rh2 e2
      refine ⟨a1, a2, v1, v2, rfl, rfl, h1, h2, by rw [← l1.length, ← l2.length]; exact hl, fun p hp => ?_⟩
      obtain ⟨s3, r3, rd⟩ := rel_num (o := .lst (xs ++ ys)) (ho := .lst (v1 ++ v2)) rh2 ⟨_, rfl, l1.append l2⟩ hp
      exact p2 _ _ _ s3 r3 rd
    · exact p2.elim
  · exact p2.elim
theorem cd_sum (hc : X.calm = true) : CallR X (.builtin "sum") (rC1 X.K oSum) := by
  intro pins s sg H xs us Q I r hq
  obtain ⟨x, rfl, io, h, dx, d, rx, rh, e, q⟩ := hq
  unfold oSum at e
  cases e1 : lstOf h dx with
  | none => rw [e1] at e; cases e
  | some ds =>
    rw [e1] at e
    simp only [Option.bind_some, Option.map_eq_some_iff] at e
    obtain ⟨ns, e2, rfl⟩ := e
    obtain ⟨a, vs, rfl, ha, rl⟩ := lstOf_ok rx rh e1
    obtain ⟨v1, _⟩ := intsOf_ok rl e2
    subst v1
    exact cr_sum hc pins s sg H _ us Q I r ⟨a, ns, rfl, .inl (.inl ha), q H _ .refl rh (.int _)⟩
theorem maxI_ok : ∀ {ns : List Int} {m : Int}, maxI ns = some m → m ∈ ns ∧ ∀ y ∈ ns, y ≤ m
  | [], m, e => by cases e
  | n :: r, m, e => by
    unfold maxI at e
    cases e1 : maxI r with
    | none =>
      rw [e1] at e
      cases e
      cases r with
      | nil => exact ⟨List.mem_cons_self, fun y hy => by simp at hy; omega⟩
      | cons a b =>
        exfalso
        unfold maxI at e1
        split at e1 <;> cases e1
    | some k =>
      rw [e1] at e
      obtain ⟨h1, h2⟩ := maxI_ok e1
      simp only [Option.some.injEq] at e
      split at e
      · subst e
        refine ⟨List.mem_cons_self, fun y hy => ?_⟩
        rcases List.mem_cons.mp hy with z | z
        · omega
        · have := h2 y z; omega
      · subst e
        refine ⟨List.mem_cons_of_mem _ h1, fun y hy => ?_⟩
        rcases List.mem_cons.mp hy with z | z
        · omega
        · exact h2 y z
theorem de_rev {e : Expr} {k : Nat} {p1 p2 p3 pos : Pos} {fa : Ex} (ha : PE X e (tX X.K W fa)) : PE X (.Subscript e (.Slice none none (some (.UnaryOp .USub (.Constant (.int 1) k p1) p2)) p3) pos) (tX X.K W (xUn oRev fa)) := PE.imp (pe_revL ha) fun sg H Q hq => by
  obtain ⟨io, rho, dh, rs, rh, p⟩ := hq
  refine bnd_ok rs rh p fun io1 H1 x v h1 s1 rs1 rh1 r1 p1 => ?_
  obtain ⟨d, e, q⟩ := Post.of p1
  unfold oRev at e
  rw [Option.map_eq_some_iff] at e
  obtain ⟨xs, e1, rfl⟩ := e
  obtain ⟨a, vs, rfl, ha, rl⟩ := lstOf_ok r1 rh1 e1
  refine ⟨a, vs, rfl, .inl (.inl ha), fun p hp => ?_⟩
  have rr : RelL X.K io1 H1 xs.reverse vs.reverse := by
    clear e1 ha hp q
    induction rl using RelL.rec (motive_1 := fun _ _ _ => True) (motive_3 := fun _ _ _ => True) with
    | nil => exact .nil
    | cons a r _ ih => simp only [List.reverse_cons]; exact ih.append (.one a)
    | _ => trivial
  obtain ⟨s2, r2, rd⟩ := rel_lst rh1 rr hp
  exact q io1 _ _ s2 r2 rd
end
end DL
set_option maxRecDepth 100000
set_option maxHeartbeats 2000000
namespace DL
open PySem PySem.Spec L2
open PyProof.Rows hiding St
/-- J walks what the reader reads then -/
def WalkN (K : PySem.W.Frag) (io : Io) (H : Hp) (rd : Rdr) (J : It) : Prop := ∀ io' H' h', Stp io H io' H' → RelH K io' H' h' → ∀ ds, rd h' = some ds →
  (∀ i d, ds[i]? = some d → J.go i H' ∧ ∀ x H'', J.yld i H' x H'' → Stp io' H' io' H'' ∧ RelH K io' H'' h' ∧ RelD K io' H'' d x) ∧ ∀ i, ds.length ≤ i → J.stop i H'
abbrev tN (K : PySem.W.Frag) (W : WX) (f : IxR') : TI := tG K (WalkN K) W f
section
variable {X : Cx} {W : WX}
theorem loopR_ok {K : PySem.W.Frag} {io : Io} {H : Hp} {rd : Rdr} {J : It} {N : Ends} {G : Gx} {body : Sx} {g : TG} {rho : Rho} {h : DH} {sg : St} {fuel : Nat} (hg : TgD K g G) (w : WalkN K io H rd J) (rs : RelS K io H rho sg) (rh : RelH K io H h) (p : PostS K W io H N (zLoopR rd G body fuel 0 rho h)) :
    ∃ V : Nat → Nat → St → Hp → Prop, (∃ m, V 0 m sg H) ∧ ∀ i m sg H, V i m sg H → (J.stop i H ∧ N.nx sg H) ∨ (J.go i H ∧ ∃ M : St → Hp → Prop, (∀ sg' H', M sg' H' → ∃ m', m' < m ∧ V (i + 1) m' sg' H') ∧ ∀ x H', J.yld i H x H' → g x sg H' fun sg2 H2 => tS K W body { N with nx := M, ct := M, bk := N.nx } sg2 H2) := by
  refine ⟨fun i m sg' H' => ∃ io' r' h', Stp io H io' H' ∧ RelS K io' H' r' sg' ∧ RelH K io' H' h' ∧ PostS K W io' H' N (zLoopR rd G body m i r' h'), ⟨fuel, io, rho, h, .refl, rs, rh, p⟩, fun i m sg' H' hv => ?_⟩
  obtain ⟨io', r', h', s1, rs1, rh1, p1⟩ := hv
  cases m with
  | zero => exact p1.elim
  | succ m =>
    simp only [zLoopR] at p1
    cases e0 : rd h' with
    | none => rw [e0] at p1; exact p1.elim
    | some ds =>
      simp only [e0] at p1
      obtain ⟨w1, w2⟩ := w io' H' h' s1 rh1 ds e0
      cases hd : ds[i]? with
      | none =>
        simp only [hd] at p1
        exact .inl ⟨w2 i (List.getElem?_eq_none_iff.mp hd), p1 io' sg' H' .refl rs1 rh1⟩
      | some d =>
        simp only [hd] at p1
        obtain ⟨g1, g2⟩ := w1 i d hd
        refine .inr ⟨g1, fun sg2 H2 => ∃ m', m' < m + 1 ∧ ∃ io' r' h', Stp io H io' H2 ∧ RelS K io' H2 r' sg2 ∧ RelH K io' H2 h' ∧ PostS K W io' H2 N (zLoopR rd G body m' (i + 1) r' h'), fun sg2 H2 z => z, fun x H2 hy => ?_⟩
        obtain ⟨s2, rh2, rd2⟩ := g2 x H2 hy
        cases e1 : G d r' with
        | none => rw [e1] at p1; exact p1.elim
        | some r1 =>
          rw [e1] at p1
          refine hg io' H2 _ x r' r1 sg' _ rd2 (rs1.stp s2) e1 fun sg3 rs3 => ⟨io', r1, h', rs3, rh2, ?_⟩
          have p2 := PostS.stp p1 s2
          cases e2 : body r1 h' with
          | nx r2 h2 =>
            simp only [e2] at p2
            exact fun io4 sg4 H4 s4 rs4 rh4 => ⟨m, Nat.lt_succ_self m, io4, r2, h2, (s1.trans s2).trans s4, rs4, rh4, PostS.stp p2 s4⟩
          | ct r2 h2 =>
            simp only [e2] at p2
            exact fun io4 sg4 H4 s4 rs4 rh4 => ⟨m, Nat.lt_succ_self m, io4, r2, h2, (s1.trans s2).trans s4, rs4, rh4, PostS.stp p2 s4⟩
          | bk r2 h2 => simp only [e2] at p2; exact p2
          | rt v h2 => simp only [e2] at p2; exact p2
          | er c r2 h2 => simp only [e2] at p2; exact p2
          | bad => simp only [e2] at p2; exact p2
theorem ds_forR {tg iter : Expr} {body : List Stmt} {pos : Pos} {fi : IxR'} {G : Gx} {fb : Sx} (fuel : Nat) (hp : PassesOwn (model X.prog X.w) X.A X.env X.xe) (hc : X.calm = true) (hi : PI X tg iter (tN X.K W fi)) (hg : TgX X tg G) (hb : PSs X body (tS X.K W fb))
    (hs : ∀ x, foldedSetIterable iter X.env x = pure x := by intro _; rfl) : PS X (.For tg iter body [] pos) (tS X.K W (zForR fi G fb fuel)) := by
  obtain ⟨g, pg, hgd⟩ := hg.ex
  refine PS.imp (ps_for hp hc hi pg hb hs) fun N sg H hq => ?_
  obtain ⟨io, rho, dh, rs, rh, p⟩ := hq
  exact toS_ok rs rh p fun io1 H1 rd J h1 s1 rs1 rh1 r1 p1 => loopR_ok hgd r1 rs1 rh1 p1
theorem rdL_ok {K : PySem.W.Frag} {io : Io} {H : Hp} {h : DH} {i : Nat} {a : Addr} {ds : List D} (ei : io.nums[i]? = some a) (rh : RelH K io H h) (e : rdL i h = some ds) : ∃ vs, H a = some (.lst vs) ∧ RelL K io H ds vs := by
  unfold rdL at e
  split at e
  · rename_i xs e1
    cases e
    obtain ⟨ho, h1, vs, rfl, rl⟩ := rh.obj i a _ ei e1
    exact ⟨vs, h1, rl⟩
  · cases e
theorem sql_one {K : PySem.W.Frag} {H : Hp} {a : Addr} {vs : List V} (h : H a = some (.lst vs)) : SqL K H a vs := .inl (.inl h)
theorem walk_rdL {K : PySem.W.Frag} {io : Io} {H : Hp} {i : Nat} {a : Addr} (ei : io.nums[i]? = some a) : WalkN K io H (rdL i) (Itl K a) := fun io' H' h' s r ds e => by
  obtain ⟨vs, ha, rl⟩ := rdL_ok (s.at ei) r e
  have f' : SqL K H' a vs := sql_one ha
  refine ⟨fun j d ej => ?_, fun j hj => ⟨vs, f', by rw [← rl.length]; exact hj⟩⟩
  obtain ⟨v, ev, rv⟩ := rl.get ej
  refine ⟨⟨vs, v, f', ev⟩, fun x H'' hy => ?_⟩
  obtain ⟨rfl, hy⟩ := hy
  have := hy vs f'
  rw [ev] at this
  cases this
  exact ⟨.refl, r, rv⟩
theorem walk_rdE {K : PySem.W.Frag} {io : Io} {H : Hp} {i : Nat} {a : Addr} (ei : io.nums[i]? = some a) : WalkN K io H (rdE i) (Ite K a) := fun io' H' h' s r ds e => by
  unfold rdE at e
  rw [Option.map_eq_some_iff] at e
  obtain ⟨xs, e, rfl⟩ := e
  obtain ⟨vs, ha, rl⟩ := rdL_ok (s.at ei) r e
  have f' : SqL K H' a vs := sql_one ha
  refine ⟨fun j d ej => ?_, fun j hj => ⟨vs, f', by rw [enumD_length] at hj; rw [← rl.length]; exact hj⟩⟩
  obtain ⟨d', e1, rfl⟩ := enumD_get 0 xs j ej
  obtain ⟨v, ev, rv⟩ := rl.get e1
  refine ⟨⟨vs, v, f', ev⟩, fun x H'' hy => ?_⟩
  obtain ⟨T, y, rfl, hT, rfl, hy⟩ := hy
  have := hy vs f'
  rw [ev] at this
  cases this
  obtain ⟨s2, r2, rd⟩ := rel_tup r (RelL.two (.int (j : Int)) rv) hT
  refine ⟨s2, r2, ?_⟩
  rw [Nat.zero_add]
  exact rd
/-- the reader's list is there at the start -/
theorem di_listR {tg e : Expr} {fa : Ex} (ha : PE X e (tX X.K W fa)) : PI X tg e (tN X.K W (iLstR fa)) := PI.imp (pi_list ha) fun sg H R hq => by
  obtain ⟨io, rho, dh, rs, rh, p⟩ := hq
  refine bnd_ok rs rh p fun io1 H1 d v h1 s1 rs1 rh1 r1 p1 => ?_
  obtain ⟨rd, e, q⟩ := Post.of p1
  cases d with
  | ref i =>
    cases r1 with
    | ref ei =>
      rename_i a
      simp only [refD, Option.bind_some] at e
      split at e
      · rename_i xs e1
        cases e
        obtain ⟨vs, h1, _⟩ := rdL_ok ei rh1 e1
        exact ⟨a, rfl, ⟨vs, sql_one h1⟩, q io1 H1 _ .refl rh1 (walk_rdL ei)⟩
      · cases e
  | _ => cases e
theorem di_enumR {e : Expr} {p pos tpos : Pos} {elts : List Expr} {kk : Nat} {fs : Ax} (hm : X.mg "enumerate" = none) (ha : PA X [e] (tA X.K W fs)) (hg : Gl X "enumerate" := by rfl) (hs : starEach [e] X.env = [(false, eval e X.env)] := by rfl) : PI X (.Tuple elts kk tpos) (.Call (.Name "enumerate" p) [e] [] pos) (tN X.K W (iEnumR fs)) := PI.imp (pi_enum hg hm ha hs) fun sg H R hq => by
  obtain ⟨io, rho, dh, rs, rh, p⟩ := hq
  refine bnd_ok rs rh p fun io1 H1 d v h1 s1 rs1 rh1 r1 p1 => ?_
  obtain ⟨rd, e, q⟩ := Post.of p1
  split at e
  · rename_i dd
    cases r1 with
    | cons a b =>
      cases b
      cases dd with
      | ref i =>
        cases a with
        | ref ei =>
          rename_i a
          simp only [refD, Option.bind_some] at e
          split at e
          · rename_i xs e1
            cases e
            obtain ⟨vs, h1, _⟩ := rdL_ok ei rh1 e1
            exact ⟨a, vs, rfl, sql_one h1, q io1 H1 _ .refl rh1 (walk_rdE ei)⟩
          · cases e
      | _ => cases e
  · cases e
theorem compR_cases {rd : Rdr} {G : Gx} {ft : Tx} {fe : Ex} {r : Rho} : ∀ (f i : Nat) (h : DH) (acc : List D), (∃ h' acc', zCompR rd G ft fe r f i h acc = .ok acc' h') ∨ zCompR rd G ft fe r f i h acc = .bad
  | 0, _, _, _ => .inr rfl
  | f + 1, i, h, acc => by
    simp only [zCompR]
    cases rd h with
    | none => exact .inr rfl
    | some ds =>
      simp only
      cases ds[i]? with
      | none => exact .inl ⟨h, acc, rfl⟩
      | some d =>
        simp only
        cases G d r with
        | none => exact .inr rfl
        | some r1 =>
          simp only
          cases ft r1 h with
          | ok b h1 =>
            cases b with
            | false => exact compR_cases f (i + 1) h1 acc
            | true =>
              simp only
              cases fe r1 h1 with
              | ok y h2 =>
                simp only
                split
                · exact compR_cases f (i + 1) h2 _
                · exact .inr rfl
              | er c h2 => exact .inr rfl
              | bad => exact .inr rfl
          | er c h1 => exact .inr rfl
          | bad => exact .inr rfl
theorem wipe_wipe (s : St) (vs : List Nat) : wipe (wipe s vs) vs = wipe s vs := by
  have : ∀ us : List Nat, (∀ u ∈ us, u ∈ vs) → wipe (wipe s us) vs = wipe s vs := by
    intro us
    induction us with
    | nil => intro _; rfl
    | cons u us ih =>
      intro hu
      show wipe ((wipe s us).set u none) vs = _
      rw [wipe_set (hu u List.mem_cons_self)]
      exact ih fun z hz => hu z (List.mem_cons_of_mem _ hz)
  exact this vs fun _ z => z
theorem compR_ok {K : PySem.W.Frag} {io : Io} {H1 : Hp} {rd : Rdr} {J : It} {G : Gx} {ft : Tx} {fe : Ex} {g : TG} {rho : Rho} {h1 : DH} {sg : St} {vs : List Nat} {Q : VK} {Da : Addr} {fuel : Nat} (hg : TgW K vs g G) (w : WalkN K io H1 rd J) (rs : RelS K io H1 rho sg) (rh : RelH K io H1 h1) (hD : H1 Da = none)
    (fin : ∀ h' acc, zCompR rd G ft fe (wipeR rho vs) fuel 0 h1 [] = .ok acc h' → ∀ io' H' vacc, Stp io H1 io' H' → RelH K io' H' h' → RelL K io' H' acc vacc → Da ∈ io'.priv → H' Da = some (.lst vacc) → Q (.ref Da) H') (nb : ∃ h' acc, zCompR rd G ft fe (wipeR rho vs) fuel 0 h1 [] = .ok acc h') :
    ∃ V : Nat → Nat → Hp → Prop, (∃ m, V 0 m (upd H1 Da (.lst []))) ∧ ∀ i m H, V i m H → (J.stop i H ∧ Q (.ref Da) H) ∨ (J.go i H ∧ ∃ Nx : Hp → Prop, (∀ H', Nx H' → ∃ m', m' < m ∧ V (i + 1) m' H') ∧ ∀ x H', J.yld i H x H' → g x (wipe sg vs) H' fun sg2 H2 => wipe sg2 vs = wipe sg vs ∧ tT K W0 ft sg2 H2 fun b H3 =>
      if b = true then tX K W0 fe sg2 H3 fun y H4 => ∃ acc, H4 Da = some (.lst acc) ∧ acc.length < sizeLine ∧ Nx (upd H4 Da (.lst (acc ++ [y]))) else Nx H3) := by
  obtain ⟨hf, accf, ef⟩ := nb
  refine ⟨fun i m H' => ∃ io' h' acc vacc, Stp io H1 io' H' ∧ RelH K io' H' h' ∧ RelL K io' H' acc vacc ∧ Da ∈ io'.priv ∧ H' Da = some (.lst vacc) ∧ zCompR rd G ft fe (wipeR rho vs) m i h' acc = .ok accf hf,
    ⟨fuel, io.hide Da, h1, [], [], stp_hide hD, rh.hide hD, .nil, List.mem_cons_self, upd_same, ef⟩, fun i m H' hv => ?_⟩
  obtain ⟨io', h', acc, vacc, s1, rh1, rl1, hpv, hDa, p1⟩ := hv
  cases m with
  | zero => cases p1
  | succ m =>
    simp only [zCompR] at p1
    cases e0 : rd h' with
    | none => simp only [e0] at p1; cases p1
    | some ds =>
      simp only [e0] at p1
      obtain ⟨w1, w2⟩ := w io' H' h' s1 rh1 ds e0
      cases hd : ds[i]? with
      | none =>
        simp only [hd] at p1
        cases p1
        exact .inl ⟨w2 i (List.getElem?_eq_none_iff.mp hd), fin hf accf ef io' H' vacc s1 rh1 rl1 hpv hDa⟩
      | some d =>
        simp only [hd] at p1
        obtain ⟨g1, g2⟩ := w1 i d hd
        refine .inr ⟨g1, fun H2 => ∃ m', m' < m + 1 ∧ ∃ io' h' acc vacc, Stp io H1 io' H2 ∧ RelH K io' H2 h' ∧ RelL K io' H2 acc vacc ∧ Da ∈ io'.priv ∧ H2 Da = some (.lst vacc) ∧ zCompR rd G ft fe (wipeR rho vs) m' (i + 1) h' acc = .ok accf hf, fun H2 z => z, fun x H2 hy => ?_⟩
        obtain ⟨s2, rh2, rd2⟩ := g2 x H2 hy
        have pD : ∀ {io2 : Io} {H3 : Hp}, Stp io' H' io2 H3 → H3 Da = some (.lst vacc) := fun {io2 H3} s => s.keep Da _ hDa (rh1.pv Da hpv).1
        cases e1 : G d (wipeR rho vs) with
        | none => simp only [e1] at p1; cases p1
        | some r1 =>
          simp only [e1] at p1
          have s12 := s1.trans s2
          refine hg io' H2 _ x (wipeR rho vs) r1 (wipe sg vs) _ rd2 ((rs.stp s12).wipe vs) e1 fun sg3 rs3 w3 => ⟨w3.trans (wipe_wipe sg vs), io', r1, h', rs3, rh2, ?_⟩
          cases e2 : ft r1 h' with
          | er c h2 => simp only [e2] at p1; cases p1
          | bad => simp only [e2] at p1; cases p1
          | ok b h2 =>
            simp only [e2] at p1
            intro io3 H3 b' s3 rh3 eb
            cases eb
            have s23 := s2.trans s3
            have hD3 := pD s23
            cases b with
            | false =>
              rw [if_neg Bool.false_ne_true]
              exact ⟨m, Nat.lt_succ_self m, io3, h2, acc, vacc, s1.trans s23, rh3, rl1.stp s23, s23.psub Da hpv, hD3, p1⟩
            | true =>
              rw [if_pos rfl]
              refine ⟨io3, r1, h2, rs3.stp s3, rh3, ?_⟩
              cases e3 : fe r1 h2 with
              | er c h3 => simp only [e3] at p1; cases p1
              | bad => simp only [e3] at p1; cases p1
              | ok y h3 =>
                simp only [e3] at p1
                intro io4 H4 y' s4 rh4 ry
                split at p1
                · rename_i hz
                  have s24 := s23.trans s4
                  have hD4 := pD s24
                  have hp4 := s24.psub Da hpv
                  have rl4 := rl1.stp s24
                  exact ⟨vacc, hD4, by rw [← rl4.length]; exact hz, m, Nat.lt_succ_self m, io4, h3, acc ++ [y], vacc ++ [y'], (s1.trans s24).poke hD, rh4.poke hp4 hD4, (rl4.append (.one ry)).mv (mv_poke hp4 hD4), hp4, upd_same, p1⟩
                · cases p1
theorem compR_run {K : PySem.W.Frag} {io : Io} {H1 : Hp} {rd : Rdr} {J : It} {G : Gx} {ft : Tx} {fe : Ex} {g : TG} {rho : Rho} {h1 : DH} {sg : St} {vs : List Nat} {Q : VK} {fuel : Nat} (kf : List D → DH → Out D) (hg : TgW K vs g G) (w : WalkN K io H1 rd J) (rs : RelS K io H1 rho sg) (rh : RelH K io H1 h1)
    (p : Post K (RelD K) W io H1 sg Q ((zCompR rd G ft fe (wipeR rho vs) fuel 0 h1 []).bnd kf))
    (hk : ∀ acc h' io' H' vacc (Da : Addr), Post K (RelD K) W io H1 sg Q (kf acc h') → H1 Da = none → Stp io H1 io' H' → RelH K io' H' h' → RelL K io' H' acc vacc → Da ∈ io'.priv → H' Da = some (.lst vacc) → Q (.ref Da) H') (Da : Addr) (hD : H1 Da = none) :
    ∃ V : Nat → Nat → Hp → Prop, (∃ m, V 0 m (upd H1 Da (.lst []))) ∧ ∀ i m H, V i m H → (J.stop i H ∧ Q (.ref Da) H) ∨ (J.go i H ∧ ∃ Nx : Hp → Prop, (∀ H', Nx H' → ∃ m', m' < m ∧ V (i + 1) m' H') ∧ ∀ x H', J.yld i H x H' → g x (wipe sg vs) H' fun sg2 H2 => wipe sg2 vs = wipe sg vs ∧ tT K W0 ft sg2 H2 fun b H3 =>
      if b = true then tX K W0 fe sg2 H3 fun y H4 => ∃ acc, H4 Da = some (.lst acc) ∧ acc.length < sizeLine ∧ Nx (upd H4 Da (.lst (acc ++ [y]))) else Nx H3) := by
  rcases compR_cases (rd := rd) (G := G) (ft := ft) (fe := fe) (r := wipeR rho vs) fuel 0 h1 [] with nb | nb
  · refine compR_ok hg w rs rh hD (fun h' acc e io' H' vacc s r rl hp hd => ?_) nb
    rw [e] at p
    exact hk acc h' io' H' vacc Da p hD s r rl hp hd
  · rw [nb] at p
    exact p.elim
theorem compR_te {K : PySem.W.Frag} {fi : IxR'} {vs : List Nat} {G : Gx} {ft : Tx} {fe : Ex} {g : TG} {sg : St} {H : Hp} {Q : VK} (hg : TgW K vs g G) (hq : tX K W (xCompR fi vs G ft fe) sg H Q) : tLc (tN K W fi) g (tT K W0 ft) (tX K W0 fe) vs sg H Q := by
  obtain ⟨io, rho, dh, rs, rh, p⟩ := hq
  have p' : Post K (RelD K) W io H sg Q ((fi rho dh).bnd fun ds h1 => (zCompR ds G ft fe (wipeR rho vs) 1000 0 h1 []).bnd fun acc h1 => .ok (.lst acc) h1) := by
    have e : xCompR fi vs G ft fe rho dh = ((fi rho dh).bnd fun ds h1 => (zCompR ds G ft fe (wipeR rho vs) 1000 0 h1 []).bnd fun acc h1 => .ok (.lst acc) h1) := by
      show ((fi rho dh).bnd _).bnd _ = _
      cases fi rho dh <;> rfl
    rw [← e]
    exact p
  refine bnd_ok rs rh p' fun io1 H1 ds J h1 s1 rs1 rh1 r1 p1 => ?_
  intro Da hD
  exact compR_run _ hg r1 rs1 rh1 p1 (fun acc h' io' H' vacc Da p hD s r rl hp hd => fz_end rh1 p hD s r rl hp hd) Da hD
theorem compR_teN {K : PySem.W.Frag} {fi : IxR'} {vs : List Nat} {G : Gx} {ft : Tx} {fe : Ex} {g : TG} {sg : St} {H : Hp} {Q : VK} (hg : TgW K vs g G) (hq : tX K W (xCompNR fi vs G ft fe) sg H Q) : tLc (tN K W fi) g (tT K W0 ft) (tX K W0 fe) vs sg H Q := by
  obtain ⟨io, rho, dh, rs, rh, p⟩ := hq
  have p' : Post K (RelD K) W io H sg Q ((fi rho dh).bnd fun ds h1 => (zCompR ds G ft fe (wipeR rho vs) 1000 0 h1 []).bnd fun acc h1 => .ok (.ref h1.length) (h1 ++ [.lst acc])) := by
    have e : xCompNR fi vs G ft fe rho dh = ((fi rho dh).bnd fun ds h1 => (zCompR ds G ft fe (wipeR rho vs) 1000 0 h1 []).bnd fun acc h1 => .ok (.ref h1.length) (h1 ++ [.lst acc])) := by
      show ((fi rho dh).bnd _).bnd _ = _
      cases fi rho dh <;> rfl
    rw [← e]
    exact p
  refine bnd_ok rs rh p' fun io1 H1 ds J h1 s1 rs1 rh1 r1 p1 => ?_
  intro Da hD
  exact compR_run _ hg r1 rs1 rh1 p1 (fun acc h' io' H' vacc Da p hD s r rl hp hd => nm_end rh1 p hD s r rl hp hd) Da hD
theorem de_lcR {elt tg iter : Expr} {ifs : List Expr} {scope : Scope} {own : List (Str × Nat)} {pos : Pos} {fi : IxR'} {g : TG} {G : Gx} {ft : Tx} {fe : Ex} (hc : X.calm = true) (hN : X.N.Nodup) (hi : PI X tg iter (tN X.K W fi)) (ok : BlkOk X.N X.env.scope scope own)
    (hg : ∀ (s : Shared) (H : Hp) (C : Addr) (cl : List (Str × Addr)) (fp : List Addr), PG (X.blk s H scope (compEnvC scope cl C X.env) fp) tg g) (hG : TgW X.K (own.map (·.2)) g G) (ht : ∀ (s : Shared) (H : Hp) (C : Addr) (cl : List (Str × Addr)) (fp : List Addr), PTs (X.blk s H scope (compEnvC scope cl C X.env) fp) ifs (tT X.K W0 ft))
    (he : ∀ (s : Shared) (H : Hp) (C : Addr) (cl : List (Str × Addr)) (fp : List Addr), PE (X.blk s H scope (compEnvC scope cl C X.env) fp) elt (tX X.K W0 fe)) (hs : ∀ x, foldedSetIterable iter X.env x = pure x := by intro _; rfl) :
    PE X (.ListComp elt [⟨tg, iter, ifs, 0⟩] scope pos) (tX X.K W (xCompR fi (own.map (·.2)) G ft fe)) := PE.imp (pe_lc hc hN hi ok hg ht he hs) fun sg H Q hq => compR_te hG hq
theorem de_lcNR {elt tg iter : Expr} {ifs : List Expr} {scope : Scope} {own : List (Str × Nat)} {pos : Pos} {fi : IxR'} {g : TG} {G : Gx} {ft : Tx} {fe : Ex} (hc : X.calm = true) (hN : X.N.Nodup) (hi : PI X tg iter (tN X.K W fi)) (ok : BlkOk X.N X.env.scope scope own)
    (hg : ∀ (s : Shared) (H : Hp) (C : Addr) (cl : List (Str × Addr)) (fp : List Addr), PG (X.blk s H scope (compEnvC scope cl C X.env) fp) tg g) (hG : TgW X.K (own.map (·.2)) g G) (ht : ∀ (s : Shared) (H : Hp) (C : Addr) (cl : List (Str × Addr)) (fp : List Addr), PTs (X.blk s H scope (compEnvC scope cl C X.env) fp) ifs (tT X.K W0 ft))
    (he : ∀ (s : Shared) (H : Hp) (C : Addr) (cl : List (Str × Addr)) (fp : List Addr), PE (X.blk s H scope (compEnvC scope cl C X.env) fp) elt (tX X.K W0 fe)) (hs : ∀ x, foldedSetIterable iter X.env x = pure x := by intro _; rfl) :
    PE X (.ListComp elt [⟨tg, iter, ifs, 0⟩] scope pos) (tX X.K W (xCompNR fi (own.map (·.2)) G ft fe)) := PE.imp (pe_lc hc hN hi ok hg ht he hs) fun sg H Q hq => compR_teN hG hq
/-- y = [..] -/
theorem ds_setLcR {i : Nat} {y : Str} {py : Pos} {elt tg iter : Expr} {ifs : List Expr} {scope : Scope} {own : List (Str × Nat)} {pos spos : Pos} {fi : IxR'} {g : TG} {G : Gx} {ft : Tx} {fe : Ex} (hc : X.calm = true) (hN : X.N.Nodup) (hy : X.N[i]? = some y) (hyl : X.env.scope.names.lookup y = some .local)
    (hsw : swapsWith (.ListComp elt [⟨tg, iter, ifs, 0⟩] scope pos) (some (.Name y py)) spos.line X.env = pure true) (hi : PI X tg iter (tN X.K W fi)) (ok : BlkOk X.N X.env.scope scope own)
    (hg : ∀ (s : Shared) (H : Hp) (C : Addr) (cl : List (Str × Addr)) (fp : List Addr), PG (X.blk s H scope (compEnvC scope cl C X.env) fp) tg g) (hG : TgW X.K (own.map (·.2)) g G) (ht : ∀ (s : Shared) (H : Hp) (C : Addr) (cl : List (Str × Addr)) (fp : List Addr), PTs (X.blk s H scope (compEnvC scope cl C X.env) fp) ifs (tT X.K W0 ft))
    (he : ∀ (s : Shared) (H : Hp) (C : Addr) (cl : List (Str × Addr)) (fp : List Addr), PE (X.blk s H scope (compEnvC scope cl C X.env) fp) elt (tX X.K W0 fe)) (hs : ∀ x, foldedSetIterable iter X.env x = pure x := by intro _; rfl) :
    PS X (.Assign [.Name y py] (.ListComp elt [⟨tg, iter, ifs, 0⟩] scope pos) spos) (tS X.K W (zAsg (xCompR fi (own.map (·.2)) G ft fe) (gN i))) := PS.imp (ps_setLc hc hN hy hyl hsw hi ok hg ht he hs) fun Nd sg H hq => by
  obtain ⟨io, rho, dh, rs, rh, p⟩ := hq
  exact compR_te hG (toS_ok rs rh p fun io1 H1 d v h1 s1 rs1 rh1 r1 p1 => p1 io1 _ H1 .refl (rs1.set i r1) rh1)
theorem ds_setLcNR {i : Nat} {y : Str} {py : Pos} {elt tg iter : Expr} {ifs : List Expr} {scope : Scope} {own : List (Str × Nat)} {pos spos : Pos} {fi : IxR'} {g : TG} {G : Gx} {ft : Tx} {fe : Ex} (hc : X.calm = true) (hN : X.N.Nodup) (hy : X.N[i]? = some y) (hyl : X.env.scope.names.lookup y = some .local)
    (hsw : swapsWith (.ListComp elt [⟨tg, iter, ifs, 0⟩] scope pos) (some (.Name y py)) spos.line X.env = pure true) (hi : PI X tg iter (tN X.K W fi)) (ok : BlkOk X.N X.env.scope scope own)
    (hg : ∀ (s : Shared) (H : Hp) (C : Addr) (cl : List (Str × Addr)) (fp : List Addr), PG (X.blk s H scope (compEnvC scope cl C X.env) fp) tg g) (hG : TgW X.K (own.map (·.2)) g G) (ht : ∀ (s : Shared) (H : Hp) (C : Addr) (cl : List (Str × Addr)) (fp : List Addr), PTs (X.blk s H scope (compEnvC scope cl C X.env) fp) ifs (tT X.K W0 ft))
    (he : ∀ (s : Shared) (H : Hp) (C : Addr) (cl : List (Str × Addr)) (fp : List Addr), PE (X.blk s H scope (compEnvC scope cl C X.env) fp) elt (tX X.K W0 fe)) (hs : ∀ x, foldedSetIterable iter X.env x = pure x := by intro _; rfl) :
    PS X (.Assign [.Name y py] (.ListComp elt [⟨tg, iter, ifs, 0⟩] scope pos) spos) (tS X.K W (zAsg (xCompNR fi (own.map (·.2)) G ft fe) (gN i))) := PS.imp (ps_setLc hc hN hy hyl hsw hi ok hg ht he hs) fun Nd sg H hq => by
  obtain ⟨io, rho, dh, rs, rh, p⟩ := hq
  exact compR_teN hG (toS_ok rs rh p fun io1 H1 d v h1 s1 rs1 rh1 r1 p1 => p1 io1 _ H1 .refl (rs1.set i r1) rh1)
end
end DL
set_option maxRecDepth 100000
set_option maxHeartbeats 2000000
namespace DL
open PySem PySem.Spec L2
open PyProof.Rows hiding St
/-! ### what the head says -/
structure SaysE (fa : List He.Fa) (fn : List He.DefD) (ts : List He.Tab) (ex : PySem.W.Frag → Bool) (w : World) (K : PySem.W.Frag) : Prop where
  t : He.SaysT fa fn ts w K
  more : ex K = true
section
variable {fa : List He.Fa} {fn : List He.DefD} {ts : List He.Tab} {ex : PySem.W.Frag → Bool} {w : World} {K : PySem.W.Frag}
theorem SaysE.fact (c : SaysE fa fn ts ex w K) (i : Nat) {f : He.Fa} (h : fa[i]? = some f := by rfl) : f.ok K = true := c.t.d.fact i h
theorem SaysE.def_ (c : SaysE fa fn ts ex w K) (i : Nat) {d : He.DefD} (h : fn[i]? = some d := by rfl) : ∃ fd, FunD K d.name d.qual d.params d.body d.scope (d.dvs K) (d.kws K) (He.fAd K d.at_) fd := c.t.d.def_ i h
end
abbrev AlE : Type := He.AlT × Bool
def obsE (n : Nat) (fa : List He.Fa) (fn : List He.DefD) (ts : List He.Tab) (ex : PySem.W.Frag → Bool) (g : Addr → Option Obj) : AlE := (He.obsT fa fn ts (He.frG g (He.asD g n)), ex (He.frG g (He.asD g n)))
def hookE (n : Nat) (fa : List He.Fa) (fn : List He.DefD) (ts : List He.Tab) (ex : PySem.W.Frag → Bool) : PySem.W.Hook where
  α := AlE
  obs := fun s => obsE n fa fn ts ex s.heap.get?
  val := fun w => (He.valT fn ts w, true)
  says := fun w h => ∃ K : PySem.W.Frag, K.In h ∧ SaysE fa fn ts ex w K
  of := fun _ _ e => ⟨_, He.frG_in, congrArg (fun z : AlE => z.1) e, congrArg (fun z : AlE => z.2) e⟩
  keeps := fun _ _ _ ⟨K, hK, c⟩ k => ⟨K, PySem.W.Frag.In.keeps hK k, c⟩
theorem obsE_eq {n : Nat} {fa : List He.Fa} {fn : List He.DefD} {ts : List He.Tab} {ex : PySem.W.Frag → Bool} {g : Addr → Option Obj} {s : Shared} (h : ∀ a, g a = s.heap.get? a) : obsE n fa fn ts ex g = (hookE n fa fn ts ex).obs s := by
  have e : g = s.heap.get? := funext h
  rw [e]
  rfl
/-! ### a tuple of the module -/
def freeB (K : PySem.W.Frag) : Bool := He.eqO (PySem.W.nsIn K mainGlobals "FREE") (some (some (.ref (He.ga K "FREE")))) && He.tupB K "FREE" [.int 0, .int 0, .int 0, .int 0, .int 0, .int 0, .int 0, .int 0]
theorem free_glob {K : PySem.W.Frag} {h : Heap} {mg : Str → Option Value} (TX : K.In h) (TG : h.Ns mainGlobals mg) (c : freeB K = true) : GlobC K mg "FREE" c_FREE := by
  obtain ⟨c1, c2⟩ := He.ba c
  refine ⟨.ref (He.ga K "FREE"), _, PySem.W.mg_of TX TG (He.eqO_ok c1), rfl, fun io H => ?_⟩
  have sq := He.tupB_ok c2 (fun _ => none)
  rcases sq with (z | ⟨o, z⟩) | z
  · cases z
  · cases z
  · exact .tup (.inr z) (.cons (.int 0) (.cons (.int 0) (.cons (.int 0) (.cons (.int 0) (.cons (.int 0) (.cons (.int 0) (.cons (.int 0) (.cons (.int 0) .nil))))))))
/-! ### isinstance of an own class -/
def ownB (K : PySem.W.Frag) (x : Str) : Bool :=
  He.eqO (PySem.W.findIn K (.ref (He.ga K x)) "__class__") (some (some (.builtin "object.__class__"))) && (He.eqO (PySem.W.specialIn K (.builtin "object.__class__") "__get__") (some (some (.builtin "getset_descriptor.__get__"))) &&
  (decide (PySem.W.takesIn K (.builtin "object.__class__") = some true) && (decide (PySem.W.mroIn K (He.ga K x) (.type "object") = some true) && (decide (PySem.W.kitOne K (.ref (He.ga K x)) (.ref (He.ga K x)) = some true) &&
  [Tk.non, .bool, .int, .str, .tuple, .list, .dict].all fun t => decide (PySem.W.kitOne K (.type t.nm) (.ref (He.ga K x)) = some false)))))
theorem own_ok {K : PySem.W.Frag} {mg : Str → Option Value} {c : Cl} (h1 : mg c.nm = some (.ref (He.ga K c.nm))) (h2 : Cls K (He.ga K c.nm)) (e : ownB K c.nm = true) : IsOwn K mg c := by
  obtain ⟨c1, e⟩ := He.ba e
  obtain ⟨c2, e⟩ := He.ba e
  obtain ⟨c3, e⟩ := He.ba e
  obtain ⟨c4, e⟩ := He.ba e
  obtain ⟨c5, c6⟩ := He.ba e
  refine ⟨h1, h2, He.eqO_ok c1, He.eqO_ok c2, of_decide_eq_true c3, of_decide_eq_true c4, of_decide_eq_true c5, fun t => ?_⟩
  refine of_decide_eq_true (List.all_eq_true.mp c6 t ?_)
  cases t <;> simp
end DL
namespace DL
open PySem PySem.Spec L2
open PyProof.Rows hiding St
theorem pss_bad {X : Cx} {W : WX} {body : List Stmt} : PSs X body (tS X.K W (fun _ _ => .bad)) := ⟨fun pins s sg H N I hq => by
  obtain ⟨io, rho, h, _, _, p⟩ := hq
  exact p.elim⟩
end DL
set_option maxRecDepth 100000
set_option maxHeartbeats 2000000
namespace DL
open PySem PySem.Spec L2
open PyProof.Rows hiding St
/-- a proof by computation that simp takes as a rewriting, so that the kernel need not find it anew -/
theorem nr {α : Type} {a b : α} (h : a = b) : a = b := by
  cases h
  exact Eq.trans (Eq.refl a) (Eq.refl a)
section
variable {α β : Type}
@[simp] theorem bnd_ok_ (a : α) (h : DH) (k : α → DH → Out β) : (Out.ok a h).bnd k = k a h := nr rfl
@[simp] theorem bnd_er_ (c : Ec) (h : DH) (k : α → DH → Out β) : (Out.er c h : Out α).bnd k = .er c h := nr rfl
@[simp] theorem of_some_ (a : α) (h : DH) : Out.of (some a) h = .ok a h := nr rfl
@[simp] theorem toS_ok_ (a : α) (h : DH) (r : Rho) (k : α → DH → OutS) : (Out.ok a h).toS r k = k a h := nr rfl
@[simp] theorem toS_er_ (c : Ec) (h : DH) (r : Rho) (k : α → DH → OutS) : (Out.er c h : Out α).toS r k = .er c r h := nr rfl
end
@[simp low] theorem xC_ (d : D) (r : Rho) (h : DH) : xC d r h = .ok d h := nr rfl
@[simp low] theorem zNext_ (r : Rho) (h : DH) : zNext r h = .nx r h := nr rfl
@[simp low] theorem zRaise_ (c : Ec) (r : Rho) (h : DH) : zRaise c r h = .er c r h := nr rfl
@[simp low] theorem zRet_ (f : Ex) (r : Rho) (h : DH) : zRet f r h = (f r h).toS r fun v h1 => .rt v h1 := nr rfl
@[simp low] theorem zExpr_ (f : Ex) (r : Rho) (h : DH) : zExpr f r h = (f r h).toS r fun _ h1 => .nx r h1 := nr rfl
@[simp low] theorem xNil_ (r : Rho) (h : DH) : xNil r h = .ok [] h := nr rfl
@[simp low] theorem xYes_ (r : Rho) (h : DH) : xYes r h = .ok true h := nr rfl
@[simp low] theorem xCons_ (fa : Ex) (fs : Ax) (r : Rho) (h : DH) : xCons fa fs r h = (fa r h).bnd fun d h1 => (fs r h1).bnd fun ds h2 => .ok (d :: ds) h2 := nr rfl
@[simp low] theorem xBin_ (o : P2) (fa fb : Ex) (r : Rho) (h : DH) : xBin o fa fb r h = (fa r h).bnd fun x h1 => (fb r h1).bnd fun y h2 => .of (o h2 x y) h2 := nr rfl
@[simp low] theorem xUn_ (o : P1) (fa : Ex) (r : Rho) (h : DH) : xUn o fa r h = (fa r h).bnd fun x h1 => .of (o h1 x) h1 := nr rfl
@[simp low] theorem xTB_ (f : Ex) (r : Rho) (h : DH) : xTB f r h = (f r h).bnd fun d h1 => .of (xBool d) h1 := nr rfl
@[simp low] theorem xTru_ (f : Ex) (r : Rho) (h : DH) : xTru f r h = (f r h).bnd fun d h1 => .of (truD h1 d) h1 := nr rfl
@[simp] theorem xBool_bl (b : Bool) : xBool (.bl b) = some b := nr rfl
@[simp] theorem truD_bl (h : DH) (b : Bool) : truD h (.bl b) = some b := nr rfl
@[simp low] theorem yNot_ (f : Tx) (r : Rho) (h : DH) : yNot f r h = (f r h).bnd fun b h1 => .ok (!b) h1 := nr rfl
@[simp low] theorem xNot_ (f : Ex) (r : Rho) (h : DH) : xNot f r h = (f r h).bnd fun x h1 => .of ((xBool x).map fun b => .bl (!b)) h1 := nr rfl
@[simp low] theorem xNotT_ (f : Ex) (r : Rho) (h : DH) : xNotT f r h = (f r h).bnd fun x h1 => .of ((truD h1 x).map fun b => .bl (!b)) h1 := nr rfl
@[simp low] theorem yAnd_ (f g : Tx) (r : Rho) (h : DH) : yAnd f g r h = (f r h).bnd fun b h1 => match b with
  | true => g r h1
  | false => .ok false h1 := nr rfl
@[simp low] theorem yOr_ (f g : Tx) (r : Rho) (h : DH) : yOr f g r h = (f r h).bnd fun b h1 => match b with
  | true => .ok true h1
  | false => g r h1 := nr rfl
@[simp low] theorem xCall_ (F : Fn) (fs : Ax) (r : Rho) (h : DH) : xCall F fs r h = (fs r h).bnd fun ds h1 => F ds h1 := nr rfl
@[simp low] theorem zAsg_ (f : Ex) (i : Nat) (r : Rho) (h : DH) : zAsg f (gN i) r h = (f r h).toS r fun d h1 => .nx (r.set i (some d)) h1 := nr rfl
@[simp low] theorem xTup_ (fs : Ax) (r : Rho) (h : DH) : xTup fs r h = (fs r h).bnd fun ds h1 => if ds.length ≤ sizeLine then .ok (.tup ds) h1 else .bad := nr rfl
@[simp low] theorem xLst_ (fs : Ax) (r : Rho) (h : DH) : xLst fs r h = (fs r h).bnd fun ds h1 => if ds.length ≤ sizeLine then .ok (.lst ds) h1 else .bad := nr rfl
@[simp low] theorem xLstN_ (fs : Ax) (r : Rho) (h : DH) : xLstN fs r h = (fs r h).bnd fun ds h1 => if ds.length ≤ sizeLine then .ok (.ref h1.length) (h1 ++ [.lst ds]) else .bad := nr rfl
@[simp low] theorem xFld_ (cs : List Cl) (k : Nat) (f : Ex) (r : Rho) (h : DH) : xFld cs k f r h = (f r h).bnd fun d h1 => .of ((refD d).bind fun i => fldAt h1 cs k i) h1 := nr rfl
@[simp] theorem refD_ref (i : Nat) : refD (.ref i) = some i := nr rfl
@[simp] theorem isNon_non : isNon .non = true := nr rfl
@[simp low] theorem zSeq_nx (a b : Sx) (r : Rho) (h : DH) : zSeq a b r h = match a r h with
  | .nx r1 h1 => b r1 h1
  | .rt v h1 => .rt v h1
  | .bk r1 h1 => .bk r1 h1
  | .ct r1 h1 => .ct r1 h1
  | .er c r1 h1 => .er c r1 h1
  | .bad => .bad := nr rfl
@[simp low] theorem zIf_ (c : Tx) (a b : Sx) (r : Rho) (h : DH) : zIf c a b r h = (c r h).toS r fun k h1 => match k with
  | true => a r h1
  | false => b r h1 := by
  unfold zIf
  cases c r h with
  | ok k h1 => cases k <;> rfl
  | er c h1 => rfl
  | bad => rfl
theorem seq_go {a b : Sx} {r r1 : Rho} {h h1 : DH} (e : a r h = .nx r1 h1) : zSeq a b r h = b r1 h1 := by unfold zSeq; rw [e]
theorem seq_rt {a b : Sx} {r : Rho} {h h1 : DH} {v : D} (e : a r h = .rt v h1) : zSeq a b r h = .rt v h1 := by unfold zSeq; rw [e]
theorem seq_er {a b : Sx} {r r1 : Rho} {h h1 : DH} {c : Ec} (e : a r h = .er c r1 h1) : zSeq a b r h = .er c r1 h1 := by unfold zSeq; rw [e]
theorem fn_nx {n N : Nat} {b : Sx} {ds : List D} {r r1 : Rho} {h h1 : DH} (hr : ds.map some ++ List.replicate (N - n) none = r) (e : b r h = .nx r1 h1) (hl : ds.length = n := by rfl) : dFn n N b ds h = .ok .non h1 := by unfold dFn; rw [if_pos hl, hr, e]
theorem fn_rt {n N : Nat} {b : Sx} {ds : List D} {r : Rho} {h h1 : DH} {v : D} (hr : ds.map some ++ List.replicate (N - n) none = r) (e : b r h = .rt v h1) (hl : ds.length = n := by rfl) : dFn n N b ds h = .ok v h1 := by unfold dFn; rw [if_pos hl, hr, e]
theorem fn_er {n N : Nat} {b : Sx} {ds : List D} {r r1 : Rho} {h h1 : DH} {c : Ec} (hr : ds.map some ++ List.replicate (N - n) none = r) (e : b r h = .er c r1 h1) (hl : ds.length = n := by rfl) : dFn n N b ds h = .er c h1 := by unfold dFn; rw [if_pos hl, hr, e]
theorem ex_go {a b : Sx} {r r1 : Rho} {h h1 : DH} {v : D} (e : a r h = .nx r1 h1) (k : ∃ h', b r1 h1 = .rt v h') : ∃ h', zSeq a b r h = .rt v h' := by rw [seq_go e]; exact k
theorem ex_fn {n N : Nat} {b : Sx} {ds : List D} {r : Rho} {h : DH} {v : D} (hr : ds.map some ++ List.replicate (N - n) none = r) (e : ∃ h', b r h = .rt v h') (hl : ds.length = n := by rfl) : ∃ h', dFn n N b ds h = .ok v h' := by
  obtain ⟨h', e⟩ := e
  exact ⟨h', fn_rt hr e hl⟩
theorem loop_go {G : Gx} {body : Sx} {d : D} {ds : List D} {r r1 r2 : Rho} {h h2 : DH} (e1 : G d r = some r1) (e2 : body r1 h = .nx r2 h2) : zLoop G body (d :: ds) r h = zLoop G body ds r2 h2 := by rw [zLoop, e1]; simp only [e2]
theorem loop_to {G : Gx} {body : Sx} {d : D} {ds : List D} {r r1 r2 : Rho} {h h2 : DH} {o : OutS} (e1 : G d r = some r1) (e2 : body r1 h = .nx r2 h2) (k : zLoop G body ds r2 h2 = o) : zLoop G body (d :: ds) r h = o := (loop_go e1 e2).trans k
theorem try_to {body : Sx} {hs : List (Ec × Sx)} {r r1 : Rho} {h h1 : DH} {o : OutS} (c : Ec) (e : body r h = .er c r1 h1) (k : catch_ c r1 h1 hs = o) : zTry body hs r h = o := by unfold zTry; rw [e]; exact k
theorem try_er {body : Sx} {hs : List (Ec × Sx)} {r r1 : Rho} {h h1 : DH} {c : Ec} (e : body r h = .er c r1 h1) : zTry body hs r h = catch_ c r1 h1 hs := by unfold zTry; rw [e]
theorem try_nx {body : Sx} {hs : List (Ec × Sx)} {r r1 : Rho} {h h1 : DH} (e : body r h = .nx r1 h1) : zTry body hs r h = .nx r1 h1 := by unfold zTry; rw [e]
theorem sizeLine_big : 1000000 ≤ sizeLine := by decide +kernel
@[simp] theorem le_sizeLine (n : Nat) (h : n ≤ 1000000 := by omega) : n ≤ sizeLine := Nat.le_trans h sizeLine_big
@[simp] theorem lt_sizeLine (n : Nat) (h : n < 1000000 := by omega) : n < sizeLine := Nat.lt_of_lt_of_le h sizeLine_big
/-- the two whole-number bounds -/
def isW (d : D) (lo hi : Int) : Bool := match d with
  | .int n => decide (lo ≤ n) && decide (n ≤ hi)
  | _ => false
theorem zComp_pure {G : Gx} {ft : Tx} {fe : Ex} {r : Rho} {h : DH} (p : D → Bool) (g : D → D) : ∀ (ds acc : List D), (∀ d ∈ ds, ∃ r1, G d r = some r1 ∧ ft r1 h = .ok (p d) h ∧ (p d = true → fe r1 h = .ok (g d) h)) → acc.length + ds.length < sizeLine → zComp G ft fe r ds h acc = .ok (acc ++ (ds.filter p).map g) h
  | [], acc, _, _ => by simp [zComp]
  | d :: ds, acc, hd, hl => by
    obtain ⟨r1, e1, e2, e3⟩ := hd d List.mem_cons_self
    simp only [List.length_cons] at hl
    cases e : p d with
    | true =>
      rw [e] at e2
      rw [zComp, e1]
      simp only [e2, e3 e, if_pos (show acc.length < sizeLine by omega)]
      rw [zComp_pure p g ds (acc ++ [g d]) (fun d' hd' => hd d' (List.mem_cons_of_mem _ hd')) (by simp; omega)]
      simp [e]
    | false =>
      rw [e] at e2
      rw [zComp, e1]
      simp only [e2]
      rw [zComp_pure p g ds acc (fun d' hd' => hd d' (List.mem_cons_of_mem _ hd')) (by omega)]
      simp [e]
/-- a comprehension without a test: its items by a def of one value -/
theorem zComp_map {G : Gx} {fe : Ex} {r : Rho} {h : DH} (g : D → D) (ds : List D) (hd : ∀ d ∈ ds, ∃ r1, G d r = some r1 ∧ fe r1 h = .ok (g d) h) (hl : ds.length < sizeLine) : zComp G xYes fe r ds h [] = .ok (ds.map g) h := by
  rw [zComp_pure (fun _ => true) g ds [] (fun d m => by obtain ⟨r1, e1, e2⟩ := hd d m; exact ⟨r1, e1, rfl, fun _ => e2⟩) (by simpa using hl)]
  rw [List.nil_append, List.filter_eq_self.mpr (fun _ _ => rfl)]
theorem intsD_eq (lo : Int) (n : Nat) : intsD lo n = (List.range n).map fun k => D.int (lo + (k : Nat)) := by
  induction n generalizing lo with
  | zero => rfl
  | succ n ih =>
    rw [intsD, ih, List.range_succ_eq_map]
    simp only [List.map_cons, List.map_map]
    congr 1
    · simp
    · apply List.map_congr_left
      intro a _
      simp only [Function.comp]
      congr 1
      omega
theorem rng1_nat (n : Nat) (h : n ≤ 1000000) : rng1 [.int (n : Int)] = some (intsD 0 n) := by
  have r1 : -4611686018427387904 ≤ (n : Int) := by omega
  have r2 : (n : Int) < 4611686018427387904 := by omega
  unfold rng1
  simp only [Int.reducePow, Int.reduceNeg, r1, r2]
  simp
theorem it_of {α β : Type} {f : α → Option β} {fs : Rho → DH → Out α} {r : Rho} {h h1 : DH} {a : α} {b : β} (e : fs r h = .ok a h1) (e2 : f a = some b) : ((fs r h).bnd fun ds h1 => .of (f ds) h1) = .ok b h1 := by
  rw [e]
  show Out.of (f a) h1 = _
  rw [e2]
  rfl
theorem iRg1_nat {fs : Ax} {r : Rho} {h h1 : DH} {n : Nat} (e : fs r h = .ok [.int (n : Int)] h1) (hn : n ≤ 1000000) : iRg1 fs r h = .ok (intsD 0 n) h1 := it_of (f := rng1) e (rng1_nat n hn)
theorem xCompN_go {fi : Ix} {vs : List Nat} {G : Gx} {ft : Tx} {fe : Ex} {r : Rho} {h h1 h2 : DH} {ds acc : List D} (e1 : fi r h = .ok ds h1) (e2 : zComp G ft fe (wipeR r vs) ds h1 [] = .ok acc h2) : xCompN fi vs G ft fe r h = .ok (.ref h2.length) (h2 ++ [.lst acc]) := by
  unfold xCompN aComp
  rw [e1]
  show Out.bnd (zComp G ft fe (wipeR r vs) ds h1 []) _ = _
  rw [e2]
  rfl
theorem xComp_go {fi : Ix} {vs : List Nat} {G : Gx} {ft : Tx} {fe : Ex} {r : Rho} {h h1 h2 : DH} {ds acc : List D} (e1 : fi r h = .ok ds h1) (e2 : zComp G ft fe (wipeR r vs) ds h1 [] = .ok acc h2) : xComp fi vs G ft fe r h = .ok (.lst acc) h2 := by
  unfold xComp aComp
  rw [e1]
  show Out.bnd (zComp G ft fe (wipeR r vs) ds h1 []) _ = _
  rw [e2]
  rfl
theorem for_go {fi : Ix} {G : Gx} {body : Sx} {r : Rho} {h h1 : DH} {ds : List D} (e1 : fi r h = .ok ds h1) : zFor fi G body r h = zLoop G body ds r h1 := by
  unfold zFor
  rw [e1]
  rfl
mutual
theorem eqD_refl : ∀ d : D, okD d = true → eqD d d = true
  | .non, _ => rfl
  | .bl b, _ => by simp [eqD]
  | .int i, _ => by simp [eqD]
  | .str x, _ => by simp [eqD]
  | .lst xs, h => by simp only [eqD]; exact eqL_refl xs (by simpa [okD] using h)
  | .tup xs, h => by simp only [eqD]; exact eqL_refl xs (by simpa [okD] using h)
  | .dct _, h => by simp [okD] at h
  | .ref _, h => by simp [okD] at h
  | .scr _, h => by simp [okD] at h
theorem eqL_refl : ∀ xs : List D, okL xs = true → eqL xs xs = true
  | [], _ => rfl
  | x :: xs, h => by
    simp only [okL, Bool.and_eq_true] at h
    simp only [eqL, eqD_refl x h.1, eqL_refl xs h.2, Bool.and_self]
end
theorem okL_all {xs : List D} (h : ∀ x ∈ xs, okD x = true) : okL xs = true := by
  induction xs with
  | nil => rfl
  | cons x xs ih => simp only [okL, Bool.and_eq_true]; exact ⟨h x List.mem_cons_self, ih fun y hy => h y (List.mem_cons_of_mem _ hy)⟩
theorem depL_all {xs : List D} {k : Nat} (h : ∀ x ∈ xs, depD x ≤ k) : depL xs ≤ k := by
  induction xs with
  | nil => exact Nat.zero_le _
  | cons x xs ih => simp only [depL]; exact Nat.max_le.mpr ⟨h x List.mem_cons_self, ih fun y hy => h y (List.mem_cons_of_mem _ hy)⟩
theorem shp_lst {xs : List D} (h : ∀ x ∈ xs, okD x = true ∧ depD x ≤ 10) : shpD (.lst xs) = true := by
  have h1 := okL_all fun x m => (h x m).1
  have h2 := depL_all fun x m => (h x m).2
  have e1 : okD (.lst xs) = okL xs := by simp only [okD]
  have e2 : depD (.lst xs) = depL xs + 1 := by simp only [depD]
  unfold shpD
  rw [e1, e2, h1, Bool.true_and, decide_eq_true_eq]
  omega
theorem oEq_lst_refl {h : DH} {xs : List D} (hx : ∀ x ∈ xs, okD x = true ∧ depD x ≤ 10) : oEq h (.lst xs) (.lst xs) = some (.bl true) := by
  have h1 := okL_all fun x m => (hx x m).1
  have h3 : eqD (.lst xs) (.lst xs) = true := eqD_refl _ h1
  simp only [oEq, oEqB, derefL, shp_lst hx, Bool.and_self, if_true, h3, Option.map_some]
theorem menu (h : DH) (xs : List D) (c m : Int) (hm : m = xs.length) (h0 : 0 < m) : ∃ d ∈ xs, oIx h (.lst xs) (.int (c % m)) = some d := by
  have h1 := Int.emod_nonneg c (show m ≠ 0 by omega)
  have h2 := Int.emod_lt_of_pos c h0
  obtain ⟨k, hk⟩ := Int.eq_ofNat_of_zero_le h1
  rw [hk]
  have h3 : k < xs.length := by omega
  refine ⟨xs[k], List.getElem_mem h3, ?_⟩
  simp only [oIx, seqOf, lstOf, L2.atI, ixN]
  simp [h3]
theorem mem_intsD {d : D} {lo : Int} {n : Nat} (h : d ∈ intsD lo n) : ∃ k : Nat, k < n ∧ d = .int (lo + k) := by
  rw [intsD_eq, List.mem_map] at h
  obtain ⟨k, hk, rfl⟩ := h
  exact ⟨k, List.mem_range.mp hk, rfl⟩
def atD (rows : List D) : D → D
  | .int i => rows.getD i.toNat .non
  | _ => .non
theorem map_atD (rows : List D) : (intsD 0 rows.length).map (atD rows) = rows := by
  rw [intsD_eq, List.map_map]
  apply List.ext_getElem
  · simp
  · intro i h1 h2
    simp [atD, h2]
theorem oMul_one (h : DH) (d : D) (k : Nat) (hk : k ≤ 1000) : oMul h (.lst [d]) (.int (k : Int)) = some (.lst (List.replicate k d)) := by
  have h1 : (k : Int) ≤ 1000 ∧ (-1000 : Int) ≤ (k : Int) ∧ ([d] : List D).length ≤ 1000 := ⟨by omega, by omega, by simp⟩
  have h2 : (List.replicate (k : Int).toNat [d]).flatten = List.replicate k d := by
    simp
  simp only [oMul, lstOf]
  rw [if_pos h1, h2]
theorem oMul_r (h : DH) (i j : Int) (hj : -(2 ^ 64) < j ∧ j < 2 ^ 64) : oMul h (.int i) (.int j) = some (.int (i * j)) := by
  simp only [oMul]
  rw [if_pos (.inr hj)]
theorem oMul_l (h : DH) (i j : Int) (hi : -(2 ^ 64) < i ∧ i < 2 ^ 64) : oMul h (.int i) (.int j) = some (.int (i * j)) := by
  simp only [oMul]
  rw [if_pos (.inl hi)]
theorem oMod_p (h : DH) (i j : Int) (hj : 0 < j) : oMod h (.int i) (.int j) = some (.int (i % j)) := by
  simp only [oMod]
  rw [if_pos hj]
theorem oDiv_p (h : DH) (i j : Int) (hj : 0 < j ∧ j < 1073741824) : oDiv h (.int i) (.int j) = some (.int (i / j)) := by
  simp only [oDiv]
  rw [if_pos hj]
theorem oPow_p (h : DH) (i j : Int) (hj : 0 ≤ j ∧ j ≤ 1000000) (hi : i.natAbs < 2 ^ 64) : oPow h (.int i) (.int j) = some (.int (i ^ j.toNat)) := by
  simp only [oPow]
  rw [if_pos ⟨hj.1, hj.2, hi⟩]
theorem oAdd_ii (h : DH) (i j : Int) : oAdd h (.int i) (.int j) = some (.int (i + j)) := rfl
theorem oSub_ii (h : DH) (i j : Int) : oSub h (.int i) (.int j) = some (.int (i - j)) := rfl
theorem oEq_ii (h : DH) (i j : Int) : oEq h (.int i) (.int j) = some (.bl (i == j)) := by simp [oEq, oEqB, shpD, derefL, okD, depD, eqD]
theorem oNe_ii (h : DH) (i j : Int) : oNe h (.int i) (.int j) = some (.bl (!(i == j))) := by simp [oNe, oEqB, shpD, derefL, okD, depD, eqD]
/-- a loop that keeps a word and never leaves -/
theorem loop_inv {G : Gx} {body : Sx} (P : Rho → DH → Prop) : ∀ (ds : List D), (∀ d ∈ ds, ∀ r h, P r h → ∃ r1 r2 h2, G d r = some r1 ∧ body r1 h = .nx r2 h2 ∧ P r2 h2) → ∀ r h, P r h → ∃ r' h', zLoop G body ds r h = .nx r' h' ∧ P r' h'
  | [], _, r, h, p => ⟨r, h, rfl, p⟩
  | d :: ds, st, r, h, p => by
    obtain ⟨r1, r2, h2, e1, e2, p2⟩ := st d List.mem_cons_self r h p
    obtain ⟨r', h', e, p'⟩ := loop_inv P ds (fun d' m => st d' (List.mem_cons_of_mem _ m)) r2 h2 p2
    exact ⟨r', h', (loop_go e1 e2).trans e, p'⟩
def mixZ (c p m : Int) : Int := (c * 48271 % p) ^ 3 % p % m
def seedZ (s k : Int) : Int := ((s * 1103515245 + 7919 * k + 12345) % 2147483647) ^ 5 % 2147483647
def cellN (ns : List Int) (k : Nat) : Int := ns.getD k 0
end DL
set_option maxRecDepth 100000
set_option maxHeartbeats 4000000
namespace DL
open PySem PySem.Spec L2
open PyProof.Rows hiding St
def B_is_within : Sx := zRet (xAnd (xIs .int (xVar 0)) (xAnd (xNot (xIs .bool (xVar 0))) (xChain oLe oLe (xVar 1) (xVar 0) (xVar 2))))
def F_is_within : Fn := dFn 3 3 B_is_within
def B_Disk_go_on : Sx := zSeq (zIf (yAnd (xTB (xBin oIsNot (xVar 1) (xC .non))) (yNot (xTru (xCall F_is_within (xCons (xVar 1) (xCons (xC (.int 0)) (xCons (xC c_MOST_STEPS) (xNil)))))))) (zRaise .badNumber) (zNext)) (zFld [.disk] 1 (xVar 0) (xVar 1))
def F_Disk_go_on : Fn := dFn 2 2 B_Disk_go_on
def B_Disk_init__ : Sx := zSeq (zIf (yNot (xTru (xCall F_is_within (xCons (xVar 1) (xCons (xC (.int 20)) (xCons (xC c_MOST_BLOCKS) (xNil))))))) (zRaise .badNumber) (zNext)) (zSeq (zFld [.disk] 0 (xVar 0) (xCompN (iRg1 (xCons (xVar 1) (xNil))) [3] (gN 3) (xYes) (xBin oMul (xTup (xCons (xC (.int 0)) (xNil))) (xC c_CELLS)))) (zSeq (zFld [.disk] 1 (xVar 0) (xC .non)) (zSeq (zFld [.disk] 2 (xVar 0) (xC (.int 0))) (zExpr (xMeth .disk F_Disk_go_on (xVar 0) (xCons (xVar 2) (xNil)))))))
def F_Disk_init__ : Fn := dFn 3 4 B_Disk_init__
def B_Disk_look : Sx := zIf (yNot (xTru (xCall F_is_within (xCons (xVar 1) (xCons (xC (.int 0)) (xCons (xBin oSub (xUn oLen (xFld [.disk] 0 (xVar 0))) (xC (.int 1))) (xNil))))))) (zRaise .badNumber) (zNext)
def F_Disk_look : Fn := dFn 2 2 B_Disk_look
def B_are_cells : Sx := zRet (xAnd (xIs .tuple (xVar 0)) (xNotT (xComp (iTp (xVar 0)) [1] (gN 1) (yNot (xTru (xCall F_is_within (xCons (xVar 1) (xCons (xC (.int 0)) (xCons (xC c_MOST_CELL) (xNil))))))) (xVar 1))))
def F_are_cells : Fn := dFn 1 2 B_are_cells
def B_Disk_write : Sx := zSeq (zExpr (xMeth .disk F_Disk_look (xVar 0) (xCons (xVar 1) (xNil)))) (zSeq (zIf (yOr (yNot (xTru (xCall F_are_cells (xCons (xVar 2) (xNil))))) (xTB (xBin oNe (xUn oLen (xVar 2)) (xC c_CELLS)))) (zRaise .badCells) (zNext)) (zSeq (zIf (xTB (xBin oEq (xFld [.disk] 1 (xVar 0)) (xC (.int 0)))) (zRaise .stopped) (zNext)) (zSeq (zIf (xTB (xBin oIsNot (xFld [.disk] 1 (xVar 0)) (xC .non))) (zFldAug [.disk] 1 (fun i j => i - j) (xVar 0) (xC (.int 1))) (zNext)) (zSeq (zFldAug [.disk] 2 (fun i j => i + j) (xVar 0) (xC (.int 1))) (zItem (xFld [.disk] 0 (xVar 0)) (xVar 1) (xVar 2))))))
def F_Disk_write : Fn := dFn 3 3 B_Disk_write
def B_Disk_size : Sx := zRet (xUn oLen (xFld [.disk] 0 (xVar 0)))
def F_Disk_size : Fn := dFn 1 1 B_Disk_size
def B_first_data : Sx := zRet (xBin oAdd (xC c_FIRST_NODE) (xVar 0))
def F_first_data : Fn := dFn 1 1 B_first_data
def B_set_up : Sx := zSeq (zIf (yOr (yNot (xTru (xCall F_is_within (xCons (xVar 1) (xCons (xC (.int 1)) (xCons (xC (.int 30)) (xNil))))))) (xTB (xBin oLt (xMeth .disk F_Disk_size (xVar 0) xNil) (xBin oAdd (xCall F_first_data (xCons (xVar 1) (xNil))) (xC (.int 1)))))) (zRaise .badNumber) (zNext)) (zSeq (zExpr (xMeth .disk F_Disk_write (xVar 0) (xCons (xC (.int 0)) (xCons (xC c_FREE) (xNil))))) (zSeq (zFor (iRg2 (xCons (xC (.int 1)) (xCons (xVar 1) (xNil)))) (gN 2) (zExpr (xMeth .disk F_Disk_write (xVar 0) (xCons (xBin oAdd (xC c_FIRST_NODE) (xVar 2)) (xCons (xC c_FREE) (xNil)))))) (zSeq (zExpr (xMeth .disk F_Disk_write (xVar 0) (xCons (xC c_FIRST_NODE) (xCons (xBin oAdd (xTup (xCons (xC c_DRAWER) (xCons (xC (.int 1)) (xNil)))) (xBin oMul (xTup (xCons (xC (.int 0)) (xNil))) (xBin oSub (xC c_CELLS) (xC (.int 2))))) (xNil))))) (zExpr (xMeth .disk F_Disk_write (xVar 0) (xCons (xC c_HEAD) (xCons (xBin oAdd (xTup (xCons (xC c_MARK) (xCons (xVar 1) (xNil)))) (xBin oMul (xTup (xCons (xC (.int 0)) (xNil))) (xBin oSub (xC c_CELLS) (xC (.int 2))))) (xNil))))))))
def F_set_up : Fn := dFn 2 3 B_set_up
def B_Disk_read : Sx := zSeq (zExpr (xMeth .disk F_Disk_look (xVar 0) (xCons (xVar 1) (xNil)))) (zRet (xBin oIx (xFld [.disk] 0 (xVar 0)) (xVar 1)))
def F_Disk_read : Fn := dFn 2 2 B_Disk_read
def B_nodes_of : Sx := zSeq (zAsg (xMeth .disk F_Disk_read (xVar 0) (xCons (xC c_HEAD) (xNil))) (gN 1)) (zSeq (zIf (yOr (xTB (xBin oNe (xVar 1) (xBin oAdd (xTup (xCons (xC c_MARK) (xCons (xBin oIx (xVar 1) (xC (.int 1))) (xNil)))) (xBin oMul (xTup (xCons (xC (.int 0)) (xNil))) (xBin oSub (xC c_CELLS) (xC (.int 2))))))) (yNot (xTB (xChain oLe oLe (xC (.int 1)) (xBin oIx (xVar 1) (xC (.int 1))) (xC (.int 30)))))) (zRaise .badDisk) (zNext)) (zSeq (zIf (xTB (xBin oLt (xMeth .disk F_Disk_size (xVar 0) xNil) (xBin oAdd (xCall F_first_data (xCons (xBin oIx (xVar 1) (xC (.int 1))) (xNil))) (xC (.int 1))))) (zRaise .badDisk) (zNext)) (zRet (xBin oIx (xVar 1) (xC (.int 1))))))
def F_nodes_of : Fn := dFn 1 2 B_nodes_of
def B_pending : Sx := zSeq (zAsg (xMeth .disk F_Disk_read (xVar 0) (xCons (xC (.int 0)) (xNil))) (gN 1)) (zSeq (zAsg (xUn oList (xSl (xVar 1) (xPart (xC (.int 1))) (xPart (xBin oAdd (xC (.int 1)) (xBin oIx (xVar 1) (xC (.int 0))))))) (gN 2)) (zSeq (zIf (yOr (xTB (xBin oGt (xBin oIx (xVar 1) (xC (.int 0))) (xC c_MOST_WRITES))) (xTB (xBin oNe (xSl (xVar 1) (xPart (xBin oAdd (xC (.int 1)) (xBin oIx (xVar 1) (xC (.int 0))))) (xNoPart)) (xBin oMul (xTup (xCons (xC (.int 0)) (xNil))) (xBin oSub (xC c_MOST_WRITES) (xBin oIx (xVar 1) (xC (.int 0)))))))) (zRaise .badDisk) (zNext)) (zSeq (zIf (yOr (xTru (xComp (iLst (xVar 2)) [3] (gN 3) (yNot (xTB (xChain oLt oLt (xC c_HEAD) (xVar 3) (xMeth .disk F_Disk_size (xVar 0) xNil)))) (xVar 3))) (xTB (xBin oNe (xVar 2) (xUn oSortedSet (xVar 2))))) (zRaise .badDisk) (zNext)) (zRet (xVar 2)))))
def F_pending : Fn := dFn 1 4 B_pending
def B_look_disk : Sx := zSeq (zIf (yNot (xTru (xUn (isOwnB .disk) (xVar 0)))) (zRaise .badDisk) (zNext)) (zSeq (zExpr (xCall F_nodes_of (xCons (xVar 0) (xNil)))) (zExpr (xCall F_pending (xCons (xVar 0) (xNil)))))
def F_look_disk : Fn := dFn 1 1 B_look_disk
def B_put_in_place : Sx := zSeq (zFor (iEnumD (xCons (xVar 1) (xNil))) (gTp 2 (gsConsD (gN 2) (gsConsD (gN 3) (gsNilD)))) (zExpr (xMeth .disk F_Disk_write (xVar 0) (xCons (xVar 3) (xCons (xMeth .disk F_Disk_read (xVar 0) (xCons (xBin oAdd (xC (.int 1)) (xVar 2)) (xNil))) (xNil)))))) (zExpr (xMeth .disk F_Disk_write (xVar 0) (xCons (xC (.int 0)) (xCons (xC c_FREE) (xNil)))))
def F_put_in_place : Fn := dFn 2 4 B_put_in_place
def B_come_back : Sx := zSeq (zAsg (xCall F_pending (xCons (xVar 0) (xNil))) (gN 1)) (zIf (xTru (xVar 1)) (zExpr (xCall F_put_in_place (xCons (xVar 0) (xCons (xVar 1) (xNil))))) (zNext))
def F_come_back : Fn := dFn 1 2 B_come_back
def B_Drawers_init__ : Sx := zSeq (zExpr (xCall F_look_disk (xCons (xVar 1) (xNil)))) (zSeq (zExpr (xCall F_come_back (xCons (xVar 1) (xNil)))) (zFld [.drawers] 0 (xVar 0) (xVar 1)))
def F_Drawers_init__ : Fn := dFn 2 2 B_Drawers_init__
def B_need_disk : Sx := zSeq (zIf (yNot (xTru (xUn (isOwnB .disk) (xVar 0)))) (zRaise .badDisk) (zNext)) (zExpr (xCall F_nodes_of (xCons (xVar 0) (xNil))))
def F_need_disk : Fn := dFn 1 1 B_need_disk
def B_View_init__ : Sx := zSeq (zFld [.view] 0 (xVar 0) (xVar 1)) (zSeq (zFld [.view] 1 (xVar 0) (xCall F_nodes_of (xCons (xVar 1) (xNil)))) (zFld [.view] 2 (xVar 0) (xDctN)))
def F_View_init__ : Fn := dFn 2 2 B_View_init__
def B_View_block : Sx := zSeq (zIf (xTB (xBin oIn (xVar 1) (xFld [.view] 2 (xVar 0)))) (zRet (xBin oIx (xFld [.view] 2 (xVar 0)) (xVar 1))) (zNext)) (zRet (xMeth .disk F_Disk_read (xFld [.view] 0 (xVar 0)) (xCons (xVar 1) (xNil))))
def F_View_block : Fn := dFn 2 2 B_View_block
def B_View_node : Sx := zRet (xMeth .view F_View_block (xVar 0) (xCons (xBin oAdd (xC c_FIRST_NODE) (xVar 1)) (xNil)))
def F_View_node : Fn := dFn 2 2 B_View_node
def B_View_is_drawer : Sx := zRet (xBin oEq (xBin oIx (xMeth .view F_View_node (xVar 0) (xCons (xVar 1) (xNil))) (xC (.int 0))) (xC c_DRAWER))
def F_View_is_drawer : Fn := dFn 2 2 B_View_is_drawer
def B_View_put_node : Sx := zItem (xFld [.view] 2 (xVar 0)) (xBin oAdd (xC c_FIRST_NODE) (xVar 1)) (xVar 2)
def F_View_put_node : Fn := dFn 3 3 B_View_put_node
def B_blocks_for : Sx := zRet (xBin oDiv (xBin oSub (xBin oAdd (xVar 0) (xC c_CELLS)) (xC (.int 1))) (xC c_CELLS))
def F_blocks_for : Fn := dFn 1 1 B_blocks_for
def B_is_node : Sx := zSeq (zIf (xTB (xBin oEq (xVar 1) (xC c_FREE))) (zRet (xC (.bl true))) (zNext)) (zSeq (zIf (yOr (xTB (xBin oNotIn (xBin oIx (xVar 1) (xC (.int 0))) (xTup (xCons (xC c_FILE) (xCons (xC c_DRAWER) (xNil)))))) (yOr (yNot (xTB (xBin oGt (xBin oIx (xVar 1) (xC (.int 1))) (xC (.int 0))))) (xTB (xBin oGt (xBin oIx (xVar 1) (xC (.int 2))) (xC c_MOST_SIZE))))) (zRet (xC (.bl false))) (zNext)) (zSeq (zIf (yAnd (xTB (xBin oEq (xBin oIx (xVar 1) (xC (.int 0))) (xC c_DRAWER))) (xTB (xBin oEq (xBin oMod (xBin oIx (xVar 1) (xC (.int 2))) (xC (.int 2))) (xC (.int 1))))) (zRet (xC (.bl false))) (zNext)) (zSeq (zFor (iEnumT (xCons (xSl (xVar 1) (xPart (xC (.int 3))) (xNoPart)) (xNil))) (gTp 2 (gsConsD (gN 2) (gsConsD (gN 3) (gsNilD)))) (zIf (yAnd (xTB (xBin oGt (xVar 3) (xC (.int 0)))) (yOr (xTB (xBin oGe (xVar 2) (xCall F_blocks_for (xCons (xBin oIx (xVar 1) (xC (.int 2))) (xNil))))) (yNot (xTB (xChain oLe oLt (xCall F_first_data (xCons (xFld [.view] 1 (xVar 0)) (xNil))) (xVar 3) (xMeth .disk F_Disk_size (xFld [.view] 0 (xVar 0)) xNil)))))) (zRet (xC (.bl false))) (zNext))) (zRet (xC (.bl true))))))
def F_is_node : Fn := dFn 2 4 B_is_node
def B_mend_nodes : Sx := zSeq (zFor (iRg1 (xCons (xFld [.view] 1 (xVar 0)) (xNil))) (gN 1) (zIf (yNot (xTru (xCall F_is_node (xCons (xVar 0) (xCons (xMeth .view F_View_node (xVar 0) (xCons (xVar 1) (xNil))) (xNil)))))) (zExpr (xMeth .view F_View_put_node (xVar 0) (xCons (xVar 1) (xCons (xC c_FREE) (xNil))))) (zNext))) (zIf (yNot (xTru (xMeth .view F_View_is_drawer (xVar 0) (xCons (xC (.int 0)) (xNil))))) (zExpr (xMeth .view F_View_put_node (xVar 0) (xCons (xC (.int 0)) (xCons (xBin oAdd (xTup (xCons (xC c_DRAWER) (xCons (xC (.int 1)) (xNil)))) (xSl (xC c_FREE) (xPart (xC (.int 2))) (xNoPart))) (xNil))))) (zNext))
def F_mend_nodes : Fn := dFn 1 2 B_mend_nodes
def B_mend_blocks : Sx := zSeq (zAsg (xDctN) (gN 1)) (zFor (iRg1 (xCons (xFld [.view] 1 (xVar 0)) (xNil))) (gN 2) (zSeq (zAsg (xMeth .view F_View_node (xVar 0) (xCons (xVar 2) (xNil))) (gN 3)) (zSeq (zFor (iEnumT (xCons (xSl (xVar 3) (xPart (xC (.int 3))) (xNoPart)) (xNil))) (gTp 2 (gsConsD (gN 4) (gsConsD (gN 5) (gsNilD)))) (zSeq (zIf (yAnd (xTB (xBin oGt (xVar 5) (xC (.int 0)))) (xTB (xBin oIn (xVar 5) (xVar 1)))) (zAsg (xBin oAdd (xBin oAdd (xSl (xVar 3) (xNoPart) (xPart (xBin oAdd (xC (.int 3)) (xVar 4)))) (xTup (xCons (xC (.int 0)) (xNil)))) (xSl (xVar 3) (xPart (xBin oAdd (xC (.int 4)) (xVar 4))) (xNoPart))) (gN 3)) (zNext)) (zItem (xVar 1) (xVar 5) (xC (.bl true))))) (zIf (xTB (xBin oNe (xVar 3) (xMeth .view F_View_node (xVar 0) (xCons (xVar 2) (xNil))))) (zExpr (xMeth .view F_View_put_node (xVar 0) (xCons (xVar 2) (xCons (xVar 3) (xNil))))) (zNext)))))
def F_mend_blocks : Fn := dFn 1 6 B_mend_blocks
def B_View_cells : Sx := zSeq (zAsg (xMeth .view F_View_node (xVar 0) (xCons (xVar 1) (xNil))) (gN 2)) (zSeq (zAsg (xTup (xNil)) (gN 3)) (zSeq (zFor (iTp (xSl (xVar 2) (xPart (xC (.int 3))) (xNoPart))) (gN 4) (zAsg (xBin oAdd (xVar 3) (xIf (xTB (xBin oGt (xVar 4) (xC (.int 0)))) (xMeth .view F_View_block (xVar 0) (xCons (xVar 4) (xNil))) (xC c_FREE))) (gN 3))) (zRet (xSl (xVar 3) (xNoPart) (xPart (xBin oIx (xVar 2) (xC (.int 2))))))))
def F_View_cells : Fn := dFn 2 5 B_View_cells
def B_name_of : Sx := zSeq (zAsg (xBin oDiv (xVar 0) (xC (.int 27))) (gN 1)) (zSeq (zAsg (xBin oMod (xVar 0) (xC (.int 27))) (gN 2)) (zSeq (zIf (yOr (xTB (xBin oGt (xVar 1) (xC (.int 26)))) (xTB (xBin oEq (xVar 2) (xC (.int 0))))) (zRet (xC .non)) (zNext)) (zRet (xBin oAdd (xBin oMul (xSl (xC c_SMALL) (xPart (xBin oSub (xVar 1) (xC (.int 1)))) (xPart (xVar 1))) (xUn oInt (xBin oGt (xVar 1) (xC (.int 0))))) (xBin oIx (xC c_SMALL) (xBin oSub (xVar 2) (xC (.int 1))))))))
def F_name_of : Fn := dFn 1 3 B_name_of
def B_View_entries : Sx := zSeq (zAsg (xMeth .view F_View_cells (xVar 0) (xCons (xVar 1) (xNil))) (gN 2)) (zRet (xComp (iRg3 (xCons (xC (.int 0)) (xCons (xBin oSub (xUn oLen (xVar 2)) (xC (.int 1))) (xCons (xC (.int 2)) (xNil))))) [3] (gN 3) (xYes) (xTup (xCons (xCall F_name_of (xCons (xBin oIx (xVar 2) (xVar 3)) (xNil))) (xCons (xBin oIx (xVar 2) (xBin oAdd (xVar 3) (xC (.int 1)))) (xNil))))))
def F_View_entries : Fn := dFn 2 4 B_View_entries
def B_good_entries : Sx := zSeq (zAsg (xLstN (xNil)) (gN 3)) (zSeq (zAsg (xLstN (xNil)) (gN 4)) (zSeq (zFor (iLst (xMeth .view F_View_entries (xVar 0) (xCons (xVar 1) (xNil)))) (gTp 2 (gsConsD (gN 5) (gsConsD (gN 6) (gsNilD)))) (zSeq (zAsg (xAnd (xBin oIsNot (xVar 5) (xC .non)) (xAnd (xBin oNotIn (xVar 5) (xVar 4)) (xCall F_is_within (xCons (xVar 6) (xCons (xC (.int 1)) (xCons (xBin oSub (xFld [.view] 1 (xVar 0)) (xC (.int 1))) (xNil))))))) (gN 7)) (zIf (yAnd (xTru (xVar 7)) (yAnd (xTB (xBin oNe (xMeth .view F_View_node (xVar 0) (xCons (xVar 6) (xNil))) (xC c_FREE))) (yNot (yAnd (xTru (xMeth .view F_View_is_drawer (xVar 0) (xCons (xVar 6) (xNil)))) (xTB (xBin oIn (xVar 6) (xVar 2))))))) (zSeq (zExpr (xApp (xVar 4) (xVar 5))) (zSeq (zExpr (xApp (xVar 3) (xTup (xCons (xVar 5) (xCons (xVar 6) (xNil)))))) (zItem (xVar 2) (xVar 6) (xBin oAdd (xGet (xVar 2) (xVar 6) (xC (.int 0))) (xC (.int 1)))))) (zNext)))) (zRet (xVar 3))))
def F_good_entries : Fn := dFn 3 8 B_good_entries
def B_View_cut : Sx := zSeq (zAsg (xMeth .view F_View_node (xVar 0) (xCons (xVar 1) (xNil))) (gN 3)) (zSeq (zAsg (xCall F_blocks_for (xCons (xVar 2) (xNil))) (gN 4)) (zSeq (zIf (yAnd (xTB (xBin oLt (xVar 2) (xBin oIx (xVar 3) (xC (.int 2))))) (yAnd (xTB (xBin oGt (xBin oMod (xVar 2) (xC c_CELLS)) (xC (.int 0)))) (xTB (xBin oGt (xBin oIx (xVar 3) (xBin oAdd (xC (.int 2)) (xVar 4))) (xC (.int 0)))))) (zSeq (zAsg (xBin oIx (xVar 3) (xBin oAdd (xC (.int 2)) (xVar 4))) (gN 5)) (zItem (xFld [.view] 2 (xVar 0)) (xVar 5) (xBin oAdd (xSl (xMeth .view F_View_block (xVar 0) (xCons (xVar 5) (xNil))) (xNoPart) (xPart (xBin oMod (xVar 2) (xC c_CELLS)))) (xBin oMul (xTup (xCons (xC (.int 0)) (xNil))) (xBin oSub (xC c_CELLS) (xBin oMod (xVar 2) (xC c_CELLS))))))) (zNext)) (zExpr (xMeth .view F_View_put_node (xVar 0) (xCons (xVar 1) (xCons (xBin oAdd (xBin oAdd (xBin oAdd (xSl (xVar 3) (xNoPart) (xPart (xC (.int 2)))) (xTup (xCons (xVar 2) (xNil)))) (xSl (xVar 3) (xPart (xC (.int 3))) (xPart (xBin oAdd (xC (.int 3)) (xVar 4))))) (xBin oMul (xTup (xCons (xC (.int 0)) (xNil))) (xBin oSub (xBin oSub (xUn oLen (xVar 3)) (xC (.int 3))) (xVar 4)))) (xNil)))))))
def F_View_cut : Fn := dFn 3 6 B_View_cut
def B_View_taken : Sx := zSeq (zAsg (xDctN) (gN 1)) (zSeq (zFor (iRg1 (xCons (xFld [.view] 1 (xVar 0)) (xNil))) (gN 2) (zFor (iTp (xSl (xMeth .view F_View_node (xVar 0) (xCons (xVar 2) (xNil))) (xPart (xC (.int 3))) (xNoPart))) (gN 3) (zItem (xVar 1) (xVar 3) (xC (.bl true))))) (zRet (xVar 1)))
def F_View_taken : Fn := dFn 1 4 B_View_taken
def B_View_free_block : Sx := zSeq (zAsg (xMeth .view F_View_taken (xVar 0) xNil) (gN 1)) (zSeq (zFor (iRg2 (xCons (xCall F_first_data (xCons (xFld [.view] 1 (xVar 0)) (xNil))) (xCons (xMeth .disk F_Disk_size (xFld [.view] 0 (xVar 0)) xNil) (xNil)))) (gN 2) (zIf (xTB (xBin oNotIn (xVar 2) (xVar 1))) (zSeq (zItem (xFld [.view] 2 (xVar 0)) (xVar 2) (xC c_FREE)) (zRet (xVar 2))) (zNext))) (zRaise .full))
def F_View_free_block : Fn := dFn 1 3 B_View_free_block
def B_View_put_cells : Sx := zSeq (zIf (yNot (xTru (xVar 3))) (zRetN) (zNext)) (zSeq (zIf (xTB (xBin oGt (xBin oAdd (xVar 2) (xUn oLen (xVar 3))) (xC c_MOST_SIZE))) (zRaise .full) (zNext)) (zSeq (zFor (iRg2 (xCons (xBin oDiv (xVar 2) (xC c_CELLS)) (xCons (xCall F_blocks_for (xCons (xBin oAdd (xVar 2) (xUn oLen (xVar 3))) (xNil))) (xNil)))) (gN 4) (zSeq (zAsg (xMeth .view F_View_node (xVar 0) (xCons (xVar 1) (xNil))) (gN 5)) (zSeq (zIf (xTB (xBin oEq (xBin oIx (xVar 5) (xBin oAdd (xC (.int 3)) (xVar 4))) (xC (.int 0)))) (zExpr (xMeth .view F_View_put_node (xVar 0) (xCons (xVar 1) (xCons (xBin oAdd (xBin oAdd (xSl (xVar 5) (xNoPart) (xPart (xBin oAdd (xC (.int 3)) (xVar 4)))) (xTup (xCons (xMeth .view F_View_free_block (xVar 0) xNil) (xNil)))) (xSl (xVar 5) (xPart (xBin oAdd (xC (.int 4)) (xVar 4))) (xNoPart))) (xNil))))) (zNext)) (zSeq (zAsg (xBin oIx (xMeth .view F_View_node (xVar 0) (xCons (xVar 1) (xNil))) (xBin oAdd (xC (.int 3)) (xVar 4))) (gN 6)) (zSeq (zAsg (xListN (xMeth .view F_View_block (xVar 0) (xCons (xVar 6) (xNil)))) (gN 7)) (zSeq (zFor (iRg1 (xCons (xC c_CELLS) (xNil))) (gN 8) (zIf (xTB (xChain oLe oLt (xVar 2) (xBin oAdd (xBin oMul (xVar 4) (xC c_CELLS)) (xVar 8)) (xBin oAdd (xVar 2) (xUn oLen (xVar 3))))) (zItem (xVar 7) (xVar 8) (xBin oIx (xVar 3) (xBin oSub (xBin oAdd (xBin oMul (xVar 4) (xC c_CELLS)) (xVar 8)) (xVar 2)))) (zNext))) (zItem (xFld [.view] 2 (xVar 0)) (xVar 6) (xUn oTuple (xVar 7))))))))) (zSeq (zAsg (xMeth .view F_View_node (xVar 0) (xCons (xVar 1) (xNil))) (gN 5)) (zExpr (xMeth .view F_View_put_node (xVar 0) (xCons (xVar 1) (xCons (xBin oAdd (xBin oAdd (xSl (xVar 5) (xNoPart) (xPart (xC (.int 2)))) (xTup (xCons (xBin oMax2 (xBin oIx (xVar 5) (xC (.int 2))) (xBin oAdd (xVar 2) (xUn oLen (xVar 3)))) (xNil)))) (xSl (xVar 5) (xPart (xC (.int 3))) (xNoPart))) (xNil))))))))
def F_View_put_cells : Fn := dFn 4 9 B_View_put_cells
def B_number_of : Sx := zSeq (zAsg (xC (.int 0)) (gN 1)) (zSeq (zFor (iStrD (xVar 0)) (gN 2) (zAsg (xBin oAdd (xBin oAdd (xBin oMul (xC (.int 27)) (xVar 1)) (xMt isStrB oIndexS (xC c_SMALL) (xVar 2))) (xC (.int 1))) (gN 1))) (zRet (xVar 1)))
def F_number_of : Fn := dFn 1 3 B_number_of
def B_mend_entries : Sx := zSeq (zAsg (xDctE [(Sum.inl 0)] (xCons (xC (.int 1)) (xNil))) (gN 1)) (zSeq (zAsg (xLst (xCons (xC (.int 0)) (xNil))) (gN 2)) (zSeq (zWhile (xTru (xVar 2)) (zSeq (zAsg (xBin oIx (xVar 2) (xC (.int 0))) (gN 3)) (zSeq (zAsg (xCall F_good_entries (xCons (xVar 0) (xCons (xVar 3) (xCons (xVar 1) (xNil))))) (gN 4)) (zSeq (zIf (xTB (xBin oNe (xVar 4) (xMeth .view F_View_entries (xVar 0) (xCons (xVar 3) (xNil))))) (zSeq (zExpr (xMeth .view F_View_cut (xVar 0) (xCons (xVar 3) (xCons (xC (.int 0)) (xNil))))) (zForR (iEnumR (xCons (xVar 4) (xNil))) (gTp 2 (gsConsD (gN 6) (gsConsD (gTp 2 (gsConsD (gN 7) (gsConsD (gN 8) (gsNilD)))) (gsNilD)))) (zExpr (xMeth .view F_View_put_cells (xVar 0) (xCons (xVar 3) (xCons (xBin oMul (xC (.int 2)) (xVar 6)) (xCons (xTup (xCons (xCall F_number_of (xCons (xVar 7) (xNil))) (xCons (xVar 8) (xNil)))) (xNil)))))) whileFuel)) (zNext)) (zAsg (xBin oAdd (xSl (xVar 2) (xPart (xC (.int 1))) (xNoPart)) (xCompR (iLstR (xVar 4)) [8, 7] (gTp 2 (gsConsD (gN 7) (gsConsD (gN 8) (gsNilD)))) (xTru (xMeth .view F_View_is_drawer (xVar 0) (xCons (xVar 8) (xNil)))) (xVar 8))) (gN 2))))) whileFuel) (zFor (iRg1 (xCons (xFld [.view] 1 (xVar 0)) (xNil))) (gN 3) (zSeq (zAsg (xMeth .view F_View_node (xVar 0) (xCons (xVar 3) (xNil))) (gN 5)) (zIf (yAnd (xTB (xBin oNotIn (xVar 3) (xVar 1))) (xTB (xBin oNe (xVar 5) (xC c_FREE)))) (zExpr (xMeth .view F_View_put_node (xVar 0) (xCons (xVar 3) (xCons (xC c_FREE) (xNil))))) (zIf (yAnd (xTB (xBin oIn (xVar 3) (xVar 1))) (xTB (xBin oNe (xBin oIx (xVar 5) (xC (.int 1))) (xBin oIx (xVar 1) (xVar 3))))) (zExpr (xMeth .view F_View_put_node (xVar 0) (xCons (xVar 3) (xCons (xBin oAdd (xTup (xCons (xBin oIx (xVar 5) (xC (.int 0))) (xCons (xBin oIx (xVar 1) (xVar 3)) (xNil)))) (xSl (xVar 5) (xPart (xC (.int 2))) (xNoPart))) (xNil))))) (zNext)))))))
def F_mend_entries : Fn := dFn 1 9 B_mend_entries
def B_mended : Sx := zSeq (zAsg (xMake .view F_View_init__ (xCons (xVar 0) (xNil))) (gN 1)) (zSeq (zExpr (xCall F_mend_nodes (xCons (xVar 1) (xNil)))) (zSeq (zExpr (xCall F_mend_blocks (xCons (xVar 1) (xNil)))) (zSeq (zExpr (xCall F_mend_entries (xCons (xVar 1) (xNil)))) (zSeq (zAsg (xComp (iLst (xUn oSorted (xFld [.view] 2 (xVar 1)))) [3] (gN 3) (xTB (xBin oNe (xBin oIx (xFld [.view] 2 (xVar 1)) (xVar 3)) (xMeth .disk F_Disk_read (xVar 0) (xCons (xVar 3) (xNil))))) (xVar 3)) (gN 2)) (zRet (xDictP (xComp (iLst (xVar 2)) [3] (gN 3) (xYes) (xTup (xCons (xVar 3) (xCons (xBin oIx (xFld [.view] 2 (xVar 1)) (xVar 3)) (xNil)))))))))))
def F_mended : Fn := dFn 1 4 B_mended
def B_is_good : Sx := zSeq (zExpr (xCall F_need_disk (xCons (xVar 0) (xNil)))) (zRet (xAnd (xBin oEq (xMeth .disk F_Disk_read (xVar 0) (xCons (xC (.int 0)) (xNil))) (xC c_FREE)) (xNotT (xCall F_mended (xCons (xVar 0) (xNil))))))
def F_is_good : Fn := dFn 1 1 B_is_good
def B_is_deed : Sx := zSeq (zIf (yOr (yNot (xTru (xIs .tuple (xVar 0)))) (yOr (yNot (xTru (xVar 0))) (yNot (xTru (xIs .str (xBin oIx (xVar 0) (xC (.int 0)))))))) (zRet (xC (.bl false))) (zNext)) (zRet (xBin oEq (xUn oLen (xVar 0)) (xBin oAdd (xGetT c_CHANGES (xBin oIx (xVar 0) (xC (.int 0))) (xGetT c_OTHERS (xBin oIx (xVar 0) (xC (.int 0))) (xUn oNeg (xC (.int 9))))) (xC (.int 1)))))
def F_is_deed : Fn := dFn 1 1 B_is_deed
def B_is_name : Sx := zRet (xAnd (xIs .str (xVar 0)) (xAnd (xChain oLe oLe (xC (.int 1)) (xUn oLen (xVar 0)) (xC (.int 2))) (xNotT (xComp (iStrD (xVar 0)) [1] (gN 1) (xTB (xBin oNotIn (xVar 1) (xC c_SMALL))) (xVar 1)))))
def F_is_name : Fn := dFn 1 2 B_is_name
def B_look_way : Sx := zIf (yOr (yNot (xTru (xIs .tuple (xVar 0)))) (yOr (xTB (xBin oGt (xUn oLen (xVar 0)) (xC c_MOST_WAY))) (xTru (xComp (iTp (xVar 0)) [1] (gN 1) (yNot (xTru (xCall F_is_name (xCons (xVar 1) (xNil))))) (xVar 1))))) (zRaise .badWay) (zNext)
def F_look_way : Fn := dFn 1 2 B_look_way
def B_look_inner : Sx := zSeq (zExpr (xCall F_look_way (xCons (xVar 0) (xNil)))) (zIf (yNot (xTru (xVar 0))) (zRaise .badWay) (zNext))
def F_look_inner : Fn := dFn 1 1 B_look_inner
def B_View_find : Sx := zSeq (zFor (iLst (xMeth .view F_View_entries (xVar 0) (xCons (xVar 1) (xNil)))) (gTp 2 (gsConsD (gN 3) (gsConsD (gN 4) (gsNilD)))) (zIf (xTB (xBin oEq (xVar 3) (xVar 2))) (zRet (xVar 4)) (zNext))) (zRet (xC .non))
def F_View_find : Fn := dFn 3 5 B_View_find
def B_walk : Sx := zSeq (zAsg (xC (.int 0)) (gN 2)) (zSeq (zFor (iTp (xVar 1)) (gN 3) (zSeq (zIf (yNot (xTru (xMeth .view F_View_is_drawer (xVar 0) (xCons (xVar 2) (xNil))))) (zRaise .notDrawer) (zNext)) (zSeq (zAsg (xMeth .view F_View_find (xVar 0) (xCons (xVar 2) (xCons (xVar 3) (xNil)))) (gN 2)) (zIf (xTB (xBin oIs (xVar 2) (xC .non))) (zRaise .noThing) (zNext))))) (zRet (xVar 2)))
def F_walk : Fn := dFn 2 4 B_walk
def B_walk_drawer : Sx := zSeq (zAsg (xCall F_walk (xCons (xVar 0) (xCons (xVar 1) (xNil)))) (gN 2)) (zSeq (zIf (yNot (xTru (xMeth .view F_View_is_drawer (xVar 0) (xCons (xVar 2) (xNil))))) (zRaise .notDrawer) (zNext)) (zRet (xVar 2)))
def F_walk_drawer : Fn := dFn 2 3 B_walk_drawer
def B_View_free_node : Sx := zSeq (zFor (iRg1 (xCons (xFld [.view] 1 (xVar 0)) (xNil))) (gN 1) (zIf (xTB (xBin oEq (xMeth .view F_View_node (xVar 0) (xCons (xVar 1) (xNil))) (xC c_FREE))) (zRet (xVar 1)) (zNext))) (zRaise .full)
def F_View_free_node : Fn := dFn 1 2 B_View_free_node
def B_View_put_entry : Sx := zSeq (zAsg (xComp (iLst (xMeth .view F_View_entries (xVar 0) (xCons (xVar 1) (xNil)))) [7, 6] (gTp 2 (gsConsD (gN 6) (gsConsD (gN 7) (gsNilD)))) (xYes) (xVar 6)) (gN 4)) (zSeq (zAsg (xUn oLen (xVar 4)) (gN 5)) (zSeq (zIf (xTB (xBin oIn (xVar 2) (xVar 4))) (zAsg (xMt isLstB oIndex (xVar 4) (xVar 2)) (gN 5)) (zNext)) (zExpr (xMeth .view F_View_put_cells (xVar 0) (xCons (xVar 1) (xCons (xBin oMul (xC (.int 2)) (xVar 5)) (xCons (xTup (xCons (xCall F_number_of (xCons (xVar 2) (xNil))) (xCons (xVar 3) (xNil)))) (xNil))))))))
def F_View_put_entry : Fn := dFn 4 8 B_View_put_entry
def B_deal : Sx := zSeq (zAsg (xUn oSorted (xComp (iKeysD (xVar 1)) [4] (gN 4) (xTB (xBin oNe (xMeth .disk F_Disk_read (xVar 0) (xCons (xVar 4) (xNil))) (xBin oIx (xVar 1) (xVar 4)))) (xVar 4))) (gN 2)) (zSeq (zIf (xTB (xBin oGt (xUn oLen (xVar 2)) (xC c_MOST_WRITES))) (zRaise .full) (zNext)) (zSeq (zIf (yNot (xTru (xVar 2))) (zRetN) (zNext)) (zSeq (zFor (iEnumD (xCons (xVar 2) (xNil))) (gTp 2 (gsConsD (gN 3) (gsConsD (gN 4) (gsNilD)))) (zExpr (xMeth .disk F_Disk_write (xVar 0) (xCons (xBin oAdd (xC (.int 1)) (xVar 3)) (xCons (xBin oIx (xVar 1) (xVar 4)) (xNil)))))) (zSeq (zExpr (xMeth .disk F_Disk_write (xVar 0) (xCons (xC (.int 0)) (xCons (xBin oAdd (xBin oAdd (xTup (xCons (xUn oLen (xVar 2)) (xNil))) (xUn oTuple (xVar 2))) (xBin oMul (xTup (xCons (xC (.int 0)) (xNil))) (xBin oSub (xBin oSub (xC c_CELLS) (xC (.int 1))) (xUn oLen (xVar 2))))) (xNil))))) (zExpr (xCall F_put_in_place (xCons (xVar 0) (xCons (xVar 2) (xNil)))))))))
def F_deal : Fn := dFn 2 5 B_deal
def B_Drawers_make : Sx := zSeq (zExpr (xCall F_look_inner (xCons (xVar 1) (xNil)))) (zSeq (zAsg (xMake .view F_View_init__ (xCons (xFld [.drawers] 0 (xVar 0)) (xNil))) (gN 3)) (zSeq (zAsg (xCall F_walk_drawer (xCons (xVar 3) (xCons (xSl (xVar 1) (xNoPart) (xPart (xUn oNeg (xC (.int 1))))) (xNil)))) (gN 4)) (zSeq (zIf (xTB (xBin oIsNot (xMeth .view F_View_find (xVar 3) (xCons (xVar 4) (xCons (xBin oIx (xVar 1) (xUn oNeg (xC (.int 1)))) (xNil)))) (xC .non))) (zRaise .there) (zNext)) (zSeq (zAsg (xMeth .view F_View_free_node (xVar 3) xNil) (gN 5)) (zSeq (zExpr (xMeth .view F_View_put_node (xVar 3) (xCons (xVar 5) (xCons (xBin oAdd (xTup (xCons (xVar 2) (xCons (xC (.int 1)) (xNil)))) (xSl (xC c_FREE) (xPart (xC (.int 2))) (xNoPart))) (xNil))))) (zSeq (zExpr (xMeth .view F_View_put_entry (xVar 3) (xCons (xVar 4) (xCons (xBin oIx (xVar 1) (xUn oNeg (xC (.int 1)))) (xCons (xVar 5) (xNil)))))) (zExpr (xCall F_deal (xCons (xFld [.drawers] 0 (xVar 0)) (xCons (xFld [.view] 2 (xVar 3)) (xNil)))))))))))
def F_Drawers_make : Fn := dFn 3 6 B_Drawers_make
def B_Drawers_make_file : Sx := zExpr (xMeth .drawers F_Drawers_make (xVar 0) (xCons (xVar 1) (xCons (xC c_FILE) (xNil))))
def F_Drawers_make_file : Fn := dFn 2 2 B_Drawers_make_file
def B_Drawers_make_drawer : Sx := zExpr (xMeth .drawers F_Drawers_make (xVar 0) (xCons (xVar 1) (xCons (xC c_DRAWER) (xNil))))
def F_Drawers_make_drawer : Fn := dFn 2 2 B_Drawers_make_drawer
def B_walk_file : Sx := zSeq (zAsg (xCall F_walk (xCons (xVar 0) (xCons (xVar 1) (xNil)))) (gN 2)) (zSeq (zIf (xTru (xMeth .view F_View_is_drawer (xVar 0) (xCons (xVar 2) (xNil)))) (zRaise .notFile) (zNext)) (zRet (xVar 2)))
def F_walk_file : Fn := dFn 2 3 B_walk_file
def B_Drawers_link : Sx := zSeq (zExpr (xCall F_look_inner (xCons (xVar 1) (xNil)))) (zSeq (zExpr (xCall F_look_inner (xCons (xVar 2) (xNil)))) (zSeq (zAsg (xMake .view F_View_init__ (xCons (xFld [.drawers] 0 (xVar 0)) (xNil))) (gN 3)) (zSeq (zAsg (xCall F_walk_file (xCons (xVar 3) (xCons (xVar 1) (xNil)))) (gN 4)) (zSeq (zAsg (xCall F_walk_drawer (xCons (xVar 3) (xCons (xSl (xVar 2) (xNoPart) (xPart (xUn oNeg (xC (.int 1))))) (xNil)))) (gN 5)) (zSeq (zIf (xTB (xBin oIsNot (xMeth .view F_View_find (xVar 3) (xCons (xVar 5) (xCons (xBin oIx (xVar 2) (xUn oNeg (xC (.int 1)))) (xNil)))) (xC .non))) (zRaise .there) (zNext)) (zSeq (zAsg (xMeth .view F_View_node (xVar 3) (xCons (xVar 4) (xNil))) (gN 6)) (zSeq (zExpr (xMeth .view F_View_put_node (xVar 3) (xCons (xVar 4) (xCons (xBin oAdd (xTup (xCons (xC c_FILE) (xCons (xBin oAdd (xBin oIx (xVar 6) (xC (.int 1))) (xC (.int 1))) (xNil)))) (xSl (xVar 6) (xPart (xC (.int 2))) (xNoPart))) (xNil))))) (zSeq (zExpr (xMeth .view F_View_put_entry (xVar 3) (xCons (xVar 5) (xCons (xBin oIx (xVar 2) (xUn oNeg (xC (.int 1)))) (xCons (xVar 4) (xNil)))))) (zExpr (xCall F_deal (xCons (xFld [.drawers] 0 (xVar 0)) (xCons (xFld [.view] 2 (xVar 3)) (xNil)))))))))))))
def F_Drawers_link : Fn := dFn 3 7 B_Drawers_link
def B_View_drop_entry : Sx := zSeq (zAsg (xMeth .view F_View_entries (xVar 0) (xCons (xVar 1) (xNil))) (gN 3)) (zSeq (zAsg (xMt isLstB oIndex (xComp (iLst (xVar 3)) [7, 6] (gTp 2 (gsConsD (gN 6) (gsConsD (gN 7) (gsNilD)))) (xYes) (xVar 6)) (xVar 2)) (gN 4)) (zSeq (zAsg (xBin oSub (xUn oLen (xVar 3)) (xC (.int 1))) (gN 5)) (zSeq (zIf (xTB (xBin oLt (xVar 4) (xVar 5))) (zExpr (xMeth .view F_View_put_cells (xVar 0) (xCons (xVar 1) (xCons (xBin oMul (xC (.int 2)) (xVar 4)) (xCons (xTup (xCons (xCall F_number_of (xCons (xBin oIx (xBin oIx (xVar 3) (xVar 5)) (xC (.int 0))) (xNil))) (xCons (xBin oIx (xBin oIx (xVar 3) (xVar 5)) (xC (.int 1))) (xNil)))) (xNil)))))) (zNext)) (zExpr (xMeth .view F_View_cut (xVar 0) (xCons (xVar 1) (xCons (xBin oMul (xC (.int 2)) (xVar 5)) (xNil))))))))
def F_View_drop_entry : Fn := dFn 3 8 B_View_drop_entry
def B_View_release : Sx := zSeq (zAsg (xMeth .view F_View_node (xVar 0) (xCons (xVar 1) (xNil))) (gN 2)) (zIf (xTB (xBin oEq (xBin oIx (xVar 2) (xC (.int 1))) (xC (.int 1)))) (zExpr (xMeth .view F_View_put_node (xVar 0) (xCons (xVar 1) (xCons (xC c_FREE) (xNil))))) (zExpr (xMeth .view F_View_put_node (xVar 0) (xCons (xVar 1) (xCons (xBin oAdd (xTup (xCons (xBin oIx (xVar 2) (xC (.int 0))) (xCons (xBin oSub (xBin oIx (xVar 2) (xC (.int 1))) (xC (.int 1))) (xNil)))) (xSl (xVar 2) (xPart (xC (.int 2))) (xNoPart))) (xNil))))))
def F_View_release : Fn := dFn 2 3 B_View_release
def B_Drawers_remove : Sx := zSeq (zExpr (xCall F_look_inner (xCons (xVar 1) (xNil)))) (zSeq (zAsg (xMake .view F_View_init__ (xCons (xFld [.drawers] 0 (xVar 0)) (xNil))) (gN 2)) (zSeq (zAsg (xCall F_walk (xCons (xVar 2) (xCons (xVar 1) (xNil)))) (gN 3)) (zSeq (zIf (yAnd (xTru (xMeth .view F_View_is_drawer (xVar 2) (xCons (xVar 3) (xNil)))) (xTru (xMeth .view F_View_entries (xVar 2) (xCons (xVar 3) (xNil))))) (zRaise .notEmpty) (zNext)) (zSeq (zExpr (xMeth .view F_View_drop_entry (xVar 2) (xCons (xCall F_walk (xCons (xVar 2) (xCons (xSl (xVar 1) (xNoPart) (xPart (xUn oNeg (xC (.int 1))))) (xNil)))) (xCons (xBin oIx (xVar 1) (xUn oNeg (xC (.int 1)))) (xNil))))) (zSeq (zExpr (xMeth .view F_View_release (xVar 2) (xCons (xVar 3) (xNil)))) (zExpr (xCall F_deal (xCons (xFld [.drawers] 0 (xVar 0)) (xCons (xFld [.view] 2 (xVar 2)) (xNil))))))))))
def F_Drawers_remove : Fn := dFn 2 4 B_Drawers_remove
def B_Drawers_look_goal : Sx := zIf (xTru (xMeth .view F_View_is_drawer (xVar 1) (xCons (xVar 2) (xNil)))) (zSeq (zIf (yNot (xTru (xMeth .view F_View_is_drawer (xVar 1) (xCons (xVar 3) (xNil))))) (zRaise .notDrawer) (zNext)) (zIf (xTru (xMeth .view F_View_entries (xVar 1) (xCons (xVar 3) (xNil)))) (zRaise .notEmpty) (zNext))) (zIf (xTru (xMeth .view F_View_is_drawer (xVar 1) (xCons (xVar 3) (xNil)))) (zRaise .notFile) (zNext))
def F_Drawers_look_goal : Fn := dFn 4 4 B_Drawers_look_goal
def B_Drawers_rename : Sx := zSeq (zExpr (xCall F_look_inner (xCons (xVar 1) (xNil)))) (zSeq (zExpr (xCall F_look_inner (xCons (xVar 2) (xNil)))) (zSeq (zAsg (xMake .view F_View_init__ (xCons (xFld [.drawers] 0 (xVar 0)) (xNil))) (gN 3)) (zSeq (zAsg (xCall F_walk (xCons (xVar 3) (xCons (xVar 1) (xNil)))) (gN 4)) (zSeq (zIf (yAnd (xTru (xMeth .view F_View_is_drawer (xVar 3) (xCons (xVar 4) (xNil)))) (yAnd (xTB (xBin oEq (xSl (xVar 2) (xNoPart) (xPart (xUn oLen (xVar 1)))) (xVar 1))) (xTB (xBin oGt (xUn oLen (xVar 2)) (xUn oLen (xVar 1)))))) (zRaise .inside) (zNext)) (zSeq (zAsg (xCall F_walk_drawer (xCons (xVar 3) (xCons (xSl (xVar 2) (xNoPart) (xPart (xUn oNeg (xC (.int 1))))) (xNil)))) (gN 5)) (zSeq (zAsg (xMeth .view F_View_find (xVar 3) (xCons (xVar 5) (xCons (xBin oIx (xVar 2) (xUn oNeg (xC (.int 1)))) (xNil)))) (gN 6)) (zSeq (zIf (xTB (xBin oEq (xVar 6) (xVar 4))) (zRetN) (zNext)) (zSeq (zIf (xTB (xBin oIsNot (xVar 6) (xC .non))) (zExpr (xMeth .drawers F_Drawers_look_goal (xVar 0) (xCons (xVar 3) (xCons (xVar 4) (xCons (xVar 6) (xNil)))))) (zNext)) (zSeq (zExpr (xMeth .view F_View_put_entry (xVar 3) (xCons (xVar 5) (xCons (xBin oIx (xVar 2) (xUn oNeg (xC (.int 1)))) (xCons (xVar 4) (xNil)))))) (zSeq (zExpr (xMeth .view F_View_drop_entry (xVar 3) (xCons (xCall F_walk (xCons (xVar 3) (xCons (xSl (xVar 1) (xNoPart) (xPart (xUn oNeg (xC (.int 1))))) (xNil)))) (xCons (xBin oIx (xVar 1) (xUn oNeg (xC (.int 1)))) (xNil))))) (zSeq (zIf (xTB (xBin oIsNot (xVar 6) (xC .non))) (zExpr (xMeth .view F_View_release (xVar 3) (xCons (xVar 6) (xNil)))) (zNext)) (zExpr (xCall F_deal (xCons (xFld [.drawers] 0 (xVar 0)) (xCons (xFld [.view] 2 (xVar 3)) (xNil))))))))))))))))
def F_Drawers_rename : Fn := dFn 3 7 B_Drawers_rename
def B_Drawers_write : Sx := zSeq (zExpr (xCall F_look_way (xCons (xVar 1) (xNil)))) (zSeq (zAsg (xMake .view F_View_init__ (xCons (xFld [.drawers] 0 (xVar 0)) (xNil))) (gN 4)) (zSeq (zAsg (xCall F_walk_file (xCons (xVar 4) (xCons (xVar 1) (xNil)))) (gN 5)) (zSeq (zIf (yNot (xTru (xCall F_is_within (xCons (xVar 2) (xCons (xC (.int 0)) (xCons (xC c_MOST_SIZE) (xNil))))))) (zRaise .badNumber) (zNext)) (zSeq (zIf (yNot (xTru (xCall F_are_cells (xCons (xVar 3) (xNil))))) (zRaise .badCells) (zNext)) (zSeq (zExpr (xMeth .view F_View_put_cells (xVar 4) (xCons (xVar 5) (xCons (xVar 2) (xCons (xVar 3) (xNil)))))) (zExpr (xCall F_deal (xCons (xFld [.drawers] 0 (xVar 0)) (xCons (xFld [.view] 2 (xVar 4)) (xNil))))))))))
def F_Drawers_write : Fn := dFn 4 6 B_Drawers_write
def B_Drawers_cut : Sx := zSeq (zExpr (xCall F_look_way (xCons (xVar 1) (xNil)))) (zSeq (zAsg (xMake .view F_View_init__ (xCons (xFld [.drawers] 0 (xVar 0)) (xNil))) (gN 3)) (zSeq (zAsg (xCall F_walk_file (xCons (xVar 3) (xCons (xVar 1) (xNil)))) (gN 4)) (zSeq (zIf (yNot (xTru (xCall F_is_within (xCons (xVar 2) (xCons (xC (.int 0)) (xCons (xC c_MOST_SIZE) (xNil))))))) (zRaise .badNumber) (zNext)) (zSeq (zExpr (xMeth .view F_View_cut (xVar 3) (xCons (xVar 4) (xCons (xVar 2) (xNil))))) (zExpr (xCall F_deal (xCons (xFld [.drawers] 0 (xVar 0)) (xCons (xFld [.view] 2 (xVar 3)) (xNil)))))))))
def F_Drawers_cut : Fn := dFn 3 5 B_Drawers_cut
def B_Drawers_read : Sx := zSeq (zExpr (xCall F_look_way (xCons (xVar 1) (xNil)))) (zSeq (zAsg (xMake .view F_View_init__ (xCons (xFld [.drawers] 0 (xVar 0)) (xNil))) (gN 4)) (zSeq (zAsg (xCall F_walk_file (xCons (xVar 4) (xCons (xVar 1) (xNil)))) (gN 5)) (zSeq (zIf (yOr (yNot (xTru (xCall F_is_within (xCons (xVar 2) (xCons (xC (.int 0)) (xCons (xC c_MOST_SIZE) (xNil))))))) (yNot (xTru (xCall F_is_within (xCons (xVar 3) (xCons (xC (.int 0)) (xCons (xC c_MOST_SIZE) (xNil)))))))) (zRaise .badNumber) (zNext)) (zRet (xSl (xMeth .view F_View_cells (xVar 4) (xCons (xVar 5) (xNil))) (xPart (xVar 2)) (xPart (xBin oAdd (xVar 2) (xVar 3))))))))
def F_Drawers_read : Fn := dFn 4 6 B_Drawers_read
def B_Drawers_names : Sx := zSeq (zExpr (xCall F_look_way (xCons (xVar 1) (xNil)))) (zSeq (zAsg (xMake .view F_View_init__ (xCons (xFld [.drawers] 0 (xVar 0)) (xNil))) (gN 2)) (zRet (xUn oSorted (xComp (iLst (xMeth .view F_View_entries (xVar 2) (xCons (xCall F_walk_drawer (xCons (xVar 2) (xCons (xVar 1) (xNil)))) (xNil)))) [4, 3] (gTp 2 (gsConsD (gN 3) (gsConsD (gN 4) (gsNilD)))) (xYes) (xVar 3)))))
def F_Drawers_names : Fn := dFn 2 5 B_Drawers_names
def B_Drawers_about : Sx := zSeq (zExpr (xCall F_look_way (xCons (xVar 1) (xNil)))) (zSeq (zAsg (xMake .view F_View_init__ (xCons (xFld [.drawers] 0 (xVar 0)) (xNil))) (gN 2)) (zSeq (zAsg (xCall F_walk (xCons (xVar 2) (xCons (xVar 1) (xNil)))) (gN 3)) (zSeq (zIf (xTru (xMeth .view F_View_is_drawer (xVar 2) (xCons (xVar 3) (xNil)))) (zRet (xTup (xCons (xC (.str "drawer")) (xCons (xUn oLen (xMeth .view F_View_entries (xVar 2) (xCons (xVar 3) (xNil)))) (xCons (xBin oIx (xMeth .view F_View_node (xVar 2) (xCons (xVar 3) (xNil))) (xC (.int 1))) (xNil)))))) (zNext)) (zRet (xTup (xCons (xC (.str "file")) (xCons (xBin oIx (xMeth .view F_View_node (xVar 2) (xCons (xVar 3) (xNil))) (xC (.int 2))) (xCons (xBin oIx (xMeth .view F_View_node (xVar 2) (xCons (xVar 3) (xNil))) (xC (.int 1))) (xNil)))))))))
def F_Drawers_about : Fn := dFn 2 4 B_Drawers_about
def B_told_of : Sx := zSeq (zAsg (xBin oIx (xVar 1) (xC (.int 0))) (gN 2)) (zSeq (zIf (xTB (xBin oEq (xVar 2) (xC (.str "write")))) (zRet (xMeth .drawers F_Drawers_write (xVar 0) (xCons (xBin oIx (xVar 1) (xC (.int 1))) (xCons (xBin oIx (xVar 1) (xC (.int 2))) (xCons (xBin oIx (xVar 1) (xC (.int 3))) (xNil)))))) (zNext)) (zSeq (zIf (xTB (xBin oEq (xVar 2) (xC (.str "cut")))) (zRet (xMeth .drawers F_Drawers_cut (xVar 0) (xCons (xBin oIx (xVar 1) (xC (.int 1))) (xCons (xBin oIx (xVar 1) (xC (.int 2))) (xNil))))) (zNext)) (zSeq (zIf (xTB (xBin oEq (xVar 2) (xC (.str "read")))) (zRet (xMeth .drawers F_Drawers_read (xVar 0) (xCons (xBin oIx (xVar 1) (xC (.int 1))) (xCons (xBin oIx (xVar 1) (xC (.int 2))) (xCons (xBin oIx (xVar 1) (xC (.int 3))) (xNil)))))) (zNext)) (zRet (xIf (xTB (xBin oEq (xVar 2) (xC (.str "names")))) (xMeth .drawers F_Drawers_names (xVar 0) (xCons (xBin oIx (xVar 1) (xC (.int 1))) (xNil))) (xMeth .drawers F_Drawers_about (xVar 0) (xCons (xBin oIx (xVar 1) (xC (.int 1))) (xNil))))))))
def F_told_of : Fn := dFn 2 3 B_told_of
def B_told_by : Sx := zSeq (zAsg (xBin oIx (xVar 1) (xC (.int 0))) (gN 2)) (zSeq (zIf (xTB (xBin oEq (xVar 2) (xC (.str "file")))) (zRet (xMeth .drawers F_Drawers_make_file (xVar 0) (xCons (xBin oIx (xVar 1) (xC (.int 1))) (xNil)))) (zNext)) (zSeq (zIf (xTB (xBin oEq (xVar 2) (xC (.str "drawer")))) (zRet (xMeth .drawers F_Drawers_make_drawer (xVar 0) (xCons (xBin oIx (xVar 1) (xC (.int 1))) (xNil)))) (zNext)) (zSeq (zIf (xTB (xBin oEq (xVar 2) (xC (.str "link")))) (zRet (xMeth .drawers F_Drawers_link (xVar 0) (xCons (xBin oIx (xVar 1) (xC (.int 1))) (xCons (xBin oIx (xVar 1) (xC (.int 2))) (xNil))))) (zNext)) (zSeq (zIf (xTB (xBin oEq (xVar 2) (xC (.str "remove")))) (zRet (xMeth .drawers F_Drawers_remove (xVar 0) (xCons (xBin oIx (xVar 1) (xC (.int 1))) (xNil)))) (zNext)) (zRet (xIf (xTB (xBin oEq (xVar 2) (xC (.str "rename")))) (xMeth .drawers F_Drawers_rename (xVar 0) (xCons (xBin oIx (xVar 1) (xC (.int 1))) (xCons (xBin oIx (xVar 1) (xC (.int 2))) (xNil)))) (xCall F_told_of (xCons (xVar 0) (xCons (xVar 1) (xNil))))))))))
def F_told_by : Fn := dFn 2 3 B_told_by
def B_do : Sx := zSeq (zIf (yNot (xTru (xCall F_is_deed (xCons (xVar 1) (xNil))))) (zRaise .badDeed) (zNext)) (zSeq (zAsg (xC (.str "refused")) (gN 2)) (zSeq (zTry (zAsg (xCall F_told_by (xCons (xVar 0) (xCons (xVar 1) (xNil)))) (gN 2)) ((.stopped, zAsg (xC (.str "stopped")) (gN 2)) :: (.drawerError, zAsg (xC (.str "refused")) (gN 2)) :: [])) (zRet (xVar 2))))
def F_do : Fn := dFn 2 3 B_do
def B_Drawers_blocks : Sx := zSeq (zExpr (xCall F_look_way (xCons (xVar 1) (xNil)))) (zSeq (zAsg (xMake .view F_View_init__ (xCons (xFld [.drawers] 0 (xVar 0)) (xNil))) (gN 2)) (zRet (xUn oLen (xComp (iTp (xSl (xMeth .view F_View_node (xVar 2) (xCons (xCall F_walk (xCons (xVar 2) (xCons (xVar 1) (xNil)))) (xNil))) (xPart (xC (.int 3))) (xNoPart))) [3] (gN 3) (xTB (xBin oGt (xVar 3) (xC (.int 0)))) (xVar 3)))))
def F_Drawers_blocks : Fn := dFn 2 4 B_Drawers_blocks
def B_shot_of (self_ : Fn) : Sx := zSeq (zIf (xTru (xMeth .view F_View_is_drawer (xVar 0) (xCons (xVar 1) (xNil)))) (zSeq (zAsg (xUn oSorted (xMeth .view F_View_entries (xVar 0) (xCons (xVar 1) (xNil)))) (gN 3)) (zRet (xTup (xCons (xC (.str "drawer")) (xCons (xUn oTuple (xComp (iLst (xVar 3)) [5, 4] (gTp 2 (gsConsD (gN 4) (gsConsD (gN 5) (gsNilD)))) (xYes) (xTup (xCons (xVar 4) (xCons (xCall self_ (xCons (xVar 0) (xCons (xVar 5) (xCons (xVar 2) (xNil))))) (xNil)))))) (xNil)))))) (zNext)) (zSeq (zIf (xTB (xBin oNotIn (xVar 1) (xVar 2))) (zItem (xVar 2) (xVar 1) (xUn oLen (xVar 2))) (zNext)) (zRet (xTup (xCons (xC (.str "file")) (xCons (xBin oIx (xVar 2) (xVar 1)) (xCons (xMeth .view F_View_cells (xVar 0) (xCons (xVar 1) (xNil))) (xNil)))))))
def F_shot_of : Nat → Fn | 0 => dFn 3 6 (fun _ _ => .bad) | n + 1 => dFn 3 6 (B_shot_of (F_shot_of n))
def B_shot : Sx := zRet (xCall (F_shot_of recFuel) (xCons (xMake .view F_View_init__ (xCons (xFld [.drawers] 0 (xVar 0)) (xNil))) (xCons (xC (.int 0)) (xCons (xDctN) (xNil)))))
def F_shot : Fn := dFn 1 1 B_shot
def B_Drawers_room : Sx := zSeq (zAsg (xMake .view F_View_init__ (xCons (xFld [.drawers] 0 (xVar 0)) (xNil))) (gN 1)) (zSeq (zAsg (xMeth .view F_View_taken (xVar 1) xNil) (gN 2)) (zSeq (zAsg (xComp (iRg1 (xCons (xFld [.view] 1 (xVar 1)) (xNil))) [5] (gN 5) (xTB (xBin oEq (xMeth .view F_View_node (xVar 1) (xCons (xVar 5) (xNil))) (xC c_FREE))) (xVar 5)) (gN 3)) (zSeq (zAsg (xComp (iRg2 (xCons (xCall F_first_data (xCons (xFld [.view] 1 (xVar 1)) (xNil))) (xCons (xMeth .disk F_Disk_size (xFld [.drawers] 0 (xVar 0)) xNil) (xNil)))) [6] (gN 6) (xTB (xBin oNotIn (xVar 6) (xVar 2))) (xVar 6)) (gN 4)) (zRet (xTup (xCons (xUn oLen (xVar 3)) (xCons (xUn oLen (xVar 4)) (xNil))))))))
def F_Drawers_room : Fn := dFn 1 7 B_Drawers_room
def B_Disk_steps : Sx := zRet (xFld [.disk] 2 (xVar 0))
def F_Disk_steps : Fn := dFn 1 1 B_Disk_steps
def B_Disk_left : Sx := zRet (xFld [.disk] 1 (xVar 0))
def F_Disk_left : Fn := dFn 1 1 B_Disk_left
def B_Drawers_same : Sx := zSeq (zExpr (xCall F_look_way (xCons (xVar 1) (xNil)))) (zSeq (zExpr (xCall F_look_way (xCons (xVar 2) (xNil)))) (zSeq (zAsg (xMake .view F_View_init__ (xCons (xFld [.drawers] 0 (xVar 0)) (xNil))) (gN 3)) (zRet (xBin oEq (xCall F_walk (xCons (xVar 3) (xCons (xVar 1) (xNil)))) (xCall F_walk (xCons (xVar 3) (xCons (xVar 2) (xNil))))))))
def F_Drawers_same : Fn := dFn 3 4 B_Drawers_same
def B_mend : Sx := zSeq (zExpr (xCall F_need_disk (xCons (xVar 0) (xNil)))) (zSeq (zAsg (xMeth .disk F_Disk_steps (xVar 0) xNil) (gN 1)) (zSeq (zTry (zExpr (xCall F_come_back (xCons (xVar 0) (xNil)))) ((.badDisk, zExpr (xMeth .disk F_Disk_write (xVar 0) (xCons (xC (.int 0)) (xCons (xC c_FREE) (xNil))))) :: [])) (zSeq (zAsg (xCall F_mended (xCons (xVar 0) (xNil))) (gN 2)) (zSeq (zFor (iKeysD (xVar 2)) (gN 3) (zExpr (xMeth .disk F_Disk_write (xVar 0) (xCons (xVar 3) (xCons (xBin oIx (xVar 2) (xVar 3)) (xNil)))))) (zRet (xBin oSub (xMeth .disk F_Disk_steps (xVar 0) xNil) (xVar 1)))))))
def F_mend : Fn := dFn 1 4 B_mend
def B_run : Sx := zSeq (zExpr (xCall F_look_disk (xCons (xVar 0) (xNil)))) (zSeq (zIf (yOr (yNot (xTru (xIs .list (xVar 1)))) (xTru (xComp (iLst (xVar 1)) [4] (gN 4) (yNot (xTru (xCall F_is_deed (xCons (xVar 4) (xNil))))) (xVar 4)))) (zRaise .badDeed) (zNext)) (zSeq (zAsg (xMake .drawers F_Drawers_init__ (xCons (xVar 0) (xNil))) (gN 2)) (zSeq (zAsg (xLstN (xNil)) (gN 3)) (zSeq (zFor (iLst (xVar 1)) (gN 4) (zSeq (zAsg (xCall F_do (xCons (xVar 2) (xCons (xVar 4) (xNil)))) (gN 5)) (zSeq (zIf (xTB (xBin oEq (xVar 5) (xC (.str "stopped")))) (zRet (xTup (xCons (xVar 2) (xCons (xVar 3) (xNil))))) (zNext)) (zExpr (xApp (xVar 3) (xVar 5)))))) (zRet (xTup (xCons (xVar 2) (xCons (xVar 3) (xNil)))))))))
def F_run : Fn := dFn 2 6 B_run
end DL
set_option maxRecDepth 100000
set_option maxHeartbeats 4000000
namespace DL
open PySem PySem.Spec L2
open PyProof.Rows hiding St
def B_law_state : Sx := zRet (xDctE [(Sum.inr "tree"), (Sum.inr "files"), (Sum.inr "nodes"), (Sum.inr "blocks"), (Sum.inr "after")] (xCons (xDctN) (xCons (xLstN (xNil)) (xCons (xVar 0) (xCons (xVar 1) (xCons (xC (.int 0)) (xNil)))))))
def F_law_state : Fn := dFn 2 2 B_law_state
def B_law_disk : Sx := zSeq (zAsg (xBin oIx (xLst (xCons (xBin oAdd (xC (.int 1)) (xBin oMod (xBin oDiv (xVar 0) (xC (.int 3))) (xC (.int 12)))) (xCons (xC (.int 12)) (xCons (xC (.int 30)) (xNil))))) (xBin oMod (xVar 0) (xC (.int 3)))) (gN 1)) (zSeq (zAsg (xBin oAdd (xBin oAdd (xC (.int 9)) (xVar 1)) (xBin oIx (xLst (xCons (xBin oAdd (xC (.int 2)) (xBin oMod (xBin oDiv (xVar 0) (xC (.int 7))) (xC (.int 12)))) (xCons (xC (.int 40)) (xCons (xC (.int 100)) (xNil))))) (xBin oMod (xBin oDiv (xVar 0) (xC (.int 5))) (xC (.int 3))))) (gN 2)) (zSeq (zAsg (xBin oMax2 (xVar 2) (xC (.int 20))) (gN 2)) (zSeq (zAsg (xMake .disk F_Disk_init__ (xCons (xVar 2) (xCons (xC .non) (xNil)))) (gN 3)) (zSeq (zExpr (xCall F_set_up (xCons (xVar 3) (xCons (xVar 1) (xNil))))) (zRet (xTup (xCons (xVar 3) (xCons (xCall F_law_state (xCons (xVar 1) (xCons (xBin oSub (xBin oSub (xVar 2) (xC (.int 9))) (xVar 1)) (xNil)))) (xNil)))))))))
def F_law_disk : Fn := dFn 1 4 B_law_disk
def B_law_ways (self_ : Fn) : Sx := zSeq (zAsg (xLst (xCons (xVar 1) (xNil))) (gN 2)) (zSeq (zIf (yAnd (xTru (xIs .dict (xVar 0))) (xTB (xBin oNotIn (xC (.str "cells")) (xVar 0)))) (zFor (iLst (xUn oSorted (xVar 0))) (gN 3) (zAsg (xBin oAdd (xVar 2) (xCall self_ (xCons (xBin oIx (xVar 0) (xVar 3)) (xCons (xBin oAdd (xVar 1) (xTup (xCons (xVar 3) (xNil)))) (xNil))))) (gN 2))) (zNext)) (zRet (xVar 2)))
def F_law_ways : Nat → Fn | 0 => dFn 2 4 (fun _ _ => .bad) | n + 1 => dFn 2 4 (B_law_ways (F_law_ways n))
def B_law_cell : Sx := zSeq (zIf (xTB (xBin oLt (xVar 1) (xUn oLen (xVar 0)))) (zRet (xBin oIx (xVar 0) (xVar 1))) (zNext)) (zRet (xC (.int 0)))
def F_law_cell : Fn := dFn 2 2 B_law_cell
def B_law_mix : Sx := zRet (xBin oMod (xBin oMod (xBin oPow (xBin oMod (xBin oMul (xVar 0) (xC (.int 48271))) (xVar 1)) (xC (.int 3))) (xVar 1)) (xVar 2))
def F_law_mix : Fn := dFn 3 3 B_law_mix
def B_law_pick : Sx := zRet (xBin oMod (xBin oDiv (xVar 0) (xC (.int 97))) (xVar 1))
def F_law_pick : Fn := dFn 2 2 B_law_pick
def B_law_seed : Sx := zRet (xBin oMod (xBin oPow (xBin oMod (xBin oAdd (xBin oAdd (xBin oMul (xVar 0) (xC (.int 1103515245))) (xBin oMul (xC (.int 7919)) (xVar 1))) (xC (.int 12345))) (xC (.int 2147483647))) (xC (.int 5))) (xC (.int 2147483647)))
def F_law_seed : Fn := dFn 2 2 B_law_seed
def B_law_name : Sx := zRet (xBin oIx (xLst (xCons (xC (.str "a")) (xCons (xC (.str "b")) (xCons (xC (.str "c")) (xCons (xC (.str "zz")) (xCons (xC (.str "az")) (xNil))))))) (xCall F_law_pick (xCons (xVar 0) (xCons (xC (.int 5)) (xNil)))))
def F_law_name : Fn := dFn 1 1 B_law_name
def B_law_way : Sx := zSeq (zAsg (xCall (F_law_ways recFuel) (xCons (xVar 0) (xCons (xTup (xNil)) (xNil)))) (gN 2)) (zSeq (zAsg (xBin oIx (xVar 2) (xCall F_law_pick (xCons (xCall F_law_seed (xCons (xVar 1) (xCons (xC (.int 1)) (xNil)))) (xCons (xUn oLen (xVar 2)) (xNil))))) (gN 3)) (zSeq (zIf (yAnd (xTB (xBin oGt (xBin oMod (xBin oDiv (xVar 1) (xC (.int 7))) (xC (.int 3))) (xC (.int 0)))) (xTB (xBin oLt (xUn oLen (xVar 3)) (xC (.int 5))))) (zAsg (xBin oAdd (xVar 3) (xTup (xCons (xCall F_law_name (xCons (xCall F_law_seed (xCons (xVar 1) (xCons (xC (.int 2)) (xNil)))) (xNil))) (xNil)))) (gN 3)) (zNext)) (zSeq (zIf (xTB (xBin oEq (xBin oMod (xBin oDiv (xVar 1) (xC (.int 11))) (xC (.int 9))) (xC (.int 0)))) (zAsg (xTup (xCons (xCall F_law_name (xCons (xCall F_law_seed (xCons (xVar 1) (xCons (xC (.int 3)) (xNil)))) (xNil))) (xCons (xCall F_law_name (xCons (xCall F_law_seed (xCons (xVar 1) (xCons (xC (.int 4)) (xNil)))) (xNil))) (xNil)))) (gN 3)) (zNext)) (zRet (xVar 3)))))
def F_law_way : Fn := dFn 2 4 B_law_way
def B_law_cells : Sx := zSeq (zAsg (xBin oIx (xLst (xCons (xBin oMod (xBin oDiv (xVar 0) (xC (.int 7))) (xBin oAdd (xVar 1) (xC (.int 1)))) (xCons (xBin oMod (xBin oDiv (xVar 0) (xC (.int 7))) (xC (.int 4))) (xNil)))) (xBin oMod (xBin oDiv (xVar 0) (xC (.int 5))) (xC (.int 2)))) (gN 2)) (zRet (xUn oTuple (xComp (iRg1 (xCons (xVar 2) (xNil))) [3] (gN 3) (xYes) (xBin oIx (xLst (xCons (xCall F_law_pick (xCons (xCall F_law_seed (xCons (xVar 0) (xCons (xVar 3) (xNil)))) (xCons (xC (.int 1000)) (xNil)))) (xCons (xC (.int 0)) (xCons (xC (.int 7)) (xNil))))) (xBin oMod (xBin oAdd (xVar 0) (xVar 3)) (xC (.int 3)))))))
def F_law_cells : Fn := dFn 2 4 B_law_cells
def B_law_at : Sx := zSeq (zFor (iTp (xVar 1)) (gN 2) (zSeq (zIf (xTB (xBin oIn (xC (.str "cells")) (xVar 0))) (zRet (xC (.str "notdrawer"))) (zNext)) (zSeq (zIf (xTB (xBin oNotIn (xVar 2) (xVar 0))) (zRet (xC (.str "nothing"))) (zNext)) (zAsg (xBin oIx (xVar 0) (xVar 2)) (gN 0))))) (zRet (xVar 0))
def F_law_at : Fn := dFn 2 3 B_law_at
def B_law_deed : Sx := zSeq (zAsg (xCall F_law_pick (xCons (xVar 1) (xCons (xC (.int 20)) (xNil)))) (gN 2)) (zSeq (zAsg (xCall F_law_way (xCons (xVar 0) (xCons (xCall F_law_seed (xCons (xVar 1) (xCons (xC (.int 5)) (xNil)))) (xNil)))) (gN 3)) (zSeq (zAsg (xCall F_law_way (xCons (xVar 0) (xCons (xCall F_law_seed (xCons (xVar 1) (xCons (xC (.int 6)) (xNil)))) (xNil)))) (gN 4)) (zSeq (zAsg (xComp (iLst (xCall (F_law_ways recFuel) (xCons (xVar 0) (xCons (xTup (xNil)) (xNil))))) [9] (gN 9) (xTB (xBin oIn (xC (.str "cells")) (xCall F_law_at (xCons (xVar 0) (xCons (xVar 9) (xNil)))))) (xVar 9)) (gN 5)) (zSeq (zAsg (xIf (yAnd (xTB (xBin oNe (xVar 5) (xLst (xNil)))) (xTB (xBin oGt (xBin oMod (xBin oDiv (xVar 1) (xC (.int 11))) (xC (.int 6))) (xC (.int 0))))) (xBin oIx (xVar 5) (xBin oMod (xBin oDiv (xVar 1) (xC (.int 7))) (xUn oLen (xVar 5)))) (xVar 3)) (gN 6)) (zSeq (zIf (xTB (xBin oLt (xVar 2) (xC (.int 6)))) (zRet (xTup (xCons (xBin oIx (xLst (xCons (xC (.str "file")) (xCons (xC (.str "file")) (xCons (xC (.str "file")) (xCons (xC (.str "drawer")) (xCons (xC (.str "drawer")) (xCons (xC (.str "file")) (xNil)))))))) (xVar 2)) (xCons (xVar 3) (xNil))))) (zNext)) (zSeq (zIf (xTB (xBin oLt (xVar 2) (xC (.int 11)))) (zRet (xTup (xCons (xC (.str "write")) (xCons (xVar 6) (xCons (xBin oIx (xLst (xCons (xBin oMod (xBin oDiv (xVar 1) (xC (.int 13))) (xC (.int 41))) (xCons (xBin oMod (xBin oDiv (xVar 1) (xC (.int 13))) (xC (.int 9))) (xNil)))) (xBin oMod (xBin oDiv (xVar 1) (xC (.int 17))) (xC (.int 2)))) (xCons (xCall F_law_cells (xCons (xCall F_law_seed (xCons (xVar 1) (xCons (xC (.int 7)) (xNil)))) (xCons (xC (.int 12)) (xNil)))) (xNil))))))) (zNext)) (zSeq (zIf (xTB (xBin oEq (xVar 2) (xC (.int 11)))) (zRet (xTup (xCons (xC (.str "cut")) (xCons (xVar 6) (xCons (xBin oIx (xLst (xCons (xBin oMod (xBin oDiv (xVar 1) (xC (.int 13))) (xC (.int 41))) (xCons (xBin oMod (xBin oDiv (xVar 1) (xC (.int 13))) (xC (.int 9))) (xNil)))) (xBin oMod (xBin oDiv (xVar 1) (xC (.int 17))) (xC (.int 2)))) (xNil)))))) (zNext)) (zSeq (zIf (xTB (xBin oEq (xVar 2) (xC (.int 12)))) (zRet (xTup (xCons (xC (.str "read")) (xCons (xVar 6) (xCons (xBin oMod (xBin oDiv (xVar 1) (xC (.int 13))) (xC (.int 41))) (xCons (xBin oMod (xBin oDiv (xVar 1) (xC (.int 17))) (xC (.int 41))) (xNil))))))) (zNext)) (zSeq (zIf (xTB (xBin oLt (xVar 2) (xC (.int 15)))) (zRet (xTup (xCons (xC (.str "link")) (xCons (xVar 6) (xCons (xVar 4) (xNil)))))) (zNext)) (zSeq (zIf (xTB (xBin oLt (xVar 2) (xC (.int 17)))) (zRet (xTup (xCons (xC (.str "remove")) (xCons (xVar 3) (xNil))))) (zNext)) (zSeq (zIf (xTB (xBin oEq (xVar 2) (xC (.int 19)))) (zRet (xTup (xCons (xBin oIx (xLst (xCons (xC (.str "names")) (xCons (xC (.str "about")) (xNil)))) (xBin oMod (xBin oDiv (xVar 1) (xC (.int 13))) (xC (.int 2)))) (xCons (xVar 3) (xNil))))) (zNext)) (zSeq (zAsg (xBin oIx (xLst (xCons (xVar 3) (xCons (xVar 6) (xNil)))) (xBin oMod (xVar 2) (xC (.int 2)))) (gN 7)) (zSeq (zAsg (xUn oMaxL (xBin oAdd (xComp (iLst (xCall (F_law_ways recFuel) (xCons (xVar 0) (xCons (xTup (xNil)) (xNil))))) [9] (gN 9) (xTB (xBin oEq (xSl (xVar 9) (xNoPart) (xPart (xUn oLen (xVar 7)))) (xVar 7))) (xBin oSub (xUn oLen (xVar 9)) (xUn oLen (xVar 7)))) (xLst (xCons (xC (.int 0)) (xNil))))) (gN 8)) (zRet (xTup (xCons (xC (.str "rename")) (xCons (xVar 7) (xCons (xSl (xVar 4) (xNoPart) (xPart (xBin oMax2 (xC (.int 1)) (xBin oSub (xC (.int 6)) (xVar 8))))) (xNil)))))))))))))))))))
def F_law_deed : Fn := dFn 2 10 B_law_deed
def B_law_drawers (self_ : Fn) : Sx := zSeq (zAsg (xLst (xCons (xVar 0) (xNil))) (gN 1)) (zSeq (zFor (iLst (xUn oSorted (xVar 0))) (gN 2) (zIf (xTB (xBin oNotIn (xC (.str "cells")) (xBin oIx (xVar 0) (xVar 2)))) (zAsg (xBin oAdd (xVar 1) (xCall self_ (xCons (xBin oIx (xVar 0) (xVar 2)) (xNil)))) (gN 1)) (zNext))) (zRet (xVar 1)))
def F_law_drawers : Nat → Fn | 0 => dFn 1 3 (fun _ _ => .bad) | n + 1 => dFn 1 3 (B_law_drawers (F_law_drawers n))
def B_law_blocks : Sx := zSeq (zIf (xTB (xBin oIn (xC (.str "cells")) (xVar 0))) (zRet (xMt isLstB oCount (xBin oIx (xVar 0) (xC (.str "blocks"))) (xC (.bl true)))) (zNext)) (zRet (xBin oDiv (xBin oAdd (xBin oMul (xC (.int 2)) (xUn oLen (xVar 0))) (xC (.int 7))) (xC (.int 8))))
def F_law_blocks : Fn := dFn 1 1 B_law_blocks
def B_law_room : Sx := zSeq (zAsg (xCall (F_law_drawers recFuel) (xCons (xBin oIx (xVar 0) (xC (.str "tree"))) (xNil))) (gN 1)) (zSeq (zAsg (xBin oAdd (xVar 1) (xBin oIx (xVar 0) (xC (.str "files")))) (gN 2)) (zRet (xTup (xCons (xBin oSub (xBin oIx (xVar 0) (xC (.str "nodes"))) (xUn oLen (xVar 2))) (xCons (xBin oSub (xBin oIx (xVar 0) (xC (.str "blocks"))) (xUn oSum (xComp (iLst (xVar 2)) [3] (gN 3) (xYes) (xCall F_law_blocks (xCons (xVar 3) (xNil)))))) (xNil))))))
def F_law_room : Fn := dFn 1 4 B_law_room
def B_law_fits : Sx := zSeq (zAsg (xCall F_law_room (xCons (xVar 0) (xNil))) (gN 3)) (zRet (xAnd (xBin oGe (xBin oIx (xVar 3) (xC (.int 0))) (xVar 2)) (xAnd (xBin oLt (xUn oLen (xVar 1)) (xC (.int 20))) (xOr (xBin oGt (xBin oIx (xVar 3) (xC (.int 1))) (xC (.int 0))) (xBin oGt (xBin oMod (xUn oLen (xVar 1)) (xC (.int 4))) (xC (.int 0)))))))
def F_law_fits : Fn := dFn 3 4 B_law_fits
def B_law_made : Sx := zSeq (zAsg (xCall F_law_at (xCons (xBin oIx (xVar 0) (xC (.str "tree"))) (xCons (xSl (xBin oIx (xVar 1) (xC (.int 1))) (xNoPart) (xPart (xUn oNeg (xC (.int 1))))) (xNil)))) (gN 2)) (zSeq (zIf (yOr (xTB (xBin oEq (xBin oIx (xVar 1) (xC (.int 1))) (xTup (xNil)))) (yOr (xTru (xIs .str (xVar 2))) (yOr (xTB (xBin oIn (xC (.str "cells")) (xVar 2))) (xTB (xBin oIn (xBin oIx (xBin oIx (xVar 1) (xC (.int 1))) (xUn oNeg (xC (.int 1)))) (xVar 2)))))) (zRet (xC (.str "refused"))) (zNext)) (zSeq (zIf (yNot (xTru (xCall F_law_fits (xCons (xVar 0) (xCons (xVar 2) (xCons (xC (.int 1)) (xNil))))))) (zRet (xC (.str "refused"))) (zNext)) (zSeq (zAsg (xDctN) (gN 3)) (zSeq (zIf (xTB (xBin oEq (xBin oIx (xVar 1) (xC (.int 0))) (xC (.str "file")))) (zSeq (zAsg (xDctE [(Sum.inr "cells"), (Sum.inr "blocks"), (Sum.inr "links"), (Sum.inr "number")] (xCons (xLst (xNil)) (xCons (xMulN (xLst (xCons (xC (.bl false)) (xNil))) (xC (.int 5))) (xCons (xC (.int 1)) (xCons (xBin oIx (xVar 0) (xC (.str "after"))) (xNil)))))) (gN 3)) (zSeq (zItemAug (fun i j => i + j) (xVar 0) (xC (.str "after")) (xC (.int 1))) (zExpr (xApp (xBin oIx (xVar 0) (xC (.str "files"))) (xVar 3))))) (zNext)) (zSeq (zItem (xVar 2) (xBin oIx (xBin oIx (xVar 1) (xC (.int 1))) (xUn oNeg (xC (.int 1)))) (xVar 3)) (zRet (xC .non)))))))
def F_law_made : Fn := dFn 2 4 B_law_made
def B_law_linked : Sx := zSeq (zAsg (xCall F_law_at (xCons (xBin oIx (xVar 0) (xC (.str "tree"))) (xCons (xBin oIx (xVar 1) (xC (.int 1))) (xNil)))) (gN 2)) (zSeq (zAsg (xCall F_law_at (xCons (xBin oIx (xVar 0) (xC (.str "tree"))) (xCons (xSl (xBin oIx (xVar 1) (xC (.int 2))) (xNoPart) (xPart (xUn oNeg (xC (.int 1))))) (xNil)))) (gN 3)) (zSeq (zIf (yOr (xTB (xBin oEq (xBin oIx (xVar 1) (xC (.int 1))) (xTup (xNil)))) (yOr (xTB (xBin oEq (xBin oIx (xVar 1) (xC (.int 2))) (xTup (xNil)))) (yOr (xTru (xIs .str (xVar 2))) (xTB (xBin oNotIn (xC (.str "cells")) (xVar 2)))))) (zRet (xC (.str "refused"))) (zNext)) (zSeq (zIf (yOr (xTru (xIs .str (xVar 3))) (yOr (xTB (xBin oIn (xC (.str "cells")) (xVar 3))) (yOr (xTB (xBin oIn (xBin oIx (xBin oIx (xVar 1) (xC (.int 2))) (xUn oNeg (xC (.int 1)))) (xVar 3))) (yNot (xTru (xCall F_law_fits (xCons (xVar 0) (xCons (xVar 3) (xCons (xC (.int 0)) (xNil)))))))))) (zRet (xC (.str "refused"))) (zNext)) (zSeq (zItem (xVar 3) (xBin oIx (xBin oIx (xVar 1) (xC (.int 2))) (xUn oNeg (xC (.int 1)))) (xVar 2)) (zSeq (zItemAug (fun i j => i + j) (xVar 2) (xC (.str "links")) (xC (.int 1))) (zRet (xC .non)))))))
def F_law_linked : Fn := dFn 2 4 B_law_linked
def B_law_let_go : Sx := zIf (xTB (xBin oIn (xC (.str "cells")) (xVar 1))) (zSeq (zItemAug (fun i j => i - j) (xVar 1) (xC (.str "links")) (xC (.int 1))) (zItem (xVar 0) (xC (.str "files")) (xCompNR (iLstR (xBin oIx (xVar 0) (xC (.str "files")))) [2] (gN 2) (xTB (xBin oGt (xBin oIx (xVar 2) (xC (.str "links"))) (xC (.int 0)))) (xVar 2)))) (zNext)
def F_law_let_go : Fn := dFn 2 3 B_law_let_go
def B_law_removed : Sx := zSeq (zAsg (xCall F_law_at (xCons (xBin oIx (xVar 0) (xC (.str "tree"))) (xCons (xBin oIx (xVar 1) (xC (.int 1))) (xNil)))) (gN 2)) (zSeq (zIf (yOr (xTB (xBin oEq (xBin oIx (xVar 1) (xC (.int 1))) (xTup (xNil)))) (yOr (xTru (xIs .str (xVar 2))) (yAnd (xTB (xBin oNotIn (xC (.str "cells")) (xVar 2))) (xTB (xUn oFullD (xVar 2)))))) (zRet (xC (.str "refused"))) (zNext)) (zSeq (zExpr (xPopK (xCall F_law_at (xCons (xBin oIx (xVar 0) (xC (.str "tree"))) (xCons (xSl (xBin oIx (xVar 1) (xC (.int 1))) (xNoPart) (xPart (xUn oNeg (xC (.int 1))))) (xNil)))) (xBin oIx (xBin oIx (xVar 1) (xC (.int 1))) (xUn oNeg (xC (.int 1)))))) (zSeq (zExpr (xCall F_law_let_go (xCons (xVar 0) (xCons (xVar 2) (xNil))))) (zRet (xC .non)))))
def F_law_removed : Fn := dFn 2 3 B_law_removed
def B_law_renamed : Sx := zSeq (zAsg (xSl (xVar 1) (xPart (xC (.int 1))) (xNoPart)) (gTp 2 (gsConsD (gN 5) (gsConsD (gN 6) (gsNilD))))) (zSeq (zAsg (xCall F_law_at (xCons (xBin oIx (xVar 0) (xC (.str "tree"))) (xCons (xVar 5) (xNil)))) (gN 2)) (zSeq (zIf (yOr (xTB (xBin oEq (xVar 5) (xTup (xNil)))) (yOr (xTB (xBin oEq (xVar 6) (xTup (xNil)))) (xTru (xIs .str (xVar 2))))) (zRet (xC (.str "refused"))) (zNext)) (zSeq (zIf (yAnd (xTB (xBin oNotIn (xC (.str "cells")) (xVar 2))) (yAnd (xTB (xBin oEq (xSl (xVar 6) (xNoPart) (xPart (xUn oLen (xVar 5)))) (xVar 5))) (xTB (xBin oGt (xUn oLen (xVar 6)) (xUn oLen (xVar 5)))))) (zRet (xC (.str "refused"))) (zNext)) (zSeq (zAsg (xCall F_law_at (xCons (xBin oIx (xVar 0) (xC (.str "tree"))) (xCons (xSl (xVar 6) (xNoPart) (xPart (xUn oNeg (xC (.int 1))))) (xNil)))) (gN 3)) (zSeq (zIf (yOr (xTru (xIs .str (xVar 3))) (xTB (xBin oIn (xC (.str "cells")) (xVar 3)))) (zRet (xC (.str "refused"))) (zNext)) (zSeq (zAsg (xGet (xVar 3) (xBin oIx (xVar 6) (xUn oNeg (xC (.int 1)))) (xC .non)) (gN 4)) (zSeq (zIf (yOr (xTB (xBin oEq (xVar 5) (xVar 6))) (yAnd (xTB (xBin oIsNot (xVar 4) (xC .non))) (yAnd (xTB (xBin oIn (xC (.str "cells")) (xVar 4))) (xTB (xBin oEq (xGet (xVar 4) (xC (.str "number")) (xUn oNeg (xC (.int 1)))) (xGet (xVar 2) (xC (.str "number")) (xUn oNeg (xC (.int 2))))))))) (zRet (xC .non)) (zNext)) (zSeq (zIf (yAnd (xTB (xBin oIsNot (xVar 4) (xC .non))) (yOr (xTB (xBin oNe (xBin oIn (xC (.str "cells")) (xVar 4)) (xBin oIn (xC (.str "cells")) (xVar 2)))) (yAnd (xTB (xBin oNotIn (xC (.str "cells")) (xVar 4))) (xTB (xUn oFullD (xVar 4)))))) (zRet (xC (.str "refused"))) (zNext)) (zSeq (zIf (yAnd (xTB (xBin oIs (xVar 4) (xC .non))) (yNot (xTru (xCall F_law_fits (xCons (xVar 0) (xCons (xVar 3) (xCons (xC (.int 0)) (xNil)))))))) (zRet (xC (.str "refused"))) (zNext)) (zSeq (zItem (xVar 3) (xBin oIx (xVar 6) (xUn oNeg (xC (.int 1)))) (xVar 2)) (zSeq (zExpr (xPopK (xCall F_law_at (xCons (xBin oIx (xVar 0) (xC (.str "tree"))) (xCons (xSl (xVar 5) (xNoPart) (xPart (xUn oNeg (xC (.int 1))))) (xNil)))) (xBin oIx (xVar 5) (xUn oNeg (xC (.int 1)))))) (zSeq (zIf (xTB (xBin oIsNot (xVar 4) (xC .non))) (zExpr (xCall F_law_let_go (xCons (xVar 0) (xCons (xVar 4) (xNil))))) (zNext)) (zRet (xC .non))))))))))))))
def F_law_renamed : Fn := dFn 2 7 B_law_renamed
def B_law_written : Sx := zSeq (zAsg (xCall F_law_at (xCons (xBin oIx (xVar 0) (xC (.str "tree"))) (xCons (xBin oIx (xVar 1) (xC (.int 1))) (xNil)))) (gN 2)) (zSeq (zIf (yOr (xTru (xIs .str (xVar 2))) (xTB (xBin oNotIn (xC (.str "cells")) (xVar 2)))) (zRet (xC (.str "refused"))) (zNext)) (zSeq (zIf (xTB (xBin oEq (xBin oIx (xVar 1) (xC (.int 0))) (xC (.str "cut")))) (zSeq (zAsg (xSl (xBin oIx (xVar 2) (xC (.str "cells"))) (xNoPart) (xPart (xBin oIx (xVar 1) (xC (.int 2))))) (gN 5)) (zSeq (zItem (xVar 2) (xC (.str "cells")) (xBin oAdd (xVar 5) (xBin oMul (xLst (xCons (xC (.int 0)) (xNil))) (xBin oSub (xBin oIx (xVar 1) (xC (.int 2))) (xUn oLen (xVar 5)))))) (zSeq (zItem (xVar 2) (xC (.str "blocks")) (xCompNR (iEnumR (xCons (xBin oIx (xVar 2) (xC (.str "blocks"))) (xNil))) [8, 4] (gTp 2 (gsConsD (gN 4) (gsConsD (gN 8) (gsNilD)))) (xYes) (xAnd (xVar 8) (xBin oLt (xBin oMul (xC (.int 8)) (xVar 4)) (xBin oIx (xVar 1) (xC (.int 2))))))) (zRet (xC .non))))) (zNext)) (zSeq (zAsg (xSl (xVar 1) (xPart (xC (.int 2))) (xNoPart)) (gTp 2 (gsConsD (gN 6) (gsConsD (gN 7) (gsNilD))))) (zSeq (zIf (xTB (xBin oGt (xBin oAdd (xVar 6) (xUn oLen (xVar 7))) (xC (.int 40)))) (zRet (xC (.str "refused"))) (zNext)) (zSeq (zIf (xTB (xBin oEq (xVar 7) (xTup (xNil)))) (zRet (xC .non)) (zNext)) (zSeq (zAsg (xComp (iRg1 (xCons (xC (.int 5)) (xNil))) [4] (gN 4) (yAnd (xTB (xBin oLt (xBin oMul (xC (.int 8)) (xVar 4)) (xBin oAdd (xVar 6) (xUn oLen (xVar 7))))) (xTB (xBin oGt (xBin oAdd (xBin oMul (xC (.int 8)) (xVar 4)) (xC (.int 8))) (xVar 6)))) (xVar 4)) (gN 3)) (zSeq (zIf (xTB (xBin oGt (xUn oLen (xComp (iLst (xVar 3)) [4] (gN 4) (yNot (xTru (xBin oIx (xBin oIx (xVar 2) (xC (.str "blocks"))) (xVar 4)))) (xVar 4))) (xBin oIx (xCall F_law_room (xCons (xVar 0) (xNil))) (xC (.int 1))))) (zRet (xC (.str "refused"))) (zNext)) (zSeq (zFor (iLst (xVar 3)) (gN 4) (zItem (xBin oIx (xVar 2) (xC (.str "blocks"))) (xVar 4) (xC (.bl true)))) (zSeq (zAsg (xBin oAdd (xBin oIx (xVar 2) (xC (.str "cells"))) (xBin oMul (xLst (xCons (xC (.int 0)) (xNil))) (xBin oSub (xVar 6) (xUn oLen (xBin oIx (xVar 2) (xC (.str "cells"))))))) (gN 5)) (zSeq (zItem (xVar 2) (xC (.str "cells")) (xBin oAdd (xBin oAdd (xSl (xVar 5) (xNoPart) (xPart (xVar 6))) (xUn oList (xVar 7))) (xSl (xVar 5) (xPart (xBin oAdd (xVar 6) (xUn oLen (xVar 7)))) (xNoPart)))) (zRet (xC .non))))))))))))
def F_law_written : Fn := dFn 2 9 B_law_written
def B_law_told : Sx := zSeq (zAsg (xBin oIx (xVar 1) (xC (.int 0))) (gN 2)) (zSeq (zIf (xTB (xBin oIn (xVar 2) (xTup (xCons (xC (.str "file")) (xCons (xC (.str "drawer")) (xNil)))))) (zRet (xCall F_law_made (xCons (xVar 0) (xCons (xVar 1) (xNil))))) (zNext)) (zSeq (zIf (xTB (xBin oEq (xVar 2) (xC (.str "link")))) (zRet (xCall F_law_linked (xCons (xVar 0) (xCons (xVar 1) (xNil))))) (zNext)) (zSeq (zIf (xTB (xBin oEq (xVar 2) (xC (.str "remove")))) (zRet (xCall F_law_removed (xCons (xVar 0) (xCons (xVar 1) (xNil))))) (zNext)) (zSeq (zIf (xTB (xBin oEq (xVar 2) (xC (.str "rename")))) (zRet (xCall F_law_renamed (xCons (xVar 0) (xCons (xVar 1) (xNil))))) (zNext)) (zSeq (zIf (xTB (xBin oIn (xVar 2) (xTup (xCons (xC (.str "write")) (xCons (xC (.str "cut")) (xNil)))))) (zRet (xCall F_law_written (xCons (xVar 0) (xCons (xVar 1) (xNil))))) (zNext)) (zSeq (zAsg (xCall F_law_at (xCons (xBin oIx (xVar 0) (xC (.str "tree"))) (xCons (xBin oIx (xVar 1) (xC (.int 1))) (xNil)))) (gN 3)) (zSeq (zIf (xTru (xIs .str (xVar 3))) (zRet (xC (.str "refused"))) (zNext)) (zSeq (zIf (xTB (xBin oEq (xVar 2) (xC (.str "read")))) (zRet (xIf (xTB (xBin oIn (xC (.str "cells")) (xVar 3))) (xUn oTuple (xSl (xBin oIx (xVar 3) (xC (.str "cells"))) (xPart (xBin oIx (xVar 1) (xC (.int 2)))) (xPart (xBin oAdd (xBin oIx (xVar 1) (xC (.int 2))) (xBin oIx (xVar 1) (xC (.int 3))))))) (xC (.str "refused")))) (zNext)) (zSeq (zIf (xTB (xBin oEq (xVar 2) (xC (.str "names")))) (zRet (xIf (xTB (xBin oIn (xC (.str "cells")) (xVar 3))) (xC (.str "refused")) (xUn oSorted (xVar 3)))) (zNext)) (zRet (xIf (xTB (xBin oIn (xC (.str "cells")) (xVar 3))) (xTup (xCons (xC (.str "file")) (xCons (xUn oLen (xBin oIx (xVar 3) (xC (.str "cells")))) (xCons (xBin oIx (xVar 3) (xC (.str "links"))) (xNil))))) (xTup (xCons (xC (.str "drawer")) (xCons (xUn oLen (xVar 3)) (xCons (xC (.int 1)) (xNil))))))))))))))))
def F_law_told : Fn := dFn 2 4 B_law_told
def B_law_picture (self_ : Fn) : Sx := zSeq (zIf (xTB (xBin oNotIn (xC (.str "cells")) (xVar 0))) (zRet (xTup (xCons (xC (.str "drawer")) (xCons (xUn oTuple (xComp (iLst (xUn oSorted (xVar 0))) [2] (gN 2) (xYes) (xTup (xCons (xVar 2) (xCons (xCall self_ (xCons (xBin oIx (xVar 0) (xVar 2)) (xCons (xVar 1) (xNil)))) (xNil)))))) (xNil))))) (zNext)) (zSeq (zIf (xTB (xBin oNotIn (xBin oIx (xVar 0) (xC (.str "number"))) (xVar 1))) (zItem (xVar 1) (xBin oIx (xVar 0) (xC (.str "number"))) (xUn oLen (xVar 1))) (zNext)) (zRet (xTup (xCons (xC (.str "file")) (xCons (xBin oIx (xVar 1) (xBin oIx (xVar 0) (xC (.str "number")))) (xCons (xUn oTuple (xBin oIx (xVar 0) (xC (.str "cells")))) (xNil)))))))
def F_law_picture : Nat → Fn | 0 => dFn 2 3 (fun _ _ => .bad) | n + 1 => dFn 2 3 (B_law_picture (F_law_picture n))
def B_law_behind : Sx := zSeq (zAsg (xCall F_law_disk (xCons (xCall F_law_cell (xCons (xVar 0) (xCons (xVar 1) (xNil)))) (xNil))) (gTp 2 (gsConsD (gN 5) (gsConsD (gN 6) (gsNilD))))) (zSeq (zAsg (xMake .drawers F_Drawers_init__ (xCons (xVar 5) (xNil))) (gN 3)) (zSeq (zFor (iRg1 (xCons (xCall F_law_mix (xCons (xCall F_law_cell (xCons (xVar 0) (xCons (xBin oAdd (xVar 1) (xC (.int 1))) (xNil)))) (xCons (xC (.int 9949)) (xCons (xBin oAdd (xVar 2) (xC (.int 1))) (xNil))))) (xNil))) (gN 4) (zSeq (zAsg (xCall F_law_deed (xCons (xBin oIx (xVar 6) (xC (.str "tree"))) (xCons (xCall F_law_seed (xCons (xBin oAdd (xCall F_law_cell (xCons (xVar 0) (xCons (xBin oAdd (xBin oAdd (xVar 1) (xC (.int 2))) (xBin oMod (xVar 4) (xC (.int 6)))) (xNil)))) (xBin oMul (xC (.int 61)) (xVar 4))) (xCons (xVar 4) (xNil)))) (xNil)))) (gN 7)) (zSeq (zExpr (xCall F_do (xCons (xVar 3) (xCons (xVar 7) (xNil))))) (zExpr (xCall F_law_told (xCons (xVar 6) (xCons (xVar 7) (xNil)))))))) (zRet (xTup (xCons (xVar 3) (xCons (xVar 5) (xCons (xVar 6) (xNil))))))))
def F_law_behind : Fn := dFn 3 8 B_law_behind
def B_law_all_blocks : Sx := zRet (xCompN (iRg1 (xCons (xMeth .disk F_Disk_size (xVar 0) xNil) (xNil))) [1] (gN 1) (xYes) (xMeth .disk F_Disk_read (xVar 0) (xCons (xVar 1) (xNil))))
def F_law_all_blocks : Fn := dFn 1 2 B_law_all_blocks
def B_law_copy : Sx := zSeq (zAsg (xMake .disk F_Disk_init__ (xCons (xMeth .disk F_Disk_size (xVar 0) xNil) (xCons (xC .non) (xNil)))) (gN 2)) (zSeq (zFor (iRg1 (xCons (xMeth .disk F_Disk_size (xVar 0) xNil) (xNil))) (gN 3) (zExpr (xMeth .disk F_Disk_write (xVar 2) (xCons (xVar 3) (xCons (xMeth .disk F_Disk_read (xVar 0) (xCons (xVar 3) (xNil))) (xNil)))))) (zSeq (zExpr (xMeth .disk F_Disk_go_on (xVar 2) (xCons (xVar 1) (xNil)))) (zRet (xVar 2))))
def F_law_copy : Fn := dFn 2 4 B_law_copy
def B_law_raw_cells : Sx := zSeq (zAsg (xTup (xNil)) (gN 2)) (zSeq (zFor (iTp (xSl (xMeth .disk F_Disk_read (xVar 0) (xCons (xBin oAdd (xC (.int 9)) (xVar 1)) (xNil))) (xPart (xC (.int 3))) (xNoPart))) (gN 3) (zAsg (xBin oAdd (xVar 2) (xIf (xTB (xBin oGt (xVar 3) (xC (.int 0)))) (xMeth .disk F_Disk_read (xVar 0) (xCons (xVar 3) (xNil))) (xBin oMul (xTup (xCons (xC (.int 0)) (xNil))) (xC (.int 8))))) (gN 2))) (zRet (xSl (xVar 2) (xNoPart) (xPart (xBin oIx (xMeth .disk F_Disk_read (xVar 0) (xCons (xBin oAdd (xC (.int 9)) (xVar 1)) (xNil))) (xC (.int 2)))))))
def F_law_raw_cells : Fn := dFn 2 4 B_law_raw_cells
def B_law_raw_name : Sx := zSeq (zAsg (xC (.str " abcdefghijklmnopqrstuvwxyz")) (gN 1)) (zRet (xMt isStrB oStrip (xBin oAdd (xBin oIx (xVar 1) (xBin oDiv (xVar 0) (xC (.int 27)))) (xBin oIx (xVar 1) (xBin oMod (xVar 0) (xC (.int 27))))) (xC (.str " "))))
def F_law_raw_name : Fn := dFn 1 2 B_law_raw_name
def B_law_raw (self_ : Fn) : Sx := zSeq (zAsg (xCall F_law_raw_cells (xCons (xVar 0) (xCons (xVar 1) (xNil)))) (gN 3)) (zSeq (zIf (xTB (xBin oEq (xBin oIx (xMeth .disk F_Disk_read (xVar 0) (xCons (xBin oAdd (xC (.int 9)) (xVar 1)) (xNil))) (xC (.int 0))) (xC (.int 1)))) (zSeq (zIf (xTB (xBin oNotIn (xVar 1) (xVar 2))) (zItem (xVar 2) (xVar 1) (xUn oLen (xVar 2))) (zNext)) (zRet (xTup (xCons (xC (.str "file")) (xCons (xBin oIx (xVar 2) (xVar 1)) (xCons (xVar 3) (xNil))))))) (zNext)) (zSeq (zAsg (xUn oSorted (xComp (iRg3 (xCons (xC (.int 0)) (xCons (xUn oLen (xVar 3)) (xCons (xC (.int 2)) (xNil))))) [5] (gN 5) (xYes) (xTup (xCons (xCall F_law_raw_name (xCons (xBin oIx (xVar 3) (xVar 5)) (xNil))) (xCons (xBin oIx (xVar 3) (xBin oAdd (xVar 5) (xC (.int 1)))) (xNil)))))) (gN 4)) (zRet (xTup (xCons (xC (.str "drawer")) (xCons (xUn oTuple (xComp (iLst (xVar 4)) [7, 6] (gTp 2 (gsConsD (gN 6) (gsConsD (gN 7) (gsNilD)))) (xYes) (xTup (xCons (xVar 6) (xCons (xCall self_ (xCons (xVar 0) (xCons (xVar 7) (xCons (xVar 2) (xNil))))) (xNil)))))) (xNil)))))))
def F_law_raw : Nat → Fn | 0 => dFn 3 8 (fun _ _ => .bad) | n + 1 => dFn 3 8 (B_law_raw (F_law_raw n))
def B_law_no_room_for : Sx := zSeq (zAsg (xCall F_law_at (xCons (xVar 0) (xCons (xSl (xVar 1) (xNoPart) (xPart (xUn oNeg (xC (.int 1))))) (xNil)))) (gN 2)) (zSeq (zIf (xTru (xIs .str (xVar 2))) (zRet (xVar 2)) (zNext)) (zSeq (zIf (xTB (xBin oIn (xC (.str "cells")) (xVar 2))) (zRet (xC (.str "notdrawer"))) (zNext)) (zRet (xIf (xTB (xBin oIn (xBin oIx (xVar 1) (xUn oNeg (xC (.int 1)))) (xVar 2))) (xC (.str "there")) (xC (.str ""))))))
def F_law_no_room_for : Fn := dFn 2 3 B_law_no_room_for
def B_law_refused_rename : Sx := zSeq (zAsg (xSl (xVar 1) (xPart (xC (.int 1))) (xNoPart)) (gTp 2 (gsConsD (gN 5) (gsConsD (gN 6) (gsNilD))))) (zSeq (zAsg (xCall F_law_at (xCons (xVar 0) (xCons (xVar 5) (xNil)))) (gN 2)) (zSeq (zIf (yAnd (xTB (xBin oNotIn (xC (.str "cells")) (xVar 2))) (yAnd (xTB (xBin oEq (xSl (xVar 6) (xNoPart) (xPart (xUn oLen (xVar 5)))) (xVar 5))) (xTB (xBin oGt (xUn oLen (xVar 6)) (xUn oLen (xVar 5)))))) (zRet (xC (.str "inside"))) (zNext)) (zSeq (zAsg (xCall F_law_no_room_for (xCons (xVar 0) (xCons (xVar 6) (xNil)))) (gN 3)) (zSeq (zIf (xTB (xBin oNe (xVar 3) (xC (.str "there")))) (zRet (xVar 3)) (zNext)) (zSeq (zAsg (xCall F_law_at (xCons (xVar 0) (xCons (xVar 6) (xNil)))) (gN 4)) (zSeq (zIf (yOr (xTB (xBin oEq (xVar 5) (xVar 6))) (yAnd (xTB (xBin oIn (xC (.str "cells")) (xVar 4))) (xTB (xBin oEq (xBin oIx (xVar 4) (xC (.str "number"))) (xGet (xVar 2) (xC (.str "number")) (xUn oNeg (xC (.int 1)))))))) (zRet (xC (.str ""))) (zNext)) (zSeq (zIf (xTB (xBin oNotIn (xC (.str "cells")) (xVar 2))) (zRet (xIf (xTB (xBin oIn (xC (.str "cells")) (xVar 4))) (xC (.str "notdrawer")) (xIf (xTB (xUn oFullD (xVar 4))) (xC (.str "notempty")) (xC (.str ""))))) (zNext)) (zRet (xIf (xTB (xBin oNotIn (xC (.str "cells")) (xVar 4))) (xC (.str "notfile")) (xC (.str "")))))))))))
def F_law_refused_rename : Fn := dFn 2 7 B_law_refused_rename
def B_law_refused : Sx := zSeq (zAsg (xSl (xVar 1) (xNoPart) (xPart (xC (.int 2)))) (gTp 2 (gsConsD (gN 4) (gsConsD (gN 5) (gsNilD))))) (zSeq (zAsg (xCall F_law_at (xCons (xVar 0) (xCons (xVar 5) (xNil)))) (gN 2)) (zSeq (zAsg (xGet (xDctE [(Sum.inr "file"), (Sum.inr "drawer"), (Sum.inr "link"), (Sum.inr "remove"), (Sum.inr "rename")] (xCons (xC (.int 1)) (xCons (xC (.int 1)) (xCons (xC (.int 2)) (xCons (xC (.int 1)) (xCons (xC (.int 2)) (xNil))))))) (xVar 4) (xC (.int 0))) (gN 3)) (zSeq (zIf (xTB (xBin oIn (xTup (xNil)) (xSl (xVar 1) (xPart (xC (.int 1))) (xPart (xBin oAdd (xC (.int 1)) (xVar 3)))))) (zRet (xC (.str "way"))) (zNext)) (zSeq (zIf (xTB (xBin oIn (xVar 4) (xTup (xCons (xC (.str "file")) (xCons (xC (.str "drawer")) (xNil)))))) (zRet (xCall F_law_no_room_for (xCons (xVar 0) (xCons (xVar 5) (xNil))))) (zNext)) (zSeq (zIf (xTru (xIs .str (xVar 2))) (zRet (xVar 2)) (zNext)) (zSeq (zIf (yAnd (xTB (xBin oIn (xVar 4) (xTup (xCons (xC (.str "link")) (xCons (xC (.str "write")) (xCons (xC (.str "cut")) (xCons (xC (.str "read")) (xNil)))))))) (xTB (xBin oNotIn (xC (.str "cells")) (xVar 2)))) (zRet (xC (.str "notfile"))) (zNext)) (zSeq (zIf (yAnd (xTB (xBin oEq (xVar 4) (xC (.str "names")))) (xTB (xBin oIn (xC (.str "cells")) (xVar 2)))) (zRet (xC (.str "notdrawer"))) (zNext)) (zSeq (zIf (yAnd (xTB (xBin oEq (xVar 4) (xC (.str "remove")))) (yAnd (xTB (xBin oNotIn (xC (.str "cells")) (xVar 2))) (xTB (xUn oFullD (xVar 2))))) (zRet (xC (.str "notempty"))) (zNext)) (zSeq (zIf (xTB (xBin oEq (xVar 4) (xC (.str "link")))) (zRet (xCall F_law_no_room_for (xCons (xVar 0) (xCons (xBin oIx (xVar 1) (xC (.int 2))) (xNil))))) (zNext)) (zRet (xIf (xTB (xBin oEq (xVar 4) (xC (.str "rename")))) (xCall F_law_refused_rename (xCons (xVar 0) (xCons (xVar 1) (xNil)))) (xC (.str "")))))))))))))
def F_law_refused : Fn := dFn 2 6 B_law_refused
def B_law_done : Sx := zSeq (zAsg (xBin oIx (xVar 1) (xC (.int 0))) (gN 2)) (zSeq (zIf (xTB (xBin oEq (xVar 2) (xC (.str "file")))) (zRet (xMeth .drawers F_Drawers_make_file (xVar 0) (xCons (xBin oIx (xVar 1) (xC (.int 1))) (xNil)))) (zNext)) (zSeq (zIf (xTB (xBin oEq (xVar 2) (xC (.str "drawer")))) (zRet (xMeth .drawers F_Drawers_make_drawer (xVar 0) (xCons (xBin oIx (xVar 1) (xC (.int 1))) (xNil)))) (zNext)) (zSeq (zIf (xTB (xBin oEq (xVar 2) (xC (.str "link")))) (zRet (xMeth .drawers F_Drawers_link (xVar 0) (xCons (xBin oIx (xVar 1) (xC (.int 1))) (xCons (xBin oIx (xVar 1) (xC (.int 2))) (xNil))))) (zNext)) (zSeq (zIf (xTB (xBin oEq (xVar 2) (xC (.str "remove")))) (zRet (xMeth .drawers F_Drawers_remove (xVar 0) (xCons (xBin oIx (xVar 1) (xC (.int 1))) (xNil)))) (zNext)) (zSeq (zIf (xTB (xBin oEq (xVar 2) (xC (.str "rename")))) (zRet (xMeth .drawers F_Drawers_rename (xVar 0) (xCons (xBin oIx (xVar 1) (xC (.int 1))) (xCons (xBin oIx (xVar 1) (xC (.int 2))) (xNil))))) (zNext)) (zSeq (zIf (xTB (xBin oEq (xVar 2) (xC (.str "write")))) (zRet (xMeth .drawers F_Drawers_write (xVar 0) (xCons (xBin oIx (xVar 1) (xC (.int 1))) (xCons (xBin oIx (xVar 1) (xC (.int 2))) (xCons (xBin oIx (xVar 1) (xC (.int 3))) (xNil)))))) (zNext)) (zSeq (zIf (xTB (xBin oEq (xVar 2) (xC (.str "cut")))) (zRet (xMeth .drawers F_Drawers_cut (xVar 0) (xCons (xBin oIx (xVar 1) (xC (.int 1))) (xCons (xBin oIx (xVar 1) (xC (.int 2))) (xNil))))) (zNext)) (zSeq (zIf (xTB (xBin oEq (xVar 2) (xC (.str "read")))) (zRet (xMeth .drawers F_Drawers_read (xVar 0) (xCons (xBin oIx (xVar 1) (xC (.int 1))) (xCons (xBin oIx (xVar 1) (xC (.int 2))) (xCons (xBin oIx (xVar 1) (xC (.int 3))) (xNil)))))) (zNext)) (zRet (xIf (xTB (xBin oEq (xVar 2) (xC (.str "names")))) (xMeth .drawers F_Drawers_names (xVar 0) (xCons (xBin oIx (xVar 1) (xC (.int 1))) (xNil))) (xMeth .drawers F_Drawers_about (xVar 0) (xCons (xBin oIx (xVar 1) (xC (.int 1))) (xNil)))))))))))))
def F_law_done : Fn := dFn 2 3 B_law_done
def B_law_class : Sx := zSeq (zAsg (xC (.str "")) (gN 2)) (zSeq (zTry (zExpr (xCall F_law_done (xCons (xVar 0) (xCons (xVar 1) (xNil))))) ((.badWay, zAsg (xC (.str "way")) (gN 2)) :: (.noThing, zAsg (xC (.str "nothing")) (gN 2)) :: (.notDrawer, zAsg (xC (.str "notdrawer")) (gN 2)) :: (.notFile, zAsg (xC (.str "notfile")) (gN 2)) :: (.there, zAsg (xC (.str "there")) (gN 2)) :: (.notEmpty, zAsg (xC (.str "notempty")) (gN 2)) :: (.inside, zAsg (xC (.str "inside")) (gN 2)) :: [])) (zRet (xVar 2)))
def F_law_class : Fn := dFn 2 3 B_law_class
def B_law_put_in : Sx := zSeq (zIf (xTB (xBin oEq (xVar 2) (xLst (xNil)))) (zRet (xVar 0)) (zNext)) (zSeq (zAsg (xSl (xBin oAdd (xVar 0) (xBin oMul (xLst (xCons (xC (.int 0)) (xNil))) (xVar 1))) (xNoPart) (xPart (xBin oMax2 (xVar 1) (xUn oLen (xVar 0))))) (gN 3)) (zRet (xBin oAdd (xBin oAdd (xSl (xVar 3) (xNoPart) (xPart (xVar 1))) (xVar 2)) (xSl (xVar 3) (xPart (xBin oAdd (xVar 1) (xUn oLen (xVar 2)))) (xNoPart)))))
def F_law_put_in : Fn := dFn 3 4 B_law_put_in
def B_law_bad_places : Sx := zSeq (zAsg (xBin oIx (xLst (xCons (xUn oNeg (xC (.int 1))) (xCons (xC (.int 41)) (xCons (xC .non) (xCons (xC (.bl true)) (xCons (xC (.str "0")) (xNil))))))) (xBin oMod (xCall F_law_cell (xCons (xVar 1) (xCons (xC (.int 8)) (xNil)))) (xC (.int 5)))) (gN 2)) (zSeq (zAsg (xBin oIx (xLst (xCons (xLst (xCons (xC (.int 1)) (xNil))) (xCons (xC .non) (xCons (xTup (xCons (xC (.int 1000)) (xNil))) (xCons (xTup (xCons (xUn oNeg (xC (.int 1))) (xNil))) (xCons (xTup (xCons (xC (.bl true)) (xNil))) (xCons (xTup (xCons (xC (.str "a")) (xNil))) (xNil)))))))) (xBin oMod (xCall F_law_cell (xCons (xVar 1) (xCons (xC (.int 9)) (xNil)))) (xC (.int 6)))) (gN 3)) (zSeq (zAsg (xLstN (xNil)) (gN 4)) (zSeq (zFor (iRg1 (xCons (xC (.int 5)) (xNil))) (gN 5) (zTry (zIf (xTB (xBin oEq (xVar 5) (xC (.int 0)))) (zExpr (xMeth .drawers F_Drawers_write (xVar 0) (xCons (xTup (xCons (xC (.str "f")) (xNil))) (xCons (xVar 2) (xCons (xC .non) (xNil)))))) (zIf (xTB (xBin oEq (xVar 5) (xC (.int 1)))) (zExpr (xMeth .drawers F_Drawers_write (xVar 0) (xCons (xTup (xCons (xC (.str "f")) (xNil))) (xCons (xC (.int 40)) (xCons (xVar 3) (xNil)))))) (zIf (xTB (xBin oEq (xVar 5) (xC (.int 2)))) (zExpr (xMeth .drawers F_Drawers_cut (xVar 0) (xCons (xTup (xCons (xC (.str "f")) (xNil))) (xCons (xVar 2) (xNil))))) (zIf (xTB (xBin oEq (xVar 5) (xC (.int 3)))) (zExpr (xMeth .drawers F_Drawers_read (xVar 0) (xCons (xTup (xCons (xC (.str "f")) (xNil))) (xCons (xVar 2) (xCons (xC (.int 1)) (xNil)))))) (zExpr (xMeth .drawers F_Drawers_read (xVar 0) (xCons (xTup (xCons (xC (.str "f")) (xNil))) (xCons (xC (.int 1)) (xCons (xVar 2) (xNil)))))))))) ((.badNumber, zExpr (xApp (xVar 4) (xC (.str "number")))) :: (.badCells, zExpr (xApp (xVar 4) (xC (.str "cells")))) :: []))) (zRet (xBin oEq (xVar 4) (xLst (xCons (xC (.str "number")) (xCons (xC (.str "cells")) (xCons (xC (.str "number")) (xCons (xC (.str "number")) (xCons (xC (.str "number")) (xNil))))))))))))
def F_law_bad_places : Fn := dFn 2 6 B_law_bad_places
def B_law_blind_way : Sx := zRet (xUn oTuple (xComp (iRg1 (xCons (xBin oMod (xBin oDiv (xVar 0) (xC (.int 7))) (xC (.int 4))) (xNil))) [1] (gN 1) (xYes) (xBin oIx (xLst (xCons (xC (.str "a")) (xCons (xC (.str "b")) (xCons (xC (.str "zz")) (xNil))))) (xCall F_law_pick (xCons (xCall F_law_seed (xCons (xVar 0) (xCons (xVar 1) (xNil)))) (xCons (xC (.int 3)) (xNil)))))))
def F_law_blind_way : Fn := dFn 1 2 B_law_blind_way
def B_law_blind : Sx := zSeq (zAsg (xCall F_law_cell (xCons (xVar 0) (xCons (xVar 1) (xNil)))) (gN 3)) (zSeq (zAsg (xBin oIx (xLst (xCons (xBin oAdd (xC (.int 2)) (xBin oMod (xBin oDiv (xVar 3) (xC (.int 3))) (xC (.int 12)))) (xCons (xC (.int 12)) (xNil)))) (xBin oMod (xVar 3) (xC (.int 2)))) (gN 4)) (zSeq (zAsg (xMake .disk F_Disk_init__ (xCons (xBin oMax2 (xC (.int 20)) (xBin oAdd (xBin oAdd (xC (.int 9)) (xVar 4)) (xBin oIx (xLst (xCons (xBin oAdd (xC (.int 3)) (xBin oMod (xBin oDiv (xVar 3) (xC (.int 7))) (xC (.int 12)))) (xCons (xC (.int 40)) (xNil)))) (xBin oMod (xBin oDiv (xVar 3) (xC (.int 5))) (xC (.int 2)))))) (xCons (xC .non) (xNil)))) (gN 5)) (zSeq (zExpr (xCall F_set_up (xCons (xVar 5) (xCons (xVar 4) (xNil))))) (zSeq (zAsg (xMake .drawers F_Drawers_init__ (xCons (xVar 5) (xNil))) (gN 6)) (zSeq (zFor (iRg1 (xCons (xCall F_law_mix (xCons (xCall F_law_cell (xCons (xVar 0) (xCons (xBin oAdd (xVar 1) (xC (.int 1))) (xNil)))) (xCons (xC (.int 9949)) (xCons (xBin oAdd (xVar 2) (xC (.int 1))) (xNil))))) (xNil))) (gN 7) (zSeq (zAsg (xCall F_law_seed (xCons (xBin oAdd (xCall F_law_cell (xCons (xVar 0) (xCons (xBin oAdd (xBin oAdd (xVar 1) (xC (.int 2))) (xBin oMod (xVar 7) (xC (.int 6)))) (xNil)))) (xBin oMul (xC (.int 61)) (xVar 7))) (xCons (xVar 7) (xNil)))) (gN 8)) (zSeq (zAsg (xCall F_law_blind_way (xCons (xCall F_law_seed (xCons (xVar 8) (xCons (xC (.int 1)) (xNil)))) (xNil))) (gN 9)) (zSeq (zAsg (xCall F_law_blind_way (xCons (xCall F_law_seed (xCons (xVar 8) (xCons (xC (.int 2)) (xNil)))) (xNil))) (gN 10)) (zSeq (zAsg (xLst (xCons (xTup (xCons (xC (.str "file")) (xCons (xVar 9) (xNil)))) (xCons (xTup (xCons (xC (.str "drawer")) (xCons (xVar 9) (xNil)))) (xCons (xTup (xCons (xC (.str "file")) (xCons (xVar 9) (xNil)))) (xCons (xTup (xCons (xC (.str "drawer")) (xCons (xSl (xVar 9) (xNoPart) (xPart (xC (.int 1)))) (xNil)))) (xCons (xTup (xCons (xC (.str "drawer")) (xCons (xSl (xVar 9) (xNoPart) (xPart (xC (.int 2)))) (xNil)))) (xNil))))))) (gN 11)) (zSeq (zAsg (xBin oAdd (xVar 11) (xLst (xCons (xTup (xCons (xC (.str "write")) (xCons (xVar 9) (xCons (xBin oMod (xBin oDiv (xVar 8) (xC (.int 11))) (xC (.int 30))) (xCons (xCall F_law_cells (xCons (xCall F_law_seed (xCons (xVar 8) (xCons (xC (.int 3)) (xNil)))) (xCons (xC (.int 9)) (xNil)))) (xNil)))))) (xCons (xTup (xCons (xC (.str "link")) (xCons (xVar 9) (xCons (xVar 10) (xNil))))) (xNil))))) (gN 11)) (zSeq (zAsg (xBin oAdd (xVar 11) (xLst (xCons (xTup (xCons (xC (.str "remove")) (xCons (xVar 9) (xNil)))) (xCons (xTup (xCons (xC (.str "rename")) (xCons (xVar 9) (xCons (xVar 10) (xNil))))) (xCons (xTup (xCons (xC (.str "cut")) (xCons (xVar 9) (xCons (xBin oMod (xBin oDiv (xVar 8) (xC (.int 11))) (xC (.int 41))) (xNil))))) (xNil)))))) (gN 11)) (zExpr (xCall F_do (xCons (xVar 6) (xCons (xBin oIx (xVar 11) (xCall F_law_pick (xCons (xVar 8) (xCons (xC (.int 10)) (xNil))))) (xNil)))))))))))) (zRet (xTup (xCons (xVar 6) (xCons (xVar 5) (xCons (xVar 4) (xNil)))))))))))
def F_law_blind : Fn := dFn 3 12 B_law_blind
def B_law_good_node : Sx := zSeq (zIf (xTB (xBin oEq (xVar 0) (xBin oMul (xTup (xCons (xC (.int 0)) (xNil))) (xC (.int 8))))) (zRet (xC (.bl true))) (zNext)) (zSeq (zIf (yOr (xTB (xBin oNotIn (xBin oIx (xVar 0) (xC (.int 0))) (xTup (xCons (xC (.int 1)) (xCons (xC (.int 2)) (xNil)))))) (yOr (xTB (xBin oEq (xBin oIx (xVar 0) (xC (.int 1))) (xC (.int 0)))) (yOr (xTB (xBin oGt (xBin oIx (xVar 0) (xC (.int 2))) (xC (.int 40)))) (yAnd (xTB (xBin oEq (xBin oIx (xVar 0) (xC (.int 0))) (xC (.int 2)))) (xTB (xBin oEq (xBin oMod (xBin oIx (xVar 0) (xC (.int 2))) (xC (.int 2))) (xC (.int 1)))))))) (zRet (xC (.bl false))) (zNext)) (zSeq (zFor (iEnumT (xCons (xSl (xVar 0) (xPart (xC (.int 3))) (xNoPart)) (xNil))) (gTp 2 (gsConsD (gN 3) (gsConsD (gN 4) (gsNilD)))) (zIf (yAnd (xTB (xBin oGt (xVar 4) (xC (.int 0)))) (yOr (xTB (xBin oGe (xBin oMul (xC (.int 8)) (xVar 3)) (xBin oIx (xVar 0) (xC (.int 2))))) (yNot (xTB (xChain oLe oLt (xVar 1) (xVar 4) (xVar 2)))))) (zRet (xC (.bl false))) (zNext))) (zRet (xC (.bl true)))))
def F_law_good_node : Fn := dFn 3 5 B_law_good_node
def B_law_mend_nodes : Sx := zSeq (zAsg (xLstN (xNil)) (gN 2)) (zFor (iRg1 (xCons (xVar 1) (xNil))) (gN 3) (zSeq (zIf (yNot (xTru (xCall F_law_good_node (xCons (xBin oIx (xVar 0) (xBin oAdd (xC (.int 9)) (xVar 3))) (xCons (xBin oAdd (xC (.int 9)) (xVar 1)) (xCons (xUn oLen (xVar 0)) (xNil))))))) (zItem (xVar 0) (xBin oAdd (xC (.int 9)) (xVar 3)) (xBin oMul (xTup (xCons (xC (.int 0)) (xNil))) (xC (.int 8)))) (zNext)) (zSeq (zIf (yAnd (xTB (xBin oEq (xVar 3) (xC (.int 0)))) (xTB (xBin oNe (xBin oIx (xBin oIx (xVar 0) (xC (.int 9))) (xC (.int 0))) (xC (.int 2))))) (zItem (xVar 0) (xC (.int 9)) (xBin oAdd (xTup (xCons (xC (.int 2)) (xCons (xC (.int 1)) (xNil)))) (xBin oMul (xTup (xCons (xC (.int 0)) (xNil))) (xC (.int 6))))) (zNext)) (zSeq (zAsg (xListN (xBin oIx (xVar 0) (xBin oAdd (xC (.int 9)) (xVar 3)))) (gN 4)) (zSeq (zFor (iRg2 (xCons (xC (.int 3)) (xCons (xC (.int 8)) (xNil)))) (gN 5) (zSeq (zIf (xTB (xBin oIn (xBin oIx (xVar 4) (xVar 5)) (xVar 2))) (zItem (xVar 4) (xVar 5) (xC (.int 0))) (zNext)) (zIf (xTB (xBin oGt (xBin oIx (xVar 4) (xVar 5)) (xC (.int 0)))) (zExpr (xApp (xVar 2) (xBin oIx (xVar 4) (xVar 5)))) (zNext)))) (zItem (xVar 0) (xBin oAdd (xC (.int 9)) (xVar 3)) (xUn oTuple (xVar 4))))))))
def F_law_mend_nodes : Fn := dFn 2 6 B_law_mend_nodes
def B_law_entries : Sx := zSeq (zAsg (xTup (xNil)) (gN 2)) (zSeq (zFor (iTp (xSl (xBin oIx (xVar 0) (xBin oAdd (xC (.int 9)) (xVar 1))) (xPart (xC (.int 3))) (xNoPart))) (gN 3) (zAsg (xBin oAdd (xVar 2) (xIf (xTB (xBin oGt (xVar 3) (xC (.int 0)))) (xBin oIx (xVar 0) (xVar 3)) (xBin oMul (xTup (xCons (xC (.int 0)) (xNil))) (xC (.int 8))))) (gN 2))) (zSeq (zAsg (xSl (xVar 2) (xNoPart) (xPart (xBin oIx (xBin oIx (xVar 0) (xBin oAdd (xC (.int 9)) (xVar 1))) (xC (.int 2))))) (gN 2)) (zRet (xComp (iRg3 (xCons (xC (.int 0)) (xCons (xBin oSub (xUn oLen (xVar 2)) (xC (.int 1))) (xCons (xC (.int 2)) (xNil))))) [4] (gN 4) (xYes) (xTup (xCons (xBin oIx (xVar 2) (xVar 4)) (xCons (xBin oIx (xVar 2) (xBin oAdd (xVar 4) (xC (.int 1)))) (xNil))))))))
def F_law_entries : Fn := dFn 2 5 B_law_entries
def B_law_is_number : Sx := zRet (xAnd (xBin oLe (xBin oDiv (xVar 0) (xC (.int 27))) (xC (.int 26))) (xBin oGt (xBin oMod (xVar 0) (xC (.int 27))) (xC (.int 0))))
def F_law_is_number : Fn := dFn 1 1 B_law_is_number
def B_law_written_anew : Sx := zSeq (zAsg (xSl (xBin oIx (xVar 0) (xBin oAdd (xC (.int 9)) (xVar 2))) (xNoPart) (xPart (xC (.int 2)))) (gN 4)) (zSeq (zItem (xVar 0) (xBin oAdd (xC (.int 9)) (xVar 2)) (xBin oAdd (xVar 4) (xBin oMul (xTup (xCons (xC (.int 0)) (xNil))) (xC (.int 6))))) (zSeq (zAsg (xLst (xNil)) (gN 5)) (zSeq (zForR (iLstR (xVar 3)) (gN 6) (zAsg (xBin oAdd (xVar 5) (xUn oList (xVar 6))) (gN 5)) whileFuel) (zSeq (zAsg (xBin oAdd (xVar 5) (xBin oMul (xLst (xCons (xC (.int 0)) (xNil))) (xBin oMod (xUn oNeg (xUn oLen (xVar 5))) (xC (.int 8))))) (gN 5)) (zSeq (zAsg (xTup (xNil)) (gN 7)) (zSeq (zFor (iRg3 (xCons (xC (.int 0)) (xCons (xUn oLen (xVar 5)) (xCons (xC (.int 8)) (xNil))))) (gN 8) (zSeq (zAsg (xUn oList (xVar 7)) (gN 9)) (zSeq (zFor (iRg1 (xCons (xVar 1) (xNil))) (gN 10) (zAsg (xBin oAdd (xVar 9) (xUn oList (xSl (xBin oIx (xVar 0) (xBin oAdd (xC (.int 9)) (xVar 10))) (xPart (xC (.int 3))) (xNoPart)))) (gN 9))) (zSeq (zAsg (xComp (iRg2 (xCons (xBin oAdd (xC (.int 9)) (xVar 1)) (xCons (xUn oLen (xVar 0)) (xNil)))) [12] (gN 12) (xTB (xBin oNotIn (xVar 12) (xVar 9))) (xVar 12)) (gN 11)) (zSeq (zAsg (xBin oAdd (xVar 7) (xTup (xCons (xBin oIx (xVar 11) (xC (.int 0))) (xNil)))) (gN 7)) (zItem (xVar 0) (xBin oIx (xVar 11) (xC (.int 0))) (xUn oTuple (xSl (xVar 5) (xPart (xVar 8)) (xPart (xBin oAdd (xVar 8) (xC (.int 8)))))))))))) (zItem (xVar 0) (xBin oAdd (xC (.int 9)) (xVar 2)) (xBin oAdd (xBin oAdd (xBin oAdd (xVar 4) (xTup (xCons (xBin oMul (xC (.int 2)) (xUn oLen (xVar 3))) (xNil)))) (xVar 7)) (xBin oMul (xTup (xCons (xC (.int 0)) (xNil))) (xBin oSub (xC (.int 5)) (xUn oLen (xVar 7))))))))))))
def F_law_written_anew : Fn := dFn 4 13 B_law_written_anew
def B_law_spoil : Sx := zSeq (zAsg (xMeth .disk F_Disk_size (xVar 0) xNil) (gN 3)) (zSeq (zAsg (xComp (iRg1 (xCons (xVar 1) (xNil))) [6] (gN 6) (xTB (xBin oGt (xUn oMaxL (xSl (xMeth .disk F_Disk_read (xVar 0) (xCons (xBin oAdd (xC (.int 9)) (xVar 6)) (xNil))) (xPart (xC (.int 3))) (xNoPart))) (xC (.int 0)))) (xVar 6)) (gN 4)) (zSeq (zAsg (xBin oMod (xBin oDiv (xVar 2) (xC (.int 29))) (xC (.int 5))) (gN 5)) (zIf (yOr (xTB (xBin oEq (xVar 4) (xLst (xNil)))) (xTB (xBin oLt (xVar 5) (xC (.int 2))))) (zSeq (zAsg (xBin oAdd (xC (.int 9)) (xBin oMod (xBin oDiv (xVar 2) (xC (.int 7))) (xVar 1))) (gN 6)) (zSeq (zAsg (xBin oIx (xLst (xCons (xVar 6) (xCons (xVar 6) (xCons (xBin oAdd (xBin oAdd (xC (.int 9)) (xVar 1)) (xBin oMod (xBin oDiv (xVar 2) (xC (.int 7))) (xBin oSub (xBin oSub (xVar 3) (xC (.int 9))) (xVar 1)))) (xCons (xC (.int 9)) (xNil)))))) (xBin oMod (xBin oDiv (xVar 2) (xC (.int 11))) (xC (.int 4)))) (gN 7)) (zSeq (zAsg (xListN (xMeth .disk F_Disk_read (xVar 0) (xCons (xVar 7) (xNil)))) (gN 8)) (zSeq (zAsg (xLst (xCons (xBin oMod (xBin oDiv (xVar 2) (xC (.int 19))) (xC (.int 1000))) (xCons (xBin oMod (xBin oDiv (xVar 2) (xC (.int 19))) (xC (.int 4))) (xCons (xBin oAdd (xBin oAdd (xC (.int 9)) (xVar 1)) (xBin oMod (xBin oDiv (xVar 2) (xC (.int 17))) (xBin oSub (xBin oSub (xVar 3) (xC (.int 9))) (xVar 1)))) (xCons (xBin oMod (xBin oDiv (xVar 2) (xC (.int 19))) (xVar 1)) (xNil)))))) (gN 9)) (zSeq (zItem (xVar 8) (xCall F_law_pick (xCons (xCall F_law_seed (xCons (xVar 2) (xCons (xC (.int 1)) (xNil)))) (xCons (xC (.int 8)) (xNil)))) (xBin oIx (xVar 9) (xBin oMod (xBin oDiv (xVar 2) (xC (.int 23))) (xC (.int 4))))) (zExpr (xMeth .disk F_Disk_write (xVar 0) (xCons (xVar 7) (xCons (xIf (xTB (xBin oGt (xBin oMod (xBin oDiv (xVar 2) (xC (.int 31))) (xC (.int 9))) (xC (.int 0)))) (xUn oTuple (xVar 8)) (xBin oMul (xTup (xCons (xC (.int 0)) (xNil))) (xC (.int 8)))) (xNil)))))))))) (zIf (xTB (xBin oEq (xVar 5) (xC (.int 2)))) (zSeq (zAsg (xSl (xMeth .disk F_Disk_read (xVar 0) (xCons (xBin oAdd (xC (.int 9)) (xBin oIx (xVar 4) (xBin oMod (xBin oDiv (xVar 2) (xC (.int 7))) (xUn oLen (xVar 4))))) (xNil))) (xPart (xC (.int 3))) (xNoPart)) (gN 10)) (zSeq (zAsg (xListN (xMeth .disk F_Disk_read (xVar 0) (xCons (xBin oAdd (xC (.int 9)) (xBin oIx (xVar 4) (xBin oMod (xBin oDiv (xVar 2) (xC (.int 11))) (xUn oLen (xVar 4))))) (xNil)))) (gN 8)) (zSeq (zItem (xVar 8) (xBin oAdd (xC (.int 3)) (xBin oMod (xBin oDiv (xVar 2) (xC (.int 13))) (xC (.int 5)))) (xUn oMaxL (xVar 10))) (zSeq (zItem (xVar 8) (xC (.int 2)) (xBin oMax2 (xBin oIx (xVar 8) (xC (.int 2))) (xBin oAdd (xBin oMul (xC (.int 8)) (xBin oMod (xBin oDiv (xVar 2) (xC (.int 13))) (xC (.int 5)))) (xC (.int 2))))) (zExpr (xMeth .disk F_Disk_write (xVar 0) (xCons (xBin oAdd (xC (.int 9)) (xBin oIx (xVar 4) (xBin oMod (xBin oDiv (xVar 2) (xC (.int 11))) (xUn oLen (xVar 4))))) (xCons (xUn oTuple (xVar 8)) (xNil))))))))) (zSeq (zAsg (xBin oMax2 (xBin oAdd (xC (.int 9)) (xVar 1)) (xBin oMin2 (xBin oSub (xVar 3) (xC (.int 1))) (xUn oMaxL (xSl (xMeth .disk F_Disk_read (xVar 0) (xCons (xBin oAdd (xC (.int 9)) (xBin oIx (xVar 4) (xBin oMod (xBin oDiv (xVar 2) (xC (.int 7))) (xUn oLen (xVar 4))))) (xNil))) (xPart (xC (.int 3))) (xNoPart))))) (gN 7)) (zSeq (zAsg (xListN (xMeth .disk F_Disk_read (xVar 0) (xCons (xVar 7) (xNil)))) (gN 8)) (zSeq (zAsg (xBin oMul (xC (.int 2)) (xBin oMod (xBin oDiv (xVar 2) (xC (.int 11))) (xC (.int 4)))) (gN 11)) (zSeq (zAsg (xBin oMul (xC (.int 2)) (xBin oMod (xBin oDiv (xVar 2) (xC (.int 13))) (xC (.int 4)))) (gN 12)) (zSeq (zItem (xVar 8) (xVar 11) (xBin oIx (xVar 8) (xVar 12))) (zSeq (zIf (xTB (xBin oEq (xBin oMod (xBin oDiv (xVar 2) (xC (.int 17))) (xC (.int 2))) (xC (.int 0)))) (zItem (xVar 8) (xBin oAdd (xVar 11) (xC (.int 1))) (xBin oIx (xVar 8) (xBin oAdd (xVar 12) (xC (.int 1))))) (zNext)) (zExpr (xMeth .disk F_Disk_write (xVar 0) (xCons (xVar 7) (xCons (xUn oTuple (xVar 8)) (xNil)))))))))))))))
def F_law_spoil : Fn := dFn 3 13 B_law_spoil
def B_law_files (self_ : Fn) : Sx := zSeq (zAsg (xLstN (xNil)) (gN 1)) (zSeq (zFor (iLst (xVar 0)) (gTp 2 (gsConsD (gN 2) (gsConsD (gN 3) (gsNilD)))) (zIf (xTB (xBin oEq (xBin oIx (xVar 3) (xC (.int 0))) (xC (.str "file")))) (zExpr (xApp (xVar 1) (xTup (xCons (xVar 2) (xCons (xBin oIx (xVar 3) (xC (.int 2))) (xNil)))))) (zExpr (xApp (xVar 1) (xTup (xCons (xVar 2) (xCons (xCall self_ (xCons (xBin oIx (xVar 3) (xC (.int 1))) (xNil))) (xNil)))))))) (zRet (xVar 1)))
def F_law_files : Nat → Fn | 0 => dFn 1 4 (fun _ _ => .bad) | n + 1 => dFn 1 4 (B_law_files (F_law_files n))
def B_law_opened : Sx := zSeq (zIf (xTB (xBin oEq (xVar 0) (xC (.int 0)))) (zRet (xMake .drawers F_Drawers_init__ (xCons (xVar 1) (xNil)))) (zNext)) (zSeq (zIf (xTB (xBin oEq (xVar 0) (xC (.int 1)))) (zRet (xCall F_run (xCons (xVar 1) (xCons (xC .non) (xNil))))) (zNext)) (zRet (xIf (xTB (xBin oEq (xVar 0) (xC (.int 2)))) (xCall F_is_good (xCons (xVar 1) (xNil))) (xCall F_mend (xCons (xVar 1) (xNil))))))
def F_law_opened : Fn := dFn 2 2 B_law_opened
def B_law_bad_deeds : Sx := zSeq (zAsg (xLst (xCons (xTup (xNil)) (xCons (xC .non) (xCons (xTup (xCons (xC (.str "file")) (xNil))) (xCons (xTup (xCons (xC (.str "go")) (xCons (xTup (xNil)) (xNil)))) (xCons (xTup (xCons (xC (.str "link")) (xCons (xTup (xNil)) (xNil)))) (xCons (xTup (xCons (xC (.str "write")) (xCons (xTup (xNil)) (xCons (xC (.int 1)) (xNil))))) (xCons (xLst (xCons (xC (.str "file")) (xCons (xTup (xCons (xC (.str "a")) (xNil))) (xNil)))) (xCons (xTup (xCons (xC (.str "names")) (xNil))) (xNil)))))))))) (gN 3)) (zSeq (zAsg (xBin oAdd (xVar 3) (xLst (xCons (xTup (xCons (xC (.str "cut")) (xCons (xTup (xNil)) (xCons (xC (.int 1)) (xCons (xC (.int 2)) (xNil)))))) (xCons (xTup (xCons (xC (.str "read")) (xCons (xTup (xNil)) (xCons (xC (.int 1)) (xNil))))) (xCons (xTup (xCons (xC (.str "about")) (xCons (xTup (xNil)) (xCons (xC (.int 1)) (xNil))))) (xCons (xTup (xCons (xC (.int 1)) (xCons (xTup (xNil)) (xNil)))) (xCons (xTup (xCons (xC (.str "rename")) (xCons (xTup (xNil)) (xNil)))) (xCons (xC (.str "file")) (xNil))))))))) (gN 3)) (zSeq (zAsg (xBin oIx (xVar 3) (xBin oMod (xCall F_law_cell (xCons (xVar 0) (xCons (xC (.int 12)) (xNil)))) (xC (.int 14)))) (gN 4)) (zSeq (zAsg (xLstN (xNil)) (gN 5)) (zSeq (zFor (iRg1 (xCons (xC (.int 4)) (xNil))) (gN 6) (zTry (zIf (xTB (xBin oEq (xVar 6) (xC (.int 0)))) (zExpr (xCall F_do (xCons (xVar 1) (xCons (xVar 4) (xNil))))) (zIf (xTB (xBin oEq (xVar 6) (xC (.int 1)))) (zExpr (xCall F_run (xCons (xVar 2) (xCons (xLst (xCons (xTup (xCons (xC (.str "names")) (xCons (xTup (xNil)) (xNil)))) (xCons (xVar 4) (xNil)))) (xNil))))) (zIf (xTB (xBin oEq (xVar 6) (xC (.int 2)))) (zExpr (xCall F_run (xCons (xVar 2) (xCons (xBin oIx (xLst (xCons (xC .non) (xCons (xTup (xNil)) (xCons (xC (.str "x")) (xNil))))) (xBin oMod (xCall F_law_cell (xCons (xVar 0) (xCons (xC (.int 12)) (xNil)))) (xC (.int 3)))) (xNil))))) (zExpr (xCall F_run (xCons (xC .non) (xCons (xC .non) (xNil)))))))) ((.badDeed, zExpr (xApp (xVar 5) (xC (.str "deed")))) :: (.badDisk, zExpr (xApp (xVar 5) (xC (.str "disk")))) :: []))) (zRet (xBin oEq (xVar 5) (xLst (xCons (xC (.str "deed")) (xCons (xC (.str "deed")) (xCons (xC (.str "deed")) (xCons (xC (.str "disk")) (xNil))))))))))))
def F_law_bad_deeds : Fn := dFn 3 7 B_law_bad_deeds
def B_law_by_entry : Sx := zSeq (zIf (xTB (xBin oEq (xVar 1) (xC (.int 2)))) (zRet (xMeth .drawers F_Drawers_link (xVar 0) (xCons (xVar 2) (xCons (xTup (xCons (xC (.str "b")) (xNil))) (xNil))))) (zNext)) (zSeq (zIf (xTB (xBin oEq (xVar 1) (xC (.int 3)))) (zRet (xMeth .drawers F_Drawers_link (xVar 0) (xCons (xBin oMul (xTup (xCons (xC (.str "a")) (xNil))) (xC (.int 6))) (xCons (xVar 2) (xNil))))) (zNext)) (zSeq (zIf (xTB (xBin oEq (xVar 1) (xC (.int 4)))) (zRet (xMeth .drawers F_Drawers_remove (xVar 0) (xCons (xVar 2) (xNil)))) (zNext)) (zRet (xMeth .drawers F_Drawers_rename (xVar 0) (xCons (xVar 2) (xCons (xTup (xCons (xC (.str "b")) (xNil))) (xNil)))))))
def F_law_by_entry : Fn := dFn 3 3 B_law_by_entry
def B_law_by_way : Sx := zSeq (zIf (xTB (xBin oLt (xVar 1) (xC (.int 2)))) (zRet (xIf (xTB (xBin oEq (xVar 1) (xC (.int 0)))) (xMeth .drawers F_Drawers_make_file (xVar 0) (xCons (xVar 2) (xNil))) (xMeth .drawers F_Drawers_make_drawer (xVar 0) (xCons (xVar 2) (xNil))))) (zNext)) (zSeq (zIf (xTB (xBin oLt (xVar 1) (xC (.int 6)))) (zRet (xCall F_law_by_entry (xCons (xVar 0) (xCons (xVar 1) (xCons (xVar 2) (xNil)))))) (zNext)) (zSeq (zIf (xTB (xBin oEq (xVar 1) (xC (.int 6)))) (zRet (xMeth .drawers F_Drawers_write (xVar 0) (xCons (xVar 2) (xCons (xC (.int 0)) (xCons (xTup (xCons (xC (.int 1)) (xNil))) (xNil)))))) (zNext)) (zSeq (zIf (xTB (xBin oEq (xVar 1) (xC (.int 7)))) (zRet (xMeth .drawers F_Drawers_cut (xVar 0) (xCons (xVar 2) (xCons (xC (.int 0)) (xNil))))) (zNext)) (zSeq (zIf (xTB (xBin oEq (xVar 1) (xC (.int 8)))) (zRet (xMeth .drawers F_Drawers_read (xVar 0) (xCons (xVar 2) (xCons (xC (.int 0)) (xCons (xC (.int 1)) (xNil)))))) (zNext)) (zSeq (zIf (xTB (xBin oEq (xVar 1) (xC (.int 9)))) (zRet (xMeth .drawers F_Drawers_names (xVar 0) (xCons (xVar 2) (xNil)))) (zNext)) (zSeq (zIf (xTB (xBin oEq (xVar 1) (xC (.int 10)))) (zRet (xMeth .drawers F_Drawers_about (xVar 0) (xCons (xVar 2) (xNil)))) (zNext)) (zSeq (zIf (xTB (xBin oEq (xVar 1) (xC (.int 11)))) (zRet (xMeth .drawers F_Drawers_blocks (xVar 0) (xCons (xVar 2) (xNil)))) (zNext)) (zSeq (zIf (xTB (xBin oEq (xVar 1) (xC (.int 12)))) (zRet (xMeth .drawers F_Drawers_same (xVar 0) (xCons (xVar 2) (xCons (xTup (xNil)) (xNil))))) (zNext)) (zSeq (zIf (xTB (xBin oEq (xVar 1) (xC (.int 13)))) (zRet (xMeth .drawers F_Drawers_same (xVar 0) (xCons (xTup (xNil)) (xCons (xVar 2) (xNil))))) (zNext)) (zRet (xCall F_law_by_entry (xCons (xVar 0) (xCons (xBin oSub (xVar 1) (xC (.int 12))) (xCons (xVar 2) (xNil)))))))))))))))
def F_law_by_way : Fn := dFn 3 3 B_law_by_way
def B_law_refused_by : Sx := zSeq (zIf (xTB (xBin oEq (xVar 1) (xC (.int 4)))) (zRet (xMeth .drawers F_Drawers_names (xVar 0) (xCons (xC .non) (xNil)))) (zNext)) (zSeq (zIf (xTB (xBin oEq (xVar 1) (xC (.int 5)))) (zRet (xMeth .drawers F_Drawers_names (xVar 0) (xCons (xTup (xCons (xC (.str "x")) (xNil))) (xNil)))) (zNext)) (zSeq (zIf (xTB (xBin oEq (xVar 1) (xC (.int 6)))) (zRet (xMeth .drawers F_Drawers_read (xVar 0) (xCons (xTup (xNil)) (xCons (xC (.int 0)) (xCons (xC (.int 1)) (xNil)))))) (zNext)) (zSeq (zIf (xTB (xBin oEq (xVar 1) (xC (.int 7)))) (zRet (xMeth .drawers F_Drawers_names (xVar 0) (xCons (xTup (xCons (xC (.str "f")) (xNil))) (xNil)))) (zNext)) (zSeq (zIf (xTB (xBin oEq (xVar 1) (xC (.int 8)))) (zRet (xMeth .drawers F_Drawers_make_drawer (xVar 0) (xCons (xTup (xCons (xC (.str "f")) (xNil))) (xNil)))) (zNext)) (zSeq (zIf (xTB (xBin oEq (xVar 1) (xC (.int 9)))) (zRet (xMeth .drawers F_Drawers_remove (xVar 0) (xCons (xTup (xCons (xC (.str "d")) (xNil))) (xNil)))) (zNext)) (zSeq (zIf (xTB (xBin oEq (xVar 1) (xC (.int 10)))) (zRet (xMeth .drawers F_Drawers_rename (xVar 0) (xCons (xTup (xCons (xC (.str "d")) (xNil))) (xCons (xTup (xCons (xC (.str "d")) (xCons (xC (.str "x")) (xNil)))) (xNil))))) (zNext)) (zSeq (zIf (xTB (xBin oEq (xVar 1) (xC (.int 11)))) (zRet (xMeth .drawers F_Drawers_make_file (xVar 0) (xCons (xTup (xCons (xC (.str "x")) (xNil))) (xNil)))) (zNext)) (zRet (xCall F_do (xCons (xVar 0) (xCons (xC .non) (xNil))))))))))))
def F_law_refused_by : Fn := dFn 2 2 B_law_refused_by
def B_law_deeds_of : Sx := zSeq (zAsg (xMake .disk F_Disk_init__ (xCons (xC (.int 20)) (xCons (xC .non) (xNil)))) (gN 1)) (zSeq (zIf (xTB (xBin oEq (xVar 0) (xC (.int 0)))) (zRet (xMeth .disk F_Disk_read (xVar 1) (xCons (xC (.int 20)) (xNil)))) (zNext)) (zSeq (zIf (xTB (xBin oEq (xVar 0) (xC (.int 1)))) (zRet (xMeth .disk F_Disk_write (xVar 1) (xCons (xC (.int 0)) (xCons (xC .non) (xNil))))) (zNext)) (zSeq (zIf (xTB (xBin oEq (xVar 0) (xC (.int 2)))) (zSeq (zExpr (xMeth .disk F_Disk_go_on (xVar 1) (xCons (xC (.int 0)) (xNil)))) (zRet (xMeth .disk F_Disk_write (xVar 1) (xCons (xC (.int 0)) (xCons (xBin oMul (xTup (xCons (xC (.int 0)) (xNil))) (xC (.int 8))) (xNil)))))) (zNext)) (zSeq (zIf (xTB (xBin oEq (xVar 0) (xC (.int 3)))) (zRet (xMake .drawers F_Drawers_init__ (xCons (xVar 1) (xNil)))) (zNext)) (zSeq (zExpr (xCall F_set_up (xCons (xVar 1) (xCons (xC (.int 4)) (xNil))))) (zSeq (zAsg (xMake .drawers F_Drawers_init__ (xCons (xVar 1) (xNil))) (gN 2)) (zSeq (zExpr (xMeth .drawers F_Drawers_make_file (xVar 2) (xCons (xTup (xCons (xC (.str "f")) (xNil))) (xNil)))) (zSeq (zExpr (xMeth .drawers F_Drawers_make_drawer (xVar 2) (xCons (xTup (xCons (xC (.str "d")) (xNil))) (xNil)))) (zSeq (zExpr (xMeth .drawers F_Drawers_make_file (xVar 2) (xCons (xTup (xCons (xC (.str "d")) (xCons (xC (.str "f")) (xNil)))) (xNil)))) (zRet (xCall F_law_refused_by (xCons (xVar 2) (xCons (xVar 0) (xNil))))))))))))))
def F_law_deeds_of : Fn := dFn 1 3 B_law_deeds_of
def B_law_taken : Sx := zSeq (zAsg (xMt isLstB oIndex (xVar 0) (xVar 1)) (gN 2)) (zSeq (zAsg (xBin oIx (xVar 0) (xUn oNeg (xC (.int 1)))) (gN 3)) (zSeq (zAsg (xSl (xVar 0) (xNoPart) (xPart (xUn oNeg (xC (.int 1))))) (gN 4)) (zRet (xBin oAdd (xBin oAdd (xSl (xVar 4) (xNoPart) (xPart (xVar 2))) (xBin oMul (xLst (xCons (xVar 3) (xNil))) (xUn oInt (xBin oLt (xVar 2) (xUn oLen (xVar 4)))))) (xSl (xVar 4) (xPart (xBin oAdd (xVar 2) (xC (.int 1)))) (xNoPart))))))
def F_law_taken : Fn := dFn 2 5 B_law_taken
def B_law_renamed_row : Sx := zRet (xCall F_law_taken (xCons (xIf (xTB (xBin oIn (xVar 2) (xVar 0))) (xVar 0) (xBin oAdd (xVar 0) (xLst (xCons (xVar 2) (xNil))))) (xCons (xVar 1) (xNil))))
def F_law_renamed_row : Fn := dFn 3 3 B_law_renamed_row
end DL
set_option maxRecDepth 100000
set_option maxHeartbeats 2000000
namespace DL
open PySem PySem.Spec L2
open PyProof.Rows hiding St
theorem m_is_within (h : DH) (d : D) (lo hi : Int) (k : (tkOf h d).isSome = true) : F_is_within [d, .int lo, .int hi] h = .ok (.bl (isW d lo hi)) h := by
  unfold F_is_within B_is_within dFn
  cases d with
  | int n =>
    simp only [zRet, xAnd, xIs, xUn, xVar, xNot, xChain, oLe]
    by_cases h1 : lo ≤ n <;> by_cases h2 : n ≤ hi <;> simp [h1, h2, isW, tkOf, Tk.sub]
  | ref i =>
    unfold tkOf at k
    cases e : h[i]? with
    | none => simp [e] at k
    | some o =>
      cases o <;> simp [e] at k <;> simp [xIs, xAnd, xVar, tkOf, Tk.sub, e, isW]
  | dct es => simp [tkOf] at k
  | bl b => simp [xIs, xAnd, xVar, tkOf, Tk.sub, isW]
  | _ => simp [xIs, xAnd, xVar, tkOf, Tk.sub, isW]
def kindly (h : DH) (d : D) : Bool := (tkOf h d).isSome
def cellsOk : D → Bool
  | .tup xs => xs.all fun x => isW x 0 999
  | _ => false
def cellsKind (h : DH) : D → Bool
  | .tup xs => decide (xs.length ≤ 1000) && xs.all (kindly h)
  | d => kindly h d
theorem m_are_cells (h : DH) (d : D) (k : cellsKind h d = true) : F_are_cells [d] h = .ok (.bl (cellsOk d)) h := by
  unfold F_are_cells B_are_cells dFn
  cases d with
  | tup xs =>
    simp only [cellsKind, Bool.and_eq_true, decide_eq_true_eq, List.all_eq_true] at k
    have hz : zComp (gN 1) (yNot (xTru (xCall F_is_within (xCons (xVar 1) (xCons (xC (.int 0)) (xCons (xC c_MOST_CELL) xNil)))))) (xVar 1) (wipeR [some (.tup xs), none] [1]) xs h [] = .ok (xs.filter fun x => !isW x 0 999) h := by
      rw [zComp_pure (G := gN 1) (fun x => !isW x 0 999) id xs [] (fun d m => ⟨_, rfl, ?_, fun _ => ?_⟩) (by simp; exact lt_sizeLine _ (by omega))]
      · simp
      · simp [wipeR, xVar, m_is_within h d 0 999 (k.2 d m), c_MOST_CELL]
      · simp [wipeR, xVar]
    simp [xAnd, xIs, xVar, tkOf, Tk.sub, xComp, aComp, iTp, itT, hz, truD, cellsOk]
    rw [Bool.eq_iff_iff]
    simp [List.isEmpty_iff]
  | ref i =>
    simp only [cellsKind, kindly, tkOf] at k
    cases e : h[i]? with
    | none => simp [e] at k
    | some o =>
      cases o <;> simp [e] at k <;> simp [xIs, xAnd, xVar, tkOf, Tk.sub, e, cellsOk]
  | dct es => simp [cellsKind, kindly, tkOf] at k
  | _ => simp [xIs, xAnd, xVar, tkOf, Tk.sub, cellsOk]
/-- a disk at i, its rows at j -/
structure DskAt (h : DH) (i j : Nat) (rows : List D) (more many : D) : Prop where
  o : h[i]? = some (.ins .disk [.ref j, more, many])
  l : h[j]? = some (.lst rows)
section
variable {h : DH} {i j : Nat} {rows : List D} {more many : D}
theorem m_look (A : DskAt h i j rows more many) (d : D) (k : kindly h d = true) : F_Disk_look [.ref i, d] h = if isW d 0 (rows.length - 1) then .ok .non h else .er .badNumber h := by
  unfold F_Disk_look B_Disk_look dFn
  simp [xVar, fldAt, A.o, oLen, seqOf, lstOf, A.l, oSub, m_is_within h d _ _ k]
  cases isW d 0 (rows.length - 1) <;> rfl
theorem m_read (A : DskAt h i j rows more many) (d : D) (k : kindly h d = true) : F_Disk_read [.ref i, d] h = if isW d 0 (rows.length - 1) then (Out.of (oIx h (.ref j) d) h) else .er .badNumber h := by
  unfold F_Disk_read B_Disk_read dFn
  cases e : isW d 0 (rows.length - 1) with
  | false => simp [xVar, fldAt, A.o, xMeth, isCl, m_look A d k, e]
  | true =>
    simp [xVar, fldAt, A.o, xMeth, isCl, m_look A d k, e]
    cases oIx h (.ref j) d <;> rfl
theorem m_read_ok (A : DskAt h i j rows more many) (n : Nat) (hn : n < rows.length) : F_Disk_read [.ref i, .int (n : Int)] h = .ok rows[n] h := by
  rw [m_read A _ rfl]
  have e : isW (.int (n : Int)) 0 ((rows.length : Int) - 1) = true := by simp [isW]; omega
  rw [e]
  simp [oIx, seqOf, lstOf, A.l, L2.atI, ixN, hn]
theorem m_left (A : DskAt h i j rows more many) : F_Disk_left [.ref i] h = .ok more h := by
  unfold F_Disk_left B_Disk_left dFn
  simp [xVar, fldAt, A.o]
theorem m_steps (A : DskAt h i j rows more many) : F_Disk_steps [.ref i] h = .ok many h := by
  unfold F_Disk_steps B_Disk_steps dFn
  simp [xVar, fldAt, A.o]
theorem m_size (A : DskAt h i j rows more many) : F_Disk_size [.ref i] h = .ok (.int rows.length) h := by
  unfold F_Disk_size B_Disk_size dFn
  simp [xVar, fldAt, A.o, oLen, seqOf, lstOf, A.l]
def stepsOk (d : D) : Bool := isNon d || isW d 0 100000
theorem m_go_on_ {vs : List D} (A : h[i]? = some (.ins .disk vs)) (h2 : 1 < vs.length) (d : D) (hn : isNon d = false) (k : kindly h d = true) : F_Disk_go_on [.ref i, d] h = if stepsOk d then .ok .non (h.set i (.ins .disk (vs.set 1 d))) else .er .badNumber h := by
  unfold F_Disk_go_on B_Disk_go_on dFn
  cases e : isW d 0 100000 with
  | false => simp [xVar, oIsNot, oIsB, stepsOk, c_MOST_STEPS, m_is_within h d 0 100000 k, zFld, setFld, A, putFd, h2, e, hn]
  | true => simp [xVar, oIsNot, oIsB, stepsOk, c_MOST_STEPS, m_is_within h d 0 100000 k, zFld, setFld, A, putFd, h2, e, hn]
theorem m_go_on {vs : List D} (A : h[i]? = some (.ins .disk vs)) (hv : 2 ≤ vs.length) (d : D) (k : kindly h d = true) : F_Disk_go_on [.ref i, d] h = if stepsOk d then .ok .non (h.set i (.ins .disk (vs.set 1 d))) else .er .badNumber h := by
  have h2 : 1 < vs.length := by omega
  cases d with
  | non =>
    unfold F_Disk_go_on B_Disk_go_on dFn
    simp [xVar, oIsNot, oIsB, isNon, stepsOk, zFld, setFld, A, putFd, h2]
  | _ => exact m_go_on_ A h2 _ rfl k
def blockOk : D → Bool
  | .tup xs => (xs.all fun x => isW x 0 999) && decide (xs.length = 8)
  | _ => false
theorem m_write_no (A : DskAt h i j rows more many) (b c : D) (k : kindly h b = true) (e : isW b 0 (rows.length - 1) = false) : F_Disk_write [.ref i, b, c] h = .er .badNumber h := by
  unfold F_Disk_write B_Disk_write dFn
  simp [xVar, xMeth, isCl, A.o, m_look A b k, e]
theorem m_write_cells (A : DskAt h i j rows more many) (b c : D) (k : kindly h b = true) (kc : cellsKind h c = true) (e : isW b 0 (rows.length - 1) = true) (ec : blockOk c = false) : F_Disk_write [.ref i, b, c] h = .er .badCells h := by
  unfold F_Disk_write B_Disk_write dFn
  cases e2 : cellsOk c with
  | false => simp [xVar, xMeth, isCl, A.o, m_look A b k, e, m_are_cells h c kc, e2]
  | true =>
    cases c with
    | tup xs =>
      have : xs.length ≠ 8 := by
        intro hl
        simp only [cellsOk] at e2
        simp [blockOk, hl, e2] at ec
      have h3 : ((xs.length : Int) == 8) = false := by simp; omega
      simp [xVar, xMeth, isCl, A.o, m_look A b k, e, m_are_cells h _ kc, e2, oLen, seqOf, oNe, oEqB, shpD, derefL, okD, depD, c_CELLS, eqD, this, h3]
    | _ => simp [cellsOk] at e2
theorem m_write_stop (A : DskAt h i j rows (.int 0) many) (b c : D) (k : kindly h b = true) (kc : cellsKind h c = true) (e : isW b 0 (rows.length - 1) = true) (ec : blockOk c = true) : F_Disk_write [.ref i, b, c] h = .er .stopped h := by
  unfold F_Disk_write B_Disk_write dFn
  cases c with
  | tup xs =>
    simp only [blockOk, Bool.and_eq_true, decide_eq_true_eq] at ec
    have e2 : cellsOk (.tup xs) = true := ec.1
    simp [xVar, xMeth, isCl, A.o, m_look A b k, e, m_are_cells h _ kc, e2, oLen, seqOf, oNe, oEq, oEqB, shpD, derefL, okD, depD, c_CELLS, eqD, ec.2, fldAt]
  | _ => simp [blockOk] at ec
end
def lessD : D → D
  | .int n => .int (n - 1)
  | d => d
theorem m_write_ok {h : DH} {i j : Nat} {rows : List D} {more : D} {m : Int} (A : DskAt h i j rows more (.int m)) (n : Nat) (c : D) (kc : cellsKind h c = true) (hn : n < rows.length) (ec : blockOk c = true) (hm : more = .non ∨ ∃ k : Int, more = .int k ∧ k ≠ 0) :
    F_Disk_write [.ref i, .int n, c] h = .ok .non ((h.set i (.ins .disk [.ref j, lessD more, .int (m + 1)])).set j (.lst (rows.set n c))) := by
  unfold F_Disk_write B_Disk_write dFn
  have hij : i ≠ j := fun z => by
    subst z
    have := A.o.symm.trans A.l
    cases this
  have hl : i < h.length := (List.getElem?_eq_some_iff.mp A.o).1
  have s1 : ∀ v, (List.set h i v)[i]? = some v := fun v => by simp [hl]
  have s2 : ∀ v, (List.set h i v)[j]? = some (.lst rows) := fun v => by rw [List.getElem?_set_ne hij]; exact A.l
  clear hl
  have e : isW (.int n) 0 ((rows.length : Int) - 1) = true := by simp [isW]; omega
  have ex : ixN rows.length (n : Int) = some n := by
    unfold ixN
    simp [hn]
  cases c with
  | tup xs =>
    simp only [blockOk, Bool.and_eq_true, decide_eq_true_eq] at ec
    have e2 : cellsOk (.tup xs) = true := ec.1
    rcases hm with rfl | ⟨k, rfl, hk⟩
    · simp [xVar, xMeth, isCl, A.o, m_look A (.int n) rfl, e, m_are_cells h _ kc, e2, oLen, seqOf, oNe, oEq, oEqB, shpD, derefL, okD, depD, c_CELLS, eqD, ec.2, fldAt, oIsNot, oIsB, isNon, zFldAug, setFld, putFd, zItem, setIt, s1, s2, intD, ex, lessD]
    · have hk' : (k == 0) = false := by simp [hk]
      simp [xVar, xMeth, isCl, A.o, m_look A (.int n) rfl, e, m_are_cells h _ kc, e2, oLen, seqOf, oNe, oEq, oEqB, shpD, derefL, okD, depD, c_CELLS, eqD, ec.2, fldAt, oIsNot, oIsB, isNon, zFldAug, setFld, putFd, zItem, setIt, s1, s2, intD, ex, lessD, hk, hk']
  | _ => simp [blockOk] at ec
def zeros : D := .tup [.int 0, .int 0, .int 0, .int 0, .int 0, .int 0, .int 0, .int 0]
theorem m_init_no {h : DH} {i : Nat} (a b : D) (k : kindly h a = true) (e : isW a 20 200 = false) : F_Disk_init__ [.ref i, a, b] h = .er .badNumber h := by
  unfold F_Disk_init__ B_Disk_init__ dFn
  simp [xVar, m_is_within h a 20 200 k, c_MOST_BLOCKS, e]
theorem zrow (r : Rho) (h : DH) : xBin oMul (xTup (xCons (xC (.int 0)) xNil)) (xC c_CELLS) r h = .ok zeros h := by
  have : (1 : Nat) ≤ sizeLine := le_sizeLine _
  simp [this, oMul, c_CELLS, zeros]
theorem zrows (r : Rho) (h : DH) (n : Nat) (hn : n ≤ 1000) : zComp (gN 3) xYes (xBin oMul (xTup (xCons (xC (.int 0)) xNil)) (xC c_CELLS)) r (intsD 0 n) h [] = .ok (List.replicate n zeros) h := by
  have hl : (intsD 0 n).length < sizeLine := by rw [intsD_length]; exact lt_sizeLine _ (by omega)
  rw [zComp_map (G := gN 3) (fun _ => zeros) (intsD 0 n) (fun d m => ⟨_, rfl, zrow _ h⟩) hl, List.map_const', intsD_length]
theorem m_init {h : DH} {i : Nat} (A : h[i]? = some (.ins .disk [])) (n : Nat) (h1 : 20 ≤ n) (h2 : n ≤ 200) (b : D) (k : kindly (h ++ [.lst (List.replicate n zeros)]) b = true) : F_Disk_init__ [.ref i, .int n, b] h =
    if stepsOk b then .ok .non ((h.set i (.ins .disk [.ref h.length, b, .int 0])) ++ [.lst (List.replicate n zeros)]) else .er .badNumber ((h.set i (.ins .disk [.ref h.length, .non, .int 0])) ++ [.lst (List.replicate n zeros)]) := by
  have hl : i < h.length := (List.getElem?_eq_some_iff.mp A).1
  have e : isW (.int n) 20 200 = true := by simp [isW]; omega
  have hz := fun r => zrows r h n (by omega)
  have hl' : i < (h ++ [DO.lst (List.replicate n zeros)]).length := by simp; omega
  have s0 : (h ++ [DO.lst (List.replicate n zeros)])[i]? = some (.ins .disk []) := by rw [List.getElem?_append_left hl]; exact A
  have s1 : ∀ v, (List.set (h ++ [DO.lst (List.replicate n zeros)]) i v)[i]? = some v := fun v => by rw [List.getElem?_set_self hl']
  have ek : ∀ (vs : List D), (kindly (List.set (h ++ [.lst (List.replicate n zeros)]) i (.ins .disk vs)) b) = true := by
    intro vs
    cases b with
    | ref q =>
      by_cases hq : q = i
      · subst hq
        simp [kindly, tkOf, s0] at k
      · simp only [kindly, tkOf]
        rw [List.getElem?_set_ne (fun z => hq z.symm)]
        exact k
    | _ => exact k
  have hu : ∀ v, List.set (h ++ [DO.lst (List.replicate n zeros)]) i v = List.set h i v ++ [DO.lst (List.replicate n zeros)] := fun v => List.set_append_left _ _ hl
  clear hl hl'
  have eg := m_go_on (h := List.set (h ++ [DO.lst (List.replicate n zeros)]) i (.ins .disk [.ref h.length, .non, .int 0])) (i := i) (s1 _) (by simp) b (ek _)
  have t1 : zIf (yNot (xTru (xCall F_is_within (xCons (xVar 1) (xCons (xC (.int 20)) (xCons (xC c_MOST_BLOCKS) (xNil))))))) (zRaise .badNumber) (zNext) [some (.ref i), some (.int n), some b, none] h = .nx [some (.ref i), some (.int n), some b, none] h := by
    simp [xVar, m_is_within h (.int n) 20 200 rfl, c_MOST_BLOCKS, e]
  have t2 : zFld [.disk] 0 (xVar 0) (xCompN (iRg1 (xCons (xVar 1) (xNil))) [3] (gN 3) (xYes) (xBin oMul (xTup (xCons (xC (.int 0)) (xNil))) (xC c_CELLS))) [some (.ref i), some (.int n), some b, none] h = .nx [some (.ref i), some (.int n), some b, none] (List.set (h ++ [DO.lst (List.replicate n zeros)]) i (.ins .disk [.ref h.length])) := by
    have : xCompN (iRg1 (xCons (xVar 1) (xNil))) [3] (gN 3) (xYes) (xBin oMul (xTup (xCons (xC (.int 0)) (xNil))) (xC c_CELLS)) [some (.ref i), some (.int n), some b, none] h = .ok (.ref h.length) (h ++ [DO.lst (List.replicate n zeros)]) := by
      exact xCompN_go (iRg1_nat rfl (by omega)) (hz _)
    simp only [zFld, this, toS_ok_, xVar, List.getElem?_cons_zero, refD_ref, Option.bind_some, setFld, s0]
    simp [putFd]
  have t3 : zFld [.disk] 1 (xVar 0) (xC .non) [some (.ref i), some (.int n), some b, none] (List.set (h ++ [DO.lst (List.replicate n zeros)]) i (.ins .disk [.ref h.length])) = .nx [some (.ref i), some (.int n), some b, none] (List.set (h ++ [DO.lst (List.replicate n zeros)]) i (.ins .disk [.ref h.length, .non])) := by
    simp only [zFld, xC_, toS_ok_, xVar, List.getElem?_cons_zero, refD_ref, Option.bind_some, setFld, s1]
    simp [putFd]
  have t4 : zFld [.disk] 2 (xVar 0) (xC (.int 0)) [some (.ref i), some (.int n), some b, none] (List.set (h ++ [DO.lst (List.replicate n zeros)]) i (.ins .disk [.ref h.length, .non])) = .nx [some (.ref i), some (.int n), some b, none] (List.set (h ++ [DO.lst (List.replicate n zeros)]) i (.ins .disk [.ref h.length, .non, .int 0])) := by
    simp only [zFld, xC_, toS_ok_, xVar, List.getElem?_cons_zero, refD_ref, Option.bind_some, setFld, s1]
    simp [putFd]
  have t5 : zExpr (xMeth .disk F_Disk_go_on (xVar 0) (xCons (xVar 2) (xNil))) [some (.ref i), some (.int n), some b, none] (List.set (h ++ [DO.lst (List.replicate n zeros)]) i (.ins .disk [.ref h.length, .non, .int 0])) = (F_Disk_go_on [.ref i, b] (List.set (h ++ [DO.lst (List.replicate n zeros)]) i (.ins .disk [.ref h.length, .non, .int 0]))).toS [some (.ref i), some (.int n), some b, none] fun _ h1 => .nx [some (.ref i), some (.int n), some b, none] h1 := by
    simp only [zExpr_, xMeth, xCons_, xNil_, toS_ok_, xVar, List.getElem?_cons_zero, List.getElem?_cons_succ, refD_ref, isCl, s1, bnd_ok_]
    simp
  unfold F_Disk_init__ B_Disk_init__
  cases e3 : stepsOk b with
  | true =>
    rw [e3] at eg
    refine fn_nx (r1 := [some (.ref i), some (.int n), some b, none]) rfl ((seq_go t1).trans ((seq_go t2).trans ((seq_go t3).trans ((seq_go t4).trans (t5.trans ?_)))))
    rw [eg]
    simp only [if_true, toS_ok_, List.set_set]
    rw [hu]
    rfl
  | false =>
    rw [e3] at eg
    refine fn_er (r1 := [some (.ref i), some (.int n), some b, none]) rfl ((seq_go t1).trans ((seq_go t2).trans ((seq_go t3).trans ((seq_go t4).trans (t5.trans ?_)))))
    rw [eg]
    simp [hu]
end DL
set_option maxRecDepth 100000
set_option maxHeartbeats 2000000
namespace DL
open PySem PySem.Spec L2
open PyProof.Rows hiding St
/-! ### more of the evaluators, for simp -/
@[simp low] theorem xMeth_ (c : Cl) (F : Fn) (fa : Ex) (fs : Ax) (r : Rho) (h : DH) : xMeth c F fa fs r h = (fa r h).bnd fun d h1 => match refD d with
  | some i => if isCl h1 c i = true then (fs r h1).bnd fun ds h2 => F (.ref i :: ds) h2 else .bad
  | none => .bad := nr rfl
@[simp low] theorem xSl_ (fa : Ex) (fl fh : Ox) (r : Rho) (h : DH) : xSl fa fl fh r h = (fa r h).bnd fun x h1 => (fl r h1).bnd fun lo h2 => (fh r h2).bnd fun hi h3 => .of (oSl h3 x lo hi) h3 := nr rfl
@[simp low] theorem xPart_ (fa : Ex) (r : Rho) (h : DH) : xPart fa r h = (fa r h).bnd fun d h1 => .of ((intD d).map some) h1 := nr rfl
@[simp low] theorem xNoPart_ (r : Rho) (h : DH) : xNoPart r h = .ok none h := nr rfl
@[simp] theorem intD_int (i : Int) : intD (.int i) = some i := nr rfl
@[simp] theorem oAdd_i (h : DH) (i j : Int) : oAdd h (.int i) (.int j) = some (.int (i + j)) := nr rfl
@[simp] theorem oSub_i (h : DH) (i j : Int) : oSub h (.int i) (.int j) = some (.int (i - j)) := nr rfl
@[simp] theorem oLt_i (h : DH) (i j : Int) : oLt h (.int i) (.int j) = some (.bl (decide (i < j))) := nr rfl
@[simp] theorem oLe_i (h : DH) (i j : Int) : oLe h (.int i) (.int j) = some (.bl (decide (i ≤ j))) := nr rfl
@[simp] theorem oGt_i (h : DH) (i j : Int) : oGt h (.int i) (.int j) = some (.bl (decide (j < i))) := nr rfl
@[simp] theorem oGe_i (h : DH) (i j : Int) : oGe h (.int i) (.int j) = some (.bl (decide (j ≤ i))) := nr rfl
@[simp] theorem oEq_i (h : DH) (i j : Int) : oEq h (.int i) (.int j) = some (.bl (decide (i = j))) := by
  rw [oEq_ii]
  by_cases e : i = j <;> simp [e]
@[simp] theorem oNe_i (h : DH) (i j : Int) : oNe h (.int i) (.int j) = some (.bl (!decide (i = j))) := by
  rw [oNe_ii]
  by_cases e : i = j <;> simp [e]
theorem xChain_ (o o' : P2) (fa fb fc : Ex) (r : Rho) (h : DH) : xChain o o' fa fb fc r h = (fa r h).bnd fun x h1 => (fb r h1).bnd fun y h2 => match o h2 x y with
  | some (.bl true) => (fc r h2).bnd fun z h3 => .of (o' h3 y z) h3
  | some (.bl false) => .ok (.bl false) h2
  | _ => .bad := rfl
theorem chain_lele {fa fb fc : Ex} {r : Rho} {h : DH} {a b c : Int} (ea : fa r h = .ok (.int a) h) (eb : fb r h = .ok (.int b) h) (ec : fc r h = .ok (.int c) h) : xChain oLe oLe fa fb fc r h = .ok (.bl (decide (a ≤ b ∧ b ≤ c))) h := by
  rw [xChain_, ea, bnd_ok_, eb, bnd_ok_]
  by_cases h1 : a ≤ b <;> simp [h1, ec]
theorem chain_ltlt {fa fb fc : Ex} {r : Rho} {h : DH} {a b c : Int} (ea : fa r h = .ok (.int a) h) (eb : fb r h = .ok (.int b) h) (ec : fc r h = .ok (.int c) h) : xChain oLt oLt fa fb fc r h = .ok (.bl (decide (a < b ∧ b < c))) h := by
  rw [xChain_, ea, bnd_ok_, eb, bnd_ok_]
  by_cases h1 : a < b <;> simp [h1, ec]
theorem chain_lelt {fa fb fc : Ex} {r : Rho} {h : DH} {a b c : Int} (ea : fa r h = .ok (.int a) h) (eb : fb r h = .ok (.int b) h) (ec : fc r h = .ok (.int c) h) : xChain oLe oLt fa fb fc r h = .ok (.bl (decide (a ≤ b ∧ b < c))) h := by
  rw [xChain_, ea, bnd_ok_, eb, bnd_ok_]
  by_cases h1 : a ≤ b <;> simp [h1, ec]
@[simp] theorem sz (n : Nat) (h : n ≤ 1000000 := by omega) : n ≤ sizeLine := le_sizeLine n h
@[simp low] theorem xAnd_ (fa fb : Ex) (r : Rho) (h : DH) : xAnd fa fb r h = (fa r h).bnd fun x h1 => match x with
  | .bl true => fb r h1
  | .bl false => .ok (.bl false) h1
  | _ => .bad := by
  unfold xAnd
  cases fa r h with
  | ok x h1 => cases x <;> first | rfl | (rename_i b; cases b <;> rfl)
  | er c h1 => rfl
  | bad => rfl
@[simp low] theorem xOr_ (fa fb : Ex) (r : Rho) (h : DH) : xOr fa fb r h = (fa r h).bnd fun x h1 => match x with
  | .bl false => fb r h1
  | .bl true => .ok (.bl true) h1
  | _ => .bad := by
  unfold xOr
  cases fa r h with
  | ok x h1 => cases x <;> first | rfl | (rename_i b; cases b <;> rfl)
  | er c h1 => rfl
  | bad => rfl
@[simp low] theorem xIf_ (c : Tx) (fa fb : Ex) (r : Rho) (h : DH) : xIf c fa fb r h = (c r h).bnd fun b h1 => match b with
  | true => fa r h1
  | false => fb r h1 := by
  unfold xIf
  cases c r h with
  | ok b h1 => cases b <;> rfl
  | er c h1 => rfl
  | bad => rfl
/-! ### blocks as lists of numbers -/
abbrev Blk := List Int
def dB (b : Blk) : D := .tup (b.map .int)
structure goodB (b : Blk) : Prop where
  len : b.length = 8
  le : ∀ x ∈ b, 0 ≤ x ∧ x ≤ 999
def zeroB : Blk := [0, 0, 0, 0, 0, 0, 0, 0]
theorem zeroB_good : goodB zeroB := ⟨rfl, by decide⟩
theorem eqL_ints : ∀ a b : List Int, eqL (a.map .int) (b.map .int) = decide (a = b)
  | [], [] => rfl
  | [], _ :: _ => rfl
  | _ :: _, [] => rfl
  | x :: a, y :: b => by
    have ih := eqL_ints a b
    simp only [List.map_cons, eqL, eqD, ih]
    by_cases h : x = y <;> by_cases h2 : a = b <;> simp [h, h2]
theorem okL_ints (a : List Int) : okL (a.map .int) = true := okL_all fun x hx => by
  obtain ⟨n, _, rfl⟩ := List.mem_map.mp hx
  rfl
theorem depL_ints (a : List Int) : depL (a.map .int) = 0 := Nat.le_zero.mp (depL_all fun x hx => by
  obtain ⟨n, _, rfl⟩ := List.mem_map.mp hx
  exact Nat.le_refl 0)
theorem shp_dB (a : Blk) : shpD (dB a) = true := by
  unfold shpD dB
  simp [okD, depD, okL_ints, depL_ints]
theorem oEqB_dB (h : DH) (a b : Blk) : oEqB h (dB a) (dB b) = some (decide (a = b)) := by
  have h1 := shp_dB a
  have h2 := shp_dB b
  unfold dB at h1 h2 ⊢
  simp only [oEqB, derefL, h1, h2, Bool.and_self, if_true, eqD, eqL_ints]
@[simp] theorem oEq_dB (h : DH) (a b : Blk) : oEq h (dB a) (dB b) = some (.bl (decide (a = b))) := by simp [oEq, oEqB_dB]
@[simp] theorem oNe_dB (h : DH) (a b : Blk) : oNe h (dB a) (dB b) = some (.bl (!decide (a = b))) := by simp [oNe, oEqB_dB]
/-- the cell at a place -/
def at0 (b : List Int) (z : Int) : Int := b.getD z.toNat 0
theorem atI_int {α : Type} (xs : List α) (z : Int) (h0 : 0 ≤ z) (h1 : z < xs.length) : L2.atI xs z = xs[z.toNat]? := by
  obtain ⟨k, rfl⟩ := Int.eq_ofNat_of_zero_le h0
  have h : k < xs.length := by omega
  unfold L2.atI ixN
  simp [h]
theorem oIx_dB (h : DH) (b : Blk) (z : Int) (h0 : 0 ≤ z) (h1 : z < b.length) : oIx h (dB b) (.int z) = some (.int (at0 b z)) := by
  have h2 : z.toNat < b.length := by omega
  unfold dB at0
  simp only [oIx, seqOf]
  rw [atI_int _ z h0 (by simpa using h1)]
  simp [h2]
theorem oLen_dB (h : DH) (b : Blk) : oLen h (dB b) = some (.int b.length) := by simp [oLen, dB, seqOf]
theorem oAdd_dB (h : DH) (a b : Blk) (hl : a.length + b.length ≤ 1000000) : oAdd h (dB a) (dB b) = some (dB (a ++ b)) := by
  simp [oAdd, dB, hl]
theorem tup_dB1 (a : Int) : D.tup [.int a] = dB [a] := rfl
theorem tup_dB2 (a b : Int) : D.tup [.int a, .int b] = dB [a, b] := rfl
theorem rep_flat (k : Nat) (x : Int) : (List.replicate k [x]).flatten = List.replicate k x := by
  induction k with
  | zero => rfl
  | succ k ih => simp [List.replicate_succ, ih]
theorem oMul_dB (h : DH) (x k : Int) (h1 : k ≤ 1000) (h2 : -1000 ≤ k) : oMul h (dB [x]) (.int k) = some (dB (List.replicate k.toNat x)) := by
  have e : (List.replicate k.toNat [D.int x]).flatten = (List.replicate k.toNat x).map .int := by
    induction k.toNat with
    | zero => rfl
    | succ k ih => simp [List.replicate_succ, ih]
  simp [oMul, dB, h1, h2, e]
/-- python's slices -/
def cutZ (b : List Int) (lo hi : Option Int) : List Int := cutL b lo hi
theorem oSl_dB (h : DH) (b : Blk) (lo hi : Option Int) : oSl h (dB b) lo hi = some (dB (cutL b lo hi)) := by
  simp only [oSl, dB, cutL, List.length_map, List.map_take, List.map_drop]
theorem isW_int (n hi : Int) : isW (.int n) 0 hi = decide (0 ≤ n ∧ n ≤ hi) := by
  simp only [isW]
  by_cases h : 0 ≤ n <;> simp [h]
theorem blockOk_dB {b : Blk} (g : goodB b) : blockOk (dB b) = true := by
  unfold dB
  simp only [blockOk, Bool.and_eq_true, decide_eq_true_eq, List.length_map, g.len, and_true, List.all_eq_true]
  intro x hx
  obtain ⟨n, hn, rfl⟩ := List.mem_map.mp hx
  rw [isW_int]
  simpa using g.le n hn
theorem cellsKind_dB (h : DH) {b : Blk} (hl : b.length ≤ 1000) : cellsKind h (dB b) = true := by
  unfold dB
  simp only [cellsKind, Bool.and_eq_true, decide_eq_true_eq, List.length_map, hl, true_and, List.all_eq_true]
  intro x hx
  obtain ⟨n, hn, rfl⟩ := List.mem_map.mp hx
  rfl
theorem cellsOk_dB (b : Blk) : cellsOk (dB b) = b.all fun x => decide (0 ≤ x ∧ x ≤ 999) := by
  unfold dB
  simp only [cellsOk]
  rw [List.all_map]
  congr 1
  funext x
  exact isW_int x 999
theorem free_dB : c_FREE = dB zeroB := rfl
/-! ### a disk -/
structure Dk where
  R : List Blk
  more : Option Nat
  many : Int
def optD : Option Nat → D
  | none => .non
  | some n => .int (n : Int)
structure DkAt (h : DH) (i j : Nat) (d : Dk) : Prop where
  o : h[i]? = some (.ins .disk [.ref j, optD d.more, .int d.many])
  l : h[j]? = some (.lst (d.R.map dB))
def row (R : List Blk) (z : Int) : Blk := R.getD z.toNat []
section
variable {h : DH} {i j : Nat} {d : Dk}
theorem DkAt.sk (A : DkAt h i j d) : DskAt h i j (d.R.map dB) (optD d.more) (.int d.many) := ⟨A.o, A.l⟩
theorem DkAt.ne (A : DkAt h i j d) : i ≠ j := fun z => by
  subst z
  have := A.o.symm.trans A.l
  cases this
theorem DkAt.li (A : DkAt h i j d) : i < h.length := (List.getElem?_eq_some_iff.mp A.o).1
theorem DkAt.lj (A : DkAt h i j d) : j < h.length := (List.getElem?_eq_some_iff.mp A.l).1
theorem DkAt.isCl (A : DkAt h i j d) : DL.isCl h .disk i = true := by simp [DL.isCl, A.o]
theorem mread (A : DkAt h i j d) (z : Int) (h0 : 0 ≤ z) (h1 : z < d.R.length) : F_Disk_read [.ref i, .int z] h = .ok (dB (row d.R z)) h := by
  obtain ⟨k, rfl⟩ := Int.eq_ofNat_of_zero_le h0
  have hk : k < d.R.length := by omega
  rw [m_read_ok A.sk k (by simpa using hk)]
  simp [row, hk]
theorem mread_no (A : DkAt h i j d) (z : Int) (hz : z < 0 ∨ d.R.length ≤ z) : F_Disk_read [.ref i, .int z] h = .er .badNumber h := by
  rw [m_read A.sk _ rfl]
  have : isW (.int z) 0 (((d.R.map dB).length : Int) - 1) = false := by
    rw [isW_int]
    simp only [List.length_map, decide_eq_false_iff_not]
    omega
  rw [this]
  rfl
theorem msize (A : DkAt h i j d) : F_Disk_size [.ref i] h = .ok (.int d.R.length) h := by
  rw [m_size A.sk]
  simp
theorem msteps (A : DkAt h i j d) : F_Disk_steps [.ref i] h = .ok (.int d.many) h := m_steps A.sk
theorem mleft (A : DkAt h i j d) : F_Disk_left [.ref i] h = .ok (optD d.more) h := m_left A.sk
end
/-- a block written, or none if the disk has stopped -/
def Dk.write (d : Dk) (z : Int) (b : Blk) : Option Dk := match d.more with
  | some 0 => none
  | some (k + 1) => some ⟨d.R.set z.toNat b, some k, d.many + 1⟩
  | none => some ⟨d.R.set z.toNat b, none, d.many + 1⟩
def putDk (h : DH) (i j : Nat) (d : Dk) : DH := (h.set i (.ins .disk [.ref j, optD d.more, .int d.many])).set j (.lst (d.R.map dB))
section
variable {h : DH} {i j : Nat} {d d' : Dk}
theorem putDk_at (hi : i < h.length) (hj : j < h.length) (ne : i ≠ j) : DkAt (putDk h i j d) i j d := by
  unfold putDk
  refine ⟨?_, ?_⟩
  · rw [List.getElem?_set_ne ne.symm, List.getElem?_set_self hi]
  · rw [List.getElem?_set_self (by simpa using hj)]
theorem DkAt.put (A : DkAt h i j d) (d' : Dk) : DkAt (putDk h i j d') i j d' := putDk_at A.li A.lj A.ne
theorem putDk_len : (putDk h i j d).length = h.length := by simp [putDk]
theorem putDk_ne {k : Nat} (h1 : k ≠ i) (h2 : k ≠ j) : (putDk h i j d)[k]? = h[k]? := by
  unfold putDk
  rw [List.getElem?_set_ne h2.symm, List.getElem?_set_ne h1.symm]
theorem set_same {α : Type} {l : List α} {i : Nat} {a : α} (e : l[i]? = some a) : l.set i a = l := by
  apply List.ext_getElem?
  intro k
  by_cases hk : i = k
  · subst hk
    rw [List.getElem?_set_self (List.getElem?_eq_some_iff.mp e).1, e]
  · rw [List.getElem?_set_ne hk]
theorem putDk_self (A : DkAt h i j d) : putDk h i j d = h := by
  unfold putDk
  rw [set_same A.o, set_same A.l]
theorem putDk_put (ne : i ≠ j) : putDk (putDk h i j d) i j d' = putDk h i j d' := by
  unfold putDk
  rw [List.set_comm _ _ ne.symm, List.set_set, List.set_set]
theorem mwrite (A : DkAt h i j d) (z : Int) (b : Blk) (h0 : 0 ≤ z) (h1 : z < d.R.length) (g : goodB b) : F_Disk_write [.ref i, .int z, dB b] h = match d.write z b with
    | none => .er .stopped h
    | some d' => .ok .non (putDk h i j d') := by
  obtain ⟨n, rfl⟩ := Int.eq_ofNat_of_zero_le h0
  have hn' : n < (d.R.map dB).length := by simp; omega
  have kc := cellsKind_dB h (b := b) (by rw [g.len]; decide)
  have A' := A.sk
  unfold Dk.write
  cases e : d.more with
  | none =>
    rw [e] at A'
    have := m_write_ok (m := d.many) A' n (dB b) kc hn' (blockOk_dB g) (.inl rfl)
    simp only [this, putDk, optD, lessD, List.map_set]
    rfl
  | some k =>
    rw [e] at A'
    cases k with
    | zero =>
      have ew : isW (.int (n : Int)) 0 (((d.R.map dB).length : Int) - 1) = true := by
        simp only [isW, Bool.and_eq_true, decide_eq_true_eq]
        omega
      exact m_write_stop A' (.int n) (dB b) rfl kc ew (blockOk_dB g)
    | succ k =>
      have := m_write_ok (m := d.many) A' n (dB b) kc hn' (blockOk_dB g) (.inr ⟨((k + 1 : Nat) : Int), rfl, by omega⟩)
      simp only [this, putDk, optD, lessD, List.map_set]
      have e2 : ((k + 1 : Nat) : Int) - 1 = (k : Int) := by omega
      rw [e2]
      rfl
theorem Dk.write_R {z : Int} {b : Blk} (e : d.write z b = some d') : d'.R = d.R.set z.toNat b := by
  unfold Dk.write at e
  split at e
  · cases e
  · cases e; rfl
  · cases e; rfl
end
end DL
set_option maxRecDepth 100000
set_option maxHeartbeats 2000000
namespace DL
open PySem PySem.Spec L2
open PyProof.Rows hiding St
section
variable {h : DH} {i j : Nat} {d d' : Dk}
@[simp] theorem mfirst_data (n : Int) (h : DH) : F_first_data [.int n] h = .ok (.int (9 + n)) h := by
  unfold F_first_data B_first_data dFn
  simp [xVar, c_FIRST_NODE]
def headB (n : Int) : Blk := [77, n, 0, 0, 0, 0, 0, 0]
/-- whether the head is good -/
def headOk (R : List Blk) : Bool := decide (row R 8 = headB (at0 (row R 8) 1)) && decide (1 ≤ at0 (row R 8) 1 ∧ at0 (row R 8) 1 ≤ 30) && decide (¬ (R.length : Int) < 9 + at0 (row R 8) 1 + 1)
theorem m_nodes_of (A : DkAt h i j d) (h8 : 8 < d.R.length) (g : (row d.R 8).length = 8) : F_nodes_of [.ref i] h = if headOk d.R then .ok (.int (at0 (row d.R 8) 1)) h else .er .badDisk h := by
  have hr := mread A 8 (by omega) (by omega)
  have ix := fun hp => oIx_dB hp (row d.R 8) 1 (by omega) (by omega)
  unfold headOk headB
  generalize at0 (row d.R 8) 1 = n at ix ⊢
  generalize row d.R 8 = b at *
  have c1 : ∀ r : Rho, r[1]? = some (some (dB b)) → xChain oLe oLe (xC (.int 1)) (xBin oIx (xVar 1) (xC (.int 1))) (xC (.int 30)) r h = .ok (.bl (decide (1 ≤ n ∧ n ≤ 30))) h := fun r hr => chain_lele rfl (by simp [xVar, hr, ix]) rfl
  have t1 : zAsg (xMeth .disk F_Disk_read (xVar 0) (xCons (xC c_HEAD) (xNil))) (gN 1) [some (.ref i), none] h = .nx [some (.ref i), some (dB b)] h := by
    simp [xVar, A.isCl, c_HEAD, hr]
  have t2 : (yOr (xTB (xBin oNe (xVar 1) (xBin oAdd (xTup (xCons (xC c_MARK) (xCons (xBin oIx (xVar 1) (xC (.int 1))) (xNil)))) (xBin oMul (xTup (xCons (xC (.int 0)) (xNil))) (xBin oSub (xC c_CELLS) (xC (.int 2))))))) (yNot (xTB (xChain oLe oLe (xC (.int 1)) (xBin oIx (xVar 1) (xC (.int 1))) (xC (.int 30)))))) [some (.ref i), some (dB b)] h = .ok (!(decide (b = [77, n, 0, 0, 0, 0, 0, 0]) && decide (1 ≤ n ∧ n ≤ 30))) h := by
    cases q1 : decide (b = [77, n, 0, 0, 0, 0, 0, 0]) <;> simp [xVar, ix, tup_dB1, tup_dB2, c_MARK, c_CELLS, oMul_dB, oAdd_dB, c1, q1]
  have t3 : (xTB (xBin oLt (xMeth .disk F_Disk_size (xVar 0) xNil) (xBin oAdd (xCall F_first_data (xCons (xBin oIx (xVar 1) (xC (.int 1))) (xNil))) (xC (.int 1))))) [some (.ref i), some (dB b)] h = .ok (decide ((d.R.length : Int) < 9 + n + 1)) h := by
    simp [xVar, A.isCl, ix, msize A]
  unfold F_nodes_of B_nodes_of dFn
  simp only [List.length_cons, List.length_nil, if_true, List.map_cons, List.map_nil, List.replicate, List.nil_append, List.cons_append, Nat.reduceSub]
  rw [seq_go t1]
  generalize (decide (b = [77, n, 0, 0, 0, 0, 0, 0]) && decide (1 ≤ n ∧ n ≤ 30)) = qa at t2 ⊢
  have e3 : decide (¬ (d.R.length : Int) < 9 + n + 1) = !decide ((d.R.length : Int) < 9 + n + 1) := decide_not
  rw [e3]
  generalize decide ((d.R.length : Int) < 9 + n + 1) = qb at t3 ⊢
  cases qa <;> cases qb <;> simp [t2, t3, xVar, ix]
/-! ### several writes in a row -/
/-- (the disk behind, whether all were done) -/
def Dk.writes (d : Dk) : List (Int × Blk) → Dk × Bool
  | [] => (d, true)
  | (z, b) :: ws => match d.write z b with
    | none => (d, false)
    | some d' => d'.writes ws
def outW (h : DH) (i j : Nat) (p : Dk × Bool) : Out D := if p.2 then .ok .non (putDk h i j p.1) else .er .stopped (putDk h i j p.1)
/-- a statement that ends so, or is stopped -/
def EndsW (P : Rho → Prop) (o : OutS) (h : DH) (i j : Nat) (p : Dk × Bool) : Prop := (p.2 = true → ∃ r, P r ∧ o = .nx r (putDk h i j p.1)) ∧ (p.2 = false → ∃ r, o = .er .stopped r (putDk h i j p.1))
theorem mwrite1 (A : DkAt h i j d) (z : Int) (b : Blk) (h0 : 0 ≤ z) (h1 : z < d.R.length) (g : goodB b) : F_Disk_write [.ref i, .int z, dB b] h = outW h i j (d.writes [(z, b)]) := by
  rw [mwrite A z b h0 h1 g]
  unfold Dk.writes outW
  cases e : d.write z b with
  | none => simp [putDk_self A]
  | some d' => simp [Dk.writes]
theorem Dk.writes_len : ∀ (ws : List (Int × Blk)) (d : Dk), (d.writes ws).1.R.length = d.R.length
  | [], d => rfl
  | (z, b) :: ws, d => by
    unfold Dk.writes
    cases e : d.write z b with
    | none => rfl
    | some d' =>
      show (d'.writes ws).1.R.length = _
      rw [Dk.writes_len ws d', Dk.write_R e, List.length_set]
theorem Dk.writes_app (d : Dk) (ws us : List (Int × Blk)) : d.writes (ws ++ us) = if (d.writes ws).2 then (d.writes ws).1.writes us else d.writes ws := by
  induction ws generalizing d with
  | nil => rfl
  | cons w ws ih =>
    obtain ⟨z, b⟩ := w
    rw [List.cons_append]
    cases e : d.write z b with
    | none =>
      have e1 : ∀ vs, d.writes ((z, b) :: vs) = (d, false) := fun vs => by simp only [Dk.writes, e]
      rw [e1, e1]
      rfl
    | some d' =>
      have e1 : ∀ vs, d.writes ((z, b) :: vs) = d'.writes vs := fun vs => by simp only [Dk.writes, e]
      rw [e1, e1]
      exact ih d'
theorem Dk.writes_cons_none {z : Int} {b : Blk} (e : d.write z b = none) (ws : List (Int × Blk)) : d.writes ((z, b) :: ws) = (d, false) := by simp only [Dk.writes, e]
theorem Dk.writes_cons_some {z : Int} {b : Blk} (e : d.write z b = some d') (ws : List (Int × Blk)) : d.writes ((z, b) :: ws) = d'.writes ws := by simp only [Dk.writes, e]
theorem seqW {a b : Sx} {r : Rho} {P P' : Rho → Prop} {ws us : List (Int × Blk)} (ne : i ≠ j) (ea : EndsW P (a r h) h i j (d.writes ws))
    (eb : ∀ r1, P r1 → (d.writes ws).2 = true → EndsW P' (b r1 (putDk h i j (d.writes ws).1)) (putDk h i j (d.writes ws).1) i j ((d.writes ws).1.writes us)) : EndsW P' (zSeq a b r h) h i j (d.writes (ws ++ us)) := by
  rw [Dk.writes_app]
  cases q : (d.writes ws).2 with
  | false =>
    obtain ⟨r1, e⟩ := ea.2 q
    have e2 : zSeq a b r h = .er .stopped r1 (putDk h i j (d.writes ws).1) := seq_er e
    rw [if_neg (by simp)]
    exact ⟨fun z => (by rw [q] at z; cases z), fun _ => ⟨r1, e2⟩⟩
  | true =>
    obtain ⟨r1, p1, e⟩ := ea.1 q
    rw [if_pos rfl, seq_go e]
    obtain ⟨k1, k2⟩ := eb r1 p1 q
    refine ⟨fun z => ?_, fun z => ?_⟩
    · obtain ⟨r2, p2, e2⟩ := k1 z
      exact ⟨r2, p2, by rw [e2, putDk_put ne]⟩
    · obtain ⟨r2, e2⟩ := k2 z
      exact ⟨r2, by rw [e2, putDk_put ne]⟩
theorem fnW {n N : Nat} {b : Sx} {ds : List D} {P : Rho → Prop} {p : Dk × Bool} {r : Rho} (hl : ds.length = n) (hr : ds.map some ++ List.replicate (N - n) none = r) (e : EndsW P (b r h) h i j p) : dFn n N b ds h = outW h i j p := by
  unfold outW
  cases q : p.2 with
  | true =>
    obtain ⟨r1, _, e1⟩ := e.1 q
    rw [fn_nx hr e1 hl]
    rfl
  | false =>
    obtain ⟨r1, e1⟩ := e.2 q
    rw [fn_er hr e1 hl]
    rfl
theorem exprW {f : Ex} {r : Rho} {P : Rho → Prop} {p : Dk × Bool} (hp : P r) (e : f r h = outW h i j p) : EndsW P (zExpr f r h) h i j p := by
  refine ⟨fun q => ⟨r, hp, ?_⟩, fun q => ⟨r, ?_⟩⟩
  · rw [zExpr_, e, outW, if_pos q]; rfl
  · rw [zExpr_, e, outW, if_neg (by rw [q]; decide)]; rfl
/-- a loop, each turn of which writes a block -/
theorem loopW {G : Gx} {body : Sx} (ne : i ≠ j) (P : Rho → Prop) (Q : Dk → Prop) : ∀ (items : List (D × Int × Blk)) (r : Rho) (hh : DH) (dd : Dk), P r → DkAt hh i j dd → Q dd →
    (∀ x ∈ items, ∀ r hh dd, P r → DkAt hh i j dd → Q dd → ∃ r1, G x.1 r = some r1 ∧ EndsW P (body r1 hh) hh i j (dd.writes [x.2])) →
    (∀ x ∈ items, ∀ dd d', Q dd → dd.write x.2.1 x.2.2 = some d' → Q d') →
    EndsW P (zLoop G body (items.map (·.1)) r hh) hh i j (dd.writes (items.map (·.2)))
  | [], r, hh, dd, hp, A, hq, _, _ => ⟨fun _ => ⟨r, hp, by simp [zLoop, Dk.writes, putDk_self A]⟩, fun z => by cases z⟩
  | x :: items, r, hh, dd, hp, A, hq, turn, keep => by
    obtain ⟨r1, e1, e2⟩ := turn x List.mem_cons_self r hh dd hp A hq
    simp only [List.map_cons]
    have ex : x.2 = (x.2.1, x.2.2) := rfl
    cases e : dd.write x.2.1 x.2.2 with
    | none =>
      rw [ex, Dk.writes_cons_none e]
      rw [ex, Dk.writes_cons_none e] at e2
      obtain ⟨r2, e3⟩ := e2.2 rfl
      refine ⟨fun z => (by cases z), fun _ => ⟨r2, ?_⟩⟩
      rw [zLoop, e1]
      simp only [e3]
    | some d' =>
      rw [ex, Dk.writes_cons_some e]
      rw [ex, Dk.writes_cons_some e] at e2
      obtain ⟨r2, p2, e3⟩ := e2.1 rfl
      have A' : DkAt (putDk hh i j d') i j d' := A.put d'
      have ih := loopW ne P Q items r2 (putDk hh i j d') d' p2 A' (keep x List.mem_cons_self dd d' hq e) (fun y hy => turn y (List.mem_cons_of_mem _ hy)) (fun y hy => keep y (List.mem_cons_of_mem _ hy))
      have eg : zLoop G body (x.1 :: items.map (·.1)) r hh = zLoop G body (items.map (·.1)) r2 (putDk hh i j d') := by
        rw [zLoop, e1]
        simp only [e3]
        rfl
      rw [eg]
      refine ⟨fun z => ?_, fun z => ?_⟩
      · obtain ⟨r3, p3, e4⟩ := ih.1 z
        exact ⟨r3, p3, by rw [e4, putDk_put ne]⟩
      · obtain ⟨r3, e4⟩ := ih.2 z
        exact ⟨r3, by rw [e4, putDk_put ne]⟩
/-! ### put_in_place -/
def pipW (R : List Blk) : Nat → List Int → List (Int × Blk)
  | _, [] => []
  | k, b :: bs => (b, row R (1 + k)) :: pipW R (k + 1) bs
theorem row_set {R : List Blk} {z y : Int} {b : Blk} (hz : 0 ≤ z) (hy : 0 ≤ y) (ne : z ≠ y) : row (R.set z.toNat b) y = row R y := by
  unfold row
  have : z.toNat ≠ y.toNat := by omega
  simp [List.getD_eq_getElem?_getD, List.getElem?_set_ne this]
theorem row_set_self {R : List Blk} {z : Int} {b : Blk} (hz : 0 ≤ z) (hl : z < R.length) : row (R.set z.toNat b) z = b := by
  unfold row
  have : z.toNat < R.length := by omega
  simp [List.getD_eq_getElem?_getD, this]
theorem enum_items (R : List Blk) : ∀ (k : Nat) (bs : List Int), (enumD k (bs.map .int)) = ((pipW R k bs).zip (List.range' k bs.length)).map fun x => .tup [.int (x.2 : Int), .int x.1.1]
  | k, [] => by simp [enumD, pipW]
  | k, b :: bs => by
    have ih := enum_items R (k + 1) bs
    simp only [List.map_cons, enumD, pipW, List.length_cons, List.range'_succ, List.zip_cons_cons, ih]
theorem pipW_len (R : List Blk) : ∀ (k : Nat) (bs : List Int), (pipW R k bs).length = bs.length
  | k, [] => rfl
  | k, b :: bs => by simp [pipW, pipW_len R (k + 1) bs]
theorem pipW_mem {R : List Blk} : ∀ {k : Nat} {bs : List Int} {x : (Int × Blk) × Nat}, x ∈ (pipW R k bs).zip (List.range' k bs.length) → x.1.1 ∈ bs ∧ x.1.2 = row R (1 + x.2) ∧ k ≤ x.2 ∧ x.2 < k + bs.length
  | k, [], x, h => by simp [pipW] at h
  | k, b :: bs, x, h => by
    simp only [pipW, List.length_cons, List.range'_succ, List.zip_cons_cons, List.mem_cons] at h
    rcases h with e | h
    · subst e
      refine ⟨List.mem_cons_self, rfl, Nat.le_refl _, ?_⟩
      show k < k + (bs.length + 1)
      omega
    · obtain ⟨h1, h2, h3, h4⟩ := pipW_mem h
      exact ⟨List.mem_cons_of_mem _ h1, h2, by omega, by simp only [List.length_cons]; omega⟩
theorem m_put_in_place (A : DkAt h i j d) (bs : List Int) (hl : bs.length ≤ 7) (hb : ∀ b ∈ bs, 8 < b ∧ b < d.R.length) (hg : ∀ k : Int, 1 ≤ k → k ≤ 7 → goodB (row d.R k)) (h8 : 8 < d.R.length) :
    F_put_in_place [.ref i, .lst (bs.map .int)] h = outW h i j (d.writes (pipW d.R 0 bs ++ [(0, zeroB)])) := by
  unfold F_put_in_place B_put_in_place
  refine fnW (P := fun _ => True) (r := [some (.ref i), some (.lst (bs.map .int)), none, none]) rfl rfl (seqW (P := fun r => r[0]? = some (some (.ref i)) ∧ r.length = 4) A.ne ?_ fun r1 p1 q => ?_)
  · have e0 : iEnumD (xCons (xVar 1) (xNil)) [some (.ref i), some (.lst (bs.map .int)), none, none] h = .ok (enumD 0 (bs.map .int)) h := by
      simp [iEnumD, xVar, itE]
    rw [for_go e0]
    have key := loopW (i := i) (j := j) (G := gTp 2 (gsConsD (gN 2) (gsConsD (gN 3) (gsNilD)))) (body := zExpr (xMeth .disk F_Disk_write (xVar 0) (xCons (xVar 3) (xCons (xMeth .disk F_Disk_read (xVar 0) (xCons (xBin oAdd (xC (.int 1)) (xVar 2)) (xNil))) (xNil))))) A.ne (fun r => r[0]? = some (some (.ref i)) ∧ r.length = 4) (fun dd => dd.R.length = d.R.length ∧ ∀ k : Int, 1 ≤ k → k ≤ 7 → row dd.R k = row d.R k)
      (((pipW d.R 0 bs).zip (List.range' 0 bs.length)).map fun x => (.tup [.int (x.2 : Int), .int x.1.1], x.1)) [some (.ref i), some (.lst (bs.map .int)), none, none] h d ⟨rfl, rfl⟩ A ⟨rfl, fun _ _ _ => rfl⟩ (fun x hx r hh dd hp A2 hq => ?_) (fun x hx dd d' hq e => ?_)
    · rw [List.map_map, List.map_map] at key
      have e1 : (List.map ((fun x : D × Int × Blk => x.1) ∘ fun x : (Int × Blk) × Nat => (D.tup [.int (x.2 : Int), .int x.1.1], x.1)) ((pipW d.R 0 bs).zip (List.range' 0 bs.length))) = enumD 0 (bs.map .int) := (enum_items d.R 0 bs).symm
      have e2 : (List.map ((fun x : D × Int × Blk => x.2) ∘ fun x : (Int × Blk) × Nat => (D.tup [.int (x.2 : Int), .int x.1.1], x.1)) ((pipW d.R 0 bs).zip (List.range' 0 bs.length))) = pipW d.R 0 bs := by
        have : ((fun x : D × Int × Blk => x.2) ∘ fun x : (Int × Blk) × Nat => (D.tup [.int (x.2 : Int), .int x.1.1], x.1)) = Prod.fst := rfl
        rw [this, List.map_fst_zip]
        rw [pipW_len, List.length_range']
        exact Nat.le_refl _
      rw [e1, e2] at key
      exact key
    · obtain ⟨y, hy, rfl⟩ := List.mem_map.mp hx
      obtain ⟨⟨z, b⟩, k⟩ := y
      obtain ⟨m1, m2, m3, m4⟩ := pipW_mem hy
      simp only at m1 m2 m3 m4
      obtain ⟨b1, b2⟩ := hb z m1
      obtain ⟨hp0, hp1⟩ := hp
      match r, hp1, hp0 with
      | [a, b', c, e], _, hp0 =>
        have ea : a = some (.ref i) := by simpa using hp0
        subst ea
        refine ⟨[some (.ref i), b', some (.int (k : Int)), some (.int z)], by simp [gTp, gsConsD, gN, gsNilD], exprW ⟨rfl, rfl⟩ ?_⟩
        have hk1 : (1 : Int) ≤ 1 + (k : Int) := by omega
        have hk2 : 1 + (k : Int) ≤ 7 := by omega
        have er := mread A2 (1 + (k : Int)) (by omega) (by rw [hq.1]; omega)
        rw [hq.2 _ hk1 hk2] at er
        have gg := hg (1 + (k : Int)) hk1 hk2
        have ew := mwrite1 A2 z (row d.R (1 + (k : Int))) (by omega) (by rw [hq.1]; omega) gg
        subst m2
        simp [xVar, A2.isCl, er, ew]
    · obtain ⟨y, hy, rfl⟩ := List.mem_map.mp hx
      obtain ⟨⟨z, b⟩, k⟩ := y
      obtain ⟨m1, m2, m3, m4⟩ := pipW_mem hy
      obtain ⟨b1, b2⟩ := hb z m1
      simp only at e
      rw [Dk.write_R e]
      refine ⟨by rw [List.length_set]; exact hq.1, fun k' k1 k2 => ?_⟩
      rw [row_set (by omega) (by omega) (by omega)]
      exact hq.2 k' k1 k2
  · obtain ⟨hp0, hp1⟩ := p1
    match r1, hp1, hp0 with
    | [a, b', c, e], _, hp0 =>
      have ea : a = some (.ref i) := by simpa using hp0
      subst ea
      have A2 := A.put (d.writes (pipW d.R 0 bs)).1
      refine exprW trivial ?_
      have ew := mwrite1 A2 0 zeroB (by omega) (by rw [Dk.writes_len]; omega) zeroB_good
      simp [xVar, A2.isCl, free_dB, ew]
end
end DL
set_option maxRecDepth 100000
set_option maxHeartbeats 2000000
namespace DL
open PySem PySem.Spec L2
open PyProof.Rows hiding St
section
variable {h : DH} {i j : Nat} {d d' : Dk}
/-- the blocks that the journal's head tells -/
def pendB (b : Blk) : List Int := cutL b (some 1) (some (1 + at0 b 0))
def pendA (b : Blk) : Bool := decide (at0 b 0 ≤ 7) && decide (cutL b (some (1 + at0 b 0)) none = List.replicate (7 - at0 b 0).toNat 0)
def pendC (R : List Blk) : Bool := ((pendB (row R 0)).all fun z => decide (8 < z ∧ z < R.length)) && decide (pendB (row R 0) = dupI (sortI (pendB (row R 0))))
def pendOk (R : List Blk) : Bool := pendA (row R 0) && pendC R
theorem cutL_len {α : Type} (b : List α) (lo hi : Option Int) : (cutL b lo hi).length ≤ b.length := by
  unfold cutL
  rw [List.length_take, List.length_drop]
  omega
theorem intsOf_map (ns : List Int) : intsOf (ns.map .int) = some ns := by
  induction ns with
  | nil => rfl
  | cons n ns ih => simp [intsOf, ih]
theorem oSortedSet_ints (h : DH) (ns : List Int) (hl : ns.length < 64) : oSortedSet h (.lst (ns.map .int)) = some (.lst ((dupI (sortI ns)).map .int)) := by
  simp [oSortedSet, lstOf, intsOf_map, hl]
theorem shp_ints (a : List Int) : shpD (.lst (a.map .int)) = true := by
  unfold shpD
  simp [okD, depD, okL_ints, depL_ints]
theorem oNe_ints (h : DH) (a b : List Int) : oNe h (.lst (a.map .int)) (.lst (b.map .int)) = some (.bl (!decide (a = b))) := by
  simp [oNe, oEqB, derefL, shp_ints, eqD, eqL_ints]
theorem oList_dB (h : DH) (b : Blk) : oList h (dB b) = some (.lst (b.map .int)) := by simp [oList, dB, seqOf]
theorem m_pending (A : DkAt h i j d) (h8 : 8 < d.R.length) (g : goodB (row d.R 0)) : F_pending [.ref i] h = if pendOk d.R then .ok (.lst ((pendB (row d.R 0)).map .int)) h else .er .badDisk h := by
  have hr := mread A 0 (by omega) (by omega)
  have ix := fun hp => oIx_dB hp (row d.R 0) 0 (by omega) (by have := g.len; omega)
  have hn : 0 ≤ at0 (row d.R 0) 0 := by
    have hl := g.len
    unfold at0
    have : (0 : Int).toNat < (row d.R 0).length := by simp [hl]
    rw [List.getD_eq_getElem?_getD, List.getElem?_eq_getElem this]
    exact (g.le _ (List.getElem_mem this)).1
  have hpl : (pendB (row d.R 0)).length ≤ 8 := by
    have := cutL_len (row d.R 0) (some 1) (some (1 + at0 (row d.R 0) 0))
    rw [g.len] at this
    exact this
  have eb : pendB (row d.R 0) = cutL (row d.R 0) (some 1) (some (1 + at0 (row d.R 0) 0)) := rfl
  unfold pendOk pendC pendA
  generalize pendB (row d.R 0) = bs at *
  generalize at0 (row d.R 0) 0 = n at *
  generalize row d.R 0 = b at *
  have hc : ∀ r : Rho, r[0]? = some (some (.ref i)) → r[2]? = some (some (.lst (bs.map .int))) → r.length = 4 → xComp (iLst (xVar 2)) [3] (gN 3) (yNot (xTB (xChain oLt oLt (xC c_HEAD) (xVar 3) (xMeth .disk F_Disk_size (xVar 0) xNil)))) (xVar 3) r h = .ok (.lst ((bs.filter fun z => !decide (8 < z ∧ z < (d.R.length : Int))).map .int)) h := fun r r0 r2 rl => by
    refine xComp_go (ds := bs.map .int) (h1 := h) (by simp [iLst, xVar, r2, itL]) ?_
    rw [zComp_pure (G := gN 3) (fun x => match x with | .int z => !decide (8 < z ∧ z < (d.R.length : Int)) | _ => false) id (bs.map .int) [] (fun x hx => ?_) (by simp; exact lt_sizeLine _ (by omega))]
    · simp only [List.nil_append, List.filter_map, List.map_map]
      congr 1
    · obtain ⟨z, hz, rfl⟩ := List.mem_map.mp hx
      match r, rl, r0, r2 with
      | [a0, a1, a2, a3], _, r0, r2 =>
        have e0 : a0 = some (.ref i) := by simpa using r0
        subst e0
        refine ⟨_, rfl, ?_, fun _ => ?_⟩
        · have ch : ∀ rr : Rho, rr[3]? = some (some (.int z)) → rr[0]? = some (some (.ref i)) → xChain oLt oLt (xC c_HEAD) (xVar 3) (xMeth .disk F_Disk_size (xVar 0) xNil) rr h = .ok (.bl (decide (8 < z ∧ z < d.R.length))) h := fun rr h3 h0 => chain_ltlt rfl (by simp [xVar, h3]) (by simp [xVar, h0, A.isCl, msize A])
          simp [wipeR, ch]
        · simp [wipeR, xVar]
  have t1 : zAsg (xMeth .disk F_Disk_read (xVar 0) (xCons (xC (.int 0)) (xNil))) (gN 1) [some (.ref i), none, none, none] h = .nx [some (.ref i), some (dB b), none, none] h := by
    simp [xVar, A.isCl, hr]
  have t2 : zAsg (xUn oList (xSl (xVar 1) (xPart (xC (.int 1))) (xPart (xBin oAdd (xC (.int 1)) (xBin oIx (xVar 1) (xC (.int 0))))))) (gN 2) [some (.ref i), some (dB b), none, none] h = .nx [some (.ref i), some (dB b), some (.lst (bs.map .int)), none] h := by
    simp [xVar, ix, oSl_dB, oList_dB, eb]
  have t3 : (yOr (xTB (xBin oGt (xBin oIx (xVar 1) (xC (.int 0))) (xC c_MOST_WRITES))) (xTB (xBin oNe (xSl (xVar 1) (xPart (xBin oAdd (xC (.int 1)) (xBin oIx (xVar 1) (xC (.int 0))))) (xNoPart)) (xBin oMul (xTup (xCons (xC (.int 0)) (xNil))) (xBin oSub (xC c_MOST_WRITES) (xBin oIx (xVar 1) (xC (.int 0)))))))) [some (.ref i), some (dB b), some (.lst (bs.map .int)), none] h = .ok (!(decide (n ≤ 7) && decide (cutL b (some (1 + n)) none = List.replicate (7 - n).toNat 0))) h := by
    by_cases k : n ≤ 7
    · have k2 : ¬ 7 < n := by omega
      have k3 : 7 - n ≤ 1000 := by omega
      have k4 : -1000 ≤ 7 - n := by omega
      simp [xVar, ix, c_MOST_WRITES, k, k2, oSl_dB, tup_dB1, oMul_dB _ _ _ k3 k4]
    · have k2 : 7 < n := by omega
      simp [xVar, ix, c_MOST_WRITES, k, k2]
  have t4 : (yOr (xTru (xComp (iLst (xVar 2)) [3] (gN 3) (yNot (xTB (xChain oLt oLt (xC c_HEAD) (xVar 3) (xMeth .disk F_Disk_size (xVar 0) xNil)))) (xVar 3))) (xTB (xBin oNe (xVar 2) (xUn oSortedSet (xVar 2))))) [some (.ref i), some (dB b), some (.lst (bs.map .int)), none] h = .ok (!((bs.all fun z => decide (8 < z ∧ z < (d.R.length : Int))) && decide (bs = dupI (sortI bs)))) h := by
    have e1 := hc [some (.ref i), some (dB b), some (.lst (bs.map .int)), none] rfl rfl rfl
    have e2 : (bs.filter fun z => !decide (8 < z ∧ z < (d.R.length : Int))).isEmpty = bs.all fun z => decide (8 < z ∧ z < (d.R.length : Int)) := by
      rw [Bool.eq_iff_iff, List.isEmpty_iff, List.filter_eq_nil_iff, List.all_eq_true]
      simp
    cases q : bs.all fun z => decide (8 < z ∧ z < (d.R.length : Int)) with
    | true =>
      rw [q] at e2
      have e3 : truD h (.lst ((bs.filter fun z => !decide (8 < z ∧ z < (d.R.length : Int))).map .int)) = some false := by simp only [truD, List.isEmpty_map, e2]; rfl
      rw [yOr_, xTru_, e1]
      simp only [bnd_ok_, e3, of_some_]
      simp [xVar, oSortedSet_ints h bs (by omega), oNe_ints]
    | false =>
      rw [q] at e2
      have e3 : truD h (.lst ((bs.filter fun z => !decide (8 < z ∧ z < (d.R.length : Int))).map .int)) = some true := by simp only [truD, List.isEmpty_map, e2]; rfl
      rw [yOr_, xTru_, e1]
      simp only [bnd_ok_, e3, of_some_]
      simp
  unfold F_pending B_pending dFn
  simp only [List.length_cons, List.length_nil, if_true, List.map_cons, List.map_nil, List.replicate, List.nil_append, List.cons_append, Nat.reduceSub, Nat.reduceAdd]
  rw [seq_go t1, seq_go t2]
  generalize (decide (n ≤ 7) && decide (cutL b (some (1 + n)) none = List.replicate (7 - n).toNat 0)) = qa at t3 ⊢
  generalize ((bs.all fun z => decide (8 < z ∧ z < (d.R.length : Int))) && decide (bs = dupI (sortI bs))) = qb at t4 ⊢
  cases qa <;> cases qb <;> simp [t3, t4, xVar]
end
end DL
set_option maxRecDepth 100000
set_option maxHeartbeats 2000000
namespace DL
open PySem PySem.Spec L2
open PyProof.Rows hiding St
section
variable {h : DH} {i j : Nat} {d d' : Dk}
/-- a disk of good blocks -/
structure GoodR (R : List Blk) : Prop where
  len : 20 ≤ R.length
  top : R.length ≤ 200
  all : ∀ b ∈ R, goodB b
theorem GoodR.row {R : List Blk} (G : GoodR R) {z : Int} (h0 : 0 ≤ z) (h1 : z < R.length) : goodB (row R z) := by
  unfold DL.row
  have : z.toNat < R.length := by omega
  rw [List.getD_eq_getElem?_getD, List.getElem?_eq_getElem this]
  exact G.all _ (List.getElem_mem this)
theorem GoodR.set {R : List Blk} (G : GoodR R) (n : Nat) {b : Blk} (g : goodB b) : GoodR (R.set n b) :=
  ⟨by rw [List.length_set]; exact G.len, by rw [List.length_set]; exact G.top, fun x hx => by
    rcases List.mem_or_eq_of_mem_set hx with e | e
    · exact G.all x e
    · rw [e]; exact g⟩
def comeW (R : List Blk) : List (Int × Blk) := if pendB (row R 0) = [] then [] else pipW R 0 (pendB (row R 0)) ++ [(0, zeroB)]
theorem pendB_len {b : Blk} (g : b.length = 8) : (pendB b).length ≤ 7 := by
  unfold pendB cutL
  have e : HT.sIx b.length 0 (some 1) = 1 := by rw [g]; rfl
  rw [List.length_take, List.length_drop, e, g]
  omega
theorem m_come_back (A : DkAt h i j d) (G : GoodR d.R) : F_come_back [.ref i] h = if pendOk d.R then outW h i j (d.writes (comeW d.R)) else .er .badDisk h := by
  have hl := G.len
  have g0 := G.row (z := 0) (by omega) (by omega)
  have hp := m_pending A (by omega) g0
  cases q : pendOk d.R with
  | false =>
    rw [q] at hp
    unfold F_come_back B_come_back dFn
    simp [xVar, hp]
  | true =>
    rw [q] at hp
    unfold comeW
    have hbl := pendB_len g0.len
    have hc : ∀ z ∈ pendB (row d.R 0), 8 < z ∧ z < (d.R.length : Int) := by
      unfold pendOk pendC at q
      simp only [Bool.and_eq_true, List.all_eq_true, decide_eq_true_eq] at q
      exact q.2.1
    generalize hbs : pendB (row d.R 0) = bs at *
    unfold F_come_back B_come_back
    have t1 : zAsg (xCall F_pending (xCons (xVar 0) (xNil))) (gN 1) [some (.ref i), none] h = .nx [some (.ref i), some (.lst (bs.map .int))] h := by
      simp [xVar, hp]
    cases eb : bs with
    | nil =>
      subst eb
      simp only [if_true]
      have t2 : zIf (xTru (xVar 1)) (zExpr (xCall F_put_in_place (xCons (xVar 0) (xCons (xVar 1) (xNil))))) (zNext) [some (.ref i), some (.lst [])] h = .nx [some (.ref i), some (.lst [])] h := by
        simp [xVar, truD]
      rw [fn_nx (r := [some (.ref i), none]) (r1 := [some (.ref i), some (.lst [])]) (h1 := h) rfl ((seq_go t1).trans t2)]
      simp [outW, Dk.writes, putDk_self A]
    | cons z zs =>
      have ne : bs ≠ [] := by rw [eb]; simp
      rw [if_pos rfl, if_neg (List.cons_ne_nil z zs)]
      rw [← eb]
      refine fnW (P := fun _ => True) (r := [some (.ref i), none]) rfl rfl ?_
      rw [seq_go t1]
      have t2 : zIf (xTru (xVar 1)) (zExpr (xCall F_put_in_place (xCons (xVar 0) (xCons (xVar 1) (xNil))))) (zNext) [some (.ref i), some (.lst (bs.map .int))] h = zExpr (xCall F_put_in_place (xCons (xVar 0) (xCons (xVar 1) (xNil)))) [some (.ref i), some (.lst (bs.map .int))] h := by
        rw [zIf_]
        have : truD h (.lst (bs.map .int)) = some true := by
          rw [eb]
          rfl
        simp only [xTru_, xVar, List.getElem?_cons_succ, List.getElem?_cons_zero, bnd_ok_, this, of_some_, toS_ok_]
      rw [t2]
      refine exprW trivial ?_
      have ep := m_put_in_place A bs hbl hc (fun k k1 k2 => G.row (by omega) (by omega)) (by omega)
      simp [xVar, ep]
theorem m_look_disk (A : DkAt h i j d) (G : GoodR d.R) : F_look_disk [.ref i] h = if headOk d.R && pendOk d.R then .ok .non h else .er .badDisk h := by
  have hl := G.len
  have g0 := G.row (z := 0) (by omega) (by omega)
  have g8 := G.row (z := 8) (by omega) (by omega)
  have hp := m_pending A (by omega) g0
  have hh := m_nodes_of A (by omega) g8.len
  have ho : isOwnB .disk h (.ref i) = some (.bl true) := by simp [isOwnB, tkOf, A.o, A.isCl]
  unfold F_look_disk B_look_disk dFn
  cases q1 : headOk d.R with
  | false =>
    rw [q1] at hh
    simp [xVar, ho, hh]
  | true =>
    rw [q1] at hh
    cases q2 : pendOk d.R with
    | false =>
      rw [q2] at hp
      simp [xVar, ho, hh, hp]
    | true =>
      rw [q2] at hp
      simp [xVar, ho, hh, hp]
theorem m_look_none (x : D) (hx : isOwnB .disk h x = some (.bl false)) : F_look_disk [x] h = .er .badDisk h := by
  unfold F_look_disk B_look_disk dFn
  simp [xVar, hx]
def outO (h : DH) (o i j : Nat) (p : Dk × Bool) : Out D := if p.2 then .ok .non ((putDk h i j p.1).set o (.ins .drawers [.ref i])) else .er .stopped (putDk h i j p.1)
theorem m_Drawers_init {o : Nat} (A : DkAt h i j d) (G : GoodR d.R) (ho : h[o]? = some (.ins .drawers [])) : F_Drawers_init__ [.ref o, .ref i] h = if headOk d.R && pendOk d.R then outO h o i j (d.writes (comeW d.R)) else .er .badDisk h := by
  have hk := m_look_disk A G
  have hb := m_come_back A G
  unfold F_Drawers_init__ B_Drawers_init__ dFn
  cases q : (headOk d.R && pendOk d.R) with
  | false =>
    rw [q] at hk
    simp [xVar, hk]
  | true =>
    rw [q] at hk
    rw [Bool.and_eq_true] at q
    rw [q.2] at hb
    have oi : o ≠ i := fun z => by rw [z, A.o] at ho; cases ho
    have oj : o ≠ j := fun z => by rw [z, A.l] at ho; cases ho
    unfold outO
    cases q3 : (d.writes (comeW d.R)).2 with
    | false =>
      simp only [outW, q3] at hb
      simp [xVar, hk, hb]
    | true =>
      simp only [outW, q3] at hb
      have ho' : (putDk h i j (d.writes (comeW d.R)).1)[o]? = some (.ins .drawers []) := by rw [putDk_ne oi oj]; exact ho
      simp [xVar, hk, hb, zFld, setFld, ho', putFd]
/-! ### set_up -/
def setW (n : Nat) : List (Int × Blk) := (0, zeroB) :: ((List.range' 1 (n - 1)).map fun k : Nat => (9 + (k : Int), zeroB)) ++ [(9, [2, 1, 0, 0, 0, 0, 0, 0]), (8, headB n)]
theorem rng2_nat (a b : Nat) (hb : b ≤ 1000000) (ha : a ≤ 1000000) : rng2 [.int (a : Int), .int (b : Int)] = some ((List.range' a (b - a)).map fun k : Nat => D.int (k : Int)) := by
  have r1 : -4611686018427387904 ≤ (a : Int) := by omega
  have r2 : (a : Int) < 4611686018427387904 := by omega
  have r3 : -4611686018427387904 ≤ (b : Int) := by omega
  have r4 : (b : Int) < 4611686018427387904 := by omega
  unfold rng2
  simp only [Int.reducePow, Int.reduceNeg, r1, r2, r3, r4, and_self, if_true]
  congr 1
  have e : ((b : Int) - (a : Int)).toNat = b - a := by omega
  rw [e]
  clear e r1 r2 r3 r4 ha hb
  generalize b - a = n
  induction n generalizing a with
  | zero => rfl
  | succ n ih =>
    rw [intsD, List.range'_succ, List.map_cons]
    congr 1
    have := ih (a + 1)
    rw [← this]
    congr 1
theorem m_set_up_no (A : DkAt h i j d) (x : D) (k : kindly h x = true) (hx : isW x 1 30 = false ∨ ∃ n : Int, x = .int n ∧ (d.R.length : Int) < 9 + n + 1) : F_set_up [.ref i, x] h = .er .badNumber h := by
  unfold F_set_up B_set_up dFn
  cases q : isW x 1 30 with
  | false => simp [xVar, m_is_within h x 1 30 k, q]
  | true =>
    rw [q] at hx
    rcases hx with e | ⟨n, rfl, e⟩
    · cases e
    · simp [xVar, m_is_within h (.int n) 1 30 k, q, A.isCl, msize A, e]
theorem m_set_up (A : DkAt h i j d) (n : Nat) (h1 : 1 ≤ n) (h2 : n ≤ 30) (h3 : 9 + n + 1 ≤ d.R.length) : F_set_up [.ref i, .int (n : Int)] h = outW h i j (d.writes (setW n)) := by
  unfold F_set_up B_set_up
  refine fnW (P := fun _ => True) (r := [some (.ref i), some (.int (n : Int)), none]) rfl rfl ?_
  have t0 : zIf (yOr (yNot (xTru (xCall F_is_within (xCons (xVar 1) (xCons (xC (.int 1)) (xCons (xC (.int 30)) (xNil))))))) (xTB (xBin oLt (xMeth .disk F_Disk_size (xVar 0) xNil) (xBin oAdd (xCall F_first_data (xCons (xVar 1) (xNil))) (xC (.int 1)))))) (zRaise .badNumber) (zNext) [some (.ref i), some (.int (n : Int)), none] h = .nx [some (.ref i), some (.int (n : Int)), none] h := by
    have q : isW (.int (n : Int)) 1 30 = true := by simp [isW]; omega
    have q2 : ¬ ((d.R.length : Int) < 9 + (n : Int) + 1) := by omega
    simp [xVar, m_is_within h (.int (n : Int)) 1 30 rfl, q, A.isCl, msize A, q2]
  rw [seq_go t0]
  have ew : setW n = [(0, zeroB)] ++ (((List.range' 1 (n - 1)).map fun k : Nat => ((9 : Int) + (k : Int), zeroB)) ++ ([(9, [2, 1, 0, 0, 0, 0, 0, 0])] ++ [(8, headB n)])) := rfl
  rw [ew]
  have P : Rho → Prop := fun r => r[0]? = some (some (.ref i)) ∧ r[1]? = some (some (.int (n : Int))) ∧ r.length = 3
  refine seqW (P := fun r => r[0]? = some (some (.ref i)) ∧ r[1]? = some (some (.int (n : Int))) ∧ r.length = 3) A.ne (exprW ⟨rfl, rfl, rfl⟩ ?_) fun r1 p1 q => ?_
  · have e := mwrite1 A 0 zeroB (by omega) (by omega) zeroB_good
    simp [xVar, A.isCl, free_dB, e]
  have A1 := A.put (d.writes [(0, zeroB)]).1
  have l1 : (d.writes [(0, zeroB)]).1.R.length = d.R.length := Dk.writes_len _ _
  generalize (d.writes [(0, zeroB)]).1 = d1 at *
  generalize putDk h i j d1 = hh1 at *
  obtain ⟨p10, p11, p12⟩ := p1
  match r1, p12, p10, p11 with
  | [a, b, c], _, p10, p11 =>
  have ea : a = some (.ref i) := by simpa using p10
  have eb : b = some (.int (n : Int)) := by simpa using p11
  subst ea eb
  refine seqW (P := fun r => r[0]? = some (some (.ref i)) ∧ r[1]? = some (some (.int (n : Int))) ∧ r.length = 3) A.ne ?_ fun r2 p2 q2 => ?_
  · have e0 : iRg2 (xCons (xC (.int 1)) (xCons (xVar 1) (xNil))) [some (.ref i), some (.int (n : Int)), c] hh1 = .ok ((List.range' 1 (n - 1)).map fun k : Nat => D.int (k : Int)) hh1 := by
      have := rng2_nat 1 n (by omega) (by omega)
      exact it_of (f := rng2) (h1 := hh1) (by simp [xVar]) this
    rw [for_go e0]
    have key := loopW (i := i) (j := j) (G := gN 2) (body := zExpr (xMeth .disk F_Disk_write (xVar 0) (xCons (xBin oAdd (xC c_FIRST_NODE) (xVar 2)) (xCons (xC c_FREE) (xNil))))) A.ne (fun r => r[0]? = some (some (.ref i)) ∧ r[1]? = some (some (.int (n : Int))) ∧ r.length = 3) (fun dd => dd.R.length = d.R.length)
      ((List.range' 1 (n - 1)).map fun k : Nat => (D.int (k : Int), ((9 : Int) + (k : Int), zeroB))) [some (.ref i), some (.int (n : Int)), c] hh1 d1 ⟨rfl, rfl, rfl⟩ A1 l1 (fun x hx r hh dd hp A2 hq => ?_) (fun x hx dd d' hq e => ?_)
    · rw [List.map_map, List.map_map] at key
      exact key
    · obtain ⟨k, hk, rfl⟩ := List.mem_map.mp hx
      rw [List.mem_range'_1] at hk
      obtain ⟨hp0, hp1, hp2⟩ := hp
      match r, hp2, hp0, hp1 with
      | [a, b, c], _, hp0, hp1 =>
      have ea : a = some (.ref i) := by simpa using hp0
      have eb : b = some (.int (n : Int)) := by simpa using hp1
      subst ea eb
      refine ⟨_, rfl, exprW ⟨rfl, rfl, rfl⟩ ?_⟩
      have e := mwrite1 A2 (9 + (k : Int)) zeroB (by omega) (by rw [hq]; omega) zeroB_good
      simp [xVar, A2.isCl, free_dB, c_FIRST_NODE, e]
    · rw [Dk.write_R e, List.length_set]
      exact hq
  have A2 := A1.put (d1.writes ((List.range' 1 (n - 1)).map fun k : Nat => ((9 : Int) + (k : Int), zeroB))).1
  have l2 : (d1.writes ((List.range' 1 (n - 1)).map fun k : Nat => ((9 : Int) + (k : Int), zeroB))).1.R.length = d.R.length := by rw [Dk.writes_len]; exact l1
  generalize (d1.writes ((List.range' 1 (n - 1)).map fun k : Nat => ((9 : Int) + (k : Int), zeroB))).1 = d2 at *
  generalize putDk hh1 i j d2 = hh2 at *
  obtain ⟨p20, p21, p22⟩ := p2
  match r2, p22, p20, p21 with
  | [a, b, c'], _, p20, p21 =>
  have ea : a = some (.ref i) := by simpa using p20
  have eb : b = some (.int (n : Int)) := by simpa using p21
  subst ea eb
  refine seqW (P := fun r => r = [some (.ref i), some (.int (n : Int)), c']) A.ne (exprW rfl ?_) fun r3 p3 q3 => ?_
  · have e := mwrite1 A2 9 [2, 1, 0, 0, 0, 0, 0, 0] (by omega) (by omega) ⟨rfl, by decide⟩
    simp [xVar, A2.isCl, c_FIRST_NODE, c_DRAWER, c_CELLS, tup_dB1, tup_dB2, oMul_dB, oAdd_dB, e]
  subst p3
  have A3 := A2.put (d2.writes [(9, [2, 1, 0, 0, 0, 0, 0, 0])]).1
  have l3 : (d2.writes [(9, [2, 1, 0, 0, 0, 0, 0, 0])]).1.R.length = d.R.length := by rw [Dk.writes_len]; exact l2
  refine exprW trivial ?_
  have e := mwrite1 A3 8 (headB n) (by omega) (by omega) ⟨rfl, by
    intro x hx
    simp only [headB, List.mem_cons, List.not_mem_nil, or_false] at hx
    omega⟩
  unfold headB at e ⊢
  simp [xVar, A3.isCl, c_HEAD, c_MARK, c_CELLS, tup_dB1, tup_dB2, oMul_dB, oAdd_dB, e]
end
end DL
set_option maxRecDepth 100000
set_option maxHeartbeats 2000000
namespace DL
open PySem PySem.Spec L2
open PyProof.Rows hiding St
/-! ### numbers drawn from the script -/
theorem m_law_cell (ns : List Int) (k : Nat) (h : DH) : F_law_cell [.scr ns, .int (k : Int)] h = .ok (.int (cellN ns k)) h := by
  unfold F_law_cell B_law_cell dFn cellN
  by_cases hk : k < ns.length
  · have h1 : (k : Int) < (ns.length : Int) := by omega
    simp [xVar, oLen, oLt, h1, oIx, L2.atI, ixN, hk]
  · have h1 : ¬ (k : Int) < (ns.length : Int) := by omega
    have h2 : ns.getD k 0 = 0 := by simp [List.getD, List.getElem?_eq_none (Nat.le_of_not_lt hk)]
    simp [xVar, oLen, oLt, h1, hk]
theorem m_law_mix (c p m : Int) (h : DH) (hp : 0 < p ∧ p < 1000000) (hm : 0 < m) : F_law_mix [.int c, .int p, .int m] h = .ok (.int (mixZ c p m)) h := by
  have h1 := Int.emod_nonneg (c * 48271) (show p ≠ 0 by omega)
  have h2 := Int.emod_lt_of_pos (c * 48271) hp.1
  have h3 : (c * 48271 % p).natAbs < 2 ^ 64 := by omega
  unfold F_law_mix B_law_mix dFn mixZ
  simp [xVar, oMul_r _ c 48271 (by omega), oMod_p _ _ p hp.1, oMod_p _ _ m hm, oPow_p _ (c * 48271 % p) 3 (by omega) h3]
theorem m_law_seed (c k : Int) (h : DH) : F_law_seed [.int c, .int k] h = .ok (.int (seedZ c k)) h := by
  have h1 := Int.emod_nonneg (c * 1103515245 + 7919 * k + 12345) (show (2147483647 : Int) ≠ 0 by omega)
  have h2 := Int.emod_lt_of_pos (c * 1103515245 + 7919 * k + 12345) (show (0 : Int) < 2147483647 by omega)
  have h3 : ((c * 1103515245 + 7919 * k + 12345) % 2147483647).natAbs < 2 ^ 64 := by omega
  unfold F_law_seed B_law_seed dFn seedZ
  simp [xVar, oMul_r _ c 1103515245 (by omega), oMul_l _ 7919 k (by omega), oMod_p _ _ 2147483647 (by omega), oPow_p _ _ 5 (by omega) h3]
theorem m_law_pick (c m : Int) (h : DH) (hm : 0 < m) : F_law_pick [.int c, .int m] h = .ok (.int (c / 97 % m)) h := by
  unfold F_law_pick B_law_pick dFn
  simp [xVar, oDiv_p _ c 97 (by omega), oMod_p _ _ m hm]
/-! ### disks made, read -/
def dkO (j : Nat) (d : Dk) : DO := .ins .disk [.ref j, optD d.more, .int d.many]
def dkL (d : Dk) : DO := .lst (d.R.map dB)
def newDk (n : Nat) (m : Option Nat) : Dk := ⟨List.replicate n zeroB, m, 0⟩
def stepsOkO : Option Nat → Bool
  | none => true
  | some n => decide (n ≤ 100000)
theorem stepsOk_opt (m : Option Nat) : stepsOk (optD m) = stepsOkO m := by
  cases m with
  | none => rfl
  | some n =>
    simp only [stepsOk, optD, isNon, Bool.false_or, isW, stepsOkO]
    by_cases h : n ≤ 100000 <;> simp [h] <;> omega
theorem make_disk {fs : Ax} {r : Rho} {h : DH} {n : Nat} {m : Option Nat} (e : fs r h = .ok [.int (n : Int), optD m] h) (h1 : 20 ≤ n) (h2 : n ≤ 200) (hm : stepsOkO m = true) : xMake .disk F_Disk_init__ fs r h = .ok (.ref h.length) (h ++ [dkO (h.length + 1) (newDk n m), dkL (newDk n m)]) := by
  unfold xMake
  rw [e, bnd_ok_]
  have A : (h ++ [DO.ins .disk []])[h.length]? = some (.ins .disk []) := by simp
  have k : kindly (h ++ [DO.ins .disk []] ++ [.lst (List.replicate n zeros)]) (optD m) = true := by cases m <;> rfl
  have ez : zeros = dB zeroB := rfl
  rw [m_init A n h1 h2 (optD m) k, stepsOk_opt, hm]
  simp [dkO, dkL, newDk, ez]
section
variable {h : DH} {i j : Nat} {d d' : Dk}
theorem rows_at (d : Dk) (k : Nat) (hk : k < d.R.length) : dB (row d.R (k : Int)) = (d.R.map dB).getD k .non := by
  have : (k : Int).toNat = k := by simp
  simp [row, this, hk]
theorem comp_rows (A : DkAt h i j d) (hl : d.R.length ≤ 1000) (r : Rho) (hr : r[0]? = some (some (.ref i))) (hrl : r.length = 2) : zComp (gN 1) xYes (xMeth .disk F_Disk_read (xVar 0) (xCons (xVar 1) (xNil))) (wipeR r [1]) (intsD 0 d.R.length) h [] = .ok (d.R.map dB) h := by
  have e := zComp_map (G := gN 1) (fe := xMeth .disk F_Disk_read (xVar 0) (xCons (xVar 1) (xNil))) (r := wipeR r [1]) (h := h) (atD (d.R.map dB)) (intsD 0 d.R.length) (fun x hx => ?_) (by rw [intsD_length]; exact lt_sizeLine _ (by omega))
  · rw [e]
    have := map_atD (d.R.map dB)
    rw [List.length_map] at this
    rw [this]
  · obtain ⟨k, hk, rfl⟩ := mem_intsD hx
    match r, hrl, hr with
    | [a, b], _, hr =>
      have ea : a = some (.ref i) := by simpa using hr
      subst ea
      refine ⟨_, rfl, ?_⟩
      have er := mread A (k : Int) (by omega) (by omega)
      simp [wipeR, xVar, A.isCl, er, atD, rows_at d k hk, hk]
theorem m_law_all_blocks (A : DkAt h i j d) (hl : d.R.length ≤ 1000) : F_law_all_blocks [.ref i] h = .ok (.ref h.length) (h ++ [dkL d]) := by
  unfold F_law_all_blocks B_law_all_blocks
  have e1 : xCompN (iRg1 (xCons (xMeth .disk F_Disk_size (xVar 0) xNil) (xNil))) [1] (gN 1) (xYes) (xMeth .disk F_Disk_read (xVar 0) (xCons (xVar 1) (xNil))) [some (.ref i), none] h = .ok (.ref h.length) (h ++ [.lst (d.R.map dB)]) :=
    xCompN_go (iRg1_nat (n := d.R.length) (h1 := h) (by simp [xVar, A.isCl, msize A]) (by omega)) (comp_rows A hl _ rfl rfl)
  have t1 : zRet (xCompN (iRg1 (xCons (xMeth .disk F_Disk_size (xVar 0) xNil) (xNil))) [1] (gN 1) (xYes) (xMeth .disk F_Disk_read (xVar 0) (xCons (xVar 1) (xNil)))) [some (.ref i), none] h = .rt (.ref h.length) (h ++ [dkL d]) := by
    rw [zRet_, e1]
    rfl
  exact fn_rt rfl t1
/-! ### a disk without end -/
def applyW (R : List Blk) (ws : List (Int × Blk)) : List Blk := ws.foldl (fun R w => R.set w.1.toNat w.2) R
theorem writes_free (hd : d.more = none) (ws : List (Int × Blk)) : d.writes ws = (⟨applyW d.R ws, none, d.many + ws.length⟩, true) := by
  induction ws generalizing d with
  | nil =>
    obtain ⟨R, m, k⟩ := d
    simp only at hd
    subst hd
    simp [Dk.writes, applyW]
  | cons w ws ih =>
    obtain ⟨z, b⟩ := w
    have e : d.write z b = some ⟨d.R.set z.toNat b, none, d.many + 1⟩ := by unfold Dk.write; rw [hd]
    rw [Dk.writes_cons_some e, ih rfl]
    simp [applyW]
    omega
theorem applyW_len (R : List Blk) (ws : List (Int × Blk)) : (applyW R ws).length = R.length := by
  induction ws generalizing R with
  | nil => rfl
  | cons w ws ih => simp only [applyW, List.foldl_cons]; exact (ih _).trans (by simp)
end
end DL
set_option maxRecDepth 100000
set_option maxHeartbeats 2000000
namespace DL
open PySem PySem.Spec L2
open PyProof.Rows hiding St
theorem emod3 (c : Int) : c % 3 = 0 ∨ c % 3 = 1 ∨ c % 3 = 2 := by omega
theorem ix3 (h : DH) (a b c : D) (k : Int) : oIx h (.lst [a, b, c]) (.int (k % 3)) = some (if k % 3 = 0 then a else if k % 3 = 1 then b else c) := by
  rcases emod3 k with e | e | e <;> rw [e] <;> rfl
/-- how many nodes, how many blocks -/
def nodZ (c : Int) : Int := if c % 3 = 0 then 1 + c / 3 % 12 else if c % 3 = 1 then 12 else 30
def sizZ (c : Int) : Int := max (9 + nodZ c + (if c / 5 % 3 = 0 then 2 + c / 7 % 12 else if c / 5 % 3 = 1 then 40 else 100)) 20
theorem nodZ_le (c : Int) : 1 ≤ nodZ c ∧ nodZ c ≤ 30 := by
  unfold nodZ
  split
  · omega
  · split <;> omega
theorem sizZ_le (c : Int) : 20 ≤ sizZ c ∧ sizZ c ≤ 139 ∧ 9 + nodZ c + 2 ≤ sizZ c := by
  have := nodZ_le c
  unfold sizZ
  split
  · omega
  · split <;> omega
/-- the state's dict -/
def stD (t f : Nat) (n b a : Int) : List (Key × D) := [(.inr "tree", .ref t), (.inr "files", .ref f), (.inr "nodes", .int n), (.inr "blocks", .int b), (.inr "after", .int a)]
theorem mk_stD (t f : Nat) (n b a : Int) : mkD [Sum.inr "tree", Sum.inr "files", Sum.inr "nodes", Sum.inr "blocks", Sum.inr "after"] [.ref t, .ref f, .int n, .int b, .int a] = stD t f n b a := by kernel_rfl
theorem m_law_state (n b : Int) (h : DH) : F_law_state [.int n, .int b] h = .ok (.ref h.length) (h ++ [.dct (stD (h.length + 1) (h.length + 2) n b 0), .dct [], .lst []]) := by
  unfold F_law_state B_law_state dFn
  have e : (xCons (xDctN) (xCons (xLstN (xNil)) (xCons (xVar 0) (xCons (xVar 1) (xCons (xC (.int 0)) (xNil)))))) [some (.int n), some (.int b)] (h ++ [.dct []]) = .ok [.ref (h.length + 1), .ref (h.length + 2), .int n, .int b, .int 0] (h ++ [.dct [], .dct [], .lst []]) := by
    simp [xDctN, xVar]
  have e2 : xDctE [(Sum.inr "tree"), (Sum.inr "files"), (Sum.inr "nodes"), (Sum.inr "blocks"), (Sum.inr "after")] (xCons (xDctN) (xCons (xLstN (xNil)) (xCons (xVar 0) (xCons (xVar 1) (xCons (xC (.int 0)) (xNil)))))) [some (.int n), some (.int b)] h = .ok (.ref h.length) (h ++ [.dct (stD (h.length + 1) (h.length + 2) n b 0), .dct [], .lst []]) := by
    unfold xDctE
    rw [e, bnd_ok_]
    have e3 : (h ++ [DO.dct [], .dct [], .lst []])[h.length]? = some (.dct []) := by simp
    rw [e3]
    simp only [mk_stD]
    congr 1
    simp
  simp [e2]
def setDk (n s : Nat) : Dk := ⟨applyW (List.replicate s zeroB) (setW n), none, (setW n).length⟩
theorem set_up_new (n s : Nat) : (newDk s none).writes (setW n) = (setDk n s, true) := by
  rw [writes_free rfl]
  simp [setDk, newDk]
theorem at_new (h : DH) (j : Nat) (hj : j = h.length + 1) (d : Dk) (t : DH) : DkAt (h ++ (dkO j d :: dkL d :: t)) h.length j d := by
  subst hj
  refine ⟨by simp [dkO], ?_⟩
  rw [List.getElem?_append_right (by omega)]
  simp [dkL]
theorem put_new (h : DH) (j : Nat) (hj : j = h.length + 1) (d d' : Dk) (t : DH) : putDk (h ++ (dkO j d :: dkL d :: t)) h.length j d' = h ++ (dkO j d' :: dkL d' :: t) := by
  subst hj
  unfold putDk
  rw [List.set_append_right _ _ (Nat.le_refl _)]
  simp only [Nat.sub_self, List.set_cons_zero]
  rw [List.set_append_right _ _ (by omega)]
  simp [dkO, dkL]
theorem m_law_disk (c : Int) (h : DH) : ∃ n s : Nat, (n : Int) = nodZ c ∧ (s : Int) = sizZ c ∧ F_law_disk [.int c] h = .ok (.tup [.ref h.length, .ref (h.length + 2)]) (h ++ [dkO (h.length + 1) (setDk n s), dkL (setDk n s), .dct (stD (h.length + 3) (h.length + 4) n ((s : Int) - 9 - n) 0), .dct [], .lst []]) := by
  obtain ⟨n1, n2⟩ := nodZ_le c
  obtain ⟨s1, s2, s3⟩ := sizZ_le c
  refine ⟨(nodZ c).toNat, (sizZ c).toNat, by omega, by omega, ?_⟩
  generalize hn : (nodZ c).toNat = n
  generalize hs : (sizZ c).toNat = s
  have en : nodZ c = (n : Int) := by omega
  have es : sizZ c = (s : Int) := by omega
  have t1 : zAsg (xBin oIx (xLst (xCons (xBin oAdd (xC (.int 1)) (xBin oMod (xBin oDiv (xVar 0) (xC (.int 3))) (xC (.int 12)))) (xCons (xC (.int 12)) (xCons (xC (.int 30)) (xNil))))) (xBin oMod (xVar 0) (xC (.int 3)))) (gN 1) [some (.int c), none, none, none] h = .nx [some (.int c), some (.int n), none, none] h := by
    have e : (if c % 3 = 0 then D.int (1 + c / 3 % 12) else if c % 3 = 1 then .int 12 else .int 30) = .int (n : Int) := by
      rw [← en]
      unfold nodZ
      split
      · rfl
      · split <;> rfl
    simp [xVar, oDiv_p _ c 3 (by omega), oMod_p _ _ 12 (by omega), oMod_p _ _ 3 (by omega), ix3, e]
  generalize hq : (if c / 5 % 3 = 0 then 2 + c / 7 % 12 else if c / 5 % 3 = 1 then 40 else 100) = q
  have t2 : zAsg (xBin oAdd (xBin oAdd (xC (.int 9)) (xVar 1)) (xBin oIx (xLst (xCons (xBin oAdd (xC (.int 2)) (xBin oMod (xBin oDiv (xVar 0) (xC (.int 7))) (xC (.int 12)))) (xCons (xC (.int 40)) (xCons (xC (.int 100)) (xNil))))) (xBin oMod (xBin oDiv (xVar 0) (xC (.int 5))) (xC (.int 3))))) (gN 2) [some (.int c), some (.int n), none, none] h = .nx [some (.int c), some (.int n), some (.int (9 + (n : Int) + q)), none] h := by
    have e : (if c / 5 % 3 = 0 then D.int (2 + c / 7 % 12) else if c / 5 % 3 = 1 then .int 40 else .int 100) = .int q := by
      rw [← hq]
      split
      · rfl
      · split <;> rfl
    simp [xVar, oDiv_p _ c 7 (by omega), oDiv_p _ c 5 (by omega), oMod_p _ _ 12 (by omega), oMod_p _ _ 3 (by omega), ix3, e]
  have eq : sizZ c = max (9 + (n : Int) + q) 20 := by
    unfold sizZ
    rw [hq, en]
  have t3 : zAsg (xBin oMax2 (xVar 2) (xC (.int 20))) (gN 2) [some (.int c), some (.int n), some (.int (9 + (n : Int) + q)), none] h = .nx [some (.int c), some (.int n), some (.int s), none] h := by
    have e : (if (20 : Int) > 9 + (n : Int) + q then (20 : Int) else 9 + (n : Int) + q) = (s : Int) := by
      rw [← es, eq]
      split <;> omega
    simp only [zAsg_, xBin_, xVar, List.getElem?_cons_succ, List.getElem?_cons_zero, bnd_ok_, xC_, oMax2, of_some_, toS_ok_, e]
    rfl
  have t4 : zAsg (xMake .disk F_Disk_init__ (xCons (xVar 2) (xCons (xC .non) (xNil)))) (gN 3) [some (.int c), some (.int n), some (.int s), none] h = .nx [some (.int c), some (.int n), some (.int s), some (.ref h.length)] (h ++ [dkO (h.length + 1) (newDk s none), dkL (newDk s none)]) := by
    have := make_disk (fs := (xCons (xVar 2) (xCons (xC .non) (xNil)))) (r := [some (.int c), some (.int n), some (.int s), none]) (h := h) (n := s) (m := none) (by simp [xVar, optD]) (by omega) (by omega) rfl
    rw [zAsg_, this]
    rfl
  have A := at_new h (h.length + 1) rfl (newDk s none) []
  have t5 : zExpr (xCall F_set_up (xCons (xVar 3) (xCons (xVar 1) (xNil)))) [some (.int c), some (.int n), some (.int s), some (.ref h.length)] (h ++ [dkO (h.length + 1) (newDk s none), dkL (newDk s none)]) = .nx [some (.int c), some (.int n), some (.int s), some (.ref h.length)] (h ++ [dkO (h.length + 1) (setDk n s), dkL (setDk n s)]) := by
    have e := m_set_up A n (by omega) (by omega) (by simp [newDk]; omega)
    rw [set_up_new] at e
    have e2 : outW (h ++ [dkO (h.length + 1) (newDk s none), dkL (newDk s none)]) h.length (h.length + 1) (setDk n s, true) = .ok .non (h ++ [dkO (h.length + 1) (setDk n s), dkL (setDk n s)]) := by
      simp only [outW, if_true, put_new h (h.length + 1) rfl]
    rw [e2] at e
    simp [xVar, e]
  have t6 : zRet (xTup (xCons (xVar 3) (xCons (xCall F_law_state (xCons (xVar 1) (xCons (xBin oSub (xBin oSub (xVar 2) (xC (.int 9))) (xVar 1)) (xNil)))) (xNil)))) [some (.int c), some (.int n), some (.int s), some (.ref h.length)] (h ++ [dkO (h.length + 1) (setDk n s), dkL (setDk n s)]) = .rt (.tup [.ref h.length, .ref (h.length + 2)]) (h ++ [dkO (h.length + 1) (setDk n s), dkL (setDk n s), .dct (stD (h.length + 3) (h.length + 4) n ((s : Int) - 9 - n) 0), .dct [], .lst []]) := by
    have e := m_law_state (n : Int) ((s : Int) - 9 - n) (h ++ [dkO (h.length + 1) (setDk n s), dkL (setDk n s)])
    simp only [List.length_append, List.length_cons, List.length_nil, List.append_assoc, List.cons_append, List.nil_append] at e
    simp [xVar, e]
  exact fn_rt (r := [some (.int c), none, none, none]) rfl ((seq_go t1).trans ((seq_go t2).trans ((seq_go t3).trans ((seq_go t4).trans ((seq_go t5).trans t6)))))
section
variable {h : DH} {i j : Nat} {d d' : Dk}
/-! ### a copy -/
def copyW (R : List Blk) : List (Int × Blk) := (List.range R.length).map fun k : Nat => ((k : Int), row R (k : Int))
theorem applyW_app (R : List Blk) (a b : List (Int × Blk)) : applyW R (a ++ b) = applyW (applyW R a) b := by simp [applyW]
theorem copy_all (R S : List Blk) (hl : S.length = R.length) : applyW S (copyW R) = R := by
  have key : ∀ m, m ≤ R.length → applyW S ((List.range m).map fun k : Nat => ((k : Int), row R (k : Int))) = R.take m ++ S.drop m := by
    intro m
    induction m with
    | zero => intro _; simp [applyW]
    | succ m ih =>
      intro hm
      rw [List.range_succ, List.map_append, applyW_app, ih (by omega)]
      simp only [applyW, List.map_cons, List.map_nil, List.foldl_cons, List.foldl_nil, Int.toNat_natCast]
      apply List.ext_getElem
      · simp; omega
      · intro k h1 h2
        rw [List.getElem_set]
        by_cases hk : m = k
        · subst hk
          have h3 : m < R.length := by omega
          simp only [List.getElem_append, List.length_take, if_true]
          have h5 : m < min (m + 1) R.length := by omega
          simp [h5, row, h3]
        · rw [if_neg hk]
          simp only [List.getElem_append, List.length_take]
          by_cases h4 : k < m
          · have : k < min m R.length := by omega
            have h5 : k < min (m + 1) R.length := by omega
            simp [this, h5]
          · have : ¬ k < min m R.length := by omega
            have h5 : ¬ k < min (m + 1) R.length := by omega
            simp only [this, h5, dif_neg, not_false_eq_true, List.getElem_drop]
            congr 1
            omega
  have := key R.length (Nat.le_refl _)
  rw [← hl, List.drop_length, List.append_nil, hl, List.take_length] at this
  exact this
/-- .. the heap but for the disk being as it was -/
theorem loopWb {G : Gx} {body : Sx} {h0 : DH} {i j : Nat} (li : i < h0.length) (lj : j < h0.length) (ne : i ≠ j) (P : Rho → Prop) (Q : Dk → Prop) : ∀ (items : List (D × Int × Blk)) (r : Rho) (dd : Dk), P r → Q dd →
    (∀ x ∈ items, ∀ r dd, P r → DkAt (putDk h0 i j dd) i j dd → Q dd → ∃ r1, G x.1 r = some r1 ∧ EndsW P (body r1 (putDk h0 i j dd)) (putDk h0 i j dd) i j (dd.writes [x.2])) →
    (∀ x ∈ items, ∀ dd d', Q dd → dd.write x.2.1 x.2.2 = some d' → Q d') →
    EndsW P (zLoop G body (items.map (·.1)) r (putDk h0 i j dd)) (putDk h0 i j dd) i j (dd.writes (items.map (·.2)))
  | [], r, dd, hp, hq, _, _ => ⟨fun _ => ⟨r, hp, by simp [zLoop, Dk.writes, putDk_put ne]⟩, fun z => by cases z⟩
  | x :: items, r, dd, hp, hq, turn, keep => by
    have A : DkAt (putDk h0 i j dd) i j dd := putDk_at li lj ne
    obtain ⟨r1, e1, e2⟩ := turn x List.mem_cons_self r dd hp A hq
    simp only [List.map_cons]
    have ex : x.2 = (x.2.1, x.2.2) := rfl
    cases e : dd.write x.2.1 x.2.2 with
    | none =>
      rw [ex, Dk.writes_cons_none e]
      rw [ex, Dk.writes_cons_none e] at e2
      obtain ⟨r2, e3⟩ := e2.2 rfl
      refine ⟨fun z => (by cases z), fun _ => ⟨r2, ?_⟩⟩
      rw [zLoop, e1]
      simp only [e3]
    | some d' =>
      rw [ex, Dk.writes_cons_some e]
      rw [ex, Dk.writes_cons_some e] at e2
      obtain ⟨r2, p2, e3⟩ := e2.1 rfl
      have e3' : body r1 (putDk h0 i j dd) = .nx r2 (putDk h0 i j d') := by rw [e3, putDk_put ne]; rfl
      have ih := loopWb li lj ne P Q items r2 d' p2 (keep x List.mem_cons_self dd d' hq e) (fun y hy => turn y (List.mem_cons_of_mem _ hy)) (fun y hy => keep y (List.mem_cons_of_mem _ hy))
      have eg : zLoop G body (x.1 :: items.map (·.1)) r (putDk h0 i j dd) = zLoop G body (items.map (·.1)) r2 (putDk h0 i j d') := by
        rw [zLoop, e1]
        simp only [e3']
      rw [eg]
      refine ⟨fun z => ?_, fun z => ?_⟩
      · obtain ⟨r3, p3, e4⟩ := ih.1 z
        exact ⟨r3, p3, by rw [e4, putDk_put ne, putDk_put ne]⟩
      · obtain ⟨r3, e4⟩ := ih.2 z
        exact ⟨r3, by rw [e4, putDk_put ne, putDk_put ne]⟩
theorem m_law_copy (A : DkAt h i j d) (G : GoodR d.R) (m : Option Nat) (hm : stepsOkO m = true) : F_law_copy [.ref i, optD m] h = .ok (.ref h.length) (h ++ [dkO (h.length + 1) ⟨d.R, m, d.R.length⟩, dkL ⟨d.R, m, d.R.length⟩]) := by
  have l1 := G.len
  have l2 := G.top
  have li := A.li
  have lj := A.lj
  unfold F_law_copy B_law_copy
  have t1 : zAsg (xMake .disk F_Disk_init__ (xCons (xMeth .disk F_Disk_size (xVar 0) xNil) (xCons (xC .non) (xNil)))) (gN 2) [some (.ref i), some (optD m), none, none] h = .nx [some (.ref i), some (optD m), some (.ref h.length), none] (h ++ [dkO (h.length + 1) (newDk d.R.length none), dkL (newDk d.R.length none)]) := by
    have := make_disk (fs := (xCons (xMeth .disk F_Disk_size (xVar 0) xNil) (xCons (xC .non) (xNil)))) (r := [some (.ref i), some (optD m), none, none]) (h := h) (n := d.R.length) (m := none) (by simp [xVar, optD, A.isCl, msize A]) (by omega) (by omega) rfl
    rw [zAsg_, this]
    rfl
  have old : ∀ dd : Dk, DkAt (h ++ [dkO (h.length + 1) dd, dkL dd]) i j d := fun dd => ⟨by rw [List.getElem?_append_left li]; exact A.o, by rw [List.getElem?_append_left lj]; exact A.l⟩
  have new : ∀ dd : Dk, DkAt (h ++ [dkO (h.length + 1) dd, dkL dd]) h.length (h.length + 1) dd := fun dd => at_new h (h.length + 1) rfl dd []
  have ne : h.length ≠ h.length + 1 := by omega
  have lp : EndsW (fun r => r = [some (.ref i), some (optD m), some (.ref h.length), r.getD 3 none]) (zFor (iRg1 (xCons (xMeth .disk F_Disk_size (xVar 0) xNil) (xNil))) (gN 3) (zExpr (xMeth .disk F_Disk_write (xVar 2) (xCons (xVar 3) (xCons (xMeth .disk F_Disk_read (xVar 0) (xCons (xVar 3) (xNil))) (xNil))))) [some (.ref i), some (optD m), some (.ref h.length), none] (h ++ [dkO (h.length + 1) (newDk d.R.length none), dkL (newDk d.R.length none)])) (h ++ [dkO (h.length + 1) (newDk d.R.length none), dkL (newDk d.R.length none)]) h.length (h.length + 1) ((newDk d.R.length none).writes (copyW d.R)) := by
    have e0 : iRg1 (xCons (xMeth .disk F_Disk_size (xVar 0) xNil) (xNil)) [some (.ref i), some (optD m), some (.ref h.length), none] (h ++ [dkO (h.length + 1) (newDk d.R.length none), dkL (newDk d.R.length none)]) = .ok (intsD 0 d.R.length) (h ++ [dkO (h.length + 1) (newDk d.R.length none), dkL (newDk d.R.length none)]) :=
      iRg1_nat (n := d.R.length) (by simp [xVar, (old _).isCl, msize (old _)]) (by omega)
    rw [for_go e0]
    have key := loopWb (h0 := h ++ [dkO (h.length + 1) (newDk d.R.length none), dkL (newDk d.R.length none)]) (i := h.length) (j := h.length + 1) (G := gN 3) (body := zExpr (xMeth .disk F_Disk_write (xVar 2) (xCons (xVar 3) (xCons (xMeth .disk F_Disk_read (xVar 0) (xCons (xVar 3) (xNil))) (xNil))))) (by simp) (by simp) ne (fun r => r = [some (.ref i), some (optD m), some (.ref h.length), r.getD 3 none]) (fun dd => dd.R.length = d.R.length)
      ((List.range d.R.length).map fun k : Nat => (D.int (k : Int), ((k : Int), row d.R (k : Int)))) [some (.ref i), some (optD m), some (.ref h.length), none] (newDk d.R.length none) rfl (by simp [newDk]) (fun x hx r dd hp A2 hq => ?_) (fun x hx dd d' hq e => ?_)
    · rw [List.map_map, List.map_map] at key
      have e1 : (List.map ((fun x : D × Int × Blk => x.1) ∘ fun k : Nat => (D.int (k : Int), ((k : Int), row d.R (k : Int)))) (List.range d.R.length)) = intsD 0 d.R.length := by
        rw [intsD_eq]
        apply List.map_congr_left
        intro k _
        simp
      rw [e1, put_new h (h.length + 1) rfl] at key
      exact key
    · obtain ⟨k, hk, rfl⟩ := List.mem_map.mp hx
      rw [List.mem_range] at hk
      rw [hp]
      refine ⟨_, rfl, exprW rfl ?_⟩
      rw [put_new h (h.length + 1) rfl] at A2 ⊢
      have B := old dd
      have er := mread B (k : Int) (by omega) (by omega)
      have ew := mwrite1 A2 (k : Int) (row d.R (k : Int)) (by omega) (by rw [hq]; omega) (G.row (by omega) (by omega))
      simp [xVar, A2.isCl, B.isCl, er, ew]
    · rw [Dk.write_R e, List.length_set]
      exact hq
  have ef : (newDk d.R.length none).writes (copyW d.R) = (⟨d.R, none, d.R.length⟩, true) := by
    rw [writes_free rfl]
    have : applyW (newDk d.R.length none).R (copyW d.R) = d.R := copy_all _ _ (by simp [newDk])
    rw [this]
    simp [newDk, copyW]
  rw [ef] at lp
  obtain ⟨r2, p2, e2⟩ := lp.1 rfl
  rw [put_new h (h.length + 1) rfl] at e2
  have A3 := new ⟨d.R, none, d.R.length⟩
  have ok3 : (h ++ [dkO (h.length + 1) (⟨d.R, none, d.R.length⟩ : Dk), dkL ⟨d.R, none, d.R.length⟩])[h.length]? = some (.ins .disk [.ref (h.length + 1), .non, .int d.R.length]) := A3.o
  have eg := m_go_on (h := h ++ [dkO (h.length + 1) (⟨d.R, none, d.R.length⟩ : Dk), dkL ⟨d.R, none, d.R.length⟩]) (i := h.length) ok3 (by simp) (optD m) (by cases m <;> rfl)
  rw [stepsOk_opt, hm, if_pos rfl] at eg
  have es : (h ++ [dkO (h.length + 1) (⟨d.R, none, d.R.length⟩ : Dk), dkL ⟨d.R, none, d.R.length⟩]).set h.length (.ins .disk ([D.ref (h.length + 1), .non, .int d.R.length].set 1 (optD m))) = h ++ [dkO (h.length + 1) (⟨d.R, m, d.R.length⟩ : Dk), dkL ⟨d.R, m, d.R.length⟩] := by
    rw [List.set_append_right _ _ (Nat.le_refl _)]
    simp [dkO, dkL]
  rw [es] at eg
  have t3 : zExpr (xMeth .disk F_Disk_go_on (xVar 2) (xCons (xVar 1) (xNil))) r2 (h ++ [dkO (h.length + 1) ⟨d.R, none, d.R.length⟩, dkL ⟨d.R, none, d.R.length⟩]) = .nx r2 (h ++ [dkO (h.length + 1) ⟨d.R, m, d.R.length⟩, dkL ⟨d.R, m, d.R.length⟩]) := by
    rw [p2]
    simp [xVar, A3.isCl, eg]
  have t4 : zRet (xVar 2) r2 (h ++ [dkO (h.length + 1) ⟨d.R, m, d.R.length⟩, dkL ⟨d.R, m, d.R.length⟩]) = .rt (.ref h.length) (h ++ [dkO (h.length + 1) ⟨d.R, m, d.R.length⟩, dkL ⟨d.R, m, d.R.length⟩]) := by
    rw [p2]
    simp [xVar]
  exact fn_rt (r := [some (.ref i), some (optD m), none, none]) rfl ((seq_go t1).trans ((seq_go e2).trans ((seq_go t3).trans t4)))
end
end DL
set_option maxRecDepth 100000
set_option maxHeartbeats 2000000
namespace DL
open PySem PySem.Spec L2
open PyProof.Rows hiding St
/-! ### slices -/
theorem cut_to {α : Type} (xs : List α) (k : Int) (h : 0 ≤ k) : cutL xs none (some k) = xs.take k.toNat := by
  obtain ⟨n, rfl⟩ := Int.eq_ofNat_of_zero_le h
  unfold cutL
  rw [HT.sIx_nat, HT.sIx_none]
  simp
theorem cut_from {α : Type} (xs : List α) (k : Int) (h : 0 ≤ k) : cutL xs (some k) none = xs.drop k.toNat := by
  obtain ⟨n, rfl⟩ := Int.eq_ofNat_of_zero_le h
  unfold cutL
  rw [HT.sIx_nat, HT.sIx_none]
  rw [Int.toNat_natCast]
  by_cases hn : n ≤ xs.length
  · rw [Nat.min_eq_left hn]
    exact List.take_of_length_le (by simp)
  · rw [Nat.min_eq_right (show xs.length ≤ n by omega), List.drop_length, List.drop_eq_nil_of_le (by omega)]
    simp
theorem cut_mid {α : Type} (xs : List α) (a b : Int) (ha : 0 ≤ a) (hb : 0 ≤ b) : cutL xs (some a) (some b) = (xs.drop a.toNat).take (b.toNat - a.toNat) := by
  obtain ⟨n, rfl⟩ := Int.eq_ofNat_of_zero_le ha
  obtain ⟨m, rfl⟩ := Int.eq_ofNat_of_zero_le hb
  unfold cutL
  rw [HT.sIx_nat, HT.sIx_nat, Int.toNat_natCast, Int.toNat_natCast]
  by_cases hn : n ≤ xs.length
  · rw [Nat.min_eq_left hn]
    by_cases hm : m ≤ xs.length
    · rw [Nat.min_eq_left hm]
    · rw [Nat.min_eq_right (by omega), List.take_of_length_le (by simp), List.take_of_length_le (by simp; omega)]
  · rw [Nat.min_eq_right (show xs.length ≤ n by omega), List.drop_length, List.drop_eq_nil_of_le (by omega)]
    simp
/-! ### writes -/
theorem row_apply_no {ws : List (Int × Blk)} {z : Int} (hz : 0 ≤ z) : ∀ {R : List Blk}, (∀ w ∈ ws, 0 ≤ w.1 ∧ w.1 ≠ z) → row (applyW R ws) z = row R z := by
  induction ws with
  | nil => intro R _; rfl
  | cons w ws ih =>
    intro R hw
    obtain ⟨h0, h1⟩ := hw w List.mem_cons_self
    show row (applyW (R.set w.1.toNat w.2) ws) z = _
    rw [ih fun x hx => hw x (List.mem_cons_of_mem _ hx)]
    exact row_set h0 hz h1
theorem row_apply {ws : List (Int × Blk)} {z : Int} {b : Blk} (hz : 0 ≤ z) : ∀ {R : List Blk}, z < R.length → (∀ w ∈ ws, 0 ≤ w.1) → (∀ w ∈ ws, w.1 = z → w.2 = b) → ((∃ w ∈ ws, w.1 = z) ∨ row R z = b) → row (applyW R ws) z = b := by
  induction ws with
  | nil =>
    intro R _ _ _ h
    rcases h with ⟨w, hw, _⟩ | h
    · cases hw
    · exact h
  | cons w ws ih =>
    intro R hl h0 hv hex
    show row (applyW (R.set w.1.toNat w.2) ws) z = _
    refine ih (by simpa using hl) (fun x hx => h0 x (List.mem_cons_of_mem _ hx)) (fun x hx => hv x (List.mem_cons_of_mem _ hx)) ?_
    by_cases e : w.1 = z
    · refine .inr ?_
      rw [e, row_set_self hz hl]
      exact hv w List.mem_cons_self e
    · rcases hex with ⟨x, hx, ex⟩ | hr
      · rcases List.mem_cons.mp hx with q | q
        · rw [q] at ex; exact absurd ex e
        · exact .inl ⟨x, q, ex⟩
      · refine .inr ?_
        rw [row_set (h0 w List.mem_cons_self) hz e]
        exact hr
theorem rows_ext {R S : List Blk} (hl : R.length = S.length) (h : ∀ z : Int, 0 ≤ z → z < R.length → row R z = row S z) : R = S := by
  apply List.ext_getElem hl
  intro k h1 h2
  have := h (k : Int) (by omega) (by omega)
  unfold row at this
  simpa [h1, h2] using this
/-! ### a disk set up -/
theorem set_row0 (n s : Nat) (hs : 20 ≤ s) : row (setDk n s).R 0 = zeroB := by
  unfold setDk setW
  refine row_apply (by omega) (by simp; omega) (fun w hw => ?_) (fun w hw e => ?_) (.inl ⟨(0, zeroB), by simp, rfl⟩)
  · simp only [List.cons_append, List.mem_cons, List.mem_append, List.mem_map, List.mem_range'_1, List.not_mem_nil, or_false] at hw
    rcases hw with rfl | ⟨k, _, rfl⟩ | rfl | rfl <;> simp <;> omega
  · simp only [List.cons_append, List.mem_cons, List.mem_append, List.mem_map, List.mem_range'_1, List.not_mem_nil, or_false] at hw
    rcases hw with rfl | ⟨k, _, rfl⟩ | rfl | rfl
    · rfl
    · rfl
    · simp at e
    · simp at e
theorem set_len (n s : Nat) : (setDk n s).R.length = s := by
  unfold setDk
  rw [applyW_len]
  simp
theorem set_row8 (n s : Nat) (hs : 20 ≤ s) : row (setDk n s).R 8 = headB n := by
  unfold setDk setW
  refine row_apply (by omega) (by simp; omega) (fun w hw => ?_) (fun w hw e => ?_) (.inl ⟨(8, headB n), by simp, rfl⟩)
  · simp only [List.cons_append, List.mem_cons, List.mem_append, List.mem_map, List.mem_range'_1, List.not_mem_nil, or_false] at hw
    rcases hw with rfl | ⟨k, _, rfl⟩ | rfl | rfl <;> simp <;> omega
  · simp only [List.cons_append, List.mem_cons, List.mem_append, List.mem_map, List.mem_range'_1, List.not_mem_nil, or_false] at hw
    rcases hw with rfl | ⟨k, _, rfl⟩ | rfl | rfl
    · simp at e
    · simp only at e; omega
    · simp at e
    · rfl
theorem applyW_good {ws : List (Int × Blk)} : ∀ {R : List Blk}, GoodR R → (∀ w ∈ ws, goodB w.2) → GoodR (applyW R ws) := by
  induction ws with
  | nil => intro R g _; exact g
  | cons w ws ih =>
    intro R g hw
    exact ih (g.set _ (hw w List.mem_cons_self)) fun x hx => hw x (List.mem_cons_of_mem _ hx)
theorem headB_good {n : Int} (h0 : 0 ≤ n) (h1 : n ≤ 999) : goodB (headB n) := ⟨rfl, by
  intro x hx
  simp only [headB, List.mem_cons, List.not_mem_nil, or_false] at hx
  omega⟩
theorem set_good (n s : Nat) (h1 : 20 ≤ s) (h2 : s ≤ 200) (hn : n ≤ 30) : GoodR (setDk n s).R := by
  unfold setDk
  refine applyW_good ⟨by simpa using h1, by simpa using h2, fun b hb => ?_⟩ fun w hw => ?_
  · rw [List.eq_of_mem_replicate hb]
    exact zeroB_good
  · simp only [setW, List.cons_append, List.mem_cons, List.mem_append, List.mem_map, List.mem_range'_1, List.not_mem_nil, or_false] at hw
    rcases hw with rfl | ⟨k, _, rfl⟩ | rfl | rfl
    · exact zeroB_good
    · exact zeroB_good
    · exact ⟨rfl, by decide⟩
    · exact headB_good (by omega) (by omega)
theorem headOk_of {R : List Blk} {n : Nat} (h : row R 8 = headB n) (h1 : 1 ≤ n) (h2 : n ≤ 30) (h3 : 9 + n + 1 ≤ R.length) : headOk R = true := by
  unfold headOk
  have e : at0 (headB (n : Int)) 1 = n := rfl
  rw [h, e]
  simp only [decide_true, Bool.true_and, Bool.and_eq_true, decide_eq_true_eq]
  omega
/-! ### the journal's head -/
def jourB (bs : List Int) : Blk := (bs.length : Int) :: (bs ++ List.replicate (7 - bs.length) 0)
theorem jour_at0 (bs : List Int) : at0 (jourB bs) 0 = bs.length := rfl
theorem jour_pend {bs : List Int} (hl : bs.length ≤ 7) : pendB (jourB bs) = bs := by
  unfold pendB
  rw [jour_at0, cut_mid _ _ _ (by omega) (by omega)]
  have e1 : (1 : Int).toNat = 1 := rfl
  have e2 : (1 + (bs.length : Int)).toNat - 1 = bs.length := by omega
  rw [e1, e2]
  simp [jourB]
theorem jour_good {bs : List Int} (hl : bs.length ≤ 7) (hb : ∀ b ∈ bs, 0 ≤ b ∧ b ≤ 999) : goodB (jourB bs) := by
  refine ⟨by simp [jourB]; omega, fun x hx => ?_⟩
  simp only [jourB, List.mem_cons, List.mem_append, List.mem_replicate] at hx
  rcases hx with rfl | hx | ⟨_, rfl⟩
  · omega
  · exact hb x hx
  · omega
theorem jour_pendA {bs : List Int} (hl : bs.length ≤ 7) : pendA (jourB bs) = true := by
  unfold pendA
  rw [jour_at0, cut_from _ _ (by omega)]
  have e2 : (1 + (bs.length : Int)).toNat = bs.length + 1 := by omega
  have e3 : (7 - (bs.length : Int)).toNat = 7 - bs.length := by omega
  rw [e2, e3]
  simp [jourB]
  omega
theorem dup_fix : ∀ {bs : List Int}, bs.Pairwise (· < ·) → dupI (sortI bs) = bs := fun {bs} h => by
  have := set_uniq (ns := bs) (ms := bs) h fun k => by simp
  exact this.symm
theorem pendOk_jour {R : List Blk} {bs : List Int} (h0 : row R 0 = jourB bs) (hl : bs.length ≤ 7) (hb : ∀ b ∈ bs, 8 < b ∧ b < R.length) (hr : bs.Pairwise (· < ·)) : pendOk R = true := by
  unfold pendOk pendC
  rw [h0, jour_pendA hl, jour_pend hl, dup_fix hr]
  simpa using hb
end DL
set_option maxRecDepth 100000
set_option maxHeartbeats 2000000
namespace DL
open PySem PySem.Spec L2
open PyProof.Rows hiding St
/-! ### laws that hang on few values: what is left is run by the kernel -/
def thenS (o : OutS) (k : Rho → DH → OutS) : OutS := match o with
  | .nx r h => k r h
  | .rt v h => .rt v h
  | .bk r h => .bk r h
  | .ct r h => .ct r h
  | .er c r h => .er c r h
  | .bad => .bad
theorem zSeq_then (a b : Sx) (r : Rho) (h : DH) : zSeq a b r h = thenS (a r h) b := by
  unfold zSeq thenS
  cases a r h <;> rfl
def rhoOf : OutS → Rho
  | .nx r _ => r
  | _ => []
def hpOf : OutS → DH
  | .nx _ h => h
  | _ => []
def okS : OutS → Bool
  | .rt (.bl b) _ => b
  | _ => false
theorem okS_ok {o : OutS} (h : okS o = true) : ∃ h', o = .rt (.bl true) h' := by
  unfold okS at h
  split at h
  · subst h; exact ⟨_, rfl⟩
  · cases h
theorem fin_fn {n N : Nat} {b : Sx} {ds : List D} {h : DH} (hl : ds.length = n) (e : okS (b (ds.map some ++ List.replicate (N - n) none) h) = true) : ∃ h', dFn n N b ds h = .ok (.bl true) h' := by
  obtain ⟨h', e⟩ := okS_ok e
  exact ⟨h', fn_rt rfl e hl⟩
theorem seq_assoc (a b c : Sx) : zSeq a (zSeq b c) = zSeq (zSeq a b) c := by
  funext r h
  simp only [zSeq_then]
  cases a r h <;> rfl
theorem seq_at {a b : Sx} {r r1 : Rho} {h h1 : DH} (e : a r h = .nx r1 h1) : zSeq a b r h = b r1 h1 := seq_go e
end DL
set_option maxRecDepth 100000
set_option maxHeartbeats 4000000
namespace DL
open PySem PySem.Spec L2
open PyProof.Rows hiding St
def B_law : Sx := zSeq (zAsg (xCall F_law_disk (xCons (xCall F_law_cell (xCons (xVar 0) (xCons (xC (.int 0)) (xNil)))) (xNil))) (gTp 2 (gsConsD (gN 11) (gsConsD (gN 12) (gsNilD))))) (zSeq (zAsg (xMeth .disk F_Disk_size (xVar 11) xNil) (gN 1)) (zSeq (zAsg (xComp (iRg1 (xCons (xC (.int 7)) (xNil))) [5] (gN 5) (xYes) (xBin oAdd (xBin oAdd (xC (.int 9)) (xBin oIx (xVar 12) (xC (.str "nodes")))) (xCall F_law_mix (xCons (xBin oAdd (xCall F_law_cell (xCons (xVar 0) (xCons (xC (.int 1)) (xNil)))) (xBin oMul (xC (.int 7)) (xVar 5))) (xCons (xC (.int 9949)) (xCons (xBin oIx (xVar 12) (xC (.str "blocks"))) (xNil))))))) (gN 2)) (zSeq (zAsg (xSl (xUn oSortedSet (xVar 2)) (xNoPart) (xPart (xBin oMod (xCall F_law_cell (xCons (xVar 0) (xCons (xC (.int 2)) (xNil)))) (xC (.int 8))))) (gN 3)) (zSeq (zAsg (xCall F_law_all_blocks (xCons (xVar 11) (xNil))) (gN 4)) (zSeq (zFor (iRg1 (xCons (xC (.int 7)) (xNil))) (gN 5) (zSeq (zAsg (xUn oTuple (xComp (iRg1 (xCons (xC (.int 8)) (xNil))) [15] (gN 15) (xYes) (xCall F_law_pick (xCons (xCall F_law_seed (xCons (xBin oAdd (xCall F_law_cell (xCons (xVar 0) (xCons (xC (.int 3)) (xNil)))) (xBin oMul (xC (.int 8)) (xVar 5))) (xCons (xVar 15) (xNil)))) (xCons (xC (.int 1000)) (xNil)))))) (gN 13)) (zSeq (zExpr (xMeth .disk F_Disk_write (xVar 11) (xCons (xBin oAdd (xC (.int 1)) (xVar 5)) (xCons (xVar 13) (xNil))))) (zSeq (zItem (xVar 4) (xBin oAdd (xC (.int 1)) (xVar 5)) (xVar 13)) (zIf (xTB (xBin oLt (xVar 5) (xUn oLen (xVar 3)))) (zItem (xVar 4) (xBin oIx (xVar 3) (xVar 5)) (xVar 13)) (zNext)))))) (zSeq (zExpr (xMeth .disk F_Disk_write (xVar 11) (xCons (xC (.int 0)) (xCons (xBin oAdd (xBin oAdd (xTup (xCons (xUn oLen (xVar 3)) (xNil))) (xUn oTuple (xVar 3))) (xBin oMul (xTup (xCons (xC (.int 0)) (xNil))) (xBin oSub (xC (.int 7)) (xUn oLen (xVar 3))))) (xNil))))) (zSeq (zAsg (xIf (xTB (xBin oNe (xVar 3) (xLst (xNil)))) (xBin oIx (xVar 3) (xUn oNeg (xC (.int 1)))) (xC (.int 9))) (gN 6)) (zSeq (zAsg (xLstN (xCons (xBin oAdd (xTup (xCons (xC (.int 8)) (xNil))) (xBin oMul (xTup (xCons (xC (.int 9)) (xNil))) (xC (.int 7)))) (xCons (xBin oAdd (xTup (xCons (xC (.int 1)) (xCons (xC (.int 8)) (xNil)))) (xBin oMul (xTup (xCons (xC (.int 0)) (xNil))) (xC (.int 6)))) (xCons (xBin oAdd (xTup (xCons (xC (.int 1)) (xCons (xVar 1) (xNil)))) (xBin oMul (xTup (xCons (xC (.int 0)) (xNil))) (xC (.int 6)))) (xCons (xBin oAdd (xTup (xCons (xC (.int 2)) (xCons (xVar 6) (xCons (xVar 6) (xNil))))) (xBin oMul (xTup (xCons (xC (.int 0)) (xNil))) (xC (.int 5)))) (xNil)))))) (gN 7)) (zSeq (zAsg (xAddN (xVar 7) (xLst (xCons (xBin oAdd (xTup (xCons (xC (.int 1)) (xCons (xVar 6) (xCons (xVar 6) (xNil))))) (xBin oMul (xTup (xCons (xC (.int 0)) (xNil))) (xC (.int 5)))) (xCons (xBin oAdd (xTup (xCons (xC (.int 2)) (xCons (xVar 6) (xNil)))) (xBin oMul (xTup (xCons (xC (.int 0)) (xNil))) (xC (.int 6)))) (xCons (xBin oAdd (xTup (xCons (xC (.int 0)) (xCons (xC (.int 9)) (xNil)))) (xBin oMul (xTup (xCons (xC (.int 0)) (xNil))) (xC (.int 6)))) (xNil)))))) (gN 7)) (zSeq (zExpr (xApp (xVar 7) (xBin oAdd (xTup (xCons (xC (.int 2)) (xCons (xBin oAdd (xVar 6) (xC (.int 1))) (xCons (xVar 6) (xNil))))) (xBin oMul (xTup (xCons (xC (.int 0)) (xNil))) (xC (.int 5)))))) (zSeq (zAsg (xCall F_law_copy (xCons (xVar 11) (xCons (xC .non) (xNil)))) (gN 8)) (zSeq (zIf (xTB (xBin oGt (xBin oMod (xCall F_law_cell (xCons (xVar 0) (xCons (xC (.int 4)) (xNil)))) (xC (.int 3))) (xC (.int 0)))) (zExpr (xMeth .disk F_Disk_write (xVar 8) (xCons (xC (.int 0)) (xCons (xBin oIx (xVar 7) (xBin oMod (xCall F_law_cell (xCons (xVar 0) (xCons (xC (.int 5)) (xNil)))) (xC (.int 8)))) (xNil))))) (zSeq (zAsg (xLstN (xCons (xBin oAdd (xTup (xCons (xC (.int 77)) (xCons (xC (.int 0)) (xNil)))) (xBin oMul (xTup (xCons (xC (.int 0)) (xNil))) (xC (.int 6)))) (xCons (xBin oAdd (xTup (xCons (xC (.int 77)) (xCons (xC (.int 31)) (xNil)))) (xBin oMul (xTup (xCons (xC (.int 0)) (xNil))) (xC (.int 6)))) (xCons (xBin oAdd (xTup (xCons (xC (.int 77)) (xCons (xVar 1) (xNil)))) (xBin oMul (xTup (xCons (xC (.int 0)) (xNil))) (xC (.int 6)))) (xCons (xBin oAdd (xTup (xCons (xC (.int 76)) (xCons (xC (.int 3)) (xNil)))) (xBin oMul (xTup (xCons (xC (.int 0)) (xNil))) (xC (.int 6)))) (xNil)))))) (gN 14)) (zSeq (zExpr (xApp (xVar 14) (xBin oAdd (xTup (xCons (xC (.int 77)) (xCons (xC (.int 3)) (xCons (xC (.int 1)) (xNil))))) (xBin oMul (xTup (xCons (xC (.int 0)) (xNil))) (xC (.int 5)))))) (zExpr (xMeth .disk F_Disk_write (xVar 8) (xCons (xC (.int 8)) (xCons (xBin oIx (xVar 14) (xBin oMod (xCall F_law_cell (xCons (xVar 0) (xCons (xC (.int 5)) (xNil)))) (xC (.int 5)))) (xNil)))))))) (zSeq (zAsg (xCall F_law_all_blocks (xCons (xVar 8) (xNil))) (gN 9)) (zSeq (zAsg (xC (.bl false)) (gN 10)) (zSeq (zTry (zExpr (xMake .drawers F_Drawers_init__ (xCons (xVar 8) (xNil)))) ((.badDisk, zAsg (xC (.bl true)) (gN 10)) :: [])) (zSeq (zIf (yOr (yNot (xTru (xVar 10))) (xTB (xBin oNe (xCall F_law_all_blocks (xCons (xVar 8) (xNil))) (xVar 9)))) (zRet (xC (.bl false))) (zNext)) (zSeq (zExpr (xMake .drawers F_Drawers_init__ (xCons (xVar 11) (xNil)))) (zRet (xBin oEq (xCall F_law_all_blocks (xCons (xVar 11) (xNil))) (xVar 4))))))))))))))))))))
def F_law : Fn := dFn 1 16 B_law
end DL
set_option maxRecDepth 100000
set_option maxHeartbeats 4000000
namespace DL
open PySem PySem.Spec L2
open PyProof.Rows hiding St
/-! ### what the law reckons -/
def k6some (c1 n b : Int) : List Int := (List.range 7).map fun k : Nat => 9 + n + mixZ (c1 + 7 * (k : Int)) 9949 b
def k6cell (c3 : Int) (k : Nat) : Blk := (List.range 8).map fun j : Nat => seedZ (c3 + 8 * (k : Int)) (j : Int) / 97 % 1000
theorem k6cell_good (c3 : Int) (k : Nat) : goodB (k6cell c3 k) := by
  refine ⟨by simp [k6cell], fun x hx => ?_⟩
  obtain ⟨j, _, rfl⟩ := List.mem_map.mp hx
  omega
def k6due (c3 : Int) (bs : List Int) : List Nat → List (Int × Blk)
  | [] => []
  | k :: ks => (1 + (k : Int), k6cell c3 k) :: ((if k < bs.length then [(at0 bs (k : Int), k6cell c3 k)] else []) ++ k6due c3 bs ks)
def k6w (c3 : Int) (ks : List Nat) : List (Int × Blk) := ks.map fun k : Nat => (1 + (k : Int), k6cell c3 k)
section
variable {c1 c3 : Int} {n s : Nat} {bs : List Int}
theorem k6due_mem {w : Int × Blk} : ∀ {ks : List Nat}, w ∈ k6due c3 bs ks → ∃ k ∈ ks, w.2 = k6cell c3 k ∧ (w.1 = 1 + (k : Int) ∨ (k < bs.length ∧ w.1 = at0 bs (k : Int)))
  | [], h => by cases h
  | k :: ks, h => by
    simp only [k6due, List.mem_cons, List.mem_append] at h
    rcases h with rfl | h | h
    · exact ⟨k, List.mem_cons_self, rfl, .inl rfl⟩
    · split at h
      · rename_i hk
        simp only [List.mem_singleton] at h
        subst h
        exact ⟨k, List.mem_cons_self, rfl, .inr ⟨hk, rfl⟩⟩
      · cases h
    · obtain ⟨k', hk', r⟩ := k6due_mem h
      exact ⟨k', List.mem_cons_of_mem _ hk', r⟩
theorem k6due_in : ∀ {ks : List Nat} {k : Nat}, k ∈ ks → (1 + (k : Int), k6cell c3 k) ∈ k6due c3 bs ks ∧ (k < bs.length → (at0 bs (k : Int), k6cell c3 k) ∈ k6due c3 bs ks)
  | [], k, h => by cases h
  | k' :: ks, k, h => by
    simp only [k6due, List.mem_cons, List.mem_append]
    rcases List.mem_cons.mp h with rfl | h
    · exact ⟨.inl rfl, fun hk => .inr (.inl (by rw [if_pos hk]; exact List.mem_cons_self))⟩
    · obtain ⟨h1, h2⟩ := k6due_in h
      exact ⟨.inr (.inr h1), fun hk => .inr (.inr (h2 hk))⟩
theorem at0_mem {k : Nat} (hk : k < bs.length) : at0 bs (k : Int) ∈ bs := by
  unfold at0
  simp only [Int.toNat_natCast]
  rw [List.getD_eq_getElem?_getD, List.getElem?_eq_getElem hk]
  exact List.getElem_mem hk
theorem pip_mem' {R : List Blk} : ∀ {bs : List Int} {k0 : Nat} {w : Int × Blk}, w ∈ pipW R k0 bs → ∃ k : Nat, k < bs.length ∧ w.1 = at0 bs (k : Int) ∧ w.2 = row R (1 + ((k0 + k : Nat) : Int))
  | [], k0, w, h => by cases h
  | b :: bs, k0, w, h => by
    simp only [pipW, List.mem_cons] at h
    rcases h with rfl | h
    · exact ⟨0, by simp, rfl, rfl⟩
    · obtain ⟨k, h1, h2, h3⟩ := pip_mem' h
      refine ⟨k + 1, by simpa using h1, ?_, ?_⟩
      · rw [h2]
        unfold at0
        simp only [Int.toNat_natCast]
        rfl
      · rw [h3]
        congr 1
        omega
theorem pip_in {R : List Blk} : ∀ {bs : List Int} {k0 k : Nat}, k < bs.length → (at0 bs (k : Int), row R (1 + ((k0 + k : Nat) : Int))) ∈ pipW R k0 bs
  | [], k0, k, h => by cases h
  | b :: bs, k0, 0, h => by simp [pipW, at0]
  | b :: bs, k0, k + 1, h => by
    have ih := pip_in (R := R) (bs := bs) (k0 := k0 + 1) (k := k) (by simpa using h)
    simp only [pipW, List.mem_cons]
    refine .inr ?_
    have e : k0 + 1 + k = k0 + (k + 1) := by omega
    rw [e] at ih
    have e2 : at0 (b :: bs) ((k + 1 : Nat) : Int) = at0 bs (k : Int) := by
      unfold at0
      simp only [Int.toNat_natCast]
      rfl
    rw [e2]
    exact ih
theorem at0_inj (hr : bs.Pairwise (· < ·)) {k l : Nat} (hk : k < bs.length) (hl : l < bs.length) (e : at0 bs (k : Int) = at0 bs (l : Int)) : k = l := by
  unfold at0 at e
  simp only [Int.toNat_natCast, List.getD_eq_getElem?_getD, List.getElem?_eq_getElem hk, List.getElem?_eq_getElem hl, Option.getD_some] at e
  have h1 := List.pairwise_iff_getElem.mp hr
  rcases Nat.lt_trichotomy k l with h | h | h
  · have := h1 k l hk hl h; omega
  · exact h
  · have := h1 l k hl hk h; omega
/-- opened, the disk holds what is due -/
theorem k6_end (hs : 20 ≤ s) (hl : bs.length ≤ 7) (hb : ∀ b ∈ bs, 8 < b ∧ b < s) (hr : bs.Pairwise (· < ·)) :
    applyW ((applyW (setDk n s).R (k6w c3 (List.range 7))).set 0 (jourB bs)) (comeW ((applyW (setDk n s).R (k6w c3 (List.range 7))).set 0 (jourB bs))) = applyW (setDk n s).R (k6due c3 bs (List.range 7)) := by
  have l0 := set_len n s
  have r0 := set_row0 n s hs
  generalize (setDk n s).R = R at *
  have l7 : (applyW R (k6w c3 (List.range 7))).length = s := by rw [applyW_len]; exact l0
  have r1 : ∀ k : Nat, k < 7 → row (applyW R (k6w c3 (List.range 7))) (1 + (k : Int)) = k6cell c3 k := fun k hk => by
    refine row_apply (by omega) (by omega) (fun w hw => ?_) (fun w hw e => ?_) (.inl ⟨(1 + (k : Int), k6cell c3 k), List.mem_map.mpr ⟨k, List.mem_range.mpr hk, rfl⟩, rfl⟩)
    · obtain ⟨k', _, rfl⟩ := List.mem_map.mp hw
      simp only
      omega
    · obtain ⟨k', _, rfl⟩ := List.mem_map.mp hw
      simp only at e ⊢
      have : k' = k := by omega
      rw [this]
  have rz : ∀ z : Int, 0 ≤ z → (z = 0 ∨ 8 ≤ z) → row (applyW R (k6w c3 (List.range 7))) z = row R z := fun z hz h => by
    refine row_apply_no hz fun w hw => ?_
    obtain ⟨k', hk', rfl⟩ := List.mem_map.mp hw
    rw [List.mem_range] at hk'
    simp only
    omega
  generalize applyW R (k6w c3 (List.range 7)) = S at *
  have e0 : row (S.set 0 (jourB bs)) 0 = jourB bs := row_set_self (z := 0) (by omega) (by omega)
  have ez : ∀ z : Int, 0 < z → row (S.set 0 (jourB bs)) z = row S z := fun z hz => row_set (z := 0) (by omega) (by omega) (by omega)
  have dz : ∀ z : Int, 0 ≤ z → z < s → row (applyW R (k6due c3 bs (List.range 7))) z = if z = 0 then zeroB else if z ≤ 7 then k6cell c3 (z - 1).toNat else row (applyW R (k6due c3 bs (List.range 7))) z := fun z h0 h1 => by
    by_cases q : z = 0
    · rw [if_pos q, q]
      rw [row_apply_no (by omega) fun w hw => ?_]
      · exact r0
      · obtain ⟨k, _, _, e | ⟨hk, e⟩⟩ := k6due_mem hw
        · omega
        · have := hb _ (at0_mem hk)
          omega
    · rw [if_neg q]
      by_cases q2 : z ≤ 7
      · rw [if_pos q2]
        refine row_apply h0 (by omega) (fun w hw => ?_) (fun w hw e => ?_) (.inl ?_)
        · obtain ⟨k, _, _, e | ⟨hk, e⟩⟩ := k6due_mem hw
          · omega
          · have := hb _ (at0_mem hk)
            omega
        · obtain ⟨k, _, e2, e3 | ⟨hk, e3⟩⟩ := k6due_mem hw
          · rw [e2]
            congr 1
            omega
          · have := hb _ (at0_mem hk)
            omega
        · refine ⟨_, (k6due_in (ks := List.range 7) (k := (z - 1).toNat) (List.mem_range.mpr (by omega))).1, ?_⟩
          simp only
          omega
      · rw [if_neg q2]
  unfold comeW
  rw [e0, jour_pend hl]
  by_cases hbs : bs = []
  · rw [if_pos hbs]
    subst hbs
    refine rows_ext ?_ fun z h0 h1 => ?_
    · show (S.set 0 _).length = _
      rw [List.length_set, applyW_len, l7, l0]
    · have h1' : z < s := by
        have : (applyW (S.set 0 (jourB [])) []).length = s := by show (S.set 0 _).length = _; rw [List.length_set]; exact l7
        omega
      show row (S.set 0 (jourB [])) z = _
      rw [dz z h0 h1']
      by_cases q : z = 0
      · rw [if_pos q, q, e0]
        rfl
      · rw [if_neg q, ez z (by omega)]
        by_cases q2 : z ≤ 7
        · rw [if_pos q2]
          have := r1 (z - 1).toNat (by omega)
          rw [show 1 + (((z - 1).toNat : Nat) : Int) = z by omega] at this
          exact this
        · rw [if_neg q2, rz z h0 (.inr (by omega))]
          rw [row_apply_no h0 fun w hw => ?_]
          obtain ⟨k, hk0, _, e | ⟨hk, e⟩⟩ := k6due_mem hw
          · rw [List.mem_range] at hk0
            omega
          · cases hk
  · rw [if_neg hbs]
    refine rows_ext ?_ fun z h0 h1 => ?_
    · rw [applyW_len, List.length_set, applyW_len, l7, l0]
    · have h1' : z < s := by
        rw [applyW_len, List.length_set] at h1
        omega
      rw [dz z h0 h1', applyW_app]
      have lp : (applyW (S.set 0 (jourB bs)) (pipW (S.set 0 (jourB bs)) 0 bs)).length = s := by rw [applyW_len, List.length_set]; exact l7
      show row ((applyW (S.set 0 (jourB bs)) (pipW (S.set 0 (jourB bs)) 0 bs)).set (0 : Int).toNat zeroB) z = _
      by_cases q : z = 0
      · rw [if_pos q, q, row_set_self (by omega) (by omega)]
      · rw [if_neg q, row_set (by omega) h0 (by omega)]
        by_cases q2 : z ≤ 7
        · rw [if_pos q2, row_apply_no h0 fun w hw => ?_]
          · rw [ez z (by omega)]
            have := r1 (z - 1).toNat (by omega)
            rw [show 1 + (((z - 1).toNat : Nat) : Int) = z by omega] at this
            exact this
          · obtain ⟨k, hk, e, _⟩ := pip_mem' hw
            have := hb _ (at0_mem hk)
            omega
        · rw [if_neg q2]
          by_cases q3 : ∃ k : Nat, k < bs.length ∧ at0 bs (k : Int) = z
          · obtain ⟨k, hk, e⟩ := q3
            have v : row (S.set 0 (jourB bs)) (1 + ((0 + k : Nat) : Int)) = k6cell c3 k := by
              rw [ez _ (by omega)]
              have := r1 k (by omega)
              rw [show ((0 + k : Nat) : Int) = (k : Int) by omega]
              exact this
            have a1 : row (applyW (S.set 0 (jourB bs)) (pipW (S.set 0 (jourB bs)) 0 bs)) z = k6cell c3 k := by
              refine row_apply h0 (by rw [List.length_set]; omega) (fun w hw => ?_) (fun w hw e2 => ?_) (.inl ⟨_, pip_in hk, e⟩)
              · obtain ⟨k', hk', e', _⟩ := pip_mem' hw
                have := hb _ (at0_mem hk')
                omega
              · obtain ⟨k', hk', e', e3⟩ := pip_mem' hw
                have : k' = k := at0_inj hr hk' hk (by rw [← e', e2, e])
                rw [e3, this]
                exact v
            have a2 : row (applyW R (k6due c3 bs (List.range 7))) z = k6cell c3 k := by
              refine row_apply h0 (by omega) (fun w hw => ?_) (fun w hw e2 => ?_) (.inl ⟨_, (k6due_in (ks := List.range 7) (k := k) (List.mem_range.mpr (by omega))).2 hk, e⟩)
              · obtain ⟨k', _, _, e' | ⟨hk', e'⟩⟩ := k6due_mem hw
                · omega
                · have := hb _ (at0_mem hk')
                  omega
              · obtain ⟨k', h7, e3, e' | ⟨hk', e'⟩⟩ := k6due_mem hw
                · rw [List.mem_range] at h7
                  omega
                · have : k' = k := at0_inj hr hk' hk (by rw [← e', e2, e])
                  rw [e3, this]
            rw [a1, a2]
          · have a1 : row (applyW (S.set 0 (jourB bs)) (pipW (S.set 0 (jourB bs)) 0 bs)) z = row R z := by
              rw [row_apply_no h0 fun w hw => ?_, ez z (by omega), rz z h0 (.inr (by omega))]
              obtain ⟨k', hk', e', _⟩ := pip_mem' hw
              have := hb _ (at0_mem hk')
              exact ⟨by omega, fun e2 => q3 ⟨k', hk', by rw [← e', e2]⟩⟩
            have a2 : row (applyW R (k6due c3 bs (List.range 7))) z = row R z := by
              rw [row_apply_no h0 fun w hw => ?_]
              obtain ⟨k', h7, _, e' | ⟨hk', e'⟩⟩ := k6due_mem hw
              · rw [List.mem_range] at h7
                omega
              · have := hb _ (at0_mem hk')
                exact ⟨by omega, fun e2 => q3 ⟨k', hk', by rw [← e', e2]⟩⟩
            rw [a1, a2]
end
end DL
namespace DL
open PySem PySem.Spec L2
open PyProof.Rows hiding St
/-! ### heads that are none -/
def k6heads (s L : Int) : List Blk := [[8, 9, 9, 9, 9, 9, 9, 9], [1, 8, 0, 0, 0, 0, 0, 0], [1, s, 0, 0, 0, 0, 0, 0], [2, L, L, 0, 0, 0, 0, 0], [1, L, L, 0, 0, 0, 0, 0], [2, L, 0, 0, 0, 0, 0, 0], [0, 9, 0, 0, 0, 0, 0, 0], [2, L + 1, L, 0, 0, 0, 0, 0]]
def k6odds (s : Int) : List Blk := [[77, 0, 0, 0, 0, 0, 0, 0], [77, 31, 0, 0, 0, 0, 0, 0], [77, s, 0, 0, 0, 0, 0, 0], [76, 3, 0, 0, 0, 0, 0, 0], [77, 3, 1, 0, 0, 0, 0, 0]]
theorem k6heads_bad {R : List Blk} {L : Int} (hL : 9 ≤ L) (hL2 : L < R.length) {b : Blk} (hb : b ∈ k6heads R.length L) (h0 : row R 0 = b) : pendOk R = false := by
  unfold pendOk pendC
  rw [h0, Bool.and_eq_false_iff]
  simp only [k6heads, List.mem_cons, List.not_mem_nil, or_false] at hb
  rcases hb with rfl | rfl | rfl | rfl | rfl | rfl | rfl | rfl
  · refine .inl ?_
    decide +kernel
  · refine .inr ?_
    have e : pendB [1, 8, 0, 0, 0, 0, 0, 0] = [8] := by decide +kernel
    rw [e]
    simp
  · refine .inr ?_
    have e : pendB [1, (R.length : Int), 0, 0, 0, 0, 0, 0] = [(R.length : Int)] := rfl
    rw [e]
    simp
  · refine .inr ?_
    have e : pendB [2, L, L, 0, 0, 0, 0, 0] = [L, L] := rfl
    have e2 : dupI (sortI [L, L]) = [L] := by
      have : sortI [L, L] = [L, L] := by simp [sortI, sortG, insG, ltI]
      rw [this]
      simp [dupI]
    rw [e, e2]
    simp
  · refine .inl ?_
    unfold pendA
    have e : cutL [1, L, L, 0, 0, 0, 0, 0] (some (1 + at0 [1, L, L, 0, 0, 0, 0, 0] 0)) none = [L, 0, 0, 0, 0, 0] := rfl
    rw [e]
    have : ¬ L = 0 := by omega
    simp [at0, List.replicate, this]
  · refine .inr ?_
    have e : pendB [2, L, 0, 0, 0, 0, 0, 0] = [L, 0] := rfl
    rw [e]
    simp
  · refine .inl ?_
    decide +kernel
  · refine .inr ?_
    have e : pendB [2, L + 1, L, 0, 0, 0, 0, 0] = [L + 1, L] := rfl
    have e2 : sortI [L + 1, L] = [L, L + 1] := by
      have : ltI L (L + 1) = true := by simp [ltI]; omega
      simp [sortI, sortG, insG, this]
    have e3 : dupI [L, L + 1] = [L, L + 1] := by
      have : ¬ L = L + 1 := by omega
      simp [dupI, this]
    rw [e, e2, e3]
    have : ¬ L + 1 = L := by omega
    simp [this]
theorem k6odds_bad {R : List Blk} {b : Blk} (hl : 20 ≤ R.length) (hb : b ∈ k6odds R.length) (h0 : row R 8 = b) : headOk R = false := by
  unfold headOk
  rw [h0]
  simp only [k6odds, List.mem_cons, List.not_mem_nil, or_false] at hb
  rcases hb with rfl | rfl | rfl | rfl | rfl
  · have : at0 [77, 0, 0, 0, 0, 0, 0, 0] 1 = 0 := rfl
    rw [this]
    simp
  · have : at0 [77, 31, 0, 0, 0, 0, 0, 0] 1 = 31 := rfl
    rw [this]
    simp
  · have : at0 [77, (R.length : Int), 0, 0, 0, 0, 0, 0] 1 = R.length := rfl
    rw [this]
    have h2 : (R.length : Int) < 9 + (R.length : Int) + 1 := by omega
    simp [h2]
  · have : at0 [76, 3, 0, 0, 0, 0, 0, 0] 1 = 3 := rfl
    rw [this]
    simp [headB]
  · have : at0 [77, 3, 1, 0, 0, 0, 0, 0] 1 = 3 := rfl
    rw [this]
    simp [headB]
/-! ### lists of blocks -/
theorem eqL_dB : ∀ a b : List Blk, eqL (a.map dB) (b.map dB) = decide (a = b)
  | [], [] => rfl
  | [], _ :: _ => rfl
  | _ :: _, [] => rfl
  | x :: a, y :: b => by
    have ih := eqL_dB a b
    have e : eqD (dB x) (dB y) = decide (x = y) := by simp only [dB, eqD, eqL_ints]
    simp only [List.map_cons, eqL, e, ih]
    by_cases h : x = y <;> by_cases h2 : a = b <;> simp [h, h2]
theorem shp_rows (R : List Blk) : shpD (.lst (R.map dB)) = true := shp_lst fun x hx => by
  obtain ⟨b, _, rfl⟩ := List.mem_map.mp hx
  have := shp_dB b
  simp only [shpD, Bool.and_eq_true, decide_eq_true_eq] at this
  refine ⟨this.1, ?_⟩
  simp [dB, depD, depL_ints]
theorem oEqB_rows {h : DH} {x y : D} {R S : List Blk} (hx : derefL h x = .lst (R.map dB)) (hy : derefL h y = .lst (S.map dB)) : oEqB h x y = some (decide (R = S)) := by
  simp only [oEqB, hx, hy, shp_rows, Bool.and_self, if_true, eqD, eqL_dB]
theorem deref_at {h : DH} {a : Nat} {xs : List D} (e : h[a]? = some (.lst xs)) : derefL h (.ref a) = .lst xs := by simp [derefL, e]
end DL
set_option maxRecDepth 100000
set_option maxHeartbeats 4000000
namespace DL
open PySem PySem.Spec L2
open PyProof.Rows hiding St
theorem oIx_nodes (h : DH) (t f : Nat) (n b a : Int) (i : Nat) (e : h[i]? = some (.dct (stD t f n b a))) : oIx h (.ref i) (.str "nodes") = some (.int n) := by
  have : getK (stD t f n b a) (.inr "nodes") = some (.int n) := by kernel_rfl
  simp [oIx, dctOf, e, this]
theorem oIx_blocks (h : DH) (t f : Nat) (n b a : Int) (i : Nat) (e : h[i]? = some (.dct (stD t f n b a))) : oIx h (.ref i) (.str "blocks") = some (.int b) := by
  have : getK (stD t f n b a) (.inr "blocks") = some (.int b) := by kernel_rfl
  simp [oIx, dctOf, e, this]
section
variable {ns : List Int} {n s : Nat} {d : Dk}
def k6s0 : Sx := zAsg (xCall F_law_disk (xCons (xCall F_law_cell (xCons (xVar 0) (xCons (xC (.int 0)) (xNil)))) (xNil))) (gTp 2 (gsConsD (gN 11) (gsConsD (gN 12) (gsNilD))))
def k6s1 : Sx := zAsg (xMeth .disk F_Disk_size (xVar 11) xNil) (gN 1)
def k6s2 : Sx := zAsg (xComp (iRg1 (xCons (xC (.int 7)) (xNil))) [5] (gN 5) (xYes) (xBin oAdd (xBin oAdd (xC (.int 9)) (xBin oIx (xVar 12) (xC (.str "nodes")))) (xCall F_law_mix (xCons (xBin oAdd (xCall F_law_cell (xCons (xVar 0) (xCons (xC (.int 1)) (xNil)))) (xBin oMul (xC (.int 7)) (xVar 5))) (xCons (xC (.int 9949)) (xCons (xBin oIx (xVar 12) (xC (.str "blocks"))) (xNil))))))) (gN 2)
def k6s3 : Sx := zAsg (xSl (xUn oSortedSet (xVar 2)) (xNoPart) (xPart (xBin oMod (xCall F_law_cell (xCons (xVar 0) (xCons (xC (.int 2)) (xNil)))) (xC (.int 8))))) (gN 3)
def k6s4 : Sx := zAsg (xCall F_law_all_blocks (xCons (xVar 11) (xNil))) (gN 4)
def k6s5 : Sx := zFor (iRg1 (xCons (xC (.int 7)) (xNil))) (gN 5) (zSeq (zAsg (xUn oTuple (xComp (iRg1 (xCons (xC (.int 8)) (xNil))) [15] (gN 15) (xYes) (xCall F_law_pick (xCons (xCall F_law_seed (xCons (xBin oAdd (xCall F_law_cell (xCons (xVar 0) (xCons (xC (.int 3)) (xNil)))) (xBin oMul (xC (.int 8)) (xVar 5))) (xCons (xVar 15) (xNil)))) (xCons (xC (.int 1000)) (xNil)))))) (gN 13)) (zSeq (zExpr (xMeth .disk F_Disk_write (xVar 11) (xCons (xBin oAdd (xC (.int 1)) (xVar 5)) (xCons (xVar 13) (xNil))))) (zSeq (zItem (xVar 4) (xBin oAdd (xC (.int 1)) (xVar 5)) (xVar 13)) (zIf (xTB (xBin oLt (xVar 5) (xUn oLen (xVar 3)))) (zItem (xVar 4) (xBin oIx (xVar 3) (xVar 5)) (xVar 13)) (zNext)))))
def k6s6 : Sx := zExpr (xMeth .disk F_Disk_write (xVar 11) (xCons (xC (.int 0)) (xCons (xBin oAdd (xBin oAdd (xTup (xCons (xUn oLen (xVar 3)) (xNil))) (xUn oTuple (xVar 3))) (xBin oMul (xTup (xCons (xC (.int 0)) (xNil))) (xBin oSub (xC (.int 7)) (xUn oLen (xVar 3))))) (xNil))))
def k6s7 : Sx := zAsg (xIf (xTB (xBin oNe (xVar 3) (xLst (xNil)))) (xBin oIx (xVar 3) (xUn oNeg (xC (.int 1)))) (xC (.int 9))) (gN 6)
def k6s8 : Sx := zAsg (xLstN (xCons (xBin oAdd (xTup (xCons (xC (.int 8)) (xNil))) (xBin oMul (xTup (xCons (xC (.int 9)) (xNil))) (xC (.int 7)))) (xCons (xBin oAdd (xTup (xCons (xC (.int 1)) (xCons (xC (.int 8)) (xNil)))) (xBin oMul (xTup (xCons (xC (.int 0)) (xNil))) (xC (.int 6)))) (xCons (xBin oAdd (xTup (xCons (xC (.int 1)) (xCons (xVar 1) (xNil)))) (xBin oMul (xTup (xCons (xC (.int 0)) (xNil))) (xC (.int 6)))) (xCons (xBin oAdd (xTup (xCons (xC (.int 2)) (xCons (xVar 6) (xCons (xVar 6) (xNil))))) (xBin oMul (xTup (xCons (xC (.int 0)) (xNil))) (xC (.int 5)))) (xNil)))))) (gN 7)
def k6s9 : Sx := zAsg (xAddN (xVar 7) (xLst (xCons (xBin oAdd (xTup (xCons (xC (.int 1)) (xCons (xVar 6) (xCons (xVar 6) (xNil))))) (xBin oMul (xTup (xCons (xC (.int 0)) (xNil))) (xC (.int 5)))) (xCons (xBin oAdd (xTup (xCons (xC (.int 2)) (xCons (xVar 6) (xNil)))) (xBin oMul (xTup (xCons (xC (.int 0)) (xNil))) (xC (.int 6)))) (xCons (xBin oAdd (xTup (xCons (xC (.int 0)) (xCons (xC (.int 9)) (xNil)))) (xBin oMul (xTup (xCons (xC (.int 0)) (xNil))) (xC (.int 6)))) (xNil)))))) (gN 7)
def k6s10 : Sx := zExpr (xApp (xVar 7) (xBin oAdd (xTup (xCons (xC (.int 2)) (xCons (xBin oAdd (xVar 6) (xC (.int 1))) (xCons (xVar 6) (xNil))))) (xBin oMul (xTup (xCons (xC (.int 0)) (xNil))) (xC (.int 5)))))
def k6s11 : Sx := zAsg (xCall F_law_copy (xCons (xVar 11) (xCons (xC .non) (xNil)))) (gN 8)
def k6s12 : Sx := zIf (xTB (xBin oGt (xBin oMod (xCall F_law_cell (xCons (xVar 0) (xCons (xC (.int 4)) (xNil)))) (xC (.int 3))) (xC (.int 0)))) (zExpr (xMeth .disk F_Disk_write (xVar 8) (xCons (xC (.int 0)) (xCons (xBin oIx (xVar 7) (xBin oMod (xCall F_law_cell (xCons (xVar 0) (xCons (xC (.int 5)) (xNil)))) (xC (.int 8)))) (xNil))))) (zSeq (zAsg (xLstN (xCons (xBin oAdd (xTup (xCons (xC (.int 77)) (xCons (xC (.int 0)) (xNil)))) (xBin oMul (xTup (xCons (xC (.int 0)) (xNil))) (xC (.int 6)))) (xCons (xBin oAdd (xTup (xCons (xC (.int 77)) (xCons (xC (.int 31)) (xNil)))) (xBin oMul (xTup (xCons (xC (.int 0)) (xNil))) (xC (.int 6)))) (xCons (xBin oAdd (xTup (xCons (xC (.int 77)) (xCons (xVar 1) (xNil)))) (xBin oMul (xTup (xCons (xC (.int 0)) (xNil))) (xC (.int 6)))) (xCons (xBin oAdd (xTup (xCons (xC (.int 76)) (xCons (xC (.int 3)) (xNil)))) (xBin oMul (xTup (xCons (xC (.int 0)) (xNil))) (xC (.int 6)))) (xNil)))))) (gN 14)) (zSeq (zExpr (xApp (xVar 14) (xBin oAdd (xTup (xCons (xC (.int 77)) (xCons (xC (.int 3)) (xCons (xC (.int 1)) (xNil))))) (xBin oMul (xTup (xCons (xC (.int 0)) (xNil))) (xC (.int 5)))))) (zExpr (xMeth .disk F_Disk_write (xVar 8) (xCons (xC (.int 8)) (xCons (xBin oIx (xVar 14) (xBin oMod (xCall F_law_cell (xCons (xVar 0) (xCons (xC (.int 5)) (xNil)))) (xC (.int 5)))) (xNil)))))))
def k6s13 : Sx := zAsg (xCall F_law_all_blocks (xCons (xVar 8) (xNil))) (gN 9)
def k6s14 : Sx := zAsg (xC (.bl false)) (gN 10)
def k6s15 : Sx := zTry (zExpr (xMake .drawers F_Drawers_init__ (xCons (xVar 8) (xNil)))) ((.badDisk, zAsg (xC (.bl true)) (gN 10)) :: [])
def k6s16 : Sx := zIf (yOr (yNot (xTru (xVar 10))) (xTB (xBin oNe (xCall F_law_all_blocks (xCons (xVar 8) (xNil))) (xVar 9)))) (zRet (xC (.bl false))) (zNext)
def k6s17 : Sx := zExpr (xMake .drawers F_Drawers_init__ (xCons (xVar 11) (xNil)))
def k6s18 : Sx := zRet (xBin oEq (xCall F_law_all_blocks (xCons (xVar 11) (xNil))) (xVar 4))
theorem t0 (ns : List Int) : ∃ n s : Nat, (n : Int) = nodZ (cellN ns 0) ∧ (s : Int) = sizZ (cellN ns 0) ∧ k6s0 [some (.scr ns), none, none, none, none, none, none, none, none, none, none, none, none, none, none, none] [] = .nx [some (.scr ns), none, none, none, none, none, none, none, none, none, none, some (.ref 0), some (.ref 2), none, none, none] [dkO 1 (setDk n s), dkL (setDk n s), .dct (stD 3 4 (n : Int) ((s : Int) - 9 - (n : Int)) 0), .dct [], .lst []] := by
  obtain ⟨n, s, e1, e2, e3⟩ := m_law_disk (cellN ns 0) []
  refine ⟨n, s, e1, e2, ?_⟩
  have lc := m_law_cell ns 0 []
  simp only [List.length_nil, List.nil_append, Nat.zero_add] at e3
  simp only [k6s0, zAsg, xCall_, xCons_, xNil_, xVar, List.getElem?_cons_zero, bnd_ok_, xC_, Int.cast_ofNat_Int] at lc ⊢
  rw [show F_law_cell [.scr ns, .int 0] [] = _ from lc]
  simp only [bnd_ok_, e3, toS_ok_]
  rfl
theorem t1 (hd : d.R.length = s) : k6s1 [some (.scr ns), none, none, none, none, none, none, none, none, none, none, some (.ref 0), some (.ref 2), none, none, none] [dkO 1 (d), dkL (d), .dct (stD 3 4 (n : Int) ((s : Int) - 9 - (n : Int)) 0), .dct [], .lst []] = .nx [some (.scr ns), some (.int (s : Int)), none, none, none, none, none, none, none, none, none, some (.ref 0), some (.ref 2), none, none, none] [dkO 1 (d), dkL (d), .dct (stD 3 4 (n : Int) ((s : Int) - 9 - (n : Int)) 0), .dct [], .lst []] := by
  have A : DkAt [dkO 1 (d), dkL (d), .dct (stD 3 4 (n : Int) ((s : Int) - 9 - (n : Int)) 0), .dct [], .lst []] 0 1 d := ⟨rfl, rfl⟩
  have e := msize A
  rw [hd] at e
  simp [k6s1, xVar, A.isCl, e]
theorem t2 (hb : 0 < (s : Int) - 9 - n) : k6s2 [some (.scr ns), some (.int (s : Int)), none, none, none, none, none, none, none, none, none, some (.ref 0), some (.ref 2), none, none, none] [dkO 1 (d), dkL (d), .dct (stD 3 4 (n : Int) ((s : Int) - 9 - (n : Int)) 0), .dct [], .lst []] = .nx [some (.scr ns), some (.int (s : Int)), some (.lst ((k6some (cellN ns 1) n ((s : Int) - 9 - n)).map .int)), none, none, none, none, none, none, none, none, some (.ref 0), some (.ref 2), none, none, none] [dkO 1 (d), dkL (d), .dct (stD 3 4 (n : Int) ((s : Int) - 9 - (n : Int)) 0), .dct [], .lst []] := by
  have lc := fun h => m_law_cell ns 1 h
  have key : xComp (iRg1 (xCons (xC (.int 7)) (xNil))) [5] (gN 5) (xYes) (xBin oAdd (xBin oAdd (xC (.int 9)) (xBin oIx (xVar 12) (xC (.str "nodes")))) (xCall F_law_mix (xCons (xBin oAdd (xCall F_law_cell (xCons (xVar 0) (xCons (xC (.int 1)) (xNil)))) (xBin oMul (xC (.int 7)) (xVar 5))) (xCons (xC (.int 9949)) (xCons (xBin oIx (xVar 12) (xC (.str "blocks"))) (xNil)))))) [some (.scr ns), some (.int (s : Int)), none, none, none, none, none, none, none, none, none, some (.ref 0), some (.ref 2), none, none, none] [dkO 1 (d), dkL (d), .dct (stD 3 4 (n : Int) ((s : Int) - 9 - (n : Int)) 0), .dct [], .lst []] = .ok (.lst ((k6some (cellN ns 1) n ((s : Int) - 9 - n)).map .int)) [dkO 1 (d), dkL (d), .dct (stD 3 4 (n : Int) ((s : Int) - 9 - (n : Int)) 0), .dct [], .lst []] := by
    refine xComp_go (ds := intsD 0 7) (h1 := [dkO 1 (d), dkL (d), .dct (stD 3 4 (n : Int) ((s : Int) - 9 - (n : Int)) 0), .dct [], .lst []]) (iRg1_nat (n := 7) rfl (by omega)) ?_
    rw [zComp_map (G := gN 5) (fun d => match d with | .int k => .int (9 + (n : Int) + mixZ (cellN ns 1 + 7 * k) 9949 ((s : Int) - 9 - n)) | _ => .non) (intsD 0 7) (fun d hd => ?_) (by rw [intsD_length]; exact lt_sizeLine _ (by omega))]
    · rw [intsD_eq]
      simp only [k6some, List.map_map]
      congr 2
      funext k
      simp
    · obtain ⟨k, hk, rfl⟩ := mem_intsD hd
      refine ⟨_, rfl, ?_⟩
      have e1 := oIx_nodes [dkO 1 (d), dkL (d), .dct (stD 3 4 (n : Int) ((s : Int) - 9 - (n : Int)) 0), .dct [], .lst []] 3 4 n ((s : Int) - 9 - n) 0 2 rfl
      have e2 := oIx_blocks [dkO 1 (d), dkL (d), .dct (stD 3 4 (n : Int) ((s : Int) - 9 - (n : Int)) 0), .dct [], .lst []] 3 4 n ((s : Int) - 9 - n) 0 2 rfl
      have lc1 := lc [dkO 1 (d), dkL (d), .dct (stD 3 4 (n : Int) ((s : Int) - 9 - (n : Int)) 0), .dct [], .lst []]
      rw [show ((1 : Nat) : Int) = 1 from rfl] at lc1
      simp [wipeR, xVar, e1, e2, lc1, oMul_l _ 7 _ (show -(2:Int) ^ 64 < 7 ∧ (7:Int) < 2 ^ 64 by omega), m_law_mix _ 9949 _ _ (by omega) hb]
  rw [k6s2, zAsg_, key]
  rfl
theorem cutL_map {α β : Type} (f : α → β) (xs : List α) (lo hi : Option Int) : cutL (xs.map f) lo hi = (cutL xs lo hi).map f := by
  simp only [cutL, List.length_map, List.map_take, List.map_drop]
def k6bs (ns : List Int) (n s : Nat) : List Int := (dupI (sortI (k6some (cellN ns 1) n ((s : Int) - 9 - n)))).take (cellN ns 2 % 8).toNat
theorem k6some_mem {c n b x : Int} (hb : 0 < b) (h : x ∈ k6some c n b) : 9 + n ≤ x ∧ x < 9 + n + b := by
  obtain ⟨k, _, rfl⟩ := List.mem_map.mp h
  have h1 := Int.emod_nonneg ((((c + 7 * (k : Int)) * 48271 % 9949) ^ 3 % 9949)) (show b ≠ 0 by omega)
  have h2 := Int.emod_lt_of_pos ((((c + 7 * (k : Int)) * 48271 % 9949) ^ 3 % 9949)) hb
  unfold mixZ
  omega
theorem k6bs_ok (hb : 0 < (s : Int) - 9 - n) : (k6bs ns n s).length ≤ 7 ∧ (k6bs ns n s).Pairwise (· < ·) ∧ ∀ b ∈ k6bs ns n s, 9 + (n : Int) ≤ b ∧ b < s := by
  unfold k6bs
  refine ⟨?_, ?_, fun b h => ?_⟩
  · rw [List.length_take]
    omega
  · exact (dupI_rise _ (sortI_le _)).sublist (List.take_sublist _ _)
  · have := List.mem_of_mem_take h
    rw [dupI_mem, sortI_mem] at this
    have := k6some_mem hb this
    omega
theorem t3  : k6s3 [some (.scr ns), some (.int (s : Int)), some (.lst ((k6some (cellN ns 1) n ((s : Int) - 9 - n)).map .int)), none, none, none, none, none, none, none, none, some (.ref 0), some (.ref 2), none, none, none] [dkO 1 (d), dkL (d), .dct (stD 3 4 (n : Int) ((s : Int) - 9 - (n : Int)) 0), .dct [], .lst []] = .nx [some (.scr ns), some (.int (s : Int)), some (.lst ((k6some (cellN ns 1) n ((s : Int) - 9 - n)).map .int)), some (.lst ((k6bs ns n s).map .int)), none, none, none, none, none, none, none, some (.ref 0), some (.ref 2), none, none, none] [dkO 1 (d), dkL (d), .dct (stD 3 4 (n : Int) ((s : Int) - 9 - (n : Int)) 0), .dct [], .lst []] := by
  have lc := m_law_cell ns 2 [dkO 1 (d), dkL (d), .dct (stD 3 4 (n : Int) ((s : Int) - 9 - (n : Int)) 0), .dct [], .lst []]
  rw [show ((2 : Nat) : Int) = 2 from rfl] at lc
  have h8 : 0 ≤ cellN ns 2 % 8 := by omega
  have e1 := oSortedSet_ints [dkO 1 (d), dkL (d), .dct (stD 3 4 (n : Int) ((s : Int) - 9 - (n : Int)) 0), .dct [], .lst []] (k6some (cellN ns 1) n ((s : Int) - 9 - n)) (by simp [k6some])
  simp [k6s3, xVar, e1, lc, oMod_p _ _ 8 (by omega), oSl, lstOf, cutL_map, cut_to _ _ h8, k6bs]
theorem t4 (S : DO) (sm b3 : D) (hs : d.R.length ≤ 1000) : k6s4 [some (.scr ns), some (.int (s : Int)), some (sm), some (b3), none, none, none, none, none, none, none, some (.ref 0), some (.ref 2), none, none, none] [dkO 1 (d), dkL (d), S, .dct [], .lst []] = .nx [some (.scr ns), some (.int (s : Int)), some (sm), some (b3), some (.ref 5), none, none, none, none, none, none, some (.ref 0), some (.ref 2), none, none, none] [dkO 1 (d), dkL (d), S, .dct [], .lst [], .lst (d.R.map dB)] := by
  have A : DkAt [dkO 1 (d), dkL (d), S, .dct [], .lst []] 0 1 d := ⟨rfl, rfl⟩
  have e : F_law_all_blocks [.ref 0] [dkO 1 (d), dkL (d), S, .dct [], .lst []] = .ok (.ref 5) [dkO 1 (d), dkL (d), S, .dct [], .lst [], .lst (d.R.map dB)] := m_law_all_blocks A hs
  simp only [k6s4, zAsg_, xCall_, xCons_, xNil_, xVar, List.getElem?_cons_succ, List.getElem?_cons_zero, bnd_ok_, e, toS_ok_]
  rfl
def k6body : Sx := zSeq (zAsg (xUn oTuple (xComp (iRg1 (xCons (xC (.int 8)) (xNil))) [15] (gN 15) (xYes) (xCall F_law_pick (xCons (xCall F_law_seed (xCons (xBin oAdd (xCall F_law_cell (xCons (xVar 0) (xCons (xC (.int 3)) (xNil)))) (xBin oMul (xC (.int 8)) (xVar 5))) (xCons (xVar 15) (xNil)))) (xCons (xC (.int 1000)) (xNil)))))) (gN 13)) (zSeq (zExpr (xMeth .disk F_Disk_write (xVar 11) (xCons (xBin oAdd (xC (.int 1)) (xVar 5)) (xCons (xVar 13) (xNil))))) (zSeq (zItem (xVar 4) (xBin oAdd (xC (.int 1)) (xVar 5)) (xVar 13)) (zIf (xTB (xBin oLt (xVar 5) (xUn oLen (xVar 3)))) (zItem (xVar 4) (xBin oIx (xVar 3) (xVar 5)) (xVar 13)) (zNext))))
def rL (ns : List Int) (s : Nat) (sm : D) (bs : List Int) (a5 a13 : Option D) : Rho := [some (.scr ns), some (.int (s : Int)), some (sm), some (.lst (bs.map .int)), some (.ref 5), a5, none, none, none, none, none, some (.ref 0), some (.ref 2), a13, none, none]
def hL (S : DO) (d : Dk) (E : List Blk) : DH := [dkO 1 (d), dkL (d), S, .dct [], .lst [], .lst (E.map dB)]
theorem setIt_rows {h : DH} {j : Nat} {E : List Blk} (e : h[j]? = some (.lst (E.map dB))) (z : Int) (h0 : 0 ≤ z) (h1 : z < E.length) (b : Blk) : setIt h (.ref j) (.int z) (dB b) = some (h.set j (.lst ((E.set z.toNat b).map dB))) := by
  obtain ⟨k, rfl⟩ := Int.eq_ofNat_of_zero_le h0
  have hk : k < E.length := by omega
  have : ixN (E.map dB).length (k : Int) = some k := by
    unfold ixN
    simp [hk]
  simp only [setIt, e, intD_int, Option.bind_some, this, Option.map_some, List.map_set, Int.toNat_natCast]
theorem oIx_ints (h : DH) (bs : List Int) (k : Nat) (hk : k < bs.length) : oIx h (.lst (bs.map .int)) (.int (k : Int)) = some (.int (at0 bs (k : Int))) := by
  simp only [oIx, seqOf, lstOf]
  rw [atI_int _ _ (by omega) (by simpa using hk)]
  simp [at0, hk]
theorem cells_go (c3 : Int) (k : Nat) (hc : c3 = cellN ns 3) (sm : D) (bs : List Int) (a13 : Option D) (h : DH) : xUn oTuple (xComp (iRg1 (xCons (xC (.int 8)) (xNil))) [15] (gN 15) (xYes) (xCall F_law_pick (xCons (xCall F_law_seed (xCons (xBin oAdd (xCall F_law_cell (xCons (xVar 0) (xCons (xC (.int 3)) (xNil)))) (xBin oMul (xC (.int 8)) (xVar 5))) (xCons (xVar 15) (xNil)))) (xCons (xC (.int 1000)) (xNil))))) (rL ns s sm bs (some (.int (k : Int))) a13) h = .ok (dB (k6cell c3 k)) h := by
  have key : xComp (iRg1 (xCons (xC (.int 8)) (xNil))) [15] (gN 15) (xYes) (xCall F_law_pick (xCons (xCall F_law_seed (xCons (xBin oAdd (xCall F_law_cell (xCons (xVar 0) (xCons (xC (.int 3)) (xNil)))) (xBin oMul (xC (.int 8)) (xVar 5))) (xCons (xVar 15) (xNil)))) (xCons (xC (.int 1000)) (xNil)))) (rL ns s sm bs (some (.int (k : Int))) a13) h = .ok (.lst ((k6cell c3 k).map .int)) h := by
    refine xComp_go (ds := intsD 0 8) (h1 := h) (iRg1_nat (n := 8) rfl (by omega)) ?_
    rw [zComp_map (G := gN 15) (fun d => match d with | .int j => .int (seedZ (c3 + 8 * (k : Int)) j / 97 % 1000) | _ => .non) (intsD 0 8) (fun d hd => ?_) (by rw [intsD_length]; exact lt_sizeLine _ (by omega))]
    · rw [intsD_eq]
      simp only [k6cell, List.map_map]
      congr 2
      funext j
      simp
    · obtain ⟨j, hj, rfl⟩ := mem_intsD hd
      refine ⟨_, rfl, ?_⟩
      have lc := m_law_cell ns 3 h
      rw [show ((3 : Nat) : Int) = 3 from rfl] at lc
      simp [rL, wipeR, xVar, lc, hc, oMul_l _ 8 _ (show -(2:Int) ^ 64 < 8 ∧ (8:Int) < 2 ^ 64 by omega), m_law_seed, m_law_pick _ 1000 _ (by omega)]
  rw [xUn_, key]
  simp [oTuple, seqOf, lstOf, dB]
theorem t5_turn (S : DO) (k : Nat) (hk : k < 7) (sm : D) (bs : List Int) (hb : ∀ b ∈ bs, 8 < b ∧ b < (s : Int)) (a13 : Option D) (d : Dk) (E : List Blk) (hd : d.R.length = s) (hE : E.length = s) (hs : 20 ≤ s) (hm : d.more = none) :
    k6body (rL ns s sm bs (some (.int (k : Int))) a13) (hL S d E) = .nx (rL ns s sm bs (some (.int (k : Int))) (some (dB (k6cell (cellN ns 3) k)))) (hL S ⟨d.R.set (1 + (k : Int)).toNat (k6cell (cellN ns 3) k), none, d.many + 1⟩ (applyW E (k6due (cellN ns 3) bs [k]))) := by
  have g := k6cell_good (cellN ns 3) k
  have c1 := cells_go (ns := ns) (s := s) (cellN ns 3) k rfl sm bs a13 (hL S d E)
  have ed : applyW E (k6due (cellN ns 3) bs [k]) = (if k < bs.length then (E.set (1 + (k : Int)).toNat (k6cell (cellN ns 3) k)).set (at0 bs (k : Int)).toNat (k6cell (cellN ns 3) k) else E.set (1 + (k : Int)).toNat (k6cell (cellN ns 3) k)) := by
    simp only [k6due, applyW]
    split <;> rfl
  rw [ed]
  generalize k6cell (cellN ns 3) k = c at *
  have A : DkAt (hL S d E) 0 1 d := ⟨rfl, rfl⟩
  have u1 : zAsg (xUn oTuple (xComp (iRg1 (xCons (xC (.int 8)) (xNil))) [15] (gN 15) (xYes) (xCall F_law_pick (xCons (xCall F_law_seed (xCons (xBin oAdd (xCall F_law_cell (xCons (xVar 0) (xCons (xC (.int 3)) (xNil)))) (xBin oMul (xC (.int 8)) (xVar 5))) (xCons (xVar 15) (xNil)))) (xCons (xC (.int 1000)) (xNil)))))) (gN 13) (rL ns s sm bs (some (.int (k : Int))) a13) (hL S d E) = .nx (rL ns s sm bs (some (.int (k : Int))) (some (dB c))) (hL S d E) := by
    rw [zAsg_, c1]
    rfl
  have w := mwrite A (1 + (k : Int)) c (by omega) (by omega) g
  have ew : d.write (1 + (k : Int)) c = some ⟨d.R.set (1 + (k : Int)).toNat c, none, d.many + 1⟩ := by unfold Dk.write; rw [hm]
  rw [ew] at w
  generalize hd2 : (⟨d.R.set (1 + (k : Int)).toNat c, none, d.many + 1⟩ : Dk) = d2 at *
  have u2 : zExpr (xMeth .disk F_Disk_write (xVar 11) (xCons (xBin oAdd (xC (.int 1)) (xVar 5)) (xCons (xVar 13) (xNil)))) (rL ns s sm bs (some (.int (k : Int))) (some (dB c))) (hL S d E) = .nx (rL ns s sm bs (some (.int (k : Int))) (some (dB c))) (hL S d2 E) := by
    have w' : F_Disk_write [.ref 0, .int (1 + (k : Int)), dB c] (hL S d E) = .ok .non (hL S d2 E) := w
    simp only [zExpr_, xMeth_, rL, xVar, List.getElem?_cons_succ, List.getElem?_cons_zero, bnd_ok_, refD_ref, A.isCl, if_true, xCons_, xBin_, xC_, xNil_, oAdd_i, of_some_, w', toS_ok_]
  have i1 := setIt_rows (h := hL S d2 E) (j := 5) (E := E) rfl (1 + (k : Int)) (by omega) (by omega) c
  have i1' : setIt (hL S d2 E) (.ref 5) (.int (1 + (k : Int))) (dB c) = some (hL S d2 (E.set (1 + (k : Int)).toNat c)) := i1
  have u3 : zItem (xVar 4) (xBin oAdd (xC (.int 1)) (xVar 5)) (xVar 13) (rL ns s sm bs (some (.int (k : Int))) (some (dB c))) (hL S d2 E) = .nx (rL ns s sm bs (some (.int (k : Int))) (some (dB c))) (hL S d2 (E.set (1 + (k : Int)).toNat c)) := by
    simp only [zItem, rL, xVar, List.getElem?_cons_succ, List.getElem?_cons_zero, toS_ok_, xBin_, xC_, bnd_ok_, oAdd_i, of_some_, i1']
  generalize hE2 : E.set (1 + (k : Int)).toNat c = E2 at *
  have lE2 : E2.length = s := by rw [← hE2, List.length_set]; exact hE
  have ol : oLen (hL S d2 E2) (.lst (bs.map .int)) = some (.int bs.length) := by simp [oLen, seqOf, lstOf]
  unfold k6body
  rw [seq_go u1, seq_go u2, seq_go u3]
  by_cases q : k < bs.length
  · have q' : (k : Int) < (bs.length : Int) := by omega
    have hb1 := hb _ (at0_mem q)
    have ix := oIx_ints (hL S d2 E2) bs k q
    have i2 := setIt_rows (h := hL S d2 E2) (j := 5) (E := E2) rfl (at0 bs (k : Int)) (by omega) (by omega) c
    have i2' : setIt (hL S d2 E2) (.ref 5) (.int (at0 bs (k : Int))) (dB c) = some (hL S d2 (E2.set (at0 bs (k : Int)).toNat c)) := i2
    rw [if_pos q]
    simp only [zIf_, xTB_, xBin_, rL, xVar, List.getElem?_cons_succ, List.getElem?_cons_zero, bnd_ok_, xUn_, ol, of_some_, oLt_i, q', decide_true, xBool_bl, toS_ok_, zItem, ix, i2']
  · have q' : ¬ (k : Int) < (bs.length : Int) := by omega
    rw [if_neg q]
    simp only [zIf_, xTB_, xBin_, rL, xVar, List.getElem?_cons_succ, List.getElem?_cons_zero, bnd_ok_, xUn_, ol, of_some_, oLt_i, q', decide_false, xBool_bl, toS_ok_, zNext_]
theorem k6due_cons (c3 : Int) (bs : List Int) (k : Nat) (ks : List Nat) : k6due c3 bs (k :: ks) = k6due c3 bs [k] ++ k6due c3 bs ks := by simp [k6due]
theorem t5_loop (S : DO) (sm : D) (bs : List Int) (hb : ∀ b ∈ bs, 8 < b ∧ b < (s : Int)) (hs : 20 ≤ s) : ∀ (ks : List Nat) (a5 a13 : Option D) (d : Dk) (E : List Blk), (∀ k ∈ ks, k < 7) → d.R.length = s → E.length = s → d.more = none →
    ∃ a5' a13', zLoop (gN 5) k6body (ks.map fun k : Nat => .int (k : Int)) (rL ns s sm bs a5 a13) (hL S d E) = .nx (rL ns s sm bs a5' a13') (hL S ⟨applyW d.R (k6w (cellN ns 3) ks), none, d.many + ks.length⟩ (applyW E (k6due (cellN ns 3) bs ks)))
  | [], a5, a13, d, E, _, hd, hE, hm => by
    refine ⟨a5, a13, ?_⟩
    obtain ⟨R, m, k⟩ := d
    simp only at hm
    subst hm
    simp [zLoop, k6w, k6due, applyW]
  | k :: ks, a5, a13, d, E, hk, hd, hE, hm => by
    have t := t5_turn (ns := ns) (s := s) S k (hk k List.mem_cons_self) sm bs hb a13 d E hd hE hs hm
    obtain ⟨a5', a13', ih⟩ := t5_loop S sm bs hb hs ks (some (.int (k : Int))) (some (dB (k6cell (cellN ns 3) k))) ⟨d.R.set (1 + (k : Int)).toNat (k6cell (cellN ns 3) k), none, d.many + 1⟩ (applyW E (k6due (cellN ns 3) bs [k])) (fun x hx => hk x (List.mem_cons_of_mem _ hx)) (by simpa using hd) (by rw [applyW_len]; exact hE) rfl
    refine ⟨a5', a13', (loop_go (r1 := rL ns s sm bs (some (.int (k : Int))) a13) rfl t).trans (ih.trans ?_)⟩
    rw [k6due_cons (cellN ns 3) bs k ks, applyW_app]
    congr 2
    simp [k6w, applyW]
    omega
theorem DkAt.app {h : DH} {i j : Nat} {d : Dk} (A : DkAt h i j d) (t : DH) : DkAt (h ++ t) i j d := ⟨by rw [List.getElem?_append_left A.li]; exact A.o, by rw [List.getElem?_append_left A.lj]; exact A.l⟩
theorem at_app {h t : DH} {k : Nat} {x : DO} (e : h[k]? = some x) : (h ++ t)[k]? = some x := by
  rw [List.getElem?_append_left (List.getElem?_eq_some_iff.mp e).1]
  exact e
theorem at_set {h : DH} {k l : Nat} {x y : DO} (e : h[k]? = some x) (ne : l ≠ k) : (h.set l y)[k]? = some x := by
  rw [List.getElem?_set_ne ne]
  exact e
theorem DkAt.set {h : DH} {i j k : Nat} {d : Dk} (A : DkAt h i j d) (h1 : k ≠ i) (h2 : k ≠ j) (y : DO) : DkAt (h.set k y) i j d := ⟨at_set A.o h1, at_set A.l h2⟩
theorem make_drawers {fs : Ax} {r : Rho} {h : DH} {i j : Nat} {d : Dk} (A : DkAt h i j d) (G : GoodR d.R) (e : fs r h = .ok [.ref i] h) : xMake .drawers F_Drawers_init__ fs r h = if headOk d.R && pendOk d.R then (if (d.writes (comeW d.R)).2 then .ok (.ref h.length) ((putDk (h ++ [.ins .drawers []]) i j (d.writes (comeW d.R)).1).set h.length (.ins .drawers [.ref i])) else .er .stopped (putDk (h ++ [.ins .drawers []]) i j (d.writes (comeW d.R)).1)) else .er .badDisk (h ++ [.ins .drawers []]) := by
  unfold xMake
  rw [e, bnd_ok_]
  have ho : (h ++ [DO.ins .drawers []])[h.length]? = some (.ins .drawers []) := by simp
  rw [m_Drawers_init (A.app _) G ho]
  unfold outO
  cases q : (headOk d.R && pendOk d.R) with
  | false => rfl
  | true =>
    cases q2 : (d.writes (comeW d.R)).2 with
    | false => rfl
    | true => rfl
theorem k6tail {r : Rho} {h : DH} {dC : Dk} {E : List Blk} (hr : r.length = 16) (r4 : r[4]? = some (some (.ref 5))) (r8 : r[8]? = some (some (.ref 8))) (r11 : r[11]? = some (some (.ref 0))) (A : DkAt h 0 1 d) (B : DkAt h 8 9 dC) (hE : h[5]? = some (.lst (E.map dB))) (gd : GoodR d.R) (gC : GoodR dC.R)
    (bad : (headOk dC.R && pendOk dC.R) = false) (good : (headOk d.R && pendOk d.R) = true) (hm : d.more = none) (fin : applyW d.R (comeW d.R) = E) : ∃ h', (zSeq (k6s13) (zSeq (k6s14) (zSeq (k6s15) (zSeq (k6s16) (zSeq (k6s17) (k6s18)))))) r h = .rt (.bl true) h' := by
  have l1 := gd.top
  have l2 := gC.top
  have u13 : k6s13 r h = .nx (r.set 9 (some (.ref h.length))) (h ++ [dkL dC]) := by
    have e := m_law_all_blocks B (by omega)
    simp [k6s13, xVar, r8, e]
  have u14 : ∀ hh, k6s14 (r.set 9 (some (.ref h.length))) hh = .nx ((r.set 9 (some (.ref h.length))).set 10 (some (.bl false))) hh := fun hh => by simp [k6s14]
  generalize hr1 : (r.set 9 (some (.ref h.length))).set 10 (some (.bl false)) = r1 at u14
  have B1 := B.app [dkL dC]
  have q8 : r1[8]? = some (some (.ref 8)) := by rw [← hr1]; simp [r8]
  have u15 : k6s15 r1 (h ++ [dkL dC]) = .nx (r1.set 10 (some (.bl true))) (h ++ [dkL dC] ++ [.ins .drawers []]) := by
    have e := make_drawers (fs := xCons (xVar 8) xNil) (r := r1) B1 gC (by simp [xVar, q8])
    rw [bad] at e
    refine try_to .badDisk (r1 := r1) (h1 := h ++ [dkL dC] ++ [.ins .drawers []]) ?_ ?_
    · rw [zExpr_, e]
      rfl
    · rfl
  generalize hr2 : r1.set 10 (some (.bl true)) = r2 at u15
  have q8' : r2[8]? = some (some (.ref 8)) := by rw [← hr2]; simp [q8]
  have q9' : r2[9]? = some (some (.ref h.length)) := by rw [← hr2, ← hr1]; simp [hr]
  have q10' : r2[10]? = some (some (.bl true)) := by rw [← hr2, ← hr1]; simp [hr]
  have q11' : r2[11]? = some (some (.ref 0)) := by rw [← hr2, ← hr1]; simp [r11]
  have q4' : r2[4]? = some (some (.ref 5)) := by rw [← hr2, ← hr1]; simp [r4]
  have B2 := B1.app [.ins .drawers []]
  have A2 : DkAt (h ++ [dkL dC] ++ [.ins .drawers []]) 0 1 d := (A.app _).app _
  have k2 : (h ++ [dkL dC] ++ [.ins .drawers []])[h.length]? = some (.lst (dC.R.map dB)) := by simp [dkL]
  have hE2 : (h ++ [dkL dC] ++ [.ins .drawers []])[5]? = some (.lst (E.map dB)) := at_app (at_app hE)
  generalize h ++ [dkL dC] ++ [.ins .drawers []] = h2 at *
  have u16 : k6s16 r2 h2 = .nx r2 (h2 ++ [dkL dC]) := by
    have e := m_law_all_blocks B2 (by omega)
    have e2 : oNe (h2 ++ [dkL dC]) (.ref h2.length) (.ref h.length) = some (.bl false) := by
      rw [oNe, oEqB_rows (R := dC.R) (S := dC.R) (deref_at (by simp [dkL])) (deref_at (at_app k2))]
      simp
    simp [k6s16, xVar, q8', q9', q10', e, e2]
  have A3 := A2.app [dkL dC]
  have hE3 : (h2 ++ [dkL dC])[5]? = some (.lst (E.map dB)) := at_app hE2
  generalize h2 ++ [dkL dC] = h3 at *
  have wf := writes_free hm (comeW d.R)
  rw [fin] at wf
  have u17 : k6s17 r2 h3 = .nx r2 ((putDk (h3 ++ [.ins .drawers []]) 0 1 ⟨E, none, d.many + (comeW d.R).length⟩).set h3.length (.ins .drawers [.ref 0])) := by
    have e := make_drawers (fs := xCons (xVar 11) xNil) (r := r2) A3 gd (by simp [xVar, q11'])
    rw [good, wf] at e
    rw [k6s17, zExpr_, e]
    rfl
  have lt5 : 5 < h3.length := (List.getElem?_eq_some_iff.mp hE3).1
  have A4 : DkAt ((putDk (h3 ++ [.ins .drawers []]) 0 1 ⟨E, none, d.many + (comeW d.R).length⟩).set h3.length (.ins .drawers [.ref 0])) 0 1 ⟨E, none, d.many + (comeW d.R).length⟩ := ((A3.app [.ins .drawers []]).put _).set (by omega) (by omega) _
  have hE4 : ((putDk (h3 ++ [.ins .drawers []]) 0 1 ⟨E, none, d.many + (comeW d.R).length⟩).set h3.length (.ins .drawers [.ref 0]))[5]? = some (.lst (E.map dB)) := by
    refine at_set ?_ (by omega)
    rw [putDk_ne (by omega) (by omega)]
    exact at_app hE3
  generalize (putDk (h3 ++ [.ins .drawers []]) 0 1 ⟨E, none, d.many + (comeW d.R).length⟩).set h3.length (.ins .drawers [.ref 0]) = h4 at *
  have u18 : k6s18 r2 h4 = .rt (.bl true) (h4 ++ [dkL ⟨E, none, d.many + (comeW d.R).length⟩]) := by
    have e := m_law_all_blocks A4 (by show E.length ≤ 1000; rw [← fin, applyW_len]; omega)
    have e2 : oEq (h4 ++ [dkL ⟨E, none, d.many + (comeW d.R).length⟩]) (.ref h4.length) (.ref 5) = some (.bl true) := by
      rw [oEq, oEqB_rows (R := E) (S := E) (deref_at (by simp [dkL])) (deref_at (at_app hE4))]
      simp
    simp [k6s18, xVar, q11', q4', e, e2]
  exact ⟨_, (seq_go u13).trans ((seq_go (u14 _)).trans ((seq_go u15).trans ((seq_go u16).trans ((seq_go u17).trans u18))))⟩
theorem tup_dB3 (a b c : Int) : D.tup [.int a, .int b, .int c] = dB [a, b, c] := rfl
def k6last (bs : List Int) : Int := bs.getLast?.getD 9
theorem k6last_ok {bs : List Int} (hs : 20 ≤ s) (hb : ∀ b ∈ bs, 8 < b ∧ b < (s : Int)) : 9 ≤ k6last bs ∧ k6last bs < (s : Int) := by
  unfold k6last
  cases e : bs.getLast? with
  | none => simp; omega
  | some x =>
    have := hb x (List.mem_of_getLast? e)
    simp
    omega
theorem oIx_last (h : DH) (bs : List Int) (ne : bs ≠ []) : oIx h (.lst (bs.map .int)) (.int (-1)) = some (.int (k6last bs)) := by
  have hl : 0 < bs.length := List.length_pos_iff.mpr ne
  have e : L2.atI (bs.map D.int) (-1) = (bs.map D.int)[bs.length - 1]? := by
    unfold L2.atI ixN
    have h1 : ¬ ((0 : Int) ≤ -1) := by omega
    simp only [List.length_map]
    rw [if_neg (by omega)]
    have h2 : (0 : Int) ≤ -1 + (bs.length : Int) := by omega
    have h3 : (-1 + (bs.length : Int)).toNat = bs.length - 1 := by omega
    have h4 : (1 : Int) ≤ (bs.length : Int) := by omega
    simp [h3, h4]
  simp only [oIx, seqOf, lstOf]
  rw [e]
  unfold k6last
  rw [List.getLast?_eq_getElem?]
  have h5 : bs.length - 1 < bs.length := by omega
  simp [h5]
theorem k6mid {r : Rho} {h : DH} {bs : List Int} {E : List Blk} (hr : r.length = 16) (r0 : r[0]? = some (some (.scr ns))) (r1 : r[1]? = some (some (.int (s : Int)))) (r3 : r[3]? = some (some (.lst (bs.map .int)))) (r4 : r[4]? = some (some (.ref 5))) (r11 : r[11]? = some (some (.ref 0))) (A : DkAt h 0 1 d) (hl : h.length = 6) (hE : h[5]? = some (.lst (E.map dB)))
    (gd : GoodR d.R) (hm : d.more = none) (ls : d.R.length = s) (hbl : bs.length ≤ 7) (hb : ∀ b ∈ bs, 8 < b ∧ b < (s : Int)) : ∃ r' h' dC, (zSeq (k6s6) (zSeq (k6s7) (zSeq (k6s8) (zSeq (k6s9) (zSeq (k6s10) (zSeq (k6s11) (k6s12))))))) r h = .nx r' h' ∧ r'.length = 16 ∧ r'[4]? = some (some (.ref 5)) ∧ r'[8]? = some (some (.ref 8)) ∧ r'[11]? = some (some (.ref 0)) ∧ DkAt h' 0 1 ⟨d.R.set 0 (jourB bs), none, d.many + 1⟩ ∧ DkAt h' 8 9 dC ∧ h'[5]? = some (.lst (E.map dB)) ∧ GoodR (d.R.set 0 (jourB bs)) ∧ GoodR dC.R ∧ (headOk dC.R && pendOk dC.R) = false := by
  have s1 := gd.len
  have s2 := gd.top
  obtain ⟨L1, L2⟩ := k6last_ok (bs := bs) (s := s) (by omega) hb
  have gj : goodB (jourB bs) := jour_good hbl fun b h => by have := hb b h; omega
  have ol : ∀ hh, oLen hh (.lst (bs.map .int)) = some (.int bs.length) := fun hh => by simp [oLen, seqOf, lstOf]
  have ot : ∀ hh, oTuple hh (.lst (bs.map .int)) = some (dB bs) := fun hh => by simp [oTuple, seqOf, lstOf, dB]
  have u6 : k6s6 r h = .nx r (putDk h 0 1 ⟨d.R.set 0 (jourB bs), none, d.many + 1⟩) := by
    have w := mwrite A 0 (jourB bs) (by omega) (by omega) gj
    have ew : d.write 0 (jourB bs) = some ⟨d.R.set 0 (jourB bs), none, d.many + 1⟩ := by unfold Dk.write; rw [hm]; rfl
    rw [ew] at w
    have c1 : (7 - (bs.length : Int)) ≤ 1000 := by omega
    have c2 : -1000 ≤ (7 - (bs.length : Int)) := by omega
    have c3 : (7 - (bs.length : Int)).toNat = 7 - bs.length := by omega
    have c4 : bs.length + 1 ≤ 1000000 := by omega
    have c5 : bs.length + 1 + (7 - bs.length) ≤ 1000000 := by omega
    have e1 : oAdd h (dB [(bs.length : Int)]) (dB bs) = some (dB ((bs.length : Int) :: bs)) := oAdd_dB h _ _ (by simp; omega)
    have e2 : oAdd h (dB ((bs.length : Int) :: bs)) (dB (List.replicate (7 - bs.length) 0)) = some (dB (jourB bs)) := oAdd_dB h _ _ (by simp; omega)
    simp [k6s6, xVar, r11, r3, A.isCl, ol, ot, tup_dB1, oMul_dB _ _ _ c1 c2, c3, e1, e2, w]
  have gd8 : GoodR (d.R.set 0 (jourB bs)) := gd.set 0 gj
  have A8 : DkAt (putDk h 0 1 ⟨d.R.set 0 (jourB bs), none, d.many + 1⟩) 0 1 ⟨d.R.set 0 (jourB bs), none, d.many + 1⟩ := A.put _
  have hE8 : (putDk h 0 1 ⟨d.R.set 0 (jourB bs), none, d.many + 1⟩)[5]? = some (.lst (E.map dB)) := by rw [putDk_ne (by omega) (by omega)]; exact hE
  have l8 : (putDk h 0 1 ⟨d.R.set 0 (jourB bs), none, d.many + 1⟩).length = 6 := by rw [putDk_len]; exact hl
  generalize putDk h 0 1 ⟨d.R.set 0 (jourB bs), none, d.many + 1⟩ = h8 at *
  generalize hd8 : (⟨d.R.set 0 (jourB bs), none, d.many + 1⟩ : Dk) = d8 at *
  have hR8 : d8.R = d.R.set 0 (jourB bs) := by rw [← hd8]
  have u7 : k6s7 r h8 = .nx (r.set 6 (some (.int (k6last bs)))) h8 := by
    by_cases ne : bs = []
    · subst ne
      have e1 : oNe h8 (.lst []) (.lst []) = some (.bl false) := oNe_ints h8 [] []
      have r3' : r[3]? = some (some (.lst [])) := r3
      simp [k6s7, xVar, r3', e1, k6last]
    · have e1 : oNe h8 (.lst (bs.map .int)) (.lst []) = some (.bl true) := by
        have := oNe_ints h8 bs []
        simp only [ne, decide_false, Bool.not_false, List.map_nil] at this
        exact this
      simp [k6s7, xVar, r3, e1, xUn, oNeg, oIx_last h8 bs ne]
  generalize k6last bs = L at *
  obtain ⟨ra, hra⟩ : ∃ ra, ra = r.set 6 (some (.int L)) := ⟨_, rfl⟩
  have a0 : ra[0]? = some (some (.scr ns)) := by rw [hra]; simp [r0]
  have a1 : ra[1]? = some (some (.int (s : Int))) := by rw [hra]; simp [r1]
  have a4 : ra[4]? = some (some (.ref 5)) := by rw [hra]; simp [r4]
  have a11 : ra[11]? = some (some (.ref 0)) := by rw [hra]; simp [r11]
  have a6 : ra[6]? = some (some (.int L)) := by rw [hra]; simp [hr]
  have la : ra.length = 16 := by rw [hra]; simp [hr]
  rw [← hra] at u7
  have u8 : k6s8 ra h8 = .nx (ra.set 7 (some (.ref 6))) (h8 ++ [.lst [dB [8, 9, 9, 9, 9, 9, 9, 9], dB [1, 8, 0, 0, 0, 0, 0, 0], dB [1, (s : Int), 0, 0, 0, 0, 0, 0], dB [2, L, L, 0, 0, 0, 0, 0]]]) := by
    simp [k6s8, xVar, a1, a6, tup_dB1, tup_dB2, tup_dB3, oMul_dB, oAdd_dB, l8]
  obtain ⟨rb, hrb⟩ : ∃ rb, rb = ra.set 7 (some (.ref 6)) := ⟨_, rfl⟩
  have b6 : rb[6]? = some (some (.int L)) := by rw [hrb]; simp [a6]
  have b7 : rb[7]? = some (some (.ref 6)) := by rw [hrb]; simp [la]
  rw [← hrb] at u8
  have u9 : k6s9 rb (h8 ++ [.lst [dB [8, 9, 9, 9, 9, 9, 9, 9], dB [1, 8, 0, 0, 0, 0, 0, 0], dB [1, (s : Int), 0, 0, 0, 0, 0, 0], dB [2, L, L, 0, 0, 0, 0, 0]]]) = .nx (rb.set 7 (some (.ref 7))) (h8 ++ [.lst [dB [8, 9, 9, 9, 9, 9, 9, 9], dB [1, 8, 0, 0, 0, 0, 0, 0], dB [1, (s : Int), 0, 0, 0, 0, 0, 0], dB [2, L, L, 0, 0, 0, 0, 0]], .lst [dB [8, 9, 9, 9, 9, 9, 9, 9], dB [1, 8, 0, 0, 0, 0, 0, 0], dB [1, (s : Int), 0, 0, 0, 0, 0, 0], dB [2, L, L, 0, 0, 0, 0, 0], dB [1, L, L, 0, 0, 0, 0, 0], dB [2, L, 0, 0, 0, 0, 0, 0], dB [0, 9, 0, 0, 0, 0, 0, 0]]]) := by
    have e6 : (h8 ++ [DO.lst [dB [8, 9, 9, 9, 9, 9, 9, 9], dB [1, 8, 0, 0, 0, 0, 0, 0], dB [1, (s : Int), 0, 0, 0, 0, 0, 0], dB [2, L, L, 0, 0, 0, 0, 0]]])[6]? = some (.lst [dB [8, 9, 9, 9, 9, 9, 9, 9], dB [1, 8, 0, 0, 0, 0, 0, 0], dB [1, (s : Int), 0, 0, 0, 0, 0, 0], dB [2, L, L, 0, 0, 0, 0, 0]]) := by
      rw [List.getElem?_append_right (by omega)]
      simp [l8]
    simp [k6s9, xAddN, xVar, b6, b7, tup_dB1, tup_dB2, tup_dB3, oMul_dB, oAdd_dB, l8, lstOf, e6]
  obtain ⟨rc, hrc⟩ : ∃ rc, rc = rb.set 7 (some (.ref 7)) := ⟨_, rfl⟩
  have c0 : rc[0]? = some (some (.scr ns)) := by rw [hrc, hrb]; simp [a0]
  have c1 : rc[1]? = some (some (.int (s : Int))) := by rw [hrc, hrb]; simp [a1]
  have c4 : rc[4]? = some (some (.ref 5)) := by rw [hrc, hrb]; simp [a4]
  have c11 : rc[11]? = some (some (.ref 0)) := by rw [hrc, hrb]; simp [a11]
  have c6 : rc[6]? = some (some (.int L)) := by rw [hrc]; simp [b6]
  have c7 : rc[7]? = some (some (.ref 7)) := by rw [hrc, hrb]; simp [la]
  have lc : rc.length = 16 := by rw [hrc, hrb]; simp [la]
  rw [← hrc] at u9
  have A9 : DkAt (h8 ++ [.lst [dB [8, 9, 9, 9, 9, 9, 9, 9], dB [1, 8, 0, 0, 0, 0, 0, 0], dB [1, (s : Int), 0, 0, 0, 0, 0, 0], dB [2, L, L, 0, 0, 0, 0, 0]], .lst [dB [8, 9, 9, 9, 9, 9, 9, 9], dB [1, 8, 0, 0, 0, 0, 0, 0], dB [1, (s : Int), 0, 0, 0, 0, 0, 0], dB [2, L, L, 0, 0, 0, 0, 0], dB [1, L, L, 0, 0, 0, 0, 0], dB [2, L, 0, 0, 0, 0, 0, 0], dB [0, 9, 0, 0, 0, 0, 0, 0]]]) 0 1 d8 := A8.app _
  have hE9 : (h8 ++ [DO.lst [dB [8, 9, 9, 9, 9, 9, 9, 9], dB [1, 8, 0, 0, 0, 0, 0, 0], dB [1, (s : Int), 0, 0, 0, 0, 0, 0], dB [2, L, L, 0, 0, 0, 0, 0]], .lst [dB [8, 9, 9, 9, 9, 9, 9, 9], dB [1, 8, 0, 0, 0, 0, 0, 0], dB [1, (s : Int), 0, 0, 0, 0, 0, 0], dB [2, L, L, 0, 0, 0, 0, 0], dB [1, L, L, 0, 0, 0, 0, 0], dB [2, L, 0, 0, 0, 0, 0, 0], dB [0, 9, 0, 0, 0, 0, 0, 0]]])[5]? = some (.lst (E.map dB)) := at_app hE8
  have l9 : (h8 ++ [DO.lst [dB [8, 9, 9, 9, 9, 9, 9, 9], dB [1, 8, 0, 0, 0, 0, 0, 0], dB [1, (s : Int), 0, 0, 0, 0, 0, 0], dB [2, L, L, 0, 0, 0, 0, 0]], .lst [dB [8, 9, 9, 9, 9, 9, 9, 9], dB [1, 8, 0, 0, 0, 0, 0, 0], dB [1, (s : Int), 0, 0, 0, 0, 0, 0], dB [2, L, L, 0, 0, 0, 0, 0], dB [1, L, L, 0, 0, 0, 0, 0], dB [2, L, 0, 0, 0, 0, 0, 0], dB [0, 9, 0, 0, 0, 0, 0, 0]]]).length = 8 := by simp [l8]
  have e79 : (h8 ++ [DO.lst [dB [8, 9, 9, 9, 9, 9, 9, 9], dB [1, 8, 0, 0, 0, 0, 0, 0], dB [1, (s : Int), 0, 0, 0, 0, 0, 0], dB [2, L, L, 0, 0, 0, 0, 0]], .lst [dB [8, 9, 9, 9, 9, 9, 9, 9], dB [1, 8, 0, 0, 0, 0, 0, 0], dB [1, (s : Int), 0, 0, 0, 0, 0, 0], dB [2, L, L, 0, 0, 0, 0, 0], dB [1, L, L, 0, 0, 0, 0, 0], dB [2, L, 0, 0, 0, 0, 0, 0], dB [0, 9, 0, 0, 0, 0, 0, 0]]])[7]? = some (.lst [dB [8, 9, 9, 9, 9, 9, 9, 9], dB [1, 8, 0, 0, 0, 0, 0, 0], dB [1, (s : Int), 0, 0, 0, 0, 0, 0], dB [2, L, L, 0, 0, 0, 0, 0], dB [1, L, L, 0, 0, 0, 0, 0], dB [2, L, 0, 0, 0, 0, 0, 0], dB [0, 9, 0, 0, 0, 0, 0, 0]]) := by
    rw [List.getElem?_append_right (by omega)]
    simp [l8]
  generalize h8 ++ [DO.lst [dB [8, 9, 9, 9, 9, 9, 9, 9], dB [1, 8, 0, 0, 0, 0, 0, 0], dB [1, (s : Int), 0, 0, 0, 0, 0, 0], dB [2, L, L, 0, 0, 0, 0, 0]], .lst [dB [8, 9, 9, 9, 9, 9, 9, 9], dB [1, 8, 0, 0, 0, 0, 0, 0], dB [1, (s : Int), 0, 0, 0, 0, 0, 0], dB [2, L, L, 0, 0, 0, 0, 0], dB [1, L, L, 0, 0, 0, 0, 0], dB [2, L, 0, 0, 0, 0, 0, 0], dB [0, 9, 0, 0, 0, 0, 0, 0]]] = h9 at *
  have u10 : k6s10 rc h9 = .nx rc (h9.set 7 (.lst ((k6heads (s : Int) L).map dB))) := by
    have s7 : (7 : Nat) < sizeLine := lt_sizeLine _
    simp [k6s10, xApp, appD, xVar, c6, c7, tup_dB1, tup_dB2, tup_dB3, oMul_dB, oAdd_dB, lstOf, e79, k6heads, s7]
  have A10 : DkAt (h9.set 7 (.lst ((k6heads (s : Int) L).map dB))) 0 1 d8 := A9.set (by omega) (by omega) _
  have hE10 : (h9.set 7 (.lst ((k6heads (s : Int) L).map dB)))[5]? = some (.lst (E.map dB)) := at_set hE9 (by omega)
  have l10 : (h9.set 7 (.lst ((k6heads (s : Int) L).map dB))).length = 8 := by simp [l9]
  have e710 : (h9.set 7 (.lst ((k6heads (s : Int) L).map dB)))[7]? = some (.lst ((k6heads (s : Int) L).map dB)) := by simp [l9]
  generalize h9.set 7 (.lst ((k6heads (s : Int) L).map dB)) = h10 at *
  have g8 : GoodR d8.R := by rw [hR8]; exact gd8
  have l8R : d8.R.length = s := by rw [hR8, List.length_set]; exact ls
  have u11 : k6s11 rc h10 = .nx (rc.set 8 (some (.ref 8))) (h10 ++ [dkO 9 ⟨d8.R, none, d8.R.length⟩, dkL ⟨d8.R, none, d8.R.length⟩]) := by
    have e := m_law_copy A10 g8 none rfl
    rw [l10] at e
    have e' : F_law_copy [.ref 0, .non] h10 = .ok (.ref 8) (h10 ++ [dkO 9 ⟨d8.R, none, d8.R.length⟩, dkL ⟨d8.R, none, d8.R.length⟩]) := e
    simp [k6s11, xVar, c11, e']
  obtain ⟨rd, hrd⟩ : ∃ rd, rd = rc.set 8 (some (.ref 8)) := ⟨_, rfl⟩
  have d0 : rd[0]? = some (some (.scr ns)) := by rw [hrd]; simp [c0]
  have d1 : rd[1]? = some (some (.int (s : Int))) := by rw [hrd]; simp [c1]
  have d4 : rd[4]? = some (some (.ref 5)) := by rw [hrd]; simp [c4]
  have d7 : rd[7]? = some (some (.ref 7)) := by rw [hrd]; simp [c7]
  have d11 : rd[11]? = some (some (.ref 0)) := by rw [hrd]; simp [c11]
  have d8' : rd[8]? = some (some (.ref 8)) := by rw [hrd]; simp [lc]
  have ld : rd.length = 16 := by rw [hrd]; simp [lc]
  rw [← hrd] at u11
  have A11 : DkAt (h10 ++ [dkO 9 ⟨d8.R, none, d8.R.length⟩, dkL ⟨d8.R, none, d8.R.length⟩]) 0 1 d8 := A10.app _
  have B11 : DkAt (h10 ++ [dkO 9 ⟨d8.R, none, d8.R.length⟩, dkL ⟨d8.R, none, d8.R.length⟩]) 8 9 ⟨d8.R, none, d8.R.length⟩ := by
    have := at_new h10 9 (by rw [l10]) ⟨d8.R, none, d8.R.length⟩ []
    rw [l10] at this
    exact this
  have hE11 : (h10 ++ [dkO 9 ⟨d8.R, none, d8.R.length⟩, dkL ⟨d8.R, none, d8.R.length⟩])[5]? = some (.lst (E.map dB)) := at_app hE10
  have e711 : (h10 ++ [dkO 9 ⟨d8.R, none, d8.R.length⟩, dkL ⟨d8.R, none, d8.R.length⟩])[7]? = some (.lst ((k6heads (s : Int) L).map dB)) := at_app e710
  have l11 : (h10 ++ [dkO 9 ⟨d8.R, none, d8.R.length⟩, dkL ⟨d8.R, none, d8.R.length⟩]).length = 10 := by simp [l10]
  generalize h10 ++ [dkO 9 ⟨d8.R, none, d8.R.length⟩, dkL ⟨d8.R, none, d8.R.length⟩] = h11 at *
  have go : ∀ r' h' dC, k6s12 rd h11 = .nx r' h' → (r'.length = 16 ∧ r'[4]? = some (some (.ref 5)) ∧ r'[8]? = some (some (.ref 8)) ∧ r'[11]? = some (some (.ref 0)) ∧ DkAt h' 0 1 d8 ∧ DkAt h' 8 9 dC ∧ h'[5]? = some (.lst (E.map dB)) ∧ GoodR (d.R.set 0 (jourB bs)) ∧ GoodR dC.R ∧ (headOk dC.R && pendOk dC.R) = false) → ∃ r' h' dC, (zSeq (k6s6) (zSeq (k6s7) (zSeq (k6s8) (zSeq (k6s9) (zSeq (k6s10) (zSeq (k6s11) (k6s12))))))) r h = .nx r' h' ∧ r'.length = 16 ∧ r'[4]? = some (some (.ref 5)) ∧ r'[8]? = some (some (.ref 8)) ∧ r'[11]? = some (some (.ref 0)) ∧ DkAt h' 0 1 d8 ∧ DkAt h' 8 9 dC ∧ h'[5]? = some (.lst (E.map dB)) ∧ GoodR (d.R.set 0 (jourB bs)) ∧ GoodR dC.R ∧ (headOk dC.R && pendOk dC.R) = false := fun r' h' dC e p =>
    ⟨r', h', dC, (seq_go u6).trans ((seq_go u7).trans ((seq_go u8).trans ((seq_go u9).trans ((seq_go u10).trans ((seq_go u11).trans e))))), p⟩
  have lc4 : ∀ hh, F_law_cell [.scr ns, .int 4] hh = .ok (.int (cellN ns 4)) hh := fun hh => m_law_cell ns 4 hh
  have lc5 : ∀ hh, F_law_cell [.scr ns, .int 5] hh = .ok (.int (cellN ns 5)) hh := fun hh => m_law_cell ns 5 hh
  have wr : ∀ (hh : DH) (z : Int) (b : Blk), DkAt hh 8 9 ⟨d8.R, none, d8.R.length⟩ → 0 ≤ z → z < s → goodB b → F_Disk_write [.ref 8, .int z, dB b] hh = .ok .non (putDk hh 8 9 ⟨d8.R.set z.toNat b, none, (d8.R.length : Int) + 1⟩) := fun hh z b B h0 h1 g => by
    have := mwrite B z b h0 (by show z < (d8.R.length : Int); omega) g
    exact this
  by_cases q : 0 < cellN ns 4 % 3
  · obtain ⟨x, hx, ex⟩ := menu h11 ((k6heads (s : Int) L).map dB) (cellN ns 5) 8 (by simp [k6heads]) (by omega)
    obtain ⟨b, hb1, rfl⟩ := List.mem_map.mp hx
    have ex' : oIx h11 (.ref 7) (.int (cellN ns 5 % 8)) = some (dB b) := by
      simp only [oIx, seqOf, lstOf, e711] at ex ⊢
      exact ex
    have gb : goodB b := by
      simp only [k6heads, List.mem_cons, List.not_mem_nil, or_false] at hb1
      rcases hb1 with rfl | rfl | rfl | rfl | rfl | rfl | rfl | rfl <;> refine ⟨rfl, fun y hy => ?_⟩ <;> simp only [List.mem_cons, List.not_mem_nil, or_false] at hy <;> omega
    have w := wr h11 0 b B11 (by omega) (by omega) gb
    refine go rd (putDk h11 8 9 ⟨d8.R.set 0 b, none, (d8.R.length : Int) + 1⟩) ⟨d8.R.set 0 b, none, (d8.R.length : Int) + 1⟩ ?_ ⟨ld, d4, d8', d11, ?_, B11.put _, ?_, gd8, g8.set 0 gb, ?_⟩
    · simp [k6s12, xVar, d0, d7, d8', lc4, lc5, oMod_p _ _ 3 (by omega), oMod_p _ _ 8 (by omega), q, ex', B11.isCl, w]
    · exact ⟨by rw [putDk_ne (by omega) (by omega)]; exact A11.o, by rw [putDk_ne (by omega) (by omega)]; exact A11.l⟩
    · rw [putDk_ne (by omega) (by omega)]; exact hE11
    · have e0 : row (d8.R.set 0 b) 0 = b := row_set_self (z := 0) (by omega) (by omega)
      have := k6heads_bad (R := d8.R.set 0 b) (L := L) L1 (by rw [List.length_set, l8R]; exact L2) (by rw [List.length_set, l8R]; exact hb1) e0
      rw [this, Bool.and_false]
  · have v1 : (zAsg (xLstN (xCons (xBin oAdd (xTup (xCons (xC (.int 77)) (xCons (xC (.int 0)) (xNil)))) (xBin oMul (xTup (xCons (xC (.int 0)) (xNil))) (xC (.int 6)))) (xCons (xBin oAdd (xTup (xCons (xC (.int 77)) (xCons (xC (.int 31)) (xNil)))) (xBin oMul (xTup (xCons (xC (.int 0)) (xNil))) (xC (.int 6)))) (xCons (xBin oAdd (xTup (xCons (xC (.int 77)) (xCons (xVar 1) (xNil)))) (xBin oMul (xTup (xCons (xC (.int 0)) (xNil))) (xC (.int 6)))) (xCons (xBin oAdd (xTup (xCons (xC (.int 76)) (xCons (xC (.int 3)) (xNil)))) (xBin oMul (xTup (xCons (xC (.int 0)) (xNil))) (xC (.int 6)))) (xNil)))))) (gN 14)) rd h11 = .nx (rd.set 14 (some (.ref 10))) (h11 ++ [.lst [dB [77, 0, 0, 0, 0, 0, 0, 0], dB [77, 31, 0, 0, 0, 0, 0, 0], dB [77, (s : Int), 0, 0, 0, 0, 0, 0], dB [76, 3, 0, 0, 0, 0, 0, 0]]]) := by
      simp [xVar, d1, tup_dB1, tup_dB2, tup_dB3, oMul_dB, oAdd_dB, l11]
    obtain ⟨re, hre⟩ : ∃ re, re = rd.set 14 (some (.ref 10)) := ⟨_, rfl⟩
    have f0 : re[0]? = some (some (.scr ns)) := by rw [hre]; simp [d0]
    have f4 : re[4]? = some (some (.ref 5)) := by rw [hre]; simp [d4]
    have f11 : re[11]? = some (some (.ref 0)) := by rw [hre]; simp [d11]
    have f8 : re[8]? = some (some (.ref 8)) := by rw [hre]; simp [d8']
    have f14 : re[14]? = some (some (.ref 10)) := by rw [hre]; simp [ld]
    have le : re.length = 16 := by rw [hre]; simp [ld]
    rw [← hre] at v1
    have A12 : DkAt (h11 ++ [.lst [dB [77, 0, 0, 0, 0, 0, 0, 0], dB [77, 31, 0, 0, 0, 0, 0, 0], dB [77, (s : Int), 0, 0, 0, 0, 0, 0], dB [76, 3, 0, 0, 0, 0, 0, 0]]]) 0 1 d8 := A11.app _
    have B12 : DkAt (h11 ++ [.lst [dB [77, 0, 0, 0, 0, 0, 0, 0], dB [77, 31, 0, 0, 0, 0, 0, 0], dB [77, (s : Int), 0, 0, 0, 0, 0, 0], dB [76, 3, 0, 0, 0, 0, 0, 0]]]) 8 9 ⟨d8.R, none, d8.R.length⟩ := B11.app _
    have hE12 : (h11 ++ [DO.lst [dB [77, 0, 0, 0, 0, 0, 0, 0], dB [77, 31, 0, 0, 0, 0, 0, 0], dB [77, (s : Int), 0, 0, 0, 0, 0, 0], dB [76, 3, 0, 0, 0, 0, 0, 0]]])[5]? = some (.lst (E.map dB)) := at_app hE11
    have e12 : (h11 ++ [DO.lst [dB [77, 0, 0, 0, 0, 0, 0, 0], dB [77, 31, 0, 0, 0, 0, 0, 0], dB [77, (s : Int), 0, 0, 0, 0, 0, 0], dB [76, 3, 0, 0, 0, 0, 0, 0]]])[10]? = some (.lst [dB [77, 0, 0, 0, 0, 0, 0, 0], dB [77, 31, 0, 0, 0, 0, 0, 0], dB [77, (s : Int), 0, 0, 0, 0, 0, 0], dB [76, 3, 0, 0, 0, 0, 0, 0]]) := by
      rw [List.getElem?_append_right (by omega)]
      simp [l11]
    have l12 : (h11 ++ [DO.lst [dB [77, 0, 0, 0, 0, 0, 0, 0], dB [77, 31, 0, 0, 0, 0, 0, 0], dB [77, (s : Int), 0, 0, 0, 0, 0, 0], dB [76, 3, 0, 0, 0, 0, 0, 0]]]).length = 11 := by simp [l11]
    generalize h11 ++ [DO.lst [dB [77, 0, 0, 0, 0, 0, 0, 0], dB [77, 31, 0, 0, 0, 0, 0, 0], dB [77, (s : Int), 0, 0, 0, 0, 0, 0], dB [76, 3, 0, 0, 0, 0, 0, 0]]] = h12 at *
    have v2 : (zExpr (xApp (xVar 14) (xBin oAdd (xTup (xCons (xC (.int 77)) (xCons (xC (.int 3)) (xCons (xC (.int 1)) (xNil))))) (xBin oMul (xTup (xCons (xC (.int 0)) (xNil))) (xC (.int 5)))))) re h12 = .nx re (h12.set 10 (.lst ((k6odds (s : Int)).map dB))) := by
      have s4 : (4 : Nat) < sizeLine := lt_sizeLine _
      simp [xApp, appD, xVar, f14, tup_dB1, tup_dB2, tup_dB3, oMul_dB, oAdd_dB, lstOf, e12, k6odds, s4]
    have A13 : DkAt (h12.set 10 (.lst ((k6odds (s : Int)).map dB))) 0 1 d8 := A12.set (by omega) (by omega) _
    have B13 : DkAt (h12.set 10 (.lst ((k6odds (s : Int)).map dB))) 8 9 ⟨d8.R, none, d8.R.length⟩ := B12.set (by omega) (by omega) _
    have hE13 : (h12.set 10 (.lst ((k6odds (s : Int)).map dB)))[5]? = some (.lst (E.map dB)) := at_set hE12 (by omega)
    have e13 : (h12.set 10 (.lst ((k6odds (s : Int)).map dB)))[10]? = some (.lst ((k6odds (s : Int)).map dB)) := by simp [l12]
    generalize h12.set 10 (.lst ((k6odds (s : Int)).map dB)) = h13 at *
    obtain ⟨x, hx, ex⟩ := menu h13 ((k6odds (s : Int)).map dB) (cellN ns 5) 5 (by simp [k6odds]) (by omega)
    obtain ⟨b, hb1, rfl⟩ := List.mem_map.mp hx
    have ex' : oIx h13 (.ref 10) (.int (cellN ns 5 % 5)) = some (dB b) := by
      simp only [oIx, seqOf, lstOf, e13] at ex ⊢
      exact ex
    have gb : goodB b := by
      simp only [k6odds, List.mem_cons, List.not_mem_nil, or_false] at hb1
      rcases hb1 with rfl | rfl | rfl | rfl | rfl <;> refine ⟨rfl, fun y hy => ?_⟩ <;> simp only [List.mem_cons, List.not_mem_nil, or_false] at hy <;> omega
    have w := wr h13 8 b B13 (by omega) (by omega) gb
    have v3 : (zExpr (xMeth .disk F_Disk_write (xVar 8) (xCons (xC (.int 8)) (xCons (xBin oIx (xVar 14) (xBin oMod (xCall F_law_cell (xCons (xVar 0) (xCons (xC (.int 5)) (xNil)))) (xC (.int 5)))) (xNil))))) re h13 = .nx re (putDk h13 8 9 ⟨d8.R.set 8 b, none, (d8.R.length : Int) + 1⟩) := by
      simp [xVar, f0, f14, f8, lc5, oMod_p _ _ 5 (by omega), ex', B13.isCl, w]
    refine go re (putDk h13 8 9 ⟨d8.R.set 8 b, none, (d8.R.length : Int) + 1⟩) ⟨d8.R.set 8 b, none, (d8.R.length : Int) + 1⟩ ?_ ⟨le, f4, f8, f11, ?_, B13.put _, ?_, gd8, g8.set 8 gb, ?_⟩
    · have tt : (xTB (xBin oGt (xBin oMod (xCall F_law_cell (xCons (xVar 0) (xCons (xC (.int 4)) (xNil)))) (xC (.int 3))) (xC (.int 0)))) rd h11 = .ok false h11 := by
        have q' : ¬ 0 < cellN ns 4 % 3 := q
        simp [xVar, d0, lc4, oMod_p _ _ 3 (by omega), q']
      rw [k6s12, zIf_, tt, toS_ok_]
      exact (seq_go v1).trans ((seq_go v2).trans v3)
    · exact ⟨by rw [putDk_ne (by omega) (by omega)]; exact A13.o, by rw [putDk_ne (by omega) (by omega)]; exact A13.l⟩
    · rw [putDk_ne (by omega) (by omega)]; exact hE13
    · have e0 : row (d8.R.set 8 b) 8 = b := row_set_self (z := 8) (by omega) (by omega)
      have := k6odds_bad (R := d8.R.set 8 b) (by rw [List.length_set]; omega) (by rw [List.length_set, l8R]; exact hb1) e0
      rw [this, Bool.false_and]
theorem k6_for (S : DO) (sm : D) (bs : List Int) (hb : ∀ b ∈ bs, 8 < b ∧ b < (s : Int)) (hs : 20 ≤ s) (E : List Blk) (hd : d.R.length = s) (hE : E.length = s) (hm : d.more = none) : ∃ a5' a13', k6s5 (rL ns s sm bs none none) (hL S d E) = .nx (rL ns s sm bs a5' a13') (hL S ⟨applyW d.R (k6w (cellN ns 3) (List.range 7)), none, d.many + 7⟩ (applyW E (k6due (cellN ns 3) bs (List.range 7)))) := by
  obtain ⟨a, b, e⟩ := t5_loop (ns := ns) S sm bs hb hs (List.range 7) none none d E (fun k hk => List.mem_range.mp hk) hd hE hm
  refine ⟨a, b, ?_⟩
  have e0 : iRg1 (xCons (xC (.int 7)) (xNil)) (rL ns s sm bs none none) (hL S d E) = .ok (intsD 0 7) (hL S d E) := iRg1_nat (n := 7) rfl (by omega)
  have e1 : intsD 0 7 = (List.range 7).map fun k : Nat => .int (k : Int) := by
    rw [intsD_eq]
    apply List.map_congr_left
    intro k _
    simp
  rw [e1] at e0
  exact (for_go e0).trans e
theorem law_parts : B_law = zSeq (k6s0) (zSeq (k6s1) (zSeq (k6s2) (zSeq (k6s3) (zSeq (k6s4) (zSeq (k6s5) (zSeq (k6s6) (zSeq (k6s7) (zSeq (k6s8) (zSeq (k6s9) (zSeq (k6s10) (zSeq (k6s11) (zSeq (k6s12) (zSeq (k6s13) (zSeq (k6s14) (zSeq (k6s15) (zSeq (k6s16) (zSeq (k6s17) (k6s18)))))))))))))))))) := rfl
theorem law_true (ns : List Int) (hn : ns.length ≤ 63) : ∃ h', F_law [.scr ns] [] = .ok (.bl true) h' := by
  refine ex_fn (r := [some (.scr ns), none, none, none, none, none, none, none, none, none, none, none, none, none, none, none]) rfl ?_
  rw [law_parts]
  obtain ⟨n, s, en, es, u0⟩ := t0 ns
  obtain ⟨n1, n2⟩ := nodZ_le (cellN ns 0)
  obtain ⟨s1, s2, s3⟩ := sizZ_le (cellN ns 0)
  have hb0 : 0 < (s : Int) - 9 - n := by omega
  obtain ⟨b1, b2, b3⟩ := k6bs_ok (ns := ns) (n := n) (s := s) hb0
  have hb : ∀ b ∈ k6bs ns n s, 8 < b ∧ b < (s : Int) := fun b h => by have := b3 b h; omega
  have gD := set_good n s (by omega) (by omega) (by omega)
  have lD := set_len n s
  have r8 := set_row8 n s (by omega)
  have fin := k6_end (c3 := cellN ns 3) (n := n) (s := s) (bs := k6bs ns n s) (by omega) b1 hb b2
  have hm : (setDk n s).more = none := rfl
  have x2 := t2 (ns := ns) (n := n) (s := s) (d := setDk n s) hb0
  have x3 := t3 (ns := ns) (n := n) (s := s) (d := setDk n s)
  refine ex_go u0 ?_
  clear u0
  generalize setDk n s = d at *
  refine ex_go (t1 (ns := ns) (n := n) (s := s) (d := d) lD) (ex_go x2 (ex_go x3 ?_))
  clear x2 x3
  generalize k6bs ns n s = bs at *
  generalize (D.lst ((k6some (cellN ns 1) n ((s : Int) - 9 - n)).map .int)) = sm at *
  refine ex_go (t4 (ns := ns) (s := s) (d := d) (.dct (stD 3 4 (n : Int) ((s : Int) - 9 - (n : Int)) 0)) sm (.lst (bs.map .int)) (by omega)) ?_
  generalize (DO.dct (stD 3 4 (n : Int) ((s : Int) - 9 - (n : Int)) 0)) = S at *
  obtain ⟨a5, a13, u5⟩ := k6_for (ns := ns) (s := s) (d := d) S sm bs hb (by omega) d.R lD lD hm
  refine ex_go u5 ?_
  have g7 : GoodR (applyW d.R (k6w (cellN ns 3) (List.range 7))) := applyW_good gD fun w hw => by
    obtain ⟨k, _, rfl⟩ := List.mem_map.mp hw
    exact k6cell_good _ _
  have l7 : (applyW d.R (k6w (cellN ns 3) (List.range 7))).length = s := by rw [applyW_len]; exact lD
  have r78 : row (applyW d.R (k6w (cellN ns 3) (List.range 7))) 8 = headB n := by
    rw [row_apply_no (by omega) fun w hw => ?_]
    · exact r8
    · obtain ⟨k, hk, rfl⟩ := List.mem_map.mp hw
      rw [List.mem_range] at hk
      simp only
      omega
  generalize applyW d.R (k6w (cellN ns 3) (List.range 7)) = R7 at *
  generalize applyW d.R (k6due (cellN ns 3) bs (List.range 7)) = E at *
  obtain ⟨r', h', dC, e, m1, m2, m3, m4, m5, m6, m7, m8, m9, m10⟩ := k6mid (ns := ns) (s := s) (d := ⟨R7, none, d.many + 7⟩) (r := rL ns s sm bs a5 a13) (h := hL S ⟨R7, none, d.many + 7⟩ E) (bs := bs) (E := E) rfl rfl rfl rfl rfl rfl ⟨rfl, rfl⟩ rfl rfl g7 rfl l7 b1 hb
  have k0 : row (R7.set 0 (jourB bs)) 0 = jourB bs := row_set_self (z := 0) (by omega) (by omega)
  have k8 : row (R7.set 0 (jourB bs)) 8 = headB n := (row_set (z := 0) (y := 8) (by omega) (by omega) (by omega)).trans r78
  have ok1 : headOk (R7.set 0 (jourB bs)) = true := headOk_of k8 (by omega) (by omega) (by rw [List.length_set]; omega)
  have ok2 : pendOk (R7.set 0 (jourB bs)) = true := pendOk_jour k0 b1 (fun b h => by rw [List.length_set, l7]; exact hb b h) b2
  obtain ⟨hf, ef⟩ := k6tail (d := ⟨R7.set 0 (jourB bs), none, d.many + 7 + 1⟩) (E := E) m1 m2 m3 m4 m5 m6 m7 m8 m9 m10 (by rw [ok1, ok2]; rfl) rfl fin
  refine ⟨hf, ?_⟩
  have sa : zSeq (k6s6) (zSeq (k6s7) (zSeq (k6s8) (zSeq (k6s9) (zSeq (k6s10) (zSeq (k6s11) (zSeq (k6s12) (zSeq (k6s13) (zSeq (k6s14) (zSeq (k6s15) (zSeq (k6s16) (zSeq (k6s17) (k6s18)))))))))))) = zSeq (zSeq (k6s6) (zSeq (k6s7) (zSeq (k6s8) (zSeq (k6s9) (zSeq (k6s10) (zSeq (k6s11) (k6s12))))))) (zSeq (k6s13) (zSeq (k6s14) (zSeq (k6s15) (zSeq (k6s16) (zSeq (k6s17) (k6s18)))))) := by simp only [seq_assoc]
  rw [sa]
  exact (seq_go e).trans ef
end
end DL
set_option maxRecDepth 100000
set_option maxHeartbeats 4000000
namespace DL
open PySem PySem.Spec L2
open PyProof.Rows hiding St
/-! the text by places -/
def top (i : Nat) : Stmt := PySem.Challenge.pw_drawerlog_k06_journal.main.body.getD i (.Pass ⟨0, 0, 0, 0⟩)
abbrev s_is_within : Stmt := top 17
def d_is_within : He.DefD := ⟨("is_within", none), "is_within", "is_within", defArgs s_is_within, defBody s_is_within, defScope s_is_within, [], []⟩
abbrev s_Disk_go_on : Stmt := inClass (top 19) 1
def d_Disk_go_on : He.DefD := ⟨("Disk", some "go_on"), "go_on", "Disk.go_on", defArgs s_Disk_go_on, defBody s_Disk_go_on, defScope s_Disk_go_on, [], []⟩
abbrev s_Disk_init__ : Stmt := inClass (top 19) 0
def d_Disk_init__ : He.DefD := ⟨("Disk", some "__init__"), "__init__", "Disk.__init__", defArgs s_Disk_init__, defBody s_Disk_init__, defScope s_Disk_init__, [], []⟩
abbrev s_Disk_look : Stmt := inClass (top 19) 3
def d_Disk_look : He.DefD := ⟨("Disk", some "look"), "look", "Disk.look", defArgs s_Disk_look, defBody s_Disk_look, defScope s_Disk_look, [], []⟩
abbrev s_are_cells : Stmt := top 18
def d_are_cells : He.DefD := ⟨("are_cells", none), "are_cells", "are_cells", defArgs s_are_cells, defBody s_are_cells, defScope s_are_cells, [], []⟩
abbrev s_Disk_write : Stmt := inClass (top 19) 4
def d_Disk_write : He.DefD := ⟨("Disk", some "write"), "write", "Disk.write", defArgs s_Disk_write, defBody s_Disk_write, defScope s_Disk_write, [], []⟩
abbrev s_Disk_size : Stmt := inClass (top 19) 2
def d_Disk_size : He.DefD := ⟨("Disk", some "size"), "size", "Disk.size", defArgs s_Disk_size, defBody s_Disk_size, defScope s_Disk_size, [], []⟩
abbrev s_first_data : Stmt := top 31
def d_first_data : He.DefD := ⟨("first_data", none), "first_data", "first_data", defArgs s_first_data, defBody s_first_data, defScope s_first_data, [], []⟩
abbrev s_set_up : Stmt := top 32
def d_set_up : He.DefD := ⟨("set_up", none), "set_up", "set_up", defArgs s_set_up, defBody s_set_up, defScope s_set_up, [], []⟩
abbrev s_law_state : Stmt := top 56
def d_law_state : He.DefD := ⟨("_law_state", none), "_law_state", "_law_state", defArgs s_law_state, defBody s_law_state, defScope s_law_state, [], []⟩
abbrev s_law_disk : Stmt := top 57
def d_law_disk : He.DefD := ⟨("_law_disk", none), "_law_disk", "_law_disk", defArgs s_law_disk, defBody s_law_disk, defScope s_law_disk, [], []⟩
abbrev s_Disk_read : Stmt := inClass (top 19) 5
def d_Disk_read : He.DefD := ⟨("Disk", some "read"), "read", "Disk.read", defArgs s_Disk_read, defBody s_Disk_read, defScope s_Disk_read, [], []⟩
abbrev s_law_all_blocks : Stmt := top 59
def d_law_all_blocks : He.DefD := ⟨("_law_all_blocks", none), "_law_all_blocks", "_law_all_blocks", defArgs s_law_all_blocks, defBody s_law_all_blocks, defScope s_law_all_blocks, [], []⟩
abbrev s_law_copy : Stmt := top 58
def d_law_copy : He.DefD := ⟨("_law_copy", none), "_law_copy", "_law_copy", defArgs s_law_copy, defBody s_law_copy, defScope s_law_copy, [], []⟩
abbrev s_nodes_of : Stmt := top 33
def d_nodes_of : He.DefD := ⟨("nodes_of", none), "nodes_of", "nodes_of", defArgs s_nodes_of, defBody s_nodes_of, defScope s_nodes_of, [], []⟩
abbrev s_pending : Stmt := top 39
def d_pending : He.DefD := ⟨("pending", none), "pending", "pending", defArgs s_pending, defBody s_pending, defScope s_pending, [], []⟩
abbrev s_look_disk : Stmt := top 49
def d_look_disk : He.DefD := ⟨("look_disk", none), "look_disk", "look_disk", defArgs s_look_disk, defBody s_look_disk, defScope s_look_disk, [], []⟩
abbrev s_put_in_place : Stmt := top 38
def d_put_in_place : He.DefD := ⟨("put_in_place", none), "put_in_place", "put_in_place", defArgs s_put_in_place, defBody s_put_in_place, defScope s_put_in_place, [], []⟩
abbrev s_come_back : Stmt := top 40
def d_come_back : He.DefD := ⟨("come_back", none), "come_back", "come_back", defArgs s_come_back, defBody s_come_back, defScope s_come_back, [], []⟩
abbrev s_Drawers_init__ : Stmt := inClass (top 50) 0
def d_Drawers_init__ : He.DefD := ⟨("Drawers", some "__init__"), "__init__", "Drawers.__init__", defArgs s_Drawers_init__, defBody s_Drawers_init__, defScope s_Drawers_init__, [], []⟩
abbrev s_law_cell : Stmt := top 52
def d_law_cell : He.DefD := ⟨("_law_cell", none), "_law_cell", "_law_cell", defArgs s_law_cell, defBody s_law_cell, defScope s_law_cell, [], []⟩
abbrev s_law_mix : Stmt := top 53
def d_law_mix : He.DefD := ⟨("_law_mix", none), "_law_mix", "_law_mix", defArgs s_law_mix, defBody s_law_mix, defScope s_law_mix, [], []⟩
abbrev s_law_pick : Stmt := top 55
def d_law_pick : He.DefD := ⟨("_law_pick", none), "_law_pick", "_law_pick", defArgs s_law_pick, defBody s_law_pick, defScope s_law_pick, [], []⟩
abbrev s_law_seed : Stmt := top 54
def d_law_seed : He.DefD := ⟨("_law_seed", none), "_law_seed", "_law_seed", defArgs s_law_seed, defBody s_law_seed, defScope s_law_seed, [], []⟩
abbrev s_law : Stmt := top 60
def d_law : He.DefD := ⟨("law", none), "law", "law", defArgs s_law, defBody s_law, defScope s_law, [], []⟩
def fn0 : List He.DefD := [d_is_within, d_Disk_go_on, d_Disk_init__, d_Disk_look, d_are_cells, d_Disk_write, d_Disk_size, d_first_data, d_set_up, d_law_state, d_law_disk, d_Disk_read, d_law_all_blocks, d_law_copy, d_nodes_of, d_pending, d_look_disk, d_put_in_place, d_come_back, d_Drawers_init__, d_law_cell, d_law_mix, d_law_pick, d_law_seed, d_law]
def fn : List He.DefD := fn0
def fa0 : List He.Fa := [.free "isinstance", .free "int", .free "bool", .free "range", .free "len", .free "tuple", .free "max", .free "list", .free "sorted", .free "set", .free "enumerate", .glo "Disk", .cls "Disk", .noat "Disk" "rows", .noat "Disk" "more", .noat "Disk" "many", .mkr "Disk", .glo "Drawers", .cls "Drawers", .noat "Drawers" "disk", .mkr "Drawers", .glo "is_within", .meth "Disk" "go_on", .meth "Disk" "look", .glo "are_cells", .meth "Disk" "write", .meth "Disk" "size", .glo "first_data", .glo "set_up", .glo "_law_state"]
def fa1 : List He.Fa := [.glo "_law_disk", .meth "Disk" "read", .glo "_law_all_blocks", .glo "_law_copy", .glo "nodes_of", .glo "pending", .glo "look_disk", .glo "put_in_place", .glo "come_back", .glo "_law_cell", .glo "_law_mix", .glo "_law_pick", .glo "_law_seed", .glo "law", .glo "DrawerError", .glo "BadNumber", .glo "BadCells", .glo "Stopped", .glo "BadDisk", .glo "BadWay", .glo "NoThing", .glo "NotFile", .glo "NotDrawer", .free "There", .free "NotEmpty", .free "Inside", .glo "Full", .free "BadDeed", .exc "DrawerError", .exc "BadNumber"]
def fa2 : List He.Fa := [.exc "BadCells", .exc "Stopped", .exc "BadDisk", .exc "BadWay", .exc "NoThing", .exc "NotFile", .exc "NotDrawer", .exc "Full", .exm "DrawerError" "DrawerError" true, .exm "DrawerError" "BadNumber" false, .exm "DrawerError" "BadCells" false, .exm "DrawerError" "Stopped" false, .exm "DrawerError" "BadDisk" false, .exm "DrawerError" "BadWay" false, .exm "DrawerError" "NoThing" false, .exm "DrawerError" "NotFile" false, .exm "DrawerError" "NotDrawer" false, .exm "DrawerError" "Full" false, .exm "BadNumber" "DrawerError" true, .exm "BadNumber" "BadNumber" true, .exm "BadNumber" "BadCells" false, .exm "BadNumber" "Stopped" false, .exm "BadNumber" "BadDisk" false, .exm "BadNumber" "BadWay" false, .exm "BadNumber" "NoThing" false, .exm "BadNumber" "NotFile" false, .exm "BadNumber" "NotDrawer" false, .exm "BadNumber" "Full" false, .exm "BadCells" "DrawerError" true, .exm "BadCells" "BadNumber" false]
def fa3 : List He.Fa := [.exm "BadCells" "BadCells" true, .exm "BadCells" "Stopped" false, .exm "BadCells" "BadDisk" false, .exm "BadCells" "BadWay" false, .exm "BadCells" "NoThing" false, .exm "BadCells" "NotFile" false, .exm "BadCells" "NotDrawer" false, .exm "BadCells" "Full" false, .exm "Stopped" "DrawerError" true, .exm "Stopped" "BadNumber" false, .exm "Stopped" "BadCells" false, .exm "Stopped" "Stopped" true, .exm "Stopped" "BadDisk" false, .exm "Stopped" "BadWay" false, .exm "Stopped" "NoThing" false, .exm "Stopped" "NotFile" false, .exm "Stopped" "NotDrawer" false, .exm "Stopped" "Full" false, .exm "BadDisk" "DrawerError" true, .exm "BadDisk" "BadNumber" false, .exm "BadDisk" "BadCells" false, .exm "BadDisk" "Stopped" false, .exm "BadDisk" "BadDisk" true, .exm "BadDisk" "BadWay" false, .exm "BadDisk" "NoThing" false, .exm "BadDisk" "NotFile" false, .exm "BadDisk" "NotDrawer" false, .exm "BadDisk" "Full" false, .exm "BadWay" "DrawerError" true, .exm "BadWay" "BadNumber" false]
def fa4 : List He.Fa := [.exm "BadWay" "BadCells" false, .exm "BadWay" "Stopped" false, .exm "BadWay" "BadDisk" false, .exm "BadWay" "BadWay" true, .exm "BadWay" "NoThing" false, .exm "BadWay" "NotFile" false, .exm "BadWay" "NotDrawer" false, .exm "BadWay" "Full" false, .exm "NoThing" "DrawerError" true, .exm "NoThing" "BadNumber" false, .exm "NoThing" "BadCells" false, .exm "NoThing" "Stopped" false, .exm "NoThing" "BadDisk" false, .exm "NoThing" "BadWay" false, .exm "NoThing" "NoThing" true, .exm "NoThing" "NotFile" false, .exm "NoThing" "NotDrawer" false, .exm "NoThing" "Full" false, .exm "NotFile" "DrawerError" true, .exm "NotFile" "BadNumber" false, .exm "NotFile" "BadCells" false, .exm "NotFile" "Stopped" false, .exm "NotFile" "BadDisk" false, .exm "NotFile" "BadWay" false, .exm "NotFile" "NoThing" false, .exm "NotFile" "NotFile" true, .exm "NotFile" "NotDrawer" false, .exm "NotFile" "Full" false, .exm "NotDrawer" "DrawerError" true, .exm "NotDrawer" "BadNumber" false]
def fa5 : List He.Fa := [.exm "NotDrawer" "BadCells" false, .exm "NotDrawer" "Stopped" false, .exm "NotDrawer" "BadDisk" false, .exm "NotDrawer" "BadWay" false, .exm "NotDrawer" "NoThing" false, .exm "NotDrawer" "NotFile" false, .exm "NotDrawer" "NotDrawer" true, .exm "NotDrawer" "Full" false, .exm "Full" "DrawerError" true, .exm "Full" "BadNumber" false, .exm "Full" "BadCells" false, .exm "Full" "Stopped" false, .exm "Full" "BadDisk" false, .exm "Full" "BadWay" false, .exm "Full" "NoThing" false, .exm "Full" "NotFile" false, .exm "Full" "NotDrawer" false, .exm "Full" "Full" true, .int "CELLS" 8, .int "MOST_CELL" 999, .int "MOST_BLOCKS" 200, .int "MOST_STEPS" 100000, .int "MARK" 77, .int "HEAD" 8, .int "FIRST_NODE" 9, .int "DRAWER" 2, .int "MOST_WRITES" 7]
def fa : List He.Fa := fa0 ++ fa1 ++ fa2 ++ fa3 ++ fa4 ++ fa5
def loose0 : List Str := ["_wall", "DrawerError", "BadNumber", "BadCells", "Stopped", "BadDisk", "BadWay", "NoThing", "NotFile", "NotDrawer", "Full", "CELLS", "MOST_CELL", "MOST_BLOCKS", "MOST_STEPS", "is_within", "are_cells", "Disk", "MARK", "HEAD", "FIRST_NODE", "POINTERS", "MOST_SIZE", "FREE", "DRAWER", "SMALL", "is_name", "name_of", "first_data", "set_up"]
def loose1 : List Str := ["nodes_of", "blocks_for", "MOST_WRITES", "deal", "put_in_place", "pending", "come_back", "View", "MOST_WAY", "look_way", "walk", "walk_drawer", "walk_file", "look_disk", "Drawers", "_law_cell", "_law_mix", "_law_seed", "_law_pick", "_law_state", "_law_disk", "_law_copy", "_law_all_blocks"]
def loose : List Str := loose0 ++ loose1
def ex (K : PySem.W.Frag) : Bool := (freeB K) && (ownB K "Disk")
def ts : List He.Tab := []
abbrev Says (w : World) (K : PySem.W.Frag) : Prop := SaysE fa fn ts ex w K
section
variable {w : World} {K : PySem.W.Frag} {h : Heap} {mg : Str → Option Value}
theorem gc_CELLS (TX : K.In h) (TG : h.Ns mainGlobals mg) (c : Says w K) : GlobC K mg "CELLS" c_CELLS := by
  obtain ⟨t, e⟩ := He.int_ok TX TG (c.fact 168 (f := .int "CELLS" 8))
  exact ⟨.int 8, _, e, ⟨t, rfl⟩, fun _ _ => .int _⟩
theorem gc_MOST_CELL (TX : K.In h) (TG : h.Ns mainGlobals mg) (c : Says w K) : GlobC K mg "MOST_CELL" c_MOST_CELL := by
  obtain ⟨t, e⟩ := He.int_ok TX TG (c.fact 169 (f := .int "MOST_CELL" 999))
  exact ⟨.int 999, _, e, ⟨t, rfl⟩, fun _ _ => .int _⟩
theorem gc_MOST_BLOCKS (TX : K.In h) (TG : h.Ns mainGlobals mg) (c : Says w K) : GlobC K mg "MOST_BLOCKS" c_MOST_BLOCKS := by
  obtain ⟨t, e⟩ := He.int_ok TX TG (c.fact 170 (f := .int "MOST_BLOCKS" 200))
  exact ⟨.int 200, _, e, ⟨t, rfl⟩, fun _ _ => .int _⟩
theorem gc_MOST_STEPS (TX : K.In h) (TG : h.Ns mainGlobals mg) (c : Says w K) : GlobC K mg "MOST_STEPS" c_MOST_STEPS := by
  obtain ⟨t, e⟩ := He.int_ok TX TG (c.fact 171 (f := .int "MOST_STEPS" 100000))
  exact ⟨.int 100000, _, e, ⟨t, rfl⟩, fun _ _ => .int _⟩
theorem gc_MARK (TX : K.In h) (TG : h.Ns mainGlobals mg) (c : Says w K) : GlobC K mg "MARK" c_MARK := by
  obtain ⟨t, e⟩ := He.int_ok TX TG (c.fact 172 (f := .int "MARK" 77))
  exact ⟨.int 77, _, e, ⟨t, rfl⟩, fun _ _ => .int _⟩
theorem gc_HEAD (TX : K.In h) (TG : h.Ns mainGlobals mg) (c : Says w K) : GlobC K mg "HEAD" c_HEAD := by
  obtain ⟨t, e⟩ := He.int_ok TX TG (c.fact 173 (f := .int "HEAD" 8))
  exact ⟨.int 8, _, e, ⟨t, rfl⟩, fun _ _ => .int _⟩
theorem gc_FIRST_NODE (TX : K.In h) (TG : h.Ns mainGlobals mg) (c : Says w K) : GlobC K mg "FIRST_NODE" c_FIRST_NODE := by
  obtain ⟨t, e⟩ := He.int_ok TX TG (c.fact 174 (f := .int "FIRST_NODE" 9))
  exact ⟨.int 9, _, e, ⟨t, rfl⟩, fun _ _ => .int _⟩
theorem gc_DRAWER (TX : K.In h) (TG : h.Ns mainGlobals mg) (c : Says w K) : GlobC K mg "DRAWER" c_DRAWER := by
  obtain ⟨t, e⟩ := He.int_ok TX TG (c.fact 175 (f := .int "DRAWER" 2))
  exact ⟨.int 2, _, e, ⟨t, rfl⟩, fun _ _ => .int _⟩
theorem gc_MOST_WRITES (TX : K.In h) (TG : h.Ns mainGlobals mg) (c : Says w K) : GlobC K mg "MOST_WRITES" c_MOST_WRITES := by
  obtain ⟨t, e⟩ := He.int_ok TX TG (c.fact 176 (f := .int "MOST_WRITES" 7))
  exact ⟨.int 7, _, e, ⟨t, rfl⟩, fun _ _ => .int _⟩
theorem ex_0 (c : Says w K) : (freeB K) = true := (He.ba c.more).1
theorem ex_1 (c : Says w K) : (ownB K "Disk") = true := (He.ba c.more).2
theorem gc_FREE (TX : K.In h) (TG : h.Ns mainGlobals mg) (c : Says w K) : GlobC K mg "FREE" c_FREE := free_glob TX TG (ex_0 c)
theorem fr_isinstance (TX : K.In h) (TG : h.Ns mainGlobals mg) (c : Says w K) : mg "isinstance" = none := He.free_ok TX TG (c.fact 0 (f := .free "isinstance"))
theorem fr_int (TX : K.In h) (TG : h.Ns mainGlobals mg) (c : Says w K) : mg "int" = none := He.free_ok TX TG (c.fact 1 (f := .free "int"))
theorem fr_bool (TX : K.In h) (TG : h.Ns mainGlobals mg) (c : Says w K) : mg "bool" = none := He.free_ok TX TG (c.fact 2 (f := .free "bool"))
theorem fr_range (TX : K.In h) (TG : h.Ns mainGlobals mg) (c : Says w K) : mg "range" = none := He.free_ok TX TG (c.fact 3 (f := .free "range"))
theorem fr_len (TX : K.In h) (TG : h.Ns mainGlobals mg) (c : Says w K) : mg "len" = none := He.free_ok TX TG (c.fact 4 (f := .free "len"))
theorem fr_tuple (TX : K.In h) (TG : h.Ns mainGlobals mg) (c : Says w K) : mg "tuple" = none := He.free_ok TX TG (c.fact 5 (f := .free "tuple"))
theorem fr_max (TX : K.In h) (TG : h.Ns mainGlobals mg) (c : Says w K) : mg "max" = none := He.free_ok TX TG (c.fact 6 (f := .free "max"))
theorem fr_list (TX : K.In h) (TG : h.Ns mainGlobals mg) (c : Says w K) : mg "list" = none := He.free_ok TX TG (c.fact 7 (f := .free "list"))
theorem fr_sorted (TX : K.In h) (TG : h.Ns mainGlobals mg) (c : Says w K) : mg "sorted" = none := He.free_ok TX TG (c.fact 8 (f := .free "sorted"))
theorem fr_set (TX : K.In h) (TG : h.Ns mainGlobals mg) (c : Says w K) : mg "set" = none := He.free_ok TX TG (c.fact 9 (f := .free "set"))
theorem fr_enumerate (TX : K.In h) (TG : h.Ns mainGlobals mg) (c : Says w K) : mg "enumerate" = none := He.free_ok TX TG (c.fact 10 (f := .free "enumerate"))
theorem clok_disk (c : Says w K) : ClOk K .disk := ⟨He.cls_ok (x := "Disk") (c.fact 12 (f := .cls "Disk")), fun f hf => by
  have e : f = ("rows" : Str) ∨ f = ("more" : Str) ∨ f = ("many" : Str) := by simpa [Cl.fs] using hf
  rcases e with rfl | rfl | rfl
  · exact He.noat_ok (c.fact 13 (f := .noat "Disk" "rows"))
  · exact He.noat_ok (c.fact 14 (f := .noat "Disk" "more"))
  · exact He.noat_ok (c.fact 15 (f := .noat "Disk" "many"))⟩
theorem clok_drawers (c : Says w K) : ClOk K .drawers := ⟨He.cls_ok (x := "Drawers") (c.fact 18 (f := .cls "Drawers")), fun f hf => by
  have e : f = ("disk" : Str) := by simpa [Cl.fs] using hf
  rcases e with rfl
  · exact He.noat_ok (c.fact 19 (f := .noat "Drawers" "disk"))⟩
theorem isown_disk (TX : K.In h) (TG : h.Ns mainGlobals mg) (c : Says w K) : IsOwn K mg .disk := own_ok (He.glo_ok TX TG (c.fact 11 (f := .glo "Disk"))) (clok_disk c).cl (ex_1 c)
theorem xok_DrawerError (c : Says w K) : XOk K .drawerError := fun c' hk => by
  cases c' with
  | drawerError => exact He.exm_ok (c.fact 68 (f := .exm "DrawerError" "DrawerError" true))
  | badNumber => exact He.exm_ok (c.fact 69 (f := .exm "DrawerError" "BadNumber" false))
  | badCells => exact He.exm_ok (c.fact 70 (f := .exm "DrawerError" "BadCells" false))
  | stopped => exact He.exm_ok (c.fact 71 (f := .exm "DrawerError" "Stopped" false))
  | badDisk => exact He.exm_ok (c.fact 72 (f := .exm "DrawerError" "BadDisk" false))
  | badWay => exact He.exm_ok (c.fact 73 (f := .exm "DrawerError" "BadWay" false))
  | noThing => exact He.exm_ok (c.fact 74 (f := .exm "DrawerError" "NoThing" false))
  | notFile => exact He.exm_ok (c.fact 75 (f := .exm "DrawerError" "NotFile" false))
  | notDrawer => exact He.exm_ok (c.fact 76 (f := .exm "DrawerError" "NotDrawer" false))
  | there => exact (glo_free hk (c.fact 53 (f := .free "There"))).elim
  | notEmpty => exact (glo_free hk (c.fact 54 (f := .free "NotEmpty"))).elim
  | inside => exact (glo_free hk (c.fact 55 (f := .free "Inside"))).elim
  | full => exact He.exm_ok (c.fact 77 (f := .exm "DrawerError" "Full" false))
  | badDeed => exact (glo_free hk (c.fact 57 (f := .free "BadDeed"))).elim
theorem exc_DrawerError (TX : K.In h) (TG : h.Ns mainGlobals mg) (c : Says w K) : ExcD K mg .drawerError := ⟨He.glo_ok TX TG (c.fact 44 (f := .glo "DrawerError")), He.exc_ok (c.fact 58 (f := .exc "DrawerError")), xok_DrawerError c⟩
theorem here_DrawerError (TX : K.In h) (TG : h.Ns mainGlobals mg) (c : Says w K) : HereD K mg .drawerError := ⟨He.glo_ok TX TG (c.fact 44 (f := .glo "DrawerError")), c.fact 44 (f := .glo "DrawerError")⟩
theorem xok_BadNumber (c : Says w K) : XOk K .badNumber := fun c' hk => by
  cases c' with
  | drawerError => exact He.exm_ok (c.fact 78 (f := .exm "BadNumber" "DrawerError" true))
  | badNumber => exact He.exm_ok (c.fact 79 (f := .exm "BadNumber" "BadNumber" true))
  | badCells => exact He.exm_ok (c.fact 80 (f := .exm "BadNumber" "BadCells" false))
  | stopped => exact He.exm_ok (c.fact 81 (f := .exm "BadNumber" "Stopped" false))
  | badDisk => exact He.exm_ok (c.fact 82 (f := .exm "BadNumber" "BadDisk" false))
  | badWay => exact He.exm_ok (c.fact 83 (f := .exm "BadNumber" "BadWay" false))
  | noThing => exact He.exm_ok (c.fact 84 (f := .exm "BadNumber" "NoThing" false))
  | notFile => exact He.exm_ok (c.fact 85 (f := .exm "BadNumber" "NotFile" false))
  | notDrawer => exact He.exm_ok (c.fact 86 (f := .exm "BadNumber" "NotDrawer" false))
  | there => exact (glo_free hk (c.fact 53 (f := .free "There"))).elim
  | notEmpty => exact (glo_free hk (c.fact 54 (f := .free "NotEmpty"))).elim
  | inside => exact (glo_free hk (c.fact 55 (f := .free "Inside"))).elim
  | full => exact He.exm_ok (c.fact 87 (f := .exm "BadNumber" "Full" false))
  | badDeed => exact (glo_free hk (c.fact 57 (f := .free "BadDeed"))).elim
theorem exc_BadNumber (TX : K.In h) (TG : h.Ns mainGlobals mg) (c : Says w K) : ExcD K mg .badNumber := ⟨He.glo_ok TX TG (c.fact 45 (f := .glo "BadNumber")), He.exc_ok (c.fact 59 (f := .exc "BadNumber")), xok_BadNumber c⟩
theorem here_BadNumber (TX : K.In h) (TG : h.Ns mainGlobals mg) (c : Says w K) : HereD K mg .badNumber := ⟨He.glo_ok TX TG (c.fact 45 (f := .glo "BadNumber")), c.fact 45 (f := .glo "BadNumber")⟩
theorem xok_BadCells (c : Says w K) : XOk K .badCells := fun c' hk => by
  cases c' with
  | drawerError => exact He.exm_ok (c.fact 88 (f := .exm "BadCells" "DrawerError" true))
  | badNumber => exact He.exm_ok (c.fact 89 (f := .exm "BadCells" "BadNumber" false))
  | badCells => exact He.exm_ok (c.fact 90 (f := .exm "BadCells" "BadCells" true))
  | stopped => exact He.exm_ok (c.fact 91 (f := .exm "BadCells" "Stopped" false))
  | badDisk => exact He.exm_ok (c.fact 92 (f := .exm "BadCells" "BadDisk" false))
  | badWay => exact He.exm_ok (c.fact 93 (f := .exm "BadCells" "BadWay" false))
  | noThing => exact He.exm_ok (c.fact 94 (f := .exm "BadCells" "NoThing" false))
  | notFile => exact He.exm_ok (c.fact 95 (f := .exm "BadCells" "NotFile" false))
  | notDrawer => exact He.exm_ok (c.fact 96 (f := .exm "BadCells" "NotDrawer" false))
  | there => exact (glo_free hk (c.fact 53 (f := .free "There"))).elim
  | notEmpty => exact (glo_free hk (c.fact 54 (f := .free "NotEmpty"))).elim
  | inside => exact (glo_free hk (c.fact 55 (f := .free "Inside"))).elim
  | full => exact He.exm_ok (c.fact 97 (f := .exm "BadCells" "Full" false))
  | badDeed => exact (glo_free hk (c.fact 57 (f := .free "BadDeed"))).elim
theorem exc_BadCells (TX : K.In h) (TG : h.Ns mainGlobals mg) (c : Says w K) : ExcD K mg .badCells := ⟨He.glo_ok TX TG (c.fact 46 (f := .glo "BadCells")), He.exc_ok (c.fact 60 (f := .exc "BadCells")), xok_BadCells c⟩
theorem here_BadCells (TX : K.In h) (TG : h.Ns mainGlobals mg) (c : Says w K) : HereD K mg .badCells := ⟨He.glo_ok TX TG (c.fact 46 (f := .glo "BadCells")), c.fact 46 (f := .glo "BadCells")⟩
theorem xok_Stopped (c : Says w K) : XOk K .stopped := fun c' hk => by
  cases c' with
  | drawerError => exact He.exm_ok (c.fact 98 (f := .exm "Stopped" "DrawerError" true))
  | badNumber => exact He.exm_ok (c.fact 99 (f := .exm "Stopped" "BadNumber" false))
  | badCells => exact He.exm_ok (c.fact 100 (f := .exm "Stopped" "BadCells" false))
  | stopped => exact He.exm_ok (c.fact 101 (f := .exm "Stopped" "Stopped" true))
  | badDisk => exact He.exm_ok (c.fact 102 (f := .exm "Stopped" "BadDisk" false))
  | badWay => exact He.exm_ok (c.fact 103 (f := .exm "Stopped" "BadWay" false))
  | noThing => exact He.exm_ok (c.fact 104 (f := .exm "Stopped" "NoThing" false))
  | notFile => exact He.exm_ok (c.fact 105 (f := .exm "Stopped" "NotFile" false))
  | notDrawer => exact He.exm_ok (c.fact 106 (f := .exm "Stopped" "NotDrawer" false))
  | there => exact (glo_free hk (c.fact 53 (f := .free "There"))).elim
  | notEmpty => exact (glo_free hk (c.fact 54 (f := .free "NotEmpty"))).elim
  | inside => exact (glo_free hk (c.fact 55 (f := .free "Inside"))).elim
  | full => exact He.exm_ok (c.fact 107 (f := .exm "Stopped" "Full" false))
  | badDeed => exact (glo_free hk (c.fact 57 (f := .free "BadDeed"))).elim
theorem exc_Stopped (TX : K.In h) (TG : h.Ns mainGlobals mg) (c : Says w K) : ExcD K mg .stopped := ⟨He.glo_ok TX TG (c.fact 47 (f := .glo "Stopped")), He.exc_ok (c.fact 61 (f := .exc "Stopped")), xok_Stopped c⟩
theorem here_Stopped (TX : K.In h) (TG : h.Ns mainGlobals mg) (c : Says w K) : HereD K mg .stopped := ⟨He.glo_ok TX TG (c.fact 47 (f := .glo "Stopped")), c.fact 47 (f := .glo "Stopped")⟩
theorem xok_BadDisk (c : Says w K) : XOk K .badDisk := fun c' hk => by
  cases c' with
  | drawerError => exact He.exm_ok (c.fact 108 (f := .exm "BadDisk" "DrawerError" true))
  | badNumber => exact He.exm_ok (c.fact 109 (f := .exm "BadDisk" "BadNumber" false))
  | badCells => exact He.exm_ok (c.fact 110 (f := .exm "BadDisk" "BadCells" false))
  | stopped => exact He.exm_ok (c.fact 111 (f := .exm "BadDisk" "Stopped" false))
  | badDisk => exact He.exm_ok (c.fact 112 (f := .exm "BadDisk" "BadDisk" true))
  | badWay => exact He.exm_ok (c.fact 113 (f := .exm "BadDisk" "BadWay" false))
  | noThing => exact He.exm_ok (c.fact 114 (f := .exm "BadDisk" "NoThing" false))
  | notFile => exact He.exm_ok (c.fact 115 (f := .exm "BadDisk" "NotFile" false))
  | notDrawer => exact He.exm_ok (c.fact 116 (f := .exm "BadDisk" "NotDrawer" false))
  | there => exact (glo_free hk (c.fact 53 (f := .free "There"))).elim
  | notEmpty => exact (glo_free hk (c.fact 54 (f := .free "NotEmpty"))).elim
  | inside => exact (glo_free hk (c.fact 55 (f := .free "Inside"))).elim
  | full => exact He.exm_ok (c.fact 117 (f := .exm "BadDisk" "Full" false))
  | badDeed => exact (glo_free hk (c.fact 57 (f := .free "BadDeed"))).elim
theorem exc_BadDisk (TX : K.In h) (TG : h.Ns mainGlobals mg) (c : Says w K) : ExcD K mg .badDisk := ⟨He.glo_ok TX TG (c.fact 48 (f := .glo "BadDisk")), He.exc_ok (c.fact 62 (f := .exc "BadDisk")), xok_BadDisk c⟩
theorem here_BadDisk (TX : K.In h) (TG : h.Ns mainGlobals mg) (c : Says w K) : HereD K mg .badDisk := ⟨He.glo_ok TX TG (c.fact 48 (f := .glo "BadDisk")), c.fact 48 (f := .glo "BadDisk")⟩
theorem xok_BadWay (c : Says w K) : XOk K .badWay := fun c' hk => by
  cases c' with
  | drawerError => exact He.exm_ok (c.fact 118 (f := .exm "BadWay" "DrawerError" true))
  | badNumber => exact He.exm_ok (c.fact 119 (f := .exm "BadWay" "BadNumber" false))
  | badCells => exact He.exm_ok (c.fact 120 (f := .exm "BadWay" "BadCells" false))
  | stopped => exact He.exm_ok (c.fact 121 (f := .exm "BadWay" "Stopped" false))
  | badDisk => exact He.exm_ok (c.fact 122 (f := .exm "BadWay" "BadDisk" false))
  | badWay => exact He.exm_ok (c.fact 123 (f := .exm "BadWay" "BadWay" true))
  | noThing => exact He.exm_ok (c.fact 124 (f := .exm "BadWay" "NoThing" false))
  | notFile => exact He.exm_ok (c.fact 125 (f := .exm "BadWay" "NotFile" false))
  | notDrawer => exact He.exm_ok (c.fact 126 (f := .exm "BadWay" "NotDrawer" false))
  | there => exact (glo_free hk (c.fact 53 (f := .free "There"))).elim
  | notEmpty => exact (glo_free hk (c.fact 54 (f := .free "NotEmpty"))).elim
  | inside => exact (glo_free hk (c.fact 55 (f := .free "Inside"))).elim
  | full => exact He.exm_ok (c.fact 127 (f := .exm "BadWay" "Full" false))
  | badDeed => exact (glo_free hk (c.fact 57 (f := .free "BadDeed"))).elim
theorem exc_BadWay (TX : K.In h) (TG : h.Ns mainGlobals mg) (c : Says w K) : ExcD K mg .badWay := ⟨He.glo_ok TX TG (c.fact 49 (f := .glo "BadWay")), He.exc_ok (c.fact 63 (f := .exc "BadWay")), xok_BadWay c⟩
theorem here_BadWay (TX : K.In h) (TG : h.Ns mainGlobals mg) (c : Says w K) : HereD K mg .badWay := ⟨He.glo_ok TX TG (c.fact 49 (f := .glo "BadWay")), c.fact 49 (f := .glo "BadWay")⟩
theorem xok_NoThing (c : Says w K) : XOk K .noThing := fun c' hk => by
  cases c' with
  | drawerError => exact He.exm_ok (c.fact 128 (f := .exm "NoThing" "DrawerError" true))
  | badNumber => exact He.exm_ok (c.fact 129 (f := .exm "NoThing" "BadNumber" false))
  | badCells => exact He.exm_ok (c.fact 130 (f := .exm "NoThing" "BadCells" false))
  | stopped => exact He.exm_ok (c.fact 131 (f := .exm "NoThing" "Stopped" false))
  | badDisk => exact He.exm_ok (c.fact 132 (f := .exm "NoThing" "BadDisk" false))
  | badWay => exact He.exm_ok (c.fact 133 (f := .exm "NoThing" "BadWay" false))
  | noThing => exact He.exm_ok (c.fact 134 (f := .exm "NoThing" "NoThing" true))
  | notFile => exact He.exm_ok (c.fact 135 (f := .exm "NoThing" "NotFile" false))
  | notDrawer => exact He.exm_ok (c.fact 136 (f := .exm "NoThing" "NotDrawer" false))
  | there => exact (glo_free hk (c.fact 53 (f := .free "There"))).elim
  | notEmpty => exact (glo_free hk (c.fact 54 (f := .free "NotEmpty"))).elim
  | inside => exact (glo_free hk (c.fact 55 (f := .free "Inside"))).elim
  | full => exact He.exm_ok (c.fact 137 (f := .exm "NoThing" "Full" false))
  | badDeed => exact (glo_free hk (c.fact 57 (f := .free "BadDeed"))).elim
theorem exc_NoThing (TX : K.In h) (TG : h.Ns mainGlobals mg) (c : Says w K) : ExcD K mg .noThing := ⟨He.glo_ok TX TG (c.fact 50 (f := .glo "NoThing")), He.exc_ok (c.fact 64 (f := .exc "NoThing")), xok_NoThing c⟩
theorem here_NoThing (TX : K.In h) (TG : h.Ns mainGlobals mg) (c : Says w K) : HereD K mg .noThing := ⟨He.glo_ok TX TG (c.fact 50 (f := .glo "NoThing")), c.fact 50 (f := .glo "NoThing")⟩
theorem xok_NotFile (c : Says w K) : XOk K .notFile := fun c' hk => by
  cases c' with
  | drawerError => exact He.exm_ok (c.fact 138 (f := .exm "NotFile" "DrawerError" true))
  | badNumber => exact He.exm_ok (c.fact 139 (f := .exm "NotFile" "BadNumber" false))
  | badCells => exact He.exm_ok (c.fact 140 (f := .exm "NotFile" "BadCells" false))
  | stopped => exact He.exm_ok (c.fact 141 (f := .exm "NotFile" "Stopped" false))
  | badDisk => exact He.exm_ok (c.fact 142 (f := .exm "NotFile" "BadDisk" false))
  | badWay => exact He.exm_ok (c.fact 143 (f := .exm "NotFile" "BadWay" false))
  | noThing => exact He.exm_ok (c.fact 144 (f := .exm "NotFile" "NoThing" false))
  | notFile => exact He.exm_ok (c.fact 145 (f := .exm "NotFile" "NotFile" true))
  | notDrawer => exact He.exm_ok (c.fact 146 (f := .exm "NotFile" "NotDrawer" false))
  | there => exact (glo_free hk (c.fact 53 (f := .free "There"))).elim
  | notEmpty => exact (glo_free hk (c.fact 54 (f := .free "NotEmpty"))).elim
  | inside => exact (glo_free hk (c.fact 55 (f := .free "Inside"))).elim
  | full => exact He.exm_ok (c.fact 147 (f := .exm "NotFile" "Full" false))
  | badDeed => exact (glo_free hk (c.fact 57 (f := .free "BadDeed"))).elim
theorem exc_NotFile (TX : K.In h) (TG : h.Ns mainGlobals mg) (c : Says w K) : ExcD K mg .notFile := ⟨He.glo_ok TX TG (c.fact 51 (f := .glo "NotFile")), He.exc_ok (c.fact 65 (f := .exc "NotFile")), xok_NotFile c⟩
theorem here_NotFile (TX : K.In h) (TG : h.Ns mainGlobals mg) (c : Says w K) : HereD K mg .notFile := ⟨He.glo_ok TX TG (c.fact 51 (f := .glo "NotFile")), c.fact 51 (f := .glo "NotFile")⟩
theorem xok_NotDrawer (c : Says w K) : XOk K .notDrawer := fun c' hk => by
  cases c' with
  | drawerError => exact He.exm_ok (c.fact 148 (f := .exm "NotDrawer" "DrawerError" true))
  | badNumber => exact He.exm_ok (c.fact 149 (f := .exm "NotDrawer" "BadNumber" false))
  | badCells => exact He.exm_ok (c.fact 150 (f := .exm "NotDrawer" "BadCells" false))
  | stopped => exact He.exm_ok (c.fact 151 (f := .exm "NotDrawer" "Stopped" false))
  | badDisk => exact He.exm_ok (c.fact 152 (f := .exm "NotDrawer" "BadDisk" false))
  | badWay => exact He.exm_ok (c.fact 153 (f := .exm "NotDrawer" "BadWay" false))
  | noThing => exact He.exm_ok (c.fact 154 (f := .exm "NotDrawer" "NoThing" false))
  | notFile => exact He.exm_ok (c.fact 155 (f := .exm "NotDrawer" "NotFile" false))
  | notDrawer => exact He.exm_ok (c.fact 156 (f := .exm "NotDrawer" "NotDrawer" true))
  | there => exact (glo_free hk (c.fact 53 (f := .free "There"))).elim
  | notEmpty => exact (glo_free hk (c.fact 54 (f := .free "NotEmpty"))).elim
  | inside => exact (glo_free hk (c.fact 55 (f := .free "Inside"))).elim
  | full => exact He.exm_ok (c.fact 157 (f := .exm "NotDrawer" "Full" false))
  | badDeed => exact (glo_free hk (c.fact 57 (f := .free "BadDeed"))).elim
theorem exc_NotDrawer (TX : K.In h) (TG : h.Ns mainGlobals mg) (c : Says w K) : ExcD K mg .notDrawer := ⟨He.glo_ok TX TG (c.fact 52 (f := .glo "NotDrawer")), He.exc_ok (c.fact 66 (f := .exc "NotDrawer")), xok_NotDrawer c⟩
theorem here_NotDrawer (TX : K.In h) (TG : h.Ns mainGlobals mg) (c : Says w K) : HereD K mg .notDrawer := ⟨He.glo_ok TX TG (c.fact 52 (f := .glo "NotDrawer")), c.fact 52 (f := .glo "NotDrawer")⟩
theorem xok_Full (c : Says w K) : XOk K .full := fun c' hk => by
  cases c' with
  | drawerError => exact He.exm_ok (c.fact 158 (f := .exm "Full" "DrawerError" true))
  | badNumber => exact He.exm_ok (c.fact 159 (f := .exm "Full" "BadNumber" false))
  | badCells => exact He.exm_ok (c.fact 160 (f := .exm "Full" "BadCells" false))
  | stopped => exact He.exm_ok (c.fact 161 (f := .exm "Full" "Stopped" false))
  | badDisk => exact He.exm_ok (c.fact 162 (f := .exm "Full" "BadDisk" false))
  | badWay => exact He.exm_ok (c.fact 163 (f := .exm "Full" "BadWay" false))
  | noThing => exact He.exm_ok (c.fact 164 (f := .exm "Full" "NoThing" false))
  | notFile => exact He.exm_ok (c.fact 165 (f := .exm "Full" "NotFile" false))
  | notDrawer => exact He.exm_ok (c.fact 166 (f := .exm "Full" "NotDrawer" false))
  | there => exact (glo_free hk (c.fact 53 (f := .free "There"))).elim
  | notEmpty => exact (glo_free hk (c.fact 54 (f := .free "NotEmpty"))).elim
  | inside => exact (glo_free hk (c.fact 55 (f := .free "Inside"))).elim
  | full => exact He.exm_ok (c.fact 167 (f := .exm "Full" "Full" true))
  | badDeed => exact (glo_free hk (c.fact 57 (f := .free "BadDeed"))).elim
theorem exc_Full (TX : K.In h) (TG : h.Ns mainGlobals mg) (c : Says w K) : ExcD K mg .full := ⟨He.glo_ok TX TG (c.fact 56 (f := .glo "Full")), He.exc_ok (c.fact 67 (f := .exc "Full")), xok_Full c⟩
theorem here_Full (TX : K.In h) (TG : h.Ns mainGlobals mg) (c : Says w K) : HereD K mg .full := ⟨He.glo_ok TX TG (c.fact 56 (f := .glo "Full")), c.fact 56 (f := .glo "Full")⟩
end
section
variable (P : Program) (w : World) (base : Heap) {K : PySem.W.Frag} {h : Heap} {mg : Str → Option Value}
abbrev n_is_within : List Str := ["thing", "low", "high"]
theorem sc_is_within : FnScope n_is_within ["thing", "low", "high"] (defScope s_is_within) := ⟨rfl, rfl, rfl, by decide +kernel, rfl, by decide +kernel, by decide +kernel⟩
theorem dv_is_within (TX : K.In h) (TG : h.Ns mainGlobals mg) (c : Says w K) (f : Addr) (cdv : Value) (A : Around) (outer : List Env) (s : Shared) (H : Hp) (E : XK) (hr : Room 0 (A.deeper (envOfC "is_within" (defScope s_is_within) s.heap.objs.size f cdv))) (tk : Takes (cxOf (L2.CX P w) P w K mg base n_is_within "is_within" (defScope s_is_within) f cdv A outer s H E) (fun cls d _ H' => E cls d H')) : PSs (cxOf (L2.CX P w) P w K mg base n_is_within "is_within" (defScope s_is_within) f cdv A outer s H E) (defBody s_is_within) (tS K (fun cls d _ H' => E cls d H') B_is_within) := by
  exact dss_one (ds_ret (de_and (de_is .int "int" (by decide) (by decide +kernel) (de_var 0) (fr_isinstance TX TG c) (fr_int TX TG c)) (de_and (de_not (de_is .bool "bool" (by decide) (by decide +kernel) (de_var 0) (fr_isinstance TX TG c) (fr_bool TX TG c))) (de_one (de_chain od_le od_le (de_var 1) (de_var 0) (de_var 2))))))
theorem ok_is_within (TX : K.In h) (TG : h.Ns mainGlobals mg) (c : Says w K) : FnD P w K mg base 1 "is_within" 3 F_is_within := by
  obtain ⟨fd, F⟩ := c.def_ 0 (d := d_is_within) rfl
  have b2 : Binds K fd ["thing", "low", "high"] [] := F.bindsN fun _ _ _ _ _ _ us hl => match us, hl with | [_, _, _], _ => rfl
  have b3 : FnOk P w K mg base (L2.CX P w) 1 (He.fAd K d_is_within.at_) fd ["thing", "low", "high"] (spD K 3 F_is_within) := fn_ok (k := 0) (N := n_is_within) (ps := ["thing", "low", "high"]) (b := B_is_within) F sc_is_within (fun cdv A outer s H E hr tk => dv_is_within P w base TX TG c _ cdv A outer s H E hr tk)
  have b4 : Takes_ 3 F_is_within := dFn_takes 3 3 B_is_within
  have b1 : mg "is_within" = some (.ref (He.fAd K d_is_within.at_)) := He.glo_ok TX TG (c.fact 21 (f := .glo "is_within"))
  exact ⟨b4, _, fd, ["thing", "low", "high"], b3, b1, F.kp, b2⟩
abbrev n_Disk_go_on : List Str := ["self", "steps"]
theorem sc_Disk_go_on : FnScope n_Disk_go_on ["self", "steps"] (defScope s_Disk_go_on) := ⟨rfl, rfl, rfl, by decide +kernel, rfl, by decide +kernel, by decide +kernel⟩
theorem dv_Disk_go_on (TX : K.In h) (TG : h.Ns mainGlobals mg) (c : Says w K) (f : Addr) (cdv : Value) (A : Around) (outer : List Env) (s : Shared) (H : Hp) (E : XK) (hr : Room 1 (A.deeper (envOfC "Disk.go_on" (defScope s_Disk_go_on) s.heap.objs.size f cdv))) (tk : Takes (cxOf (L2.CX P w) P w K mg base n_Disk_go_on "Disk.go_on" (defScope s_Disk_go_on) f cdv A outer s H E) (fun cls d _ H' => E cls d H')) : PSs (cxOf (L2.CX P w) P w K mg base n_Disk_go_on "Disk.go_on" (defScope s_Disk_go_on) f cdv A outer s H E) (defBody s_Disk_go_on) (tS K (fun cls d _ H' => E cls d H') B_Disk_go_on) := by
  exact dss_cons (ds_if (dt_w (dw_and (dt_cmp od_isNot (de_var 1) (de_non)) (dw_and1 (dt_not (dt_tru (de_call (ok_is_within P w base TX TG c) (hr.mono (by decide)) tk (da_cons (de_var 1) (da_cons (de_int) (da_cons (de_glob (gc_MOST_STEPS TX TG c)) (da_nil)))))))))) (dss_one (ds_raise (c := .badNumber) (exc_BadNumber TX TG c) rfl tk)) (dss_nil)) (dss_one (ds_fld [.disk] 1 ((by intro z hz; cases List.mem_singleton.mp hz; exact clok_disk c)) (de_var 0) (de_var 1)))
theorem ok_Disk_go_on (TX : K.In h) (TG : h.Ns mainGlobals mg) (c : Says w K) : MethD P w K mg base 2 .disk "go_on" 2 F_Disk_go_on := by
  obtain ⟨fd, F⟩ := c.def_ 1 (d := d_Disk_go_on) rfl
  have b2 : Binds K fd ["self", "steps"] [] := F.bindsN fun _ _ _ _ _ _ us hl => match us, hl with | [_, _], _ => rfl
  have b3 : FnOk P w K mg base (L2.CX P w) 2 (He.fAd K d_Disk_go_on.at_) fd ["self", "steps"] (spD K 2 F_Disk_go_on) := fn_ok (k := 1) (N := n_Disk_go_on) (ps := ["self", "steps"]) (b := B_Disk_go_on) F sc_Disk_go_on (fun cdv A outer s H E hr tk => dv_Disk_go_on P w base TX TG c _ cdv A outer s H E hr tk)
  have b4 : Takes_ 2 F_Disk_go_on := dFn_takes 2 2 B_Disk_go_on
  have b5 : Meth K (He.ga K (Cl.disk).nm) "go_on" (He.fAd K d_Disk_go_on.at_) := He.meth_ok (c.fact 22 (f := .meth "Disk" "go_on"))
  exact ⟨b4, (clok_disk c).cl, _, fd, ["self", "steps"], b3, b5, b2⟩
abbrev n_Disk_init__ : List Str := ["self", "size", "steps", "block"]
theorem sc_Disk_init__ : FnScope n_Disk_init__ ["self", "size", "steps"] (defScope s_Disk_init__) := ⟨rfl, rfl, rfl, by decide +kernel, rfl, by decide +kernel, by decide +kernel⟩
theorem dv_Disk_init__ (TX : K.In h) (TG : h.Ns mainGlobals mg) (c : Says w K) (f : Addr) (cdv : Value) (A : Around) (outer : List Env) (s : Shared) (H : Hp) (E : XK) (hr : Room 2 (A.deeper (envOfC "Disk.__init__" (defScope s_Disk_init__) s.heap.objs.size f cdv))) (tk : Takes (cxOf (L2.CX P w) P w K mg base n_Disk_init__ "Disk.__init__" (defScope s_Disk_init__) f cdv A outer s H E) (fun cls d _ H' => E cls d H')) : PSs (cxOf (L2.CX P w) P w K mg base n_Disk_init__ "Disk.__init__" (defScope s_Disk_init__) f cdv A outer s H E) (defBody s_Disk_init__) (tS K (fun cls d _ H' => E cls d H') B_Disk_init__) := by
  exact dss_cons (ds_if (dt_not (dt_tru (de_call (ok_is_within P w base TX TG c) (hr.mono (by decide)) tk (da_cons (de_var 1) (da_cons (de_int) (da_cons (de_glob (gc_MOST_BLOCKS TX TG c)) (da_nil))))))) (dss_one (ds_raise (c := .badNumber) (exc_BadNumber TX TG c) rfl tk)) (dss_nil)) (dss_cons (ds_fld [.disk] 0 ((by intro z hz; cases List.mem_singleton.mp hz; exact clok_disk c)) (de_var 0) (de_lcN (own := [("block", 3)]) rfl sc_Disk_init__.nd (di_range1 (fr_range TX TG c) (da_cons (de_var 1) (da_nil))) (blkOk_by (own := [("block", 3)]) (N := n_Disk_init__) (sc := defScope s_Disk_init__) (by decide +kernel)) (fun _ _ _ _ _ => by exact pg_name (i := 3) sc_Disk_init__.nd rfl (by first | exact Or.inl rfl | exact Or.inr rfl) (by first | exact .inl rfl | exact .inr rfl)) (tgw_name (by decide)) (fun _ _ _ _ _ => by exact dts_nil) (fun _ _ _ _ _ => by exact de_bin od_mul (de_tup (da_cons (de_int) (da_nil))) (de_glob (gc_CELLS TX TG c))))) (dss_cons (ds_fld [.disk] 1 ((by intro z hz; cases List.mem_singleton.mp hz; exact clok_disk c)) (de_var 0) (de_non)) (dss_cons (ds_fld [.disk] 2 ((by intro z hz; cases List.mem_singleton.mp hz; exact clok_disk c)) (de_var 0) (de_int)) (dss_one (ds_expr (de_meth (ok_Disk_go_on P w base TX TG c) (hr.mono (by decide)) tk (de_var 0) (da_cons (de_var 2) (da_nil))))))))
theorem mk_Disk_init__ (TX : K.In h) (TG : h.Ns mainGlobals mg) (c : Says w K) : MakeD P w K mg base 3 .disk 3 F_Disk_init__ := by
  obtain ⟨fd, F⟩ := c.def_ 2 (d := d_Disk_init__) rfl
  have b2 : Binds K fd ["self", "size", "steps"] [] := F.bindsN fun _ _ _ _ _ _ us hl => match us, hl with | [_, _, _], _ => rfl
  have b3 : FnOk P w K mg base (L2.CX P w) 3 (He.fAd K d_Disk_init__.at_) fd ["self", "size", "steps"] (spD K 3 F_Disk_init__) := fn_ok (k := 2) (N := n_Disk_init__) (ps := ["self", "size", "steps"]) (b := B_Disk_init__) F sc_Disk_init__ (fun cdv A outer s H E hr tk => dv_Disk_init__ P w base TX TG c _ cdv A outer s H E hr tk)
  have b4 : Takes_ 3 F_Disk_init__ := dFn_takes 3 4 B_Disk_init__
  have b1 : mg (Cl.disk).nm = some (.ref (He.ga K (Cl.disk).nm)) := He.glo_ok TX TG (c.fact 11 (f := .glo "Disk"))
  have b5 : Mk K (He.ga K (Cl.disk).nm) (He.fAd K d_Disk_init__.at_) := He.mkr_ok (c.fact 16 (f := .mkr "Disk"))
  exact ⟨b4, _, fd, ["self", "size", "steps"], b3, b5, b1, b2⟩
abbrev n_Disk_look : List Str := ["self", "block"]
theorem sc_Disk_look : FnScope n_Disk_look ["self", "block"] (defScope s_Disk_look) := ⟨rfl, rfl, rfl, by decide +kernel, rfl, by decide +kernel, by decide +kernel⟩
theorem dv_Disk_look (TX : K.In h) (TG : h.Ns mainGlobals mg) (c : Says w K) (f : Addr) (cdv : Value) (A : Around) (outer : List Env) (s : Shared) (H : Hp) (E : XK) (hr : Room 1 (A.deeper (envOfC "Disk.look" (defScope s_Disk_look) s.heap.objs.size f cdv))) (tk : Takes (cxOf (L2.CX P w) P w K mg base n_Disk_look "Disk.look" (defScope s_Disk_look) f cdv A outer s H E) (fun cls d _ H' => E cls d H')) : PSs (cxOf (L2.CX P w) P w K mg base n_Disk_look "Disk.look" (defScope s_Disk_look) f cdv A outer s H E) (defBody s_Disk_look) (tS K (fun cls d _ H' => E cls d H') B_Disk_look) := by
  exact dss_one (ds_if (dt_not (dt_tru (de_call (ok_is_within P w base TX TG c) (hr.mono (by decide)) tk (da_cons (de_var 1) (da_cons (de_int) (da_cons (de_bin od_sub (de_call1 (x := "len") cd_len (fr_len TX TG c) (by decide +kernel) (de_fld [.disk] 0 ((by intro z hz; cases List.mem_singleton.mp hz; exact clok_disk c)) (de_var 0))) (de_int)) (da_nil))))))) (dss_one (ds_raise (c := .badNumber) (exc_BadNumber TX TG c) rfl tk)) (dss_nil))
theorem ok_Disk_look (TX : K.In h) (TG : h.Ns mainGlobals mg) (c : Says w K) : MethD P w K mg base 2 .disk "look" 2 F_Disk_look := by
  obtain ⟨fd, F⟩ := c.def_ 3 (d := d_Disk_look) rfl
  have b2 : Binds K fd ["self", "block"] [] := F.bindsN fun _ _ _ _ _ _ us hl => match us, hl with | [_, _], _ => rfl
  have b3 : FnOk P w K mg base (L2.CX P w) 2 (He.fAd K d_Disk_look.at_) fd ["self", "block"] (spD K 2 F_Disk_look) := fn_ok (k := 1) (N := n_Disk_look) (ps := ["self", "block"]) (b := B_Disk_look) F sc_Disk_look (fun cdv A outer s H E hr tk => dv_Disk_look P w base TX TG c _ cdv A outer s H E hr tk)
  have b4 : Takes_ 2 F_Disk_look := dFn_takes 2 2 B_Disk_look
  have b5 : Meth K (He.ga K (Cl.disk).nm) "look" (He.fAd K d_Disk_look.at_) := He.meth_ok (c.fact 23 (f := .meth "Disk" "look"))
  exact ⟨b4, (clok_disk c).cl, _, fd, ["self", "block"], b3, b5, b2⟩
abbrev n_are_cells : List Str := ["thing", "one"]
theorem sc_are_cells : FnScope n_are_cells ["thing"] (defScope s_are_cells) := ⟨rfl, rfl, rfl, by decide +kernel, rfl, by decide +kernel, by decide +kernel⟩
theorem dv_are_cells (TX : K.In h) (TG : h.Ns mainGlobals mg) (c : Says w K) (f : Addr) (cdv : Value) (A : Around) (outer : List Env) (s : Shared) (H : Hp) (E : XK) (hr : Room 1 (A.deeper (envOfC "are_cells" (defScope s_are_cells) s.heap.objs.size f cdv))) (tk : Takes (cxOf (L2.CX P w) P w K mg base n_are_cells "are_cells" (defScope s_are_cells) f cdv A outer s H E) (fun cls d _ H' => E cls d H')) : PSs (cxOf (L2.CX P w) P w K mg base n_are_cells "are_cells" (defScope s_are_cells) f cdv A outer s H E) (defBody s_are_cells) (tS K (fun cls d _ H' => E cls d H') B_are_cells) := by
  exact dss_one (ds_ret (de_and (de_is .tuple "tuple" (by decide) (by decide +kernel) (de_var 0) (fr_isinstance TX TG c) (fr_tuple TX TG c)) (de_one (de_notT (de_lc (own := [("one", 1)]) rfl sc_are_cells.nd (di_tup (de_var 0)) (blkOk_by (own := [("one", 1)]) (N := n_are_cells) (sc := defScope s_are_cells) (by decide +kernel)) (fun _ _ _ _ _ => by exact pg_name (i := 1) sc_are_cells.nd rfl (by first | exact Or.inl rfl | exact Or.inr rfl) (by first | exact .inl rfl | exact .inr rfl)) (tgw_name (by decide)) (fun _ _ _ _ _ => by exact dts_one (dt_not (dt_tru (de_call (ok_is_within P w base TX TG c) (hr.mono (by decide)) takes0 (da_cons (de_var 1) (da_cons (de_int) (da_cons (de_glob (gc_MOST_CELL TX TG c)) (da_nil)))))))) (fun _ _ _ _ _ => by exact de_var 1))))))
theorem ok_are_cells (TX : K.In h) (TG : h.Ns mainGlobals mg) (c : Says w K) : FnD P w K mg base 2 "are_cells" 1 F_are_cells := by
  obtain ⟨fd, F⟩ := c.def_ 4 (d := d_are_cells) rfl
  have b2 : Binds K fd ["thing"] [] := F.bindsN fun _ _ _ _ _ _ us hl => match us, hl with | [_], _ => rfl
  have b3 : FnOk P w K mg base (L2.CX P w) 2 (He.fAd K d_are_cells.at_) fd ["thing"] (spD K 1 F_are_cells) := fn_ok (k := 1) (N := n_are_cells) (ps := ["thing"]) (b := B_are_cells) F sc_are_cells (fun cdv A outer s H E hr tk => dv_are_cells P w base TX TG c _ cdv A outer s H E hr tk)
  have b4 : Takes_ 1 F_are_cells := dFn_takes 1 2 B_are_cells
  have b1 : mg "are_cells" = some (.ref (He.fAd K d_are_cells.at_)) := He.glo_ok TX TG (c.fact 24 (f := .glo "are_cells"))
  exact ⟨b4, _, fd, ["thing"], b3, b1, F.kp, b2⟩
abbrev n_Disk_write : List Str := ["self", "block", "cells"]
theorem sc_Disk_write : FnScope n_Disk_write ["self", "block", "cells"] (defScope s_Disk_write) := ⟨rfl, rfl, rfl, by decide +kernel, rfl, by decide +kernel, by decide +kernel⟩
theorem dv_Disk_write (TX : K.In h) (TG : h.Ns mainGlobals mg) (c : Says w K) (f : Addr) (cdv : Value) (A : Around) (outer : List Env) (s : Shared) (H : Hp) (E : XK) (hr : Room 2 (A.deeper (envOfC "Disk.write" (defScope s_Disk_write) s.heap.objs.size f cdv))) (tk : Takes (cxOf (L2.CX P w) P w K mg base n_Disk_write "Disk.write" (defScope s_Disk_write) f cdv A outer s H E) (fun cls d _ H' => E cls d H')) : PSs (cxOf (L2.CX P w) P w K mg base n_Disk_write "Disk.write" (defScope s_Disk_write) f cdv A outer s H E) (defBody s_Disk_write) (tS K (fun cls d _ H' => E cls d H') B_Disk_write) := by
  exact dss_cons (ds_expr (de_meth (ok_Disk_look P w base TX TG c) (hr.mono (by decide)) tk (de_var 0) (da_cons (de_var 1) (da_nil)))) (dss_cons (ds_if (dt_w (dw_or (dt_not (dt_tru (de_call (ok_are_cells P w base TX TG c) (hr.mono (by decide)) tk (da_cons (de_var 2) (da_nil))))) (dw_or1 (dt_cmp (od_ne hr.units) (de_call1 (x := "len") cd_len (fr_len TX TG c) (by decide +kernel) (de_var 2)) (de_glob (gc_CELLS TX TG c)))))) (dss_one (ds_raise (c := .badCells) (exc_BadCells TX TG c) rfl tk)) (dss_nil)) (dss_cons (ds_if (dt_cmp (od_eq hr.units) (de_fld [.disk] 1 ((by intro z hz; cases List.mem_singleton.mp hz; exact clok_disk c)) (de_var 0)) (de_int)) (dss_one (ds_raise (c := .stopped) (exc_Stopped TX TG c) rfl tk)) (dss_nil)) (dss_cons (ds_if (dt_cmp od_isNot (de_fld [.disk] 1 ((by intro z hz; cases List.mem_singleton.mp hz; exact clok_disk c)) (de_var 0)) (de_non)) (dss_one (ds_fldaug (op := (fun i j => i - j)) .disk 1 (clok_disk c) in_sub (de_var 0) (de_int))) (dss_nil)) (dss_cons (ds_fldaug (op := (fun i j => i + j)) .disk 2 (clok_disk c) in_add (de_var 0) (de_int)) (dss_one (ds_item hr.units (de_fld [.disk] 0 ((by intro z hz; cases List.mem_singleton.mp hz; exact clok_disk c)) (de_var 0)) (de_var 1) (de_var 2)))))))
theorem ok_Disk_write (TX : K.In h) (TG : h.Ns mainGlobals mg) (c : Says w K) : MethD P w K mg base 3 .disk "write" 3 F_Disk_write := by
  obtain ⟨fd, F⟩ := c.def_ 5 (d := d_Disk_write) rfl
  have b2 : Binds K fd ["self", "block", "cells"] [] := F.bindsN fun _ _ _ _ _ _ us hl => match us, hl with | [_, _, _], _ => rfl
  have b3 : FnOk P w K mg base (L2.CX P w) 3 (He.fAd K d_Disk_write.at_) fd ["self", "block", "cells"] (spD K 3 F_Disk_write) := fn_ok (k := 2) (N := n_Disk_write) (ps := ["self", "block", "cells"]) (b := B_Disk_write) F sc_Disk_write (fun cdv A outer s H E hr tk => dv_Disk_write P w base TX TG c _ cdv A outer s H E hr tk)
  have b4 : Takes_ 3 F_Disk_write := dFn_takes 3 3 B_Disk_write
  have b5 : Meth K (He.ga K (Cl.disk).nm) "write" (He.fAd K d_Disk_write.at_) := He.meth_ok (c.fact 25 (f := .meth "Disk" "write"))
  exact ⟨b4, (clok_disk c).cl, _, fd, ["self", "block", "cells"], b3, b5, b2⟩
abbrev n_Disk_size : List Str := ["self"]
theorem sc_Disk_size : FnScope n_Disk_size ["self"] (defScope s_Disk_size) := ⟨rfl, rfl, rfl, by decide +kernel, rfl, by decide +kernel, by decide +kernel⟩
theorem dv_Disk_size (TX : K.In h) (TG : h.Ns mainGlobals mg) (c : Says w K) (f : Addr) (cdv : Value) (A : Around) (outer : List Env) (s : Shared) (H : Hp) (E : XK) (hr : Room 0 (A.deeper (envOfC "Disk.size" (defScope s_Disk_size) s.heap.objs.size f cdv))) (tk : Takes (cxOf (L2.CX P w) P w K mg base n_Disk_size "Disk.size" (defScope s_Disk_size) f cdv A outer s H E) (fun cls d _ H' => E cls d H')) : PSs (cxOf (L2.CX P w) P w K mg base n_Disk_size "Disk.size" (defScope s_Disk_size) f cdv A outer s H E) (defBody s_Disk_size) (tS K (fun cls d _ H' => E cls d H') B_Disk_size) := by
  exact dss_one (ds_ret (de_call1 (x := "len") cd_len (fr_len TX TG c) (by decide +kernel) (de_fld [.disk] 0 ((by intro z hz; cases List.mem_singleton.mp hz; exact clok_disk c)) (de_var 0))))
theorem ok_Disk_size (TX : K.In h) (TG : h.Ns mainGlobals mg) (c : Says w K) : MethD P w K mg base 1 .disk "size" 1 F_Disk_size := by
  obtain ⟨fd, F⟩ := c.def_ 6 (d := d_Disk_size) rfl
  have b2 : Binds K fd ["self"] [] := F.bindsN fun _ _ _ _ _ _ us hl => match us, hl with | [_], _ => rfl
  have b3 : FnOk P w K mg base (L2.CX P w) 1 (He.fAd K d_Disk_size.at_) fd ["self"] (spD K 1 F_Disk_size) := fn_ok (k := 0) (N := n_Disk_size) (ps := ["self"]) (b := B_Disk_size) F sc_Disk_size (fun cdv A outer s H E hr tk => dv_Disk_size P w base TX TG c _ cdv A outer s H E hr tk)
  have b4 : Takes_ 1 F_Disk_size := dFn_takes 1 1 B_Disk_size
  have b5 : Meth K (He.ga K (Cl.disk).nm) "size" (He.fAd K d_Disk_size.at_) := He.meth_ok (c.fact 26 (f := .meth "Disk" "size"))
  exact ⟨b4, (clok_disk c).cl, _, fd, ["self"], b3, b5, b2⟩
abbrev n_first_data : List Str := ["nodes"]
theorem sc_first_data : FnScope n_first_data ["nodes"] (defScope s_first_data) := ⟨rfl, rfl, rfl, by decide +kernel, rfl, by decide +kernel, by decide +kernel⟩
theorem dv_first_data (TX : K.In h) (TG : h.Ns mainGlobals mg) (c : Says w K) (f : Addr) (cdv : Value) (A : Around) (outer : List Env) (s : Shared) (H : Hp) (E : XK) (hr : Room 0 (A.deeper (envOfC "first_data" (defScope s_first_data) s.heap.objs.size f cdv))) (tk : Takes (cxOf (L2.CX P w) P w K mg base n_first_data "first_data" (defScope s_first_data) f cdv A outer s H E) (fun cls d _ H' => E cls d H')) : PSs (cxOf (L2.CX P w) P w K mg base n_first_data "first_data" (defScope s_first_data) f cdv A outer s H E) (defBody s_first_data) (tS K (fun cls d _ H' => E cls d H') B_first_data) := by
  exact dss_one (ds_ret (de_bin od_add (de_glob (gc_FIRST_NODE TX TG c)) (de_var 0)))
theorem ok_first_data (TX : K.In h) (TG : h.Ns mainGlobals mg) (c : Says w K) : FnD P w K mg base 1 "first_data" 1 F_first_data := by
  obtain ⟨fd, F⟩ := c.def_ 7 (d := d_first_data) rfl
  have b2 : Binds K fd ["nodes"] [] := F.bindsN fun _ _ _ _ _ _ us hl => match us, hl with | [_], _ => rfl
  have b3 : FnOk P w K mg base (L2.CX P w) 1 (He.fAd K d_first_data.at_) fd ["nodes"] (spD K 1 F_first_data) := fn_ok (k := 0) (N := n_first_data) (ps := ["nodes"]) (b := B_first_data) F sc_first_data (fun cdv A outer s H E hr tk => dv_first_data P w base TX TG c _ cdv A outer s H E hr tk)
  have b4 : Takes_ 1 F_first_data := dFn_takes 1 1 B_first_data
  have b1 : mg "first_data" = some (.ref (He.fAd K d_first_data.at_)) := He.glo_ok TX TG (c.fact 27 (f := .glo "first_data"))
  exact ⟨b4, _, fd, ["nodes"], b3, b1, F.kp, b2⟩
abbrev n_set_up : List Str := ["disk", "nodes", "node"]
theorem sc_set_up : FnScope n_set_up ["disk", "nodes"] (defScope s_set_up) := ⟨rfl, rfl, rfl, by decide +kernel, rfl, by decide +kernel, by decide +kernel⟩
theorem dv_set_up (TX : K.In h) (TG : h.Ns mainGlobals mg) (c : Says w K) (f : Addr) (cdv : Value) (A : Around) (outer : List Env) (s : Shared) (H : Hp) (E : XK) (hr : Room 3 (A.deeper (envOfC "set_up" (defScope s_set_up) s.heap.objs.size f cdv))) (tk : Takes (cxOf (L2.CX P w) P w K mg base n_set_up "set_up" (defScope s_set_up) f cdv A outer s H E) (fun cls d _ H' => E cls d H')) : PSs (cxOf (L2.CX P w) P w K mg base n_set_up "set_up" (defScope s_set_up) f cdv A outer s H E) (defBody s_set_up) (tS K (fun cls d _ H' => E cls d H') B_set_up) := by
  exact dss_cons (ds_if (dt_w (dw_or (dt_not (dt_tru (de_call (ok_is_within P w base TX TG c) (hr.mono (by decide)) tk (da_cons (de_var 1) (da_cons (de_int) (da_cons (de_int) (da_nil))))))) (dw_or1 (dt_cmp od_lt (de_meth0 (ok_Disk_size P w base TX TG c) (hr.mono (by decide)) tk (de_var 0)) (de_bin od_add (de_call (ok_first_data P w base TX TG c) (hr.mono (by decide)) tk (da_cons (de_var 1) (da_nil))) (de_int)))))) (dss_one (ds_raise (c := .badNumber) (exc_BadNumber TX TG c) rfl tk)) (dss_nil)) (dss_cons (ds_expr (de_meth (ok_Disk_write P w base TX TG c) (hr.mono (by decide)) tk (de_var 0) (da_cons (de_int) (da_cons (de_glob (gc_FREE TX TG c)) (da_nil))))) (dss_cons (ds_for (passes_of rfl) rfl (di_range2 (fr_range TX TG c) (da_cons (de_int) (da_cons (de_var 1) (da_nil)))) (dg_name 2 sc_set_up.nd) (dss_one (ds_expr (de_meth (ok_Disk_write P w base TX TG c) (hr.mono (by decide)) tk (de_var 0) (da_cons (de_bin od_add (de_glob (gc_FIRST_NODE TX TG c)) (de_var 2)) (da_cons (de_glob (gc_FREE TX TG c)) (da_nil))))))) (dss_cons (ds_expr (de_meth (ok_Disk_write P w base TX TG c) (hr.mono (by decide)) tk (de_var 0) (da_cons (de_glob (gc_FIRST_NODE TX TG c)) (da_cons (de_bin od_add (de_tup (da_cons (de_glob (gc_DRAWER TX TG c)) (da_cons (de_int) (da_nil)))) (de_bin od_mul (de_tup (da_cons (de_int) (da_nil))) (de_bin od_sub (de_glob (gc_CELLS TX TG c)) (de_int)))) (da_nil))))) (dss_one (ds_expr (de_meth (ok_Disk_write P w base TX TG c) (hr.mono (by decide)) tk (de_var 0) (da_cons (de_glob (gc_HEAD TX TG c)) (da_cons (de_bin od_add (de_tup (da_cons (de_glob (gc_MARK TX TG c)) (da_cons (de_var 1) (da_nil)))) (de_bin od_mul (de_tup (da_cons (de_int) (da_nil))) (de_bin od_sub (de_glob (gc_CELLS TX TG c)) (de_int)))) (da_nil)))))))))
theorem ok_set_up (TX : K.In h) (TG : h.Ns mainGlobals mg) (c : Says w K) : FnD P w K mg base 4 "set_up" 2 F_set_up := by
  obtain ⟨fd, F⟩ := c.def_ 8 (d := d_set_up) rfl
  have b2 : Binds K fd ["disk", "nodes"] [] := F.bindsN fun _ _ _ _ _ _ us hl => match us, hl with | [_, _], _ => rfl
  have b3 : FnOk P w K mg base (L2.CX P w) 4 (He.fAd K d_set_up.at_) fd ["disk", "nodes"] (spD K 2 F_set_up) := fn_ok (k := 3) (N := n_set_up) (ps := ["disk", "nodes"]) (b := B_set_up) F sc_set_up (fun cdv A outer s H E hr tk => dv_set_up P w base TX TG c _ cdv A outer s H E hr tk)
  have b4 : Takes_ 2 F_set_up := dFn_takes 2 3 B_set_up
  have b1 : mg "set_up" = some (.ref (He.fAd K d_set_up.at_)) := He.glo_ok TX TG (c.fact 28 (f := .glo "set_up"))
  exact ⟨b4, _, fd, ["disk", "nodes"], b3, b1, F.kp, b2⟩
abbrev n_law_state : List Str := ["nodes", "blocks"]
theorem sc_law_state : FnScope n_law_state ["nodes", "blocks"] (defScope s_law_state) := ⟨rfl, rfl, rfl, by decide +kernel, rfl, by decide +kernel, by decide +kernel⟩
theorem dv_law_state (TX : K.In h) (TG : h.Ns mainGlobals mg) (c : Says w K) (f : Addr) (cdv : Value) (A : Around) (outer : List Env) (s : Shared) (H : Hp) (E : XK) (hr : Room 0 (A.deeper (envOfC "_law_state" (defScope s_law_state) s.heap.objs.size f cdv))) (tk : Takes (cxOf (L2.CX P w) P w K mg base n_law_state "_law_state" (defScope s_law_state) f cdv A outer s H E) (fun cls d _ H' => E cls d H')) : PSs (cxOf (L2.CX P w) P w K mg base n_law_state "_law_state" (defScope s_law_state) f cdv A outer s H E) (defBody s_law_state) (tS K (fun cls d _ H' => E cls d H') B_law_state) := by
  exact dss_one (ds_ret (de_dctE (by decide) (by decide) (dp_str (de_dctN) (dp_str (de_lstN (da_nil)) (dp_str (de_var 0) (dp_str (de_var 1) (dp_str (de_int) (dp_nil))))))))
theorem ok_law_state (TX : K.In h) (TG : h.Ns mainGlobals mg) (c : Says w K) : FnD P w K mg base 1 "_law_state" 2 F_law_state := by
  obtain ⟨fd, F⟩ := c.def_ 9 (d := d_law_state) rfl
  have b2 : Binds K fd ["nodes", "blocks"] [] := F.bindsN fun _ _ _ _ _ _ us hl => match us, hl with | [_, _], _ => rfl
  have b3 : FnOk P w K mg base (L2.CX P w) 1 (He.fAd K d_law_state.at_) fd ["nodes", "blocks"] (spD K 2 F_law_state) := fn_ok (k := 0) (N := n_law_state) (ps := ["nodes", "blocks"]) (b := B_law_state) F sc_law_state (fun cdv A outer s H E hr tk => dv_law_state P w base TX TG c _ cdv A outer s H E hr tk)
  have b4 : Takes_ 2 F_law_state := dFn_takes 2 2 B_law_state
  have b1 : mg "_law_state" = some (.ref (He.fAd K d_law_state.at_)) := He.glo_ok TX TG (c.fact 29 (f := .glo "_law_state"))
  exact ⟨b4, _, fd, ["nodes", "blocks"], b3, b1, F.kp, b2⟩
abbrev n_law_disk : List Str := ["cell", "nodes", "size", "disk"]
theorem sc_law_disk : FnScope n_law_disk ["cell"] (defScope s_law_disk) := ⟨rfl, rfl, rfl, by decide +kernel, rfl, by decide +kernel, by decide +kernel⟩
theorem dv_law_disk (TX : K.In h) (TG : h.Ns mainGlobals mg) (c : Says w K) (f : Addr) (cdv : Value) (A : Around) (outer : List Env) (s : Shared) (H : Hp) (E : XK) (hr : Room 4 (A.deeper (envOfC "_law_disk" (defScope s_law_disk) s.heap.objs.size f cdv))) (tk : Takes (cxOf (L2.CX P w) P w K mg base n_law_disk "_law_disk" (defScope s_law_disk) f cdv A outer s H E) (fun cls d _ H' => E cls d H')) : PSs (cxOf (L2.CX P w) P w K mg base n_law_disk "_law_disk" (defScope s_law_disk) f cdv A outer s H E) (defBody s_law_disk) (tS K (fun cls d _ H' => E cls d H') B_law_disk) := by
  exact dss_cons (ds_asg (de_ix hr.units (de_lst (da_cons (de_bin od_add (de_int) (de_bin od_mod (de_bin od_div (de_var 0) (de_int)) (de_int))) (da_cons (de_int) (da_cons (de_int) (da_nil))))) (de_bin od_mod (de_var 0) (de_int))) (dg_name 1 sc_law_disk.nd)) (dss_cons (ds_asg (de_bin od_add (de_bin od_add (de_int) (de_var 1)) (de_ix hr.units (de_lst (da_cons (de_bin od_add (de_int) (de_bin od_mod (de_bin od_div (de_var 0) (de_int)) (de_int))) (da_cons (de_int) (da_cons (de_int) (da_nil))))) (de_bin od_mod (de_bin od_div (de_var 0) (de_int)) (de_int)))) (dg_name 2 sc_law_disk.nd)) (dss_cons (ds_asg (de_call2 (x := "max") (cd_max2 rfl) (fr_max TX TG c) (by decide +kernel) (de_var 2) (de_int)) (dg_name 2 sc_law_disk.nd)) (dss_cons (ds_asg (de_make (c := .disk) (mk_Disk_init__ P w base TX TG c) (hr.mono (by decide)) tk (da_cons (de_var 2) (da_cons (de_non) (da_nil)))) (dg_name 3 sc_law_disk.nd)) (dss_cons (ds_expr (de_call (ok_set_up P w base TX TG c) (hr.mono (by decide)) tk (da_cons (de_var 3) (da_cons (de_var 1) (da_nil))))) (dss_one (ds_ret (de_tup (da_cons (de_var 3) (da_cons (de_call (ok_law_state P w base TX TG c) (hr.mono (by decide)) tk (da_cons (de_var 1) (da_cons (de_bin od_sub (de_bin od_sub (de_var 2) (de_int)) (de_var 1)) (da_nil)))) (da_nil))))))))))
theorem ok_law_disk (TX : K.In h) (TG : h.Ns mainGlobals mg) (c : Says w K) : FnD P w K mg base 5 "_law_disk" 1 F_law_disk := by
  obtain ⟨fd, F⟩ := c.def_ 10 (d := d_law_disk) rfl
  have b2 : Binds K fd ["cell"] [] := F.bindsN fun _ _ _ _ _ _ us hl => match us, hl with | [_], _ => rfl
  have b3 : FnOk P w K mg base (L2.CX P w) 5 (He.fAd K d_law_disk.at_) fd ["cell"] (spD K 1 F_law_disk) := fn_ok (k := 4) (N := n_law_disk) (ps := ["cell"]) (b := B_law_disk) F sc_law_disk (fun cdv A outer s H E hr tk => dv_law_disk P w base TX TG c _ cdv A outer s H E hr tk)
  have b4 : Takes_ 1 F_law_disk := dFn_takes 1 4 B_law_disk
  have b1 : mg "_law_disk" = some (.ref (He.fAd K d_law_disk.at_)) := He.glo_ok TX TG (c.fact 30 (f := .glo "_law_disk"))
  exact ⟨b4, _, fd, ["cell"], b3, b1, F.kp, b2⟩
abbrev n_Disk_read : List Str := ["self", "block"]
theorem sc_Disk_read : FnScope n_Disk_read ["self", "block"] (defScope s_Disk_read) := ⟨rfl, rfl, rfl, by decide +kernel, rfl, by decide +kernel, by decide +kernel⟩
theorem dv_Disk_read (TX : K.In h) (TG : h.Ns mainGlobals mg) (c : Says w K) (f : Addr) (cdv : Value) (A : Around) (outer : List Env) (s : Shared) (H : Hp) (E : XK) (hr : Room 2 (A.deeper (envOfC "Disk.read" (defScope s_Disk_read) s.heap.objs.size f cdv))) (tk : Takes (cxOf (L2.CX P w) P w K mg base n_Disk_read "Disk.read" (defScope s_Disk_read) f cdv A outer s H E) (fun cls d _ H' => E cls d H')) : PSs (cxOf (L2.CX P w) P w K mg base n_Disk_read "Disk.read" (defScope s_Disk_read) f cdv A outer s H E) (defBody s_Disk_read) (tS K (fun cls d _ H' => E cls d H') B_Disk_read) := by
  exact dss_cons (ds_expr (de_meth (ok_Disk_look P w base TX TG c) (hr.mono (by decide)) tk (de_var 0) (da_cons (de_var 1) (da_nil)))) (dss_one (ds_ret (de_ix hr.units (de_fld [.disk] 0 ((by intro z hz; cases List.mem_singleton.mp hz; exact clok_disk c)) (de_var 0)) (de_var 1))))
theorem ok_Disk_read (TX : K.In h) (TG : h.Ns mainGlobals mg) (c : Says w K) : MethD P w K mg base 3 .disk "read" 2 F_Disk_read := by
  obtain ⟨fd, F⟩ := c.def_ 11 (d := d_Disk_read) rfl
  have b2 : Binds K fd ["self", "block"] [] := F.bindsN fun _ _ _ _ _ _ us hl => match us, hl with | [_, _], _ => rfl
  have b3 : FnOk P w K mg base (L2.CX P w) 3 (He.fAd K d_Disk_read.at_) fd ["self", "block"] (spD K 2 F_Disk_read) := fn_ok (k := 2) (N := n_Disk_read) (ps := ["self", "block"]) (b := B_Disk_read) F sc_Disk_read (fun cdv A outer s H E hr tk => dv_Disk_read P w base TX TG c _ cdv A outer s H E hr tk)
  have b4 : Takes_ 2 F_Disk_read := dFn_takes 2 2 B_Disk_read
  have b5 : Meth K (He.ga K (Cl.disk).nm) "read" (He.fAd K d_Disk_read.at_) := He.meth_ok (c.fact 31 (f := .meth "Disk" "read"))
  exact ⟨b4, (clok_disk c).cl, _, fd, ["self", "block"], b3, b5, b2⟩
abbrev n_law_all_blocks : List Str := ["disk", "block"]
theorem sc_law_all_blocks : FnScope n_law_all_blocks ["disk"] (defScope s_law_all_blocks) := ⟨rfl, rfl, rfl, by decide +kernel, rfl, by decide +kernel, by decide +kernel⟩
theorem dv_law_all_blocks (TX : K.In h) (TG : h.Ns mainGlobals mg) (c : Says w K) (f : Addr) (cdv : Value) (A : Around) (outer : List Env) (s : Shared) (H : Hp) (E : XK) (hr : Room 3 (A.deeper (envOfC "_law_all_blocks" (defScope s_law_all_blocks) s.heap.objs.size f cdv))) (tk : Takes (cxOf (L2.CX P w) P w K mg base n_law_all_blocks "_law_all_blocks" (defScope s_law_all_blocks) f cdv A outer s H E) (fun cls d _ H' => E cls d H')) : PSs (cxOf (L2.CX P w) P w K mg base n_law_all_blocks "_law_all_blocks" (defScope s_law_all_blocks) f cdv A outer s H E) (defBody s_law_all_blocks) (tS K (fun cls d _ H' => E cls d H') B_law_all_blocks) := by
  exact dss_one (ds_ret (de_lcN (own := [("block", 1)]) rfl sc_law_all_blocks.nd (di_range1 (fr_range TX TG c) (da_cons (de_meth0 (ok_Disk_size P w base TX TG c) (hr.mono (by decide)) tk (de_var 0)) (da_nil))) (blkOk_by (own := [("block", 1)]) (N := n_law_all_blocks) (sc := defScope s_law_all_blocks) (by decide +kernel)) (fun _ _ _ _ _ => by exact pg_name (i := 1) sc_law_all_blocks.nd rfl (by first | exact Or.inl rfl | exact Or.inr rfl) (by first | exact .inl rfl | exact .inr rfl)) (tgw_name (by decide)) (fun _ _ _ _ _ => by exact dts_nil) (fun _ _ _ _ _ => by exact de_meth (ok_Disk_read P w base TX TG c) (hr.mono (by decide)) takes0 (de_var 0) (da_cons (de_var 1) (da_nil)))))
theorem ok_law_all_blocks (TX : K.In h) (TG : h.Ns mainGlobals mg) (c : Says w K) : FnD P w K mg base 4 "_law_all_blocks" 1 F_law_all_blocks := by
  obtain ⟨fd, F⟩ := c.def_ 12 (d := d_law_all_blocks) rfl
  have b2 : Binds K fd ["disk"] [] := F.bindsN fun _ _ _ _ _ _ us hl => match us, hl with | [_], _ => rfl
  have b3 : FnOk P w K mg base (L2.CX P w) 4 (He.fAd K d_law_all_blocks.at_) fd ["disk"] (spD K 1 F_law_all_blocks) := fn_ok (k := 3) (N := n_law_all_blocks) (ps := ["disk"]) (b := B_law_all_blocks) F sc_law_all_blocks (fun cdv A outer s H E hr tk => dv_law_all_blocks P w base TX TG c _ cdv A outer s H E hr tk)
  have b4 : Takes_ 1 F_law_all_blocks := dFn_takes 1 2 B_law_all_blocks
  have b1 : mg "_law_all_blocks" = some (.ref (He.fAd K d_law_all_blocks.at_)) := He.glo_ok TX TG (c.fact 32 (f := .glo "_law_all_blocks"))
  exact ⟨b4, _, fd, ["disk"], b3, b1, F.kp, b2⟩
abbrev n_law_copy : List Str := ["disk", "steps", "other", "block"]
theorem sc_law_copy : FnScope n_law_copy ["disk", "steps"] (defScope s_law_copy) := ⟨rfl, rfl, rfl, by decide +kernel, rfl, by decide +kernel, by decide +kernel⟩
theorem dv_law_copy (TX : K.In h) (TG : h.Ns mainGlobals mg) (c : Says w K) (f : Addr) (cdv : Value) (A : Around) (outer : List Env) (s : Shared) (H : Hp) (E : XK) (hr : Room 4 (A.deeper (envOfC "_law_copy" (defScope s_law_copy) s.heap.objs.size f cdv))) (tk : Takes (cxOf (L2.CX P w) P w K mg base n_law_copy "_law_copy" (defScope s_law_copy) f cdv A outer s H E) (fun cls d _ H' => E cls d H')) : PSs (cxOf (L2.CX P w) P w K mg base n_law_copy "_law_copy" (defScope s_law_copy) f cdv A outer s H E) (defBody s_law_copy) (tS K (fun cls d _ H' => E cls d H') B_law_copy) := by
  exact dss_cons (ds_asg (de_make (c := .disk) (mk_Disk_init__ P w base TX TG c) (hr.mono (by decide)) tk (da_cons (de_meth0 (ok_Disk_size P w base TX TG c) (hr.mono (by decide)) tk (de_var 0)) (da_cons (de_non) (da_nil)))) (dg_name 2 sc_law_copy.nd)) (dss_cons (ds_for (passes_of rfl) rfl (di_range1 (fr_range TX TG c) (da_cons (de_meth0 (ok_Disk_size P w base TX TG c) (hr.mono (by decide)) tk (de_var 0)) (da_nil))) (dg_name 3 sc_law_copy.nd) (dss_one (ds_expr (de_meth (ok_Disk_write P w base TX TG c) (hr.mono (by decide)) tk (de_var 2) (da_cons (de_var 3) (da_cons (de_meth (ok_Disk_read P w base TX TG c) (hr.mono (by decide)) tk (de_var 0) (da_cons (de_var 3) (da_nil))) (da_nil))))))) (dss_cons (ds_expr (de_meth (ok_Disk_go_on P w base TX TG c) (hr.mono (by decide)) tk (de_var 2) (da_cons (de_var 1) (da_nil)))) (dss_one (ds_ret (de_var 2)))))
theorem ok_law_copy (TX : K.In h) (TG : h.Ns mainGlobals mg) (c : Says w K) : FnD P w K mg base 5 "_law_copy" 2 F_law_copy := by
  obtain ⟨fd, F⟩ := c.def_ 13 (d := d_law_copy) rfl
  have b2 : Binds K fd ["disk", "steps"] [] := F.bindsN fun _ _ _ _ _ _ us hl => match us, hl with | [_, _], _ => rfl
  have b3 : FnOk P w K mg base (L2.CX P w) 5 (He.fAd K d_law_copy.at_) fd ["disk", "steps"] (spD K 2 F_law_copy) := fn_ok (k := 4) (N := n_law_copy) (ps := ["disk", "steps"]) (b := B_law_copy) F sc_law_copy (fun cdv A outer s H E hr tk => dv_law_copy P w base TX TG c _ cdv A outer s H E hr tk)
  have b4 : Takes_ 2 F_law_copy := dFn_takes 2 4 B_law_copy
  have b1 : mg "_law_copy" = some (.ref (He.fAd K d_law_copy.at_)) := He.glo_ok TX TG (c.fact 33 (f := .glo "_law_copy"))
  exact ⟨b4, _, fd, ["disk", "steps"], b3, b1, F.kp, b2⟩
abbrev n_nodes_of : List Str := ["disk", "head"]
theorem sc_nodes_of : FnScope n_nodes_of ["disk"] (defScope s_nodes_of) := ⟨rfl, rfl, rfl, by decide +kernel, rfl, by decide +kernel, by decide +kernel⟩
theorem dv_nodes_of (TX : K.In h) (TG : h.Ns mainGlobals mg) (c : Says w K) (f : Addr) (cdv : Value) (A : Around) (outer : List Env) (s : Shared) (H : Hp) (E : XK) (hr : Room 3 (A.deeper (envOfC "nodes_of" (defScope s_nodes_of) s.heap.objs.size f cdv))) (tk : Takes (cxOf (L2.CX P w) P w K mg base n_nodes_of "nodes_of" (defScope s_nodes_of) f cdv A outer s H E) (fun cls d _ H' => E cls d H')) : PSs (cxOf (L2.CX P w) P w K mg base n_nodes_of "nodes_of" (defScope s_nodes_of) f cdv A outer s H E) (defBody s_nodes_of) (tS K (fun cls d _ H' => E cls d H') B_nodes_of) := by
  exact dss_cons (ds_asg (de_meth (ok_Disk_read P w base TX TG c) (hr.mono (by decide)) tk (de_var 0) (da_cons (de_glob (gc_HEAD TX TG c)) (da_nil))) (dg_name 1 sc_nodes_of.nd)) (dss_cons (ds_if (dt_w (dw_or (dt_cmp (od_ne hr.units) (de_var 1) (de_bin od_add (de_tup (da_cons (de_glob (gc_MARK TX TG c)) (da_cons (de_ix hr.units (de_var 1) (de_int)) (da_nil)))) (de_bin od_mul (de_tup (da_cons (de_int) (da_nil))) (de_bin od_sub (de_glob (gc_CELLS TX TG c)) (de_int))))) (dw_or1 (dt_not (dt_chain od_le od_le (de_int) (de_ix hr.units (de_var 1) (de_int)) (de_int)))))) (dss_one (ds_raise (c := .badDisk) (exc_BadDisk TX TG c) rfl tk)) (dss_nil)) (dss_cons (ds_if (dt_cmp od_lt (de_meth0 (ok_Disk_size P w base TX TG c) (hr.mono (by decide)) tk (de_var 0)) (de_bin od_add (de_call (ok_first_data P w base TX TG c) (hr.mono (by decide)) tk (da_cons (de_ix hr.units (de_var 1) (de_int)) (da_nil))) (de_int))) (dss_one (ds_raise (c := .badDisk) (exc_BadDisk TX TG c) rfl tk)) (dss_nil)) (dss_one (ds_ret (de_ix hr.units (de_var 1) (de_int))))))
theorem ok_nodes_of (TX : K.In h) (TG : h.Ns mainGlobals mg) (c : Says w K) : FnD P w K mg base 4 "nodes_of" 1 F_nodes_of := by
  obtain ⟨fd, F⟩ := c.def_ 14 (d := d_nodes_of) rfl
  have b2 : Binds K fd ["disk"] [] := F.bindsN fun _ _ _ _ _ _ us hl => match us, hl with | [_], _ => rfl
  have b3 : FnOk P w K mg base (L2.CX P w) 4 (He.fAd K d_nodes_of.at_) fd ["disk"] (spD K 1 F_nodes_of) := fn_ok (k := 3) (N := n_nodes_of) (ps := ["disk"]) (b := B_nodes_of) F sc_nodes_of (fun cdv A outer s H E hr tk => dv_nodes_of P w base TX TG c _ cdv A outer s H E hr tk)
  have b4 : Takes_ 1 F_nodes_of := dFn_takes 1 2 B_nodes_of
  have b1 : mg "nodes_of" = some (.ref (He.fAd K d_nodes_of.at_)) := He.glo_ok TX TG (c.fact 34 (f := .glo "nodes_of"))
  exact ⟨b4, _, fd, ["disk"], b3, b1, F.kp, b2⟩
abbrev n_pending : List Str := ["disk", "head", "blocks", "block"]
theorem sc_pending : FnScope n_pending ["disk"] (defScope s_pending) := ⟨rfl, rfl, rfl, by decide +kernel, rfl, by decide +kernel, by decide +kernel⟩
theorem dv_pending (TX : K.In h) (TG : h.Ns mainGlobals mg) (c : Says w K) (f : Addr) (cdv : Value) (A : Around) (outer : List Env) (s : Shared) (H : Hp) (E : XK) (hr : Room 3 (A.deeper (envOfC "pending" (defScope s_pending) s.heap.objs.size f cdv))) (tk : Takes (cxOf (L2.CX P w) P w K mg base n_pending "pending" (defScope s_pending) f cdv A outer s H E) (fun cls d _ H' => E cls d H')) : PSs (cxOf (L2.CX P w) P w K mg base n_pending "pending" (defScope s_pending) f cdv A outer s H E) (defBody s_pending) (tS K (fun cls d _ H' => E cls d H') B_pending) := by
  exact dss_cons (ds_asg (de_meth (ok_Disk_read P w base TX TG c) (hr.mono (by decide)) tk (de_var 0) (da_cons (de_int) (da_nil))) (dg_name 1 sc_pending.nd)) (dss_cons (ds_asg (de_callT1 (x := "list") cd_list (fr_list TX TG c) (by decide +kernel) (de_slice (de_var 1) (do_some (de_int)) (do_some (de_bin od_add (de_int) (de_ix hr.units (de_var 1) (de_int)))))) (dg_name 2 sc_pending.nd)) (dss_cons (ds_if (dt_w (dw_or (dt_cmp od_gt (de_ix hr.units (de_var 1) (de_int)) (de_glob (gc_MOST_WRITES TX TG c))) (dw_or1 (dt_cmp (od_ne hr.units) (de_slice (de_var 1) (do_some (de_bin od_add (de_int) (de_ix hr.units (de_var 1) (de_int)))) (do_none)) (de_bin od_mul (de_tup (da_cons (de_int) (da_nil))) (de_bin od_sub (de_glob (gc_MOST_WRITES TX TG c)) (de_ix hr.units (de_var 1) (de_int)))))))) (dss_one (ds_raise (c := .badDisk) (exc_BadDisk TX TG c) rfl tk)) (dss_nil)) (dss_cons (ds_if (dt_w (dw_or (dt_tru (de_lc (own := [("block", 3)]) rfl sc_pending.nd (di_list (de_var 2)) (blkOk_by (own := [("block", 3)]) (N := n_pending) (sc := defScope s_pending) (by decide +kernel)) (fun _ _ _ _ _ => by exact pg_name (i := 3) sc_pending.nd rfl (by first | exact Or.inl rfl | exact Or.inr rfl) (by first | exact .inl rfl | exact .inr rfl)) (tgw_name (by decide)) (fun _ _ _ _ _ => by exact dts_one (dt_not (dt_chain od_lt od_lt (de_glob (gc_HEAD TX TG c)) (de_var 3) (de_meth0 (ok_Disk_size P w base TX TG c) (hr.mono (by decide)) takes0 (de_var 0))))) (fun _ _ _ _ _ => by exact de_var 3))) (dw_or1 (dt_cmp (od_ne hr.units) (de_var 2) (de_sortedSet rfl (fr_sorted TX TG c) (fr_set TX TG c) (de_var 2)))))) (dss_one (ds_raise (c := .badDisk) (exc_BadDisk TX TG c) rfl tk)) (dss_nil)) (dss_one (ds_ret (de_var 2))))))
theorem ok_pending (TX : K.In h) (TG : h.Ns mainGlobals mg) (c : Says w K) : FnD P w K mg base 4 "pending" 1 F_pending := by
  obtain ⟨fd, F⟩ := c.def_ 15 (d := d_pending) rfl
  have b2 : Binds K fd ["disk"] [] := F.bindsN fun _ _ _ _ _ _ us hl => match us, hl with | [_], _ => rfl
  have b3 : FnOk P w K mg base (L2.CX P w) 4 (He.fAd K d_pending.at_) fd ["disk"] (spD K 1 F_pending) := fn_ok (k := 3) (N := n_pending) (ps := ["disk"]) (b := B_pending) F sc_pending (fun cdv A outer s H E hr tk => dv_pending P w base TX TG c _ cdv A outer s H E hr tk)
  have b4 : Takes_ 1 F_pending := dFn_takes 1 4 B_pending
  have b1 : mg "pending" = some (.ref (He.fAd K d_pending.at_)) := He.glo_ok TX TG (c.fact 35 (f := .glo "pending"))
  exact ⟨b4, _, fd, ["disk"], b3, b1, F.kp, b2⟩
abbrev n_look_disk : List Str := ["disk"]
theorem sc_look_disk : FnScope n_look_disk ["disk"] (defScope s_look_disk) := ⟨rfl, rfl, rfl, by decide +kernel, rfl, by decide +kernel, by decide +kernel⟩
theorem dv_look_disk (TX : K.In h) (TG : h.Ns mainGlobals mg) (c : Says w K) (f : Addr) (cdv : Value) (A : Around) (outer : List Env) (s : Shared) (H : Hp) (E : XK) (hr : Room 4 (A.deeper (envOfC "look_disk" (defScope s_look_disk) s.heap.objs.size f cdv))) (tk : Takes (cxOf (L2.CX P w) P w K mg base n_look_disk "look_disk" (defScope s_look_disk) f cdv A outer s H E) (fun cls d _ H' => E cls d H')) : PSs (cxOf (L2.CX P w) P w K mg base n_look_disk "look_disk" (defScope s_look_disk) f cdv A outer s H E) (defBody s_look_disk) (tS K (fun cls d _ H' => E cls d H') B_look_disk) := by
  exact dss_cons (ds_if (dt_not (dt_tru (de_isOwn .disk (isown_disk TX TG c) (de_var 0) (fr_isinstance TX TG c)))) (dss_one (ds_raise (c := .badDisk) (exc_BadDisk TX TG c) rfl tk)) (dss_nil)) (dss_cons (ds_expr (de_call (ok_nodes_of P w base TX TG c) (hr.mono (by decide)) tk (da_cons (de_var 0) (da_nil)))) (dss_one (ds_expr (de_call (ok_pending P w base TX TG c) (hr.mono (by decide)) tk (da_cons (de_var 0) (da_nil))))))
theorem ok_look_disk (TX : K.In h) (TG : h.Ns mainGlobals mg) (c : Says w K) : FnD P w K mg base 5 "look_disk" 1 F_look_disk := by
  obtain ⟨fd, F⟩ := c.def_ 16 (d := d_look_disk) rfl
  have b2 : Binds K fd ["disk"] [] := F.bindsN fun _ _ _ _ _ _ us hl => match us, hl with | [_], _ => rfl
  have b3 : FnOk P w K mg base (L2.CX P w) 5 (He.fAd K d_look_disk.at_) fd ["disk"] (spD K 1 F_look_disk) := fn_ok (k := 4) (N := n_look_disk) (ps := ["disk"]) (b := B_look_disk) F sc_look_disk (fun cdv A outer s H E hr tk => dv_look_disk P w base TX TG c _ cdv A outer s H E hr tk)
  have b4 : Takes_ 1 F_look_disk := dFn_takes 1 1 B_look_disk
  have b1 : mg "look_disk" = some (.ref (He.fAd K d_look_disk.at_)) := He.glo_ok TX TG (c.fact 36 (f := .glo "look_disk"))
  exact ⟨b4, _, fd, ["disk"], b3, b1, F.kp, b2⟩
abbrev n_put_in_place : List Str := ["disk", "blocks", "at", "block"]
theorem sc_put_in_place : FnScope n_put_in_place ["disk", "blocks"] (defScope s_put_in_place) := ⟨rfl, rfl, rfl, by decide +kernel, rfl, by decide +kernel, by decide +kernel⟩
theorem dv_put_in_place (TX : K.In h) (TG : h.Ns mainGlobals mg) (c : Says w K) (f : Addr) (cdv : Value) (A : Around) (outer : List Env) (s : Shared) (H : Hp) (E : XK) (hr : Room 3 (A.deeper (envOfC "put_in_place" (defScope s_put_in_place) s.heap.objs.size f cdv))) (tk : Takes (cxOf (L2.CX P w) P w K mg base n_put_in_place "put_in_place" (defScope s_put_in_place) f cdv A outer s H E) (fun cls d _ H' => E cls d H')) : PSs (cxOf (L2.CX P w) P w K mg base n_put_in_place "put_in_place" (defScope s_put_in_place) f cdv A outer s H E) (defBody s_put_in_place) (tS K (fun cls d _ H' => E cls d H') B_put_in_place) := by
  exact dss_cons (ds_for (passes_of rfl) rfl (di_enum (fr_enumerate TX TG c) (da_cons (de_var 1) (da_nil))) (dg_tup rfl (dgs_cons (dg_name 2 sc_put_in_place.nd) (dgs_cons (dg_name 3 sc_put_in_place.nd) (dgs_nil)))) (dss_one (ds_expr (de_meth (ok_Disk_write P w base TX TG c) (hr.mono (by decide)) tk (de_var 0) (da_cons (de_var 3) (da_cons (de_meth (ok_Disk_read P w base TX TG c) (hr.mono (by decide)) tk (de_var 0) (da_cons (de_bin od_add (de_int) (de_var 2)) (da_nil))) (da_nil))))))) (dss_one (ds_expr (de_meth (ok_Disk_write P w base TX TG c) (hr.mono (by decide)) tk (de_var 0) (da_cons (de_int) (da_cons (de_glob (gc_FREE TX TG c)) (da_nil))))))
theorem ok_put_in_place (TX : K.In h) (TG : h.Ns mainGlobals mg) (c : Says w K) : FnD P w K mg base 4 "put_in_place" 2 F_put_in_place := by
  obtain ⟨fd, F⟩ := c.def_ 17 (d := d_put_in_place) rfl
  have b2 : Binds K fd ["disk", "blocks"] [] := F.bindsN fun _ _ _ _ _ _ us hl => match us, hl with | [_, _], _ => rfl
  have b3 : FnOk P w K mg base (L2.CX P w) 4 (He.fAd K d_put_in_place.at_) fd ["disk", "blocks"] (spD K 2 F_put_in_place) := fn_ok (k := 3) (N := n_put_in_place) (ps := ["disk", "blocks"]) (b := B_put_in_place) F sc_put_in_place (fun cdv A outer s H E hr tk => dv_put_in_place P w base TX TG c _ cdv A outer s H E hr tk)
  have b4 : Takes_ 2 F_put_in_place := dFn_takes 2 4 B_put_in_place
  have b1 : mg "put_in_place" = some (.ref (He.fAd K d_put_in_place.at_)) := He.glo_ok TX TG (c.fact 37 (f := .glo "put_in_place"))
  exact ⟨b4, _, fd, ["disk", "blocks"], b3, b1, F.kp, b2⟩
abbrev n_come_back : List Str := ["disk", "blocks"]
theorem sc_come_back : FnScope n_come_back ["disk"] (defScope s_come_back) := ⟨rfl, rfl, rfl, by decide +kernel, rfl, by decide +kernel, by decide +kernel⟩
theorem dv_come_back (TX : K.In h) (TG : h.Ns mainGlobals mg) (c : Says w K) (f : Addr) (cdv : Value) (A : Around) (outer : List Env) (s : Shared) (H : Hp) (E : XK) (hr : Room 4 (A.deeper (envOfC "come_back" (defScope s_come_back) s.heap.objs.size f cdv))) (tk : Takes (cxOf (L2.CX P w) P w K mg base n_come_back "come_back" (defScope s_come_back) f cdv A outer s H E) (fun cls d _ H' => E cls d H')) : PSs (cxOf (L2.CX P w) P w K mg base n_come_back "come_back" (defScope s_come_back) f cdv A outer s H E) (defBody s_come_back) (tS K (fun cls d _ H' => E cls d H') B_come_back) := by
  exact dss_cons (ds_asg (de_call (ok_pending P w base TX TG c) (hr.mono (by decide)) tk (da_cons (de_var 0) (da_nil))) (dg_name 1 sc_come_back.nd)) (dss_one (ds_if (dt_tru (de_var 1)) (dss_one (ds_expr (de_call (ok_put_in_place P w base TX TG c) (hr.mono (by decide)) tk (da_cons (de_var 0) (da_cons (de_var 1) (da_nil)))))) (dss_nil)))
theorem ok_come_back (TX : K.In h) (TG : h.Ns mainGlobals mg) (c : Says w K) : FnD P w K mg base 5 "come_back" 1 F_come_back := by
  obtain ⟨fd, F⟩ := c.def_ 18 (d := d_come_back) rfl
  have b2 : Binds K fd ["disk"] [] := F.bindsN fun _ _ _ _ _ _ us hl => match us, hl with | [_], _ => rfl
  have b3 : FnOk P w K mg base (L2.CX P w) 5 (He.fAd K d_come_back.at_) fd ["disk"] (spD K 1 F_come_back) := fn_ok (k := 4) (N := n_come_back) (ps := ["disk"]) (b := B_come_back) F sc_come_back (fun cdv A outer s H E hr tk => dv_come_back P w base TX TG c _ cdv A outer s H E hr tk)
  have b4 : Takes_ 1 F_come_back := dFn_takes 1 2 B_come_back
  have b1 : mg "come_back" = some (.ref (He.fAd K d_come_back.at_)) := He.glo_ok TX TG (c.fact 38 (f := .glo "come_back"))
  exact ⟨b4, _, fd, ["disk"], b3, b1, F.kp, b2⟩
abbrev n_Drawers_init__ : List Str := ["self", "disk"]
theorem sc_Drawers_init__ : FnScope n_Drawers_init__ ["self", "disk"] (defScope s_Drawers_init__) := ⟨rfl, rfl, rfl, by decide +kernel, rfl, by decide +kernel, by decide +kernel⟩
theorem dv_Drawers_init__ (TX : K.In h) (TG : h.Ns mainGlobals mg) (c : Says w K) (f : Addr) (cdv : Value) (A : Around) (outer : List Env) (s : Shared) (H : Hp) (E : XK) (hr : Room 5 (A.deeper (envOfC "Drawers.__init__" (defScope s_Drawers_init__) s.heap.objs.size f cdv))) (tk : Takes (cxOf (L2.CX P w) P w K mg base n_Drawers_init__ "Drawers.__init__" (defScope s_Drawers_init__) f cdv A outer s H E) (fun cls d _ H' => E cls d H')) : PSs (cxOf (L2.CX P w) P w K mg base n_Drawers_init__ "Drawers.__init__" (defScope s_Drawers_init__) f cdv A outer s H E) (defBody s_Drawers_init__) (tS K (fun cls d _ H' => E cls d H') B_Drawers_init__) := by
  exact dss_cons (ds_expr (de_call (ok_look_disk P w base TX TG c) (hr.mono (by decide)) tk (da_cons (de_var 1) (da_nil)))) (dss_cons (ds_expr (de_call (ok_come_back P w base TX TG c) (hr.mono (by decide)) tk (da_cons (de_var 1) (da_nil)))) (dss_one (ds_fld [.drawers] 0 ((by intro z hz; cases List.mem_singleton.mp hz; exact clok_drawers c)) (de_var 0) (de_var 1))))
theorem mk_Drawers_init__ (TX : K.In h) (TG : h.Ns mainGlobals mg) (c : Says w K) : MakeD P w K mg base 6 .drawers 2 F_Drawers_init__ := by
  obtain ⟨fd, F⟩ := c.def_ 19 (d := d_Drawers_init__) rfl
  have b2 : Binds K fd ["self", "disk"] [] := F.bindsN fun _ _ _ _ _ _ us hl => match us, hl with | [_, _], _ => rfl
  have b3 : FnOk P w K mg base (L2.CX P w) 6 (He.fAd K d_Drawers_init__.at_) fd ["self", "disk"] (spD K 2 F_Drawers_init__) := fn_ok (k := 5) (N := n_Drawers_init__) (ps := ["self", "disk"]) (b := B_Drawers_init__) F sc_Drawers_init__ (fun cdv A outer s H E hr tk => dv_Drawers_init__ P w base TX TG c _ cdv A outer s H E hr tk)
  have b4 : Takes_ 2 F_Drawers_init__ := dFn_takes 2 2 B_Drawers_init__
  have b1 : mg (Cl.drawers).nm = some (.ref (He.ga K (Cl.drawers).nm)) := He.glo_ok TX TG (c.fact 17 (f := .glo "Drawers"))
  have b5 : Mk K (He.ga K (Cl.drawers).nm) (He.fAd K d_Drawers_init__.at_) := He.mkr_ok (c.fact 20 (f := .mkr "Drawers"))
  exact ⟨b4, _, fd, ["self", "disk"], b3, b5, b1, b2⟩
abbrev n_law_cell : List Str := ["script", "k"]
theorem sc_law_cell : FnScope n_law_cell ["script", "k"] (defScope s_law_cell) := ⟨rfl, rfl, rfl, by decide +kernel, rfl, by decide +kernel, by decide +kernel⟩
theorem dv_law_cell (TX : K.In h) (TG : h.Ns mainGlobals mg) (c : Says w K) (f : Addr) (cdv : Value) (A : Around) (outer : List Env) (s : Shared) (H : Hp) (E : XK) (hr : Room 0 (A.deeper (envOfC "_law_cell" (defScope s_law_cell) s.heap.objs.size f cdv))) (tk : Takes (cxOf (L2.CX P w) P w K mg base n_law_cell "_law_cell" (defScope s_law_cell) f cdv A outer s H E) (fun cls d _ H' => E cls d H')) : PSs (cxOf (L2.CX P w) P w K mg base n_law_cell "_law_cell" (defScope s_law_cell) f cdv A outer s H E) (defBody s_law_cell) (tS K (fun cls d _ H' => E cls d H') B_law_cell) := by
  exact dss_cons (ds_if (dt_cmp od_lt (de_var 1) (de_call1 (x := "len") cd_len (fr_len TX TG c) (by decide +kernel) (de_var 0))) (dss_one (ds_ret (de_ix hr.units (de_var 0) (de_var 1)))) (dss_nil)) (dss_one (ds_ret (de_int)))
theorem ok_law_cell (TX : K.In h) (TG : h.Ns mainGlobals mg) (c : Says w K) : FnD P w K mg base 1 "_law_cell" 2 F_law_cell := by
  obtain ⟨fd, F⟩ := c.def_ 20 (d := d_law_cell) rfl
  have b2 : Binds K fd ["script", "k"] [] := F.bindsN fun _ _ _ _ _ _ us hl => match us, hl with | [_, _], _ => rfl
  have b3 : FnOk P w K mg base (L2.CX P w) 1 (He.fAd K d_law_cell.at_) fd ["script", "k"] (spD K 2 F_law_cell) := fn_ok (k := 0) (N := n_law_cell) (ps := ["script", "k"]) (b := B_law_cell) F sc_law_cell (fun cdv A outer s H E hr tk => dv_law_cell P w base TX TG c _ cdv A outer s H E hr tk)
  have b4 : Takes_ 2 F_law_cell := dFn_takes 2 2 B_law_cell
  have b1 : mg "_law_cell" = some (.ref (He.fAd K d_law_cell.at_)) := He.glo_ok TX TG (c.fact 39 (f := .glo "_law_cell"))
  exact ⟨b4, _, fd, ["script", "k"], b3, b1, F.kp, b2⟩
abbrev n_law_mix : List Str := ["cell", "prime", "many"]
theorem sc_law_mix : FnScope n_law_mix ["cell", "prime", "many"] (defScope s_law_mix) := ⟨rfl, rfl, rfl, by decide +kernel, rfl, by decide +kernel, by decide +kernel⟩
theorem dv_law_mix (TX : K.In h) (TG : h.Ns mainGlobals mg) (c : Says w K) (f : Addr) (cdv : Value) (A : Around) (outer : List Env) (s : Shared) (H : Hp) (E : XK) (hr : Room 0 (A.deeper (envOfC "_law_mix" (defScope s_law_mix) s.heap.objs.size f cdv))) (tk : Takes (cxOf (L2.CX P w) P w K mg base n_law_mix "_law_mix" (defScope s_law_mix) f cdv A outer s H E) (fun cls d _ H' => E cls d H')) : PSs (cxOf (L2.CX P w) P w K mg base n_law_mix "_law_mix" (defScope s_law_mix) f cdv A outer s H E) (defBody s_law_mix) (tS K (fun cls d _ H' => E cls d H') B_law_mix) := by
  exact dss_one (ds_ret (de_bin od_mod (de_bin od_mod (de_bin od_pow (de_bin od_mod (de_bin od_mul (de_var 0) (de_int)) (de_var 1)) (de_int)) (de_var 1)) (de_var 2)))
theorem ok_law_mix (TX : K.In h) (TG : h.Ns mainGlobals mg) (c : Says w K) : FnD P w K mg base 1 "_law_mix" 3 F_law_mix := by
  obtain ⟨fd, F⟩ := c.def_ 21 (d := d_law_mix) rfl
  have b2 : Binds K fd ["cell", "prime", "many"] [] := F.bindsN fun _ _ _ _ _ _ us hl => match us, hl with | [_, _, _], _ => rfl
  have b3 : FnOk P w K mg base (L2.CX P w) 1 (He.fAd K d_law_mix.at_) fd ["cell", "prime", "many"] (spD K 3 F_law_mix) := fn_ok (k := 0) (N := n_law_mix) (ps := ["cell", "prime", "many"]) (b := B_law_mix) F sc_law_mix (fun cdv A outer s H E hr tk => dv_law_mix P w base TX TG c _ cdv A outer s H E hr tk)
  have b4 : Takes_ 3 F_law_mix := dFn_takes 3 3 B_law_mix
  have b1 : mg "_law_mix" = some (.ref (He.fAd K d_law_mix.at_)) := He.glo_ok TX TG (c.fact 40 (f := .glo "_law_mix"))
  exact ⟨b4, _, fd, ["cell", "prime", "many"], b3, b1, F.kp, b2⟩
abbrev n_law_pick : List Str := ["seed", "many"]
theorem sc_law_pick : FnScope n_law_pick ["seed", "many"] (defScope s_law_pick) := ⟨rfl, rfl, rfl, by decide +kernel, rfl, by decide +kernel, by decide +kernel⟩
theorem dv_law_pick (TX : K.In h) (TG : h.Ns mainGlobals mg) (c : Says w K) (f : Addr) (cdv : Value) (A : Around) (outer : List Env) (s : Shared) (H : Hp) (E : XK) (hr : Room 0 (A.deeper (envOfC "_law_pick" (defScope s_law_pick) s.heap.objs.size f cdv))) (tk : Takes (cxOf (L2.CX P w) P w K mg base n_law_pick "_law_pick" (defScope s_law_pick) f cdv A outer s H E) (fun cls d _ H' => E cls d H')) : PSs (cxOf (L2.CX P w) P w K mg base n_law_pick "_law_pick" (defScope s_law_pick) f cdv A outer s H E) (defBody s_law_pick) (tS K (fun cls d _ H' => E cls d H') B_law_pick) := by
  exact dss_one (ds_ret (de_bin od_mod (de_bin od_div (de_var 0) (de_int)) (de_var 1)))
theorem ok_law_pick (TX : K.In h) (TG : h.Ns mainGlobals mg) (c : Says w K) : FnD P w K mg base 1 "_law_pick" 2 F_law_pick := by
  obtain ⟨fd, F⟩ := c.def_ 22 (d := d_law_pick) rfl
  have b2 : Binds K fd ["seed", "many"] [] := F.bindsN fun _ _ _ _ _ _ us hl => match us, hl with | [_, _], _ => rfl
  have b3 : FnOk P w K mg base (L2.CX P w) 1 (He.fAd K d_law_pick.at_) fd ["seed", "many"] (spD K 2 F_law_pick) := fn_ok (k := 0) (N := n_law_pick) (ps := ["seed", "many"]) (b := B_law_pick) F sc_law_pick (fun cdv A outer s H E hr tk => dv_law_pick P w base TX TG c _ cdv A outer s H E hr tk)
  have b4 : Takes_ 2 F_law_pick := dFn_takes 2 2 B_law_pick
  have b1 : mg "_law_pick" = some (.ref (He.fAd K d_law_pick.at_)) := He.glo_ok TX TG (c.fact 41 (f := .glo "_law_pick"))
  exact ⟨b4, _, fd, ["seed", "many"], b3, b1, F.kp, b2⟩
abbrev n_law_seed : List Str := ["seed", "k"]
theorem sc_law_seed : FnScope n_law_seed ["seed", "k"] (defScope s_law_seed) := ⟨rfl, rfl, rfl, by decide +kernel, rfl, by decide +kernel, by decide +kernel⟩
theorem dv_law_seed (TX : K.In h) (TG : h.Ns mainGlobals mg) (c : Says w K) (f : Addr) (cdv : Value) (A : Around) (outer : List Env) (s : Shared) (H : Hp) (E : XK) (hr : Room 0 (A.deeper (envOfC "_law_seed" (defScope s_law_seed) s.heap.objs.size f cdv))) (tk : Takes (cxOf (L2.CX P w) P w K mg base n_law_seed "_law_seed" (defScope s_law_seed) f cdv A outer s H E) (fun cls d _ H' => E cls d H')) : PSs (cxOf (L2.CX P w) P w K mg base n_law_seed "_law_seed" (defScope s_law_seed) f cdv A outer s H E) (defBody s_law_seed) (tS K (fun cls d _ H' => E cls d H') B_law_seed) := by
  exact dss_one (ds_ret (de_bin od_mod (de_bin od_pow (de_bin od_mod (de_bin od_add (de_bin od_add (de_bin od_mul (de_var 0) (de_int)) (de_bin od_mul (de_int) (de_var 1))) (de_int)) (de_int)) (de_int)) (de_int)))
theorem ok_law_seed (TX : K.In h) (TG : h.Ns mainGlobals mg) (c : Says w K) : FnD P w K mg base 1 "_law_seed" 2 F_law_seed := by
  obtain ⟨fd, F⟩ := c.def_ 23 (d := d_law_seed) rfl
  have b2 : Binds K fd ["seed", "k"] [] := F.bindsN fun _ _ _ _ _ _ us hl => match us, hl with | [_, _], _ => rfl
  have b3 : FnOk P w K mg base (L2.CX P w) 1 (He.fAd K d_law_seed.at_) fd ["seed", "k"] (spD K 2 F_law_seed) := fn_ok (k := 0) (N := n_law_seed) (ps := ["seed", "k"]) (b := B_law_seed) F sc_law_seed (fun cdv A outer s H E hr tk => dv_law_seed P w base TX TG c _ cdv A outer s H E hr tk)
  have b4 : Takes_ 2 F_law_seed := dFn_takes 2 2 B_law_seed
  have b1 : mg "_law_seed" = some (.ref (He.fAd K d_law_seed.at_)) := He.glo_ok TX TG (c.fact 42 (f := .glo "_law_seed"))
  exact ⟨b4, _, fd, ["seed", "k"], b3, b1, F.kp, b2⟩
abbrev n_law : List Str := ["script", "size", "some", "blocks", "due", "k", "last", "heads", "other", "kept", "caught", "disk", "state", "cells", "odd", "j"]
theorem sc_law : FnScope n_law ["script"] (defScope s_law) := ⟨rfl, rfl, rfl, by decide +kernel, rfl, by decide +kernel, by decide +kernel⟩
theorem dv_law (TX : K.In h) (TG : h.Ns mainGlobals mg) (c : Says w K) (f : Addr) (cdv : Value) (A : Around) (outer : List Env) (s : Shared) (H : Hp) (E : XK) (hr : Room 7 (A.deeper (envOfC "law" (defScope s_law) s.heap.objs.size f cdv))) (tk : Takes (cxOf (L2.CX P w) P w K mg base n_law "law" (defScope s_law) f cdv A outer s H E) (fun cls d _ H' => E cls d H')) : PSs (cxOf (L2.CX P w) P w K mg base n_law "law" (defScope s_law) f cdv A outer s H E) (defBody s_law) (tS K (fun cls d _ H' => E cls d H') B_law) := by
  exact dss_cons (ds_asg (de_call (ok_law_disk P w base TX TG c) (hr.mono (by decide)) tk (da_cons (de_call (ok_law_cell P w base TX TG c) (hr.mono (by decide)) tk (da_cons (de_var 0) (da_cons (de_int) (da_nil)))) (da_nil))) (dg_tup rfl (dgs_cons (dg_name 11 sc_law.nd) (dgs_cons (dg_name 12 sc_law.nd) (dgs_nil))))) (dss_cons (ds_asg (de_meth0 (ok_Disk_size P w base TX TG c) (hr.mono (by decide)) tk (de_var 11)) (dg_name 1 sc_law.nd)) (dss_cons (ds_setLc (own := [("k", 5)]) (i := 2) rfl sc_law.nd rfl rfl (sw_true rfl rfl rfl (by decide +kernel)) (di_range1 (fr_range TX TG c) (da_cons (de_int) (da_nil))) (blkOk_by (own := [("k", 5)]) (N := n_law) (sc := defScope s_law) (by decide +kernel)) (fun _ _ _ _ _ => by exact pg_name (i := 5) sc_law.nd rfl (by first | exact Or.inl rfl | exact Or.inr rfl) (by first | exact .inl rfl | exact .inr rfl)) (tgw_name (by decide)) (fun _ _ _ _ _ => by exact dts_nil) (fun _ _ _ _ _ => by exact de_bin od_add (de_bin od_add (de_int) (de_ix hr.units (de_var 12) (de_str))) (de_call (ok_law_mix P w base TX TG c) (hr.mono (by decide)) takes0 (da_cons (de_bin od_add (de_call (ok_law_cell P w base TX TG c) (hr.mono (by decide)) takes0 (da_cons (de_var 0) (da_cons (de_int) (da_nil)))) (de_bin od_mul (de_int) (de_var 5))) (da_cons (de_int) (da_cons (de_ix hr.units (de_var 12) (de_str)) (da_nil))))))) (dss_cons (ds_asg (de_slice (de_sortedSet rfl (fr_sorted TX TG c) (fr_set TX TG c) (de_var 2)) (do_none) (do_some (de_bin od_mod (de_call (ok_law_cell P w base TX TG c) (hr.mono (by decide)) tk (da_cons (de_var 0) (da_cons (de_int) (da_nil)))) (de_int)))) (dg_name 3 sc_law.nd)) (dss_cons (ds_asg (de_call (ok_law_all_blocks P w base TX TG c) (hr.mono (by decide)) tk (da_cons (de_var 11) (da_nil))) (dg_name 4 sc_law.nd)) (dss_cons (ds_for (passes_of rfl) rfl (di_range1 (fr_range TX TG c) (da_cons (de_int) (da_nil))) (dg_name 5 sc_law.nd) (dss_cons (ds_asg (de_callT1 (x := "tuple") cd_tuple (fr_tuple TX TG c) (by decide +kernel) (de_lc (own := [("j", 15)]) rfl sc_law.nd (di_range1 (fr_range TX TG c) (da_cons (de_int) (da_nil))) (blkOk_by (own := [("j", 15)]) (N := n_law) (sc := defScope s_law) (by decide +kernel)) (fun _ _ _ _ _ => by exact pg_name (i := 15) sc_law.nd rfl (by first | exact Or.inl rfl | exact Or.inr rfl) (by first | exact .inl rfl | exact .inr rfl)) (tgw_name (by decide)) (fun _ _ _ _ _ => by exact dts_nil) (fun _ _ _ _ _ => by exact de_call (ok_law_pick P w base TX TG c) (hr.mono (by decide)) takes0 (da_cons (de_call (ok_law_seed P w base TX TG c) (hr.mono (by decide)) takes0 (da_cons (de_bin od_add (de_call (ok_law_cell P w base TX TG c) (hr.mono (by decide)) takes0 (da_cons (de_var 0) (da_cons (de_int) (da_nil)))) (de_bin od_mul (de_int) (de_var 5))) (da_cons (de_var 15) (da_nil)))) (da_cons (de_int) (da_nil)))))) (dg_name 13 sc_law.nd)) (dss_cons (ds_expr (de_meth (ok_Disk_write P w base TX TG c) (hr.mono (by decide)) tk (de_var 11) (da_cons (de_bin od_add (de_int) (de_var 5)) (da_cons (de_var 13) (da_nil))))) (dss_cons (ds_item hr.units (de_var 4) (de_bin od_add (de_int) (de_var 5)) (de_var 13)) (dss_one (ds_if (dt_cmp od_lt (de_var 5) (de_call1 (x := "len") cd_len (fr_len TX TG c) (by decide +kernel) (de_var 3))) (dss_one (ds_item hr.units (de_var 4) (de_ix hr.units (de_var 3) (de_var 5)) (de_var 13))) (dss_nil))))))) (dss_cons (ds_expr (de_meth (ok_Disk_write P w base TX TG c) (hr.mono (by decide)) tk (de_var 11) (da_cons (de_int) (da_cons (de_bin od_add (de_bin od_add (de_tup (da_cons (de_call1 (x := "len") cd_len (fr_len TX TG c) (by decide +kernel) (de_var 3)) (da_nil))) (de_callT1 (x := "tuple") cd_tuple (fr_tuple TX TG c) (by decide +kernel) (de_var 3))) (de_bin od_mul (de_tup (da_cons (de_int) (da_nil))) (de_bin od_sub (de_int) (de_call1 (x := "len") cd_len (fr_len TX TG c) (by decide +kernel) (de_var 3))))) (da_nil))))) (dss_cons (ds_asg (de_ifExp (dt_cmp (od_ne hr.units) (de_var 3) (de_lst (da_nil))) (de_ix hr.units (de_var 3) (de_neg (de_int))) (de_int)) (dg_name 6 sc_law.nd)) (dss_cons (ds_asg (de_lstN (da_cons (de_bin od_add (de_tup (da_cons (de_int) (da_nil))) (de_bin od_mul (de_tup (da_cons (de_int) (da_nil))) (de_int))) (da_cons (de_bin od_add (de_tup (da_cons (de_int) (da_cons (de_int) (da_nil)))) (de_bin od_mul (de_tup (da_cons (de_int) (da_nil))) (de_int))) (da_cons (de_bin od_add (de_tup (da_cons (de_int) (da_cons (de_var 1) (da_nil)))) (de_bin od_mul (de_tup (da_cons (de_int) (da_nil))) (de_int))) (da_cons (de_bin od_add (de_tup (da_cons (de_int) (da_cons (de_var 6) (da_cons (de_var 6) (da_nil))))) (de_bin od_mul (de_tup (da_cons (de_int) (da_nil))) (de_int))) (da_nil)))))) (dg_name 7 sc_law.nd)) (dss_cons (ds_asg (de_addN (de_var 7) (de_lst (da_cons (de_bin od_add (de_tup (da_cons (de_int) (da_cons (de_var 6) (da_cons (de_var 6) (da_nil))))) (de_bin od_mul (de_tup (da_cons (de_int) (da_nil))) (de_int))) (da_cons (de_bin od_add (de_tup (da_cons (de_int) (da_cons (de_var 6) (da_nil)))) (de_bin od_mul (de_tup (da_cons (de_int) (da_nil))) (de_int))) (da_cons (de_bin od_add (de_tup (da_cons (de_int) (da_cons (de_int) (da_nil)))) (de_bin od_mul (de_tup (da_cons (de_int) (da_nil))) (de_int))) (da_nil)))))) (dg_name 7 sc_law.nd)) (dss_cons (ds_expr (de_app (de_var 7) (de_bin od_add (de_tup (da_cons (de_int) (da_cons (de_bin od_add (de_var 6) (de_int)) (da_cons (de_var 6) (da_nil))))) (de_bin od_mul (de_tup (da_cons (de_int) (da_nil))) (de_int))))) (dss_cons (ds_asg (de_call (ok_law_copy P w base TX TG c) (hr.mono (by decide)) tk (da_cons (de_var 11) (da_cons (de_non) (da_nil)))) (dg_name 8 sc_law.nd)) (dss_cons (ds_if (dt_cmp od_gt (de_bin od_mod (de_call (ok_law_cell P w base TX TG c) (hr.mono (by decide)) tk (da_cons (de_var 0) (da_cons (de_int) (da_nil)))) (de_int)) (de_int)) (dss_one (ds_expr (de_meth (ok_Disk_write P w base TX TG c) (hr.mono (by decide)) tk (de_var 8) (da_cons (de_int) (da_cons (de_ix hr.units (de_var 7) (de_bin od_mod (de_call (ok_law_cell P w base TX TG c) (hr.mono (by decide)) tk (da_cons (de_var 0) (da_cons (de_int) (da_nil)))) (de_int))) (da_nil)))))) (dss_cons (ds_asg (de_lstN (da_cons (de_bin od_add (de_tup (da_cons (de_int) (da_cons (de_int) (da_nil)))) (de_bin od_mul (de_tup (da_cons (de_int) (da_nil))) (de_int))) (da_cons (de_bin od_add (de_tup (da_cons (de_int) (da_cons (de_int) (da_nil)))) (de_bin od_mul (de_tup (da_cons (de_int) (da_nil))) (de_int))) (da_cons (de_bin od_add (de_tup (da_cons (de_int) (da_cons (de_var 1) (da_nil)))) (de_bin od_mul (de_tup (da_cons (de_int) (da_nil))) (de_int))) (da_cons (de_bin od_add (de_tup (da_cons (de_int) (da_cons (de_int) (da_nil)))) (de_bin od_mul (de_tup (da_cons (de_int) (da_nil))) (de_int))) (da_nil)))))) (dg_name 14 sc_law.nd)) (dss_cons (ds_expr (de_app (de_var 14) (de_bin od_add (de_tup (da_cons (de_int) (da_cons (de_int) (da_cons (de_int) (da_nil))))) (de_bin od_mul (de_tup (da_cons (de_int) (da_nil))) (de_int))))) (dss_one (ds_expr (de_meth (ok_Disk_write P w base TX TG c) (hr.mono (by decide)) tk (de_var 8) (da_cons (de_int) (da_cons (de_ix hr.units (de_var 14) (de_bin od_mod (de_call (ok_law_cell P w base TX TG c) (hr.mono (by decide)) tk (da_cons (de_var 0) (da_cons (de_int) (da_nil)))) (de_int))) (da_nil))))))))) (dss_cons (ds_asg (de_call (ok_law_all_blocks P w base TX TG c) (hr.mono (by decide)) tk (da_cons (de_var 8) (da_nil))) (dg_name 9 sc_law.nd)) (dss_cons (ds_asg (de_bl) (dg_name 10 sc_law.nd)) (dss_cons (ds_try tk (fun _ _ _ tk1 po1 => by exact dss_one (ds_expr (de_make (c := .drawers) (mk_Drawers_init__ P w base TX TG c) (hr.mono (by decide)) tk1 (da_cons (de_var 8) (da_nil))))) (hds_cons (c := .badDisk) (here_BadDisk TX TG c) (fun _ _ _ => by exact dss_one (ds_asg (de_bl) (dg_name 10 sc_law.nd))) (hds_nil))) (dss_cons (ds_if (dt_w (dw_or (dt_not (dt_tru (de_var 10))) (dw_or1 (dt_cmp (od_ne hr.units) (de_call (ok_law_all_blocks P w base TX TG c) (hr.mono (by decide)) tk (da_cons (de_var 8) (da_nil))) (de_var 9))))) (dss_one (ds_ret (de_bl))) (dss_nil)) (dss_cons (ds_expr (de_make (c := .drawers) (mk_Drawers_init__ P w base TX TG c) (hr.mono (by decide)) tk (da_cons (de_var 11) (da_nil)))) (dss_one (ds_ret (de_cmp (od_eq hr.units) (de_call (ok_law_all_blocks P w base TX TG c) (hr.mono (by decide)) tk (da_cons (de_var 11) (da_nil))) (de_var 4)))))))))))))))))))))
theorem ok_law (TX : K.In h) (TG : h.Ns mainGlobals mg) (c : Says w K) : FnD P w K mg base 8 "law" 1 F_law := by
  obtain ⟨fd, F⟩ := c.def_ 24 (d := d_law) rfl
  have b2 : Binds K fd ["script"] [] := F.bindsN fun _ _ _ _ _ _ us hl => match us, hl with | [_], _ => rfl
  have b3 : FnOk P w K mg base (L2.CX P w) 8 (He.fAd K d_law.at_) fd ["script"] (spD K 1 F_law) := fn_ok (k := 7) (N := n_law) (ps := ["script"]) (b := B_law) F sc_law (fun cdv A outer s H E hr tk => dv_law P w base TX TG c _ cdv A outer s H E hr tk)
  have b4 : Takes_ 1 F_law := dFn_takes 1 16 B_law
  have b1 : mg "law" = some (.ref (He.fAd K d_law.at_)) := He.glo_ok TX TG (c.fact 43 (f := .glo "law"))
  exact ⟨b4, _, fd, ["script"], b3, b1, F.kp, b2⟩
end
abbrev R : PySem.W.OpenRow := PySem.W.OpenLaw.row PySem.Challenge.rw_drawerlog_k06_journal
abbrev hk : PySem.W.Hook := hookE 5 fa fn ts ex
def ob (s : PySem.W.SharedT) : AlE := obsE 5 fa fn ts ex (HandSHeadRun.getT s)
theorem ob_eq (s : PySem.W.SharedT) : ob s = hk.obs s.abs := obsE_eq (HandSHeadRun.getT_eq s)
theorem run (w : World) : HandSHeadRun.RunEq R (PySem.W.view R.prog [60]) hk ob 20000 loose w := by
  intro os
  kernel_rfl
theorem law_fn {P : Program} {w : World} {K : PySem.W.Frag} {h : Heap} {mg : Str → Option Value} {f : Addr} (TX : K.In h) (TG : h.Ns mainGlobals mg) (hfa : mg ("law" : Str) = some (.ref f)) (c : Says w K) :
    ∃ fd : FuncData, (∀ (s : Shared) (v : Value), BindsTo s fd ⟨[v], []⟩ [("script", v)]) ∧ ∀ base : Heap, K.In base → base.Ns mainGlobals mg → FnOk P w K mg base (L2.CX P w) 8 f fd ["script"] (spD K 1 F_law) := by
  obtain ⟨fd, F⟩ := c.def_ 24 (d := d_law) rfl
  have e := hfa.symm.trans (He.glo_ok TX TG (c.fact 43 (f := .glo "law")))
  cases e
  have b := FunD.bindsA (ps := ["script"]) F fun _ _ _ _ _ _ us hl => match us, hl with | [_], _ => rfl
  refine ⟨fd, fun s v => b s [v] rfl, fun base _ _ => ?_⟩
  exact fn_ok (k := 7) (N := n_law) (ps := ["script"]) (b := B_law) F sc_law (fun cdv A outer s H E hr tk => dv_law P w base TX TG c _ cdv A outer s H E hr tk)
end DL
open PySem PySem.W PySem.Calls PyProof.Rows
theorem PySem.Challenge.cw_drawerlog_k06_journal_holds : PySem.Challenge.rw_drawerlog_k06_journal.Holds := by
  w_on; o_law
  refine HandSHeadRun.head_any (r := OpenLaw.row PySem.Challenge.rw_drawerlog_k06_journal) (q := view (OpenLaw.row PySem.Challenge.rw_drawerlog_k06_journal).prog [60]) (H := DL.hk) (ob := DL.ob) (M := 20000) (loose := DL.loose) (d := HandSHeadRun.topDef (OpenLaw.row PySem.Challenge.rw_drawerlog_k06_journal).prog 60) (kwd := []) DL.ob_eq
    (by kernel_rfl) (fun s => by kernel_rfl) DL.run (by kernel_rfl) (by kernel_rfl) (by kernel_rfl) (by rfl) (by first | assumption | decide +kernel) (by decide +kernel) ⟨rfl, rfl, rfl, rfl, rfl, by decide +kernel⟩ ?hw ?hc
  case hw => w_witness2
  case hc =>
    refine DL.walk_law (l := PySem.Challenge.rw_drawerlog_k06_journal) (k := 8) rfl (by kernel_rfl) ⟨rfl, by decide, by decide⟩ DL.law_true ?F
    intro w mg fa h Y G hmg0
    obtain ⟨K, KX, c⟩ := Y
    have hmg : mg ("law" : PySem.Str) = some (.ref fa) := by
      have e : (HandSHeadRun.topDef (OpenLaw.row PySem.Challenge.rw_drawerlog_k06_journal).prog 60).name = ("law" : PySem.Str) := by kernel_rfl
      rw [← e]
      exact hmg0
    obtain ⟨fd, hb, hF⟩ := DL.law_fn (P := (PySem.Challenge.rw_drawerlog_k06_journal).prog) (w := w) KX G hmg c
    exact ⟨K, fd, KX, hb, hF⟩
