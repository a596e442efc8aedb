import PyProof.Rows.All
import Wide.All
import OpenK.AllK
import Wide.FinOn
import HandS.ForMost
import HandS.IsInst
import HandS.AnyAll
import HandS.SortInts
import HandS.TupAny
import HandS.TupMul
import HandS.TupLe
import HandS.Deep
import HandS.Style
import HandS.More
import HandS.Flt
import HandS.Defaults
import HandS.NoneIn
import HandS.Flow
import PyProof.TupleOfGen
import PyProof.SumAny
import HandS.GenOver
import HandS.Small
import Lean
import KE.KStateDown
import HandS.HeadHook4
import HandS.Head0
import HandS.Head1
import HandS.Head2
import HandS.HeadEnd
import HandS.EndTab
import HandS.HeadWalk
import PySem.Challenge.RW_sparealoft_k01_tables_and_spare_fuel
set_option Elab.async false
set_option linter.all false
set_option maxRecDepth 100000
set_option maxHeartbeats 4000000
set_option autoImplicit false
namespace PI
open PySem PySem.Spec PyProof.Rows L2

/-- pure data -/
inductive D where
  | non | bl (b : Bool) | int (i : Int) | str (s : Str) | tup (xs : List D) | lst (xs : List D) | scr (ns : List Int) | dct (ks vs : List D) | rc (c : Nat) (fs : List D) | ref (n : Nat)
/-- a shared, mutable thing -/
inductive Cell where
  | lst (xs : List D) | dct (ks vs : List D) | obj (c : Nat) (fs : List D) | dead
abbrev PH := List Cell

/-- the world: the abstract heap, where the cells stand, what is frozen -/
structure Wd where
  H : Hp
  ι : List Addr
  F : Addr → Prop

def isTbl : HO → Prop
  | .tbl _ => True
  | _ => False

/-- a frozen list, a frozen tuple, or one of the module -/
def LF (K : PySem.W.Frag) (w : Wd) (a : Addr) (vs : List V) : Prop := (w.F a ∧ Rd w.H a (.lst vs)) ∨ SqL K (fun _ => none) a vs
def TF (K : PySem.W.Frag) (w : Wd) (a : Addr) (vs : List V) : Prop := (w.F a ∧ Rd w.H a (.tup vs)) ∨ SqT K (fun _ => none) a vs

/-- a dict's keys, as the layer has them -/
def keyD : D → Option Key
  | .int i => some (.inl i)
  | .str s => some (.inr s)
  | _ => none
def keysD : List D → Option (List Key)
  | [] => some []
  | d :: r => (keyD d).bind fun k => (keysD r).map (k :: ·)

mutual
inductive RD (K : PySem.W.Frag) (w : Wd) : D → V → Prop
  | non : RD K w .non .non
  | bl (b : Bool) : RD K w (.bl b) (.bl b)
  | int (i : Int) : RD K w (.int i) (.int i)
  | str (s : Str) : RD K w (.str s) (.str s)
  | tup {xs : List D} {vs : List V} {a : Addr} : TF K w a vs → RDs K w xs vs → RD K w (.tup xs) (.ref a)
  | lst {xs : List D} {vs : List V} {a : Addr} : w.F a → w.H a = some (.lst vs) → RDs K w xs vs → RD K w (.lst xs) (.ref a)
  | scr {ns : List Int} {a : Addr} : LF K w a (ns.map V.int) → RD K w (.scr ns) (.ref a)
  | dctK {ks vs : List D} {kk : List Key} {us : List V} {a : Addr} : w.F a → w.H a = some (.dK (kk.zip us)) → keysD ks = some kk → kk.length = us.length → RDs K w vs us → RD K w (.dct ks vs) (.ref a)
  | ref {n : Nat} {a : Addr} : w.ι[n]? = some a → RD K w (.ref n) (.ref a)
inductive RDs (K : PySem.W.Frag) (w : Wd) : List D → List V → Prop
  | nil : RDs K w [] []
  | cons {d : D} {ds : List D} {v : V} {vs : List V} : RD K w d v → RDs K w ds vs → RDs K w (d :: ds) (v :: vs)
end

/-- what stood stands -/
structure Le (w w' : Wd) : Prop where
  ip : w.ι <+: w'.ι
  fz : ∀ a, w.F a → w'.F a
  keep : ∀ a, w.F a → ∀ o, w.H a = some o → w'.H a = some o
theorem Le.refl (w : Wd) : Le w w := ⟨List.prefix_refl _, fun _ h => h, fun _ _ _ h => h⟩
theorem Le.trans {a b c : Wd} (x : Le a b) (y : Le b c) : Le a c := ⟨x.ip.trans y.ip, fun p h => y.fz p (x.fz p h), fun p f o h => y.keep p (x.fz p f) o (x.keep p f o h)⟩
section
variable {K : PySem.W.Frag} {w w' : Wd}
theorem Le.rd (l : Le w w') {a : Addr} {u : HO} (f : w.F a) (r : Rd w.H a u) : Rd w'.H a u := by
  rcases r with r | ⟨o, r⟩
  · exact .inl (l.keep a f _ r)
  · exact .inr ⟨o, l.keep a f _ r⟩
theorem Le.lf (l : Le w w') {a : Addr} {vs : List V} (h : LF K w a vs) : LF K w' a vs := by
  rcases h with ⟨f, r⟩ | h
  · exact .inl ⟨l.fz a f, l.rd f r⟩
  · exact .inr h
theorem Le.tf (l : Le w w') {a : Addr} {vs : List V} (h : TF K w a vs) : TF K w' a vs := by
  rcases h with ⟨f, r⟩ | h
  · exact .inl ⟨l.fz a f, l.rd f r⟩
  · exact .inr h
theorem Le.ix (l : Le w w') {n : Nat} {a : Addr} (h : w.ι[n]? = some a) : w'.ι[n]? = some a := by
  obtain ⟨t, ht⟩ := l.ip
  rw [← ht]
  obtain ⟨hn, e⟩ := List.getElem?_eq_some_iff.mp h
  rw [List.getElem?_append_left hn, h]
mutual
theorem RD.le (l : Le w w') : ∀ {d : D} {v : V}, RD K w d v → RD K w' d v
  | _, _, .non => .non
  | _, _, .bl b => .bl b
  | _, _, .int b => .int b
  | _, _, .str b => .str b
  | _, _, .tup t r => .tup (l.tf t) (RDs.le l r)
  | _, _, .lst f e r => .lst (l.fz _ f) (l.keep _ f _ e) (RDs.le l r)
  | _, _, .scr t => .scr (l.lf t)
  | _, _, .dctK f r k e s => .dctK (l.fz _ f) (l.keep _ f _ r) k e (RDs.le l s)
  | _, _, .ref e => .ref (l.ix e)
theorem RDs.le (l : Le w w') : ∀ {d : List D} {v : List V}, RDs K w d v → RDs K w' d v
  | _, _, .nil => .nil
  | _, _, .cons a b => .cons (RD.le l a) (RDs.le l b)
end
theorem LF.sq {a : Addr} {vs : List V} (h : LF K w a vs) : SqL K w.H a vs := by
  rcases h with ⟨_, r⟩ | (⟨z | ⟨o, z⟩⟩ | z)
  · exact .inl r
  · cases z
  · cases z
  · exact .inr z
theorem TF.sq {a : Addr} {vs : List V} (h : TF K w a vs) : SqT K w.H a vs := by
  rcases h with ⟨_, r⟩ | (⟨z | ⟨o, z⟩⟩ | z)
  · exact .inl r
  · cases z
  · cases z
  · exact .inr z
end

/-! lists of data and values -/
section
variable {K : PySem.W.Frag} {w : Wd}
theorem RDs.length : ∀ {ds : List D} {vs : List V}, RDs K w ds vs → ds.length = vs.length
  | _, _, .nil => rfl
  | _, _, .cons _ r => congrArg Nat.succ r.length
theorem RDs.append : ∀ {ds es : List D} {vs us : List V}, RDs K w ds vs → RDs K w es us → RDs K w (ds ++ es) (vs ++ us)
  | _, _, _, _, .nil, s => s
  | _, _, _, _, .cons a r, s => .cons a (r.append s)
theorem RDs.get : ∀ {ds : List D} {vs : List V} {i : Nat} {d : D}, RDs K w ds vs → ds[i]? = some d → ∃ v, vs[i]? = some v ∧ RD K w d v
  | _, _, _, _, .nil, e => by simp at e
  | _, _, 0, _, .cons a _, e => by simp at e; subst e; exact ⟨_, rfl, a⟩
  | _, _, i + 1, d, .cons _ r, e => by
    obtain ⟨v, h1, h2⟩ := RDs.get (i := i) (d := d) r (by simpa using e)
    exact ⟨v, by simpa using h1, h2⟩
theorem RDs.getV : ∀ {ds : List D} {vs : List V} {i : Nat} {v : V}, RDs K w ds vs → vs[i]? = some v → ∃ d, ds[i]? = some d ∧ RD K w d v
  | _, _, _, _, .nil, e => by simp at e
  | _, _, 0, _, .cons a _, e => by simp at e; subst e; exact ⟨_, rfl, a⟩
  | _, _, i + 1, v, .cons _ r, e => by
    obtain ⟨d, h1, h2⟩ := RDs.getV (i := i) (v := v) r (by simpa using e)
    exact ⟨d, by simpa using h1, h2⟩
theorem RDs.set {d : D} {v : V} (h : RD K w d v) : ∀ {ds : List D} {vs : List V} (i : Nat), RDs K w ds vs → RDs K w (ds.set i d) (vs.set i v)
  | _, _, _, .nil => .nil
  | _, _, 0, .cons _ r => .cons h r
  | _, _, i + 1, .cons a r => .cons a (RDs.set h i r)
theorem RDs.take : ∀ {ds : List D} {vs : List V} (n : Nat), RDs K w ds vs → RDs K w (ds.take n) (vs.take n)
  | _, _, 0, _ => .nil
  | _, _, _ + 1, .nil => .nil
  | _, _, n + 1, .cons a r => .cons a (RDs.take n r)
theorem RDs.drop : ∀ {ds : List D} {vs : List V} (n : Nat), RDs K w ds vs → RDs K w (ds.drop n) (vs.drop n)
  | _, _, 0, r => r
  | _, _, _ + 1, .nil => .nil
  | _, _, n + 1, .cons _ r => RDs.drop n r
theorem RDs.reverse {ds : List D} {vs : List V} (r : RDs K w ds vs) : RDs K w ds.reverse vs.reverse := by
  induction ds generalizing vs with
  | nil => cases r; exact .nil
  | cons d ds ih =>
    cases r with
    | cons a r =>
      rw [List.reverse_cons, List.reverse_cons]
      exact (ih r).append (.cons a .nil)
theorem RDs.rep {ds : List D} {vs : List V} (r : RDs K w ds vs) : ∀ k : Nat, RDs K w (List.replicate k ds).flatten (List.replicate k vs).flatten
  | 0 => .nil
  | k + 1 => by
    rw [List.replicate_succ, List.replicate_succ, List.flatten_cons, List.flatten_cons]
    exact r.append (r.rep k)
/-- ints -/
def intsD : List D → Option (List Int)
  | [] => some []
  | .int i :: r => (intsD r).map (i :: ·)
  | _ => none
theorem intsD_map (ns : List Int) : intsD (ns.map D.int) = some ns := by
  induction ns with
  | nil => rfl
  | cons n ns ih => simp [intsD, ih]
theorem intsD_eq : ∀ {ds : List D} {ns : List Int}, intsD ds = some ns → ds = ns.map D.int
  | [], ns, h => by simp [intsD] at h; subst h; rfl
  | .int i :: r, ns, h => by
    simp only [intsD, Option.map_eq_some_iff] at h
    obtain ⟨m, hm, rfl⟩ := h
    rw [intsD_eq hm]; rfl
theorem RDs.ints : ∀ {ns : List Int} {vs : List V}, RDs K w (ns.map D.int) vs → vs = ns.map V.int
  | [], _, h => by cases h; rfl
  | n :: ns, _, h => by
    cases h with
    | cons a r => cases a; rw [RDs.ints r]; rfl
theorem RDs.ofInts : ∀ (ns : List Int), RDs K w (ns.map D.int) (ns.map V.int)
  | [] => .nil
  | n :: ns => .cons (.int n) (RDs.ofInts ns)
end

/-! ### the cells -/
def RC (K : PySem.W.Frag) (w : Wd) (a : Addr) : Cell → Prop
  | .lst xs => ∃ vs, w.H a = some (.lst vs) ∧ RDs K w xs vs
  | .dct ks vs => ∃ kk us, w.H a = some (.dK (kk.zip us)) ∧ keysD ks = some kk ∧ kk.length = us.length ∧ RDs K w vs us
  | .obj _ _ => False
  | .dead => True
/-- the tables of code objects -/
def TabsOk (tb : List Addr) (H : Hp) : Prop := ∀ P ∈ tb, ∃ ps : Array Value, H P = some (.tbl ps) ∧ TriplesOk ps.toList
structure Rel (K : PySem.W.Frag) (tb : List Addr) (w : Wd) (h : PH) : Prop where
  len : w.ι.length = h.length
  nd : w.ι.Nodup
  cell : ∀ (n : Nat) (c : Cell), h[n]? = some c → ∃ a, w.ι[n]? = some a ∧ RC K w a c
  io : ∀ a ∈ w.ι, ∃ o, w.H a = some o ∧ ¬ isTbl o
  nf : ∀ a ∈ w.ι, ¬ w.F a
  ft : ∀ a, w.F a → ∃ o, w.H a = some o ∧ ¬ isTbl o
  tabs : TabsOk tb w.H
/-- from a world to a later one: all but the cells stands -/
structure Ext (w w' : Wd) : Prop where
  ip : w.ι <+: w'.ι
  fz : ∀ a, w.F a → w'.F a
  fn : ∀ a, w'.F a → w.F a ∨ w.H a = none
  ino : ∀ a ∈ w'.ι, a ∈ w.ι ∨ w.H a = none
  keep : ∀ a o, w.H a = some o → ¬ isTbl o → a ∉ w.ι → w'.H a = some o
  there : ∀ a, w.H a ≠ none → w'.H a ≠ none
theorem Ext.refl (w : Wd) : Ext w w := ⟨List.prefix_refl _, fun _ h => h, fun _ h => .inl h, fun _ h => .inl h, fun _ _ h _ _ => h, fun _ h => h⟩
theorem Ext.trans {a b c : Wd} (x : Ext a b) (y : Ext b c) : Ext a c where
  ip := x.ip.trans y.ip
  fz := fun p h => y.fz p (x.fz p h)
  fn := fun p h => by
    rcases y.fn p h with h | h
    · exact x.fn p h
    · cases e : a.H p with
      | none => exact .inr rfl
      | some o => exact absurd h (x.there p (by rw [e]; simp))
  ino := fun p h => by
    rcases y.ino p h with h | h
    · exact x.ino p h
    · cases e : a.H p with
      | none => exact .inr rfl
      | some o => exact absurd h (x.there p (by rw [e]; simp))
  keep := fun p o h t n => y.keep p o (x.keep p o h t n) t fun m => by
    rcases x.ino p m with q | q
    · exact n q
    · rw [h] at q; cases q
  there := fun p h => y.there p (x.there p h)
section
variable {K : PySem.W.Frag} {tb : List Addr} {w w' : Wd} {h h' : PH}
theorem Ext.le (x : Ext w w') (r : Rel K tb w h) : Le w w' := ⟨x.ip, x.fz, fun a f o e => x.keep a o e (by
  obtain ⟨o', e', t⟩ := r.ft a f
  rw [e] at e'; cases e'; exact t) fun m => r.nf a m f⟩
theorem RD.ext {d : D} {v : V} (q : RD K w d v) (x : Ext w w') (r : Rel K tb w h) : RD K w' d v := q.le (x.le r)
theorem RDs.ext {d : List D} {v : List V} (q : RDs K w d v) (x : Ext w w') (r : Rel K tb w h) : RDs K w' d v := q.le (x.le r)

/-- a new thing that is frozen at once -/
def Wd.frz (w : Wd) (p : Addr) (o : HO) : Wd := ⟨upd w.H p o, w.ι, fun a => w.F a ∨ a = p⟩
/-- a new thing, neither frozen nor a cell -/
def Wd.raw (w : Wd) (p : Addr) (o : HO) : Wd := ⟨upd w.H p o, w.ι, w.F⟩
/-- a new cell -/
def Wd.cel (w : Wd) (p : Addr) (o : HO) : Wd := ⟨upd w.H p o, w.ι ++ [p], w.F⟩
theorem tabs_upd {H : Hp} {p : Addr} {o : HO} (t : TabsOk tb H) (hp : ∀ ps, H p ≠ some (.tbl ps)) : TabsOk tb (upd H p o) := fun P hP => by
  obtain ⟨ps, e, q⟩ := t P hP
  refine ⟨ps, ?_, q⟩
  rw [upd_ne fun z => hp ps (by rw [← z]; exact e)]
  exact e
theorem upd_thr {H : Hp} {p a : Addr} {o : HO} (h : H a ≠ none) : upd H p o a ≠ none := by
  unfold upd; split
  · simp
  · exact h
theorem ext_raw {p : Addr} {o : HO} (hp : w.H p = none) : Ext w (w.raw p o) where
  ip := List.prefix_refl _
  fz := fun _ h => h
  fn := fun _ h => .inl h
  ino := fun _ h => .inl h
  keep := fun a o' e _ _ => by
    show upd w.H p o a = some o'
    rw [upd_ne (ne_of_none e hp)]; exact e
  there := fun a h => upd_thr h
theorem ext_frz {p : Addr} {o : HO} (hp : w.H p = none) : Ext w (w.frz p o) where
  ip := List.prefix_refl _
  fz := fun _ h => .inl h
  fn := fun a h => by
    rcases h with h | h
    · exact .inl h
    · subst h; exact .inr hp
  ino := fun _ h => .inl h
  keep := fun a o' e _ _ => by
    show upd w.H p o a = some o'
    rw [upd_ne (ne_of_none e hp)]; exact e
  there := fun a h => upd_thr h
theorem ext_cel {p : Addr} {o : HO} (hp : w.H p = none) : Ext w (w.cel p o) where
  ip := List.prefix_append _ _
  fz := fun _ h => h
  fn := fun a h => .inl h
  ino := fun a h => by
    rcases List.mem_append.mp h with h | h
    · exact .inl h
    · simp at h; subst h; exact .inr hp
  keep := fun a o' e _ _ => by
    show upd w.H p o a = some o'
    rw [upd_ne (ne_of_none e hp)]; exact e
  there := fun a h => upd_thr h
theorem RC.le (l : Le w w') {a : Addr} {c : Cell} (e : ∀ o, w.H a = some o → w'.H a = some o) (q : RC K w a c) : RC K w' a c := by
  cases c with
  | lst xs => obtain ⟨vs, h1, h2⟩ := q; exact ⟨vs, e _ h1, h2.le l⟩
  | dct ks vs => obtain ⟨kk, us, h1, h2, h3, h4⟩ := q; exact ⟨kk, us, e _ h1, h2, h3, h4.le l⟩
  | obj c f => exact q
  | dead => trivial
theorem Rel.raw (r : Rel K tb w h) {p : Addr} {o : HO} (hp : w.H p = none) : Rel K tb (w.raw p o) h where
  len := r.len
  nd := r.nd
  cell := fun n c e => by
    obtain ⟨a, h1, h2⟩ := r.cell n c e
    exact ⟨a, h1, h2.le ((ext_raw hp).le r) fun o' e' => by
      show upd w.H p o a = some o'
      rw [upd_ne (ne_of_none e' hp)]; exact e'⟩
  io := fun a m => by
    obtain ⟨o', e, t⟩ := r.io a m
    exact ⟨o', by show upd w.H p o a = some o'; rw [upd_ne (ne_of_none e hp)]; exact e, t⟩
  nf := r.nf
  ft := fun a f => by
    obtain ⟨o', e, t⟩ := r.ft a f
    exact ⟨o', by show upd w.H p o a = some o'; rw [upd_ne (ne_of_none e hp)]; exact e, t⟩
  tabs := tabs_upd r.tabs fun ps z => by rw [hp] at z; cases z
theorem Rel.frz (r : Rel K tb w h) {p : Addr} {o : HO} (hp : w.H p = none) (ht : ¬ isTbl o) : Rel K tb (w.frz p o) h where
  len := r.len
  nd := r.nd
  cell := fun n c e => by
    obtain ⟨a, h1, h2⟩ := r.cell n c e
    exact ⟨a, h1, h2.le ((ext_frz hp).le r) fun o' e' => by
      show upd w.H p o a = some o'
      rw [upd_ne (ne_of_none e' hp)]; exact e'⟩
  io := fun a m => by
    obtain ⟨o', e, t⟩ := r.io a m
    exact ⟨o', by show upd w.H p o a = some o'; rw [upd_ne (ne_of_none e hp)]; exact e, t⟩
  nf := fun a m f => by
    rcases f with f | f
    · exact r.nf a m f
    · subst f
      obtain ⟨o', e, t⟩ := r.io _ m
      rw [hp] at e; cases e
  ft := fun a f => by
    rcases f with f | f
    · obtain ⟨o', e, t⟩ := r.ft a f
      exact ⟨o', by show upd w.H p o a = some o'; rw [upd_ne (ne_of_none e hp)]; exact e, t⟩
    · subst f
      exact ⟨o, upd_same, ht⟩
  tabs := tabs_upd r.tabs fun ps z => by rw [hp] at z; cases z
theorem Rel.cel (r : Rel K tb w h) {p : Addr} {o : HO} {c : Cell} (hp : w.H p = none) (ht : ¬ isTbl o) (hc : RC K (w.cel p o) p c) : Rel K tb (w.cel p o) (h ++ [c]) where
  len := by show (w.ι ++ [p]).length = _; simp [r.len]
  nd := by
    show (w.ι ++ [p]).Nodup
    rw [List.nodup_append]
    refine ⟨r.nd, by simp, fun a ha b hb e => ?_⟩
    simp at hb; subst hb; subst e
    obtain ⟨o', e, t⟩ := r.io _ ha
    rw [hp] at e; cases e
  cell := fun n c' e => by
    by_cases hn : n < h.length
    · rw [List.getElem?_append_left hn] at e
      obtain ⟨a, h1, h2⟩ := r.cell n c' e
      refine ⟨a, by show (w.ι ++ [p])[n]? = _; rw [List.getElem?_append_left (by rw [r.len]; exact hn)]; exact h1, h2.le ((ext_cel hp).le r) fun o' e' => by
        show upd w.H p o a = some o'
        rw [upd_ne (ne_of_none e' hp)]; exact e'⟩
    · have hn' : h.length ≤ n := Nat.le_of_not_lt hn
      rw [List.getElem?_append_right hn'] at e
      by_cases h0 : n - h.length = 0
      · rw [h0] at e
        simp at e; subst e
        refine ⟨p, ?_, hc⟩
        show (w.ι ++ [p])[n]? = _
        rw [List.getElem?_append_right (by rw [r.len]; exact hn'), r.len, h0]; rfl
      · obtain ⟨k, hk⟩ : ∃ k, n - h.length = k + 1 := ⟨n - h.length - 1, by omega⟩
        rw [hk] at e; simp at e
  io := fun a m => by
    rcases List.mem_append.mp m with m | m
    · obtain ⟨o', e, t⟩ := r.io a m
      exact ⟨o', by show upd w.H p o a = some o'; rw [upd_ne (ne_of_none e hp)]; exact e, t⟩
    · simp at m; subst m
      exact ⟨o, upd_same, ht⟩
  nf := fun a m f => by
    rcases List.mem_append.mp m with m | m
    · exact r.nf a m f
    · simp at m; subst m
      obtain ⟨o', e, t⟩ := r.ft _ f
      rw [hp] at e; cases e
  ft := fun a f => by
    obtain ⟨o', e, t⟩ := r.ft a f
    exact ⟨o', by show upd w.H p o a = some o'; rw [upd_ne (ne_of_none e hp)]; exact e, t⟩
  tabs := tabs_upd r.tabs fun ps z => by rw [hp] at z; cases z
/-- a cell is written -/
def Wd.put (w : Wd) (a : Addr) (o : HO) : Wd := ⟨upd w.H a o, w.ι, w.F⟩
theorem le_put (r : Rel K tb w h) {a : Addr} {o : HO} (hf : ¬ w.F a) : Le w (w.put a o) := ⟨List.prefix_refl _, fun _ f => f, fun b f o' e => by
  show upd w.H a o b = some o'
  rw [upd_ne fun z => hf (by rw [← z]; exact f)]; exact e⟩
theorem Rel.put (r : Rel K tb w h) {n : Nat} {a : Addr} {o : HO} {c : Cell} (hn : w.ι[n]? = some a) (ht : ¬ isTbl o) (hc : RC K (w.put a o) a c) : Rel K tb (w.put a o) (h.set n c) where
  len := by show w.ι.length = _; rw [List.length_set]; exact r.len
  nd := r.nd
  cell := fun m c' e => by
    have ha := List.mem_of_getElem? hn
    by_cases hm : n = m
    · subst hm
      have hl : n < h.length := by
        rw [← r.len]
        exact (List.getElem?_eq_some_iff.mp hn).1
      rw [List.getElem?_set_self hl] at e
      cases e
      exact ⟨a, hn, hc⟩
    · rw [List.getElem?_set_ne hm] at e
      obtain ⟨b, h1, h2⟩ := r.cell m c' e
      refine ⟨b, h1, h2.le (le_put r (r.nf a ha)) fun o' e' => ?_⟩
      show upd w.H a o b = some o'
      have nab : b ≠ a := by
        intro z
        rw [z] at h1
        obtain ⟨p1, q1⟩ := List.getElem?_eq_some_iff.mp hn
        obtain ⟨p2, q2⟩ := List.getElem?_eq_some_iff.mp h1
        exact hm ((List.getElem_inj r.nd).mp (q1.trans q2.symm))
      rw [upd_ne nab]; exact e'
  io := fun b m => by
    obtain ⟨o', e, t⟩ := r.io b m
    by_cases hb : b = a
    · subst hb; exact ⟨o, upd_same, ht⟩
    · exact ⟨o', by show upd w.H a o b = some o'; rw [upd_ne hb]; exact e, t⟩
  nf := r.nf
  ft := fun b f => by
    obtain ⟨o', e, t⟩ := r.ft b f
    have hb : b ≠ a := fun z => r.nf a (List.mem_of_getElem? hn) (by rw [← z]; exact f)
    exact ⟨o', by show upd w.H a o b = some o'; rw [upd_ne hb]; exact e, t⟩
  tabs := tabs_upd r.tabs fun ps z => by
    obtain ⟨o', e, t⟩ := r.io a (List.mem_of_getElem? hn)
    rw [z] at e; cases e; exact t trivial
theorem ext_put (r : Rel K tb w h) {n : Nat} {a : Addr} {o : HO} (hn : w.ι[n]? = some a) : Ext w (w.put a o) where
  ip := List.prefix_refl _
  fz := fun _ f => f
  fn := fun _ f => .inl f
  ino := fun _ m => .inl m
  keep := fun b o' e _ m => by
    show upd w.H a o b = some o'
    rw [upd_ne fun z => m (by rw [z]; exact List.mem_of_getElem? hn)]; exact e
  there := fun b e => upd_thr e
end

/-! ### the slots -/
/-- what a slot holds: data; a list that is the def's own, and may grow; a dict that is -/
inductive Sl where
  | val (d : D) | own (xs : List D) | ownD (ks vs : List D)
abbrev Rho := List (Option Sl)
/-- an address of one's own: neither a cell nor frozen -/
def Priv (w : Wd) (a : Addr) : Prop := a ∉ w.ι ∧ ¬ w.F a
def RSl (K : PySem.W.Frag) (w : Wd) : Sl → V → Prop
  | .val d, v => RD K w d v
  | .own xs, v => ∃ a vs, v = .ref a ∧ w.H a = some (.lst vs) ∧ RDs K w xs vs ∧ Priv w a
  | .ownD ks vs, v => ∃ a kk us, v = .ref a ∧ w.H a = some (.dK (kk.zip us)) ∧ keysD ks = some kk ∧ kk.length = us.length ∧ RDs K w vs us ∧ Priv w a
def Sl.isOwn : Sl → Bool
  | .val _ => false
  | _ => true
structure RS (K : PySem.W.Frag) (w : Wd) (ρ : Rho) (σ : L2.St) : Prop where
  len : ρ.length = σ.length
  at_ : ∀ (i : Nat) (s : Sl), ρ[i]? = some (some s) → ∃ v, σ[i]? = some (some v) ∧ RSl K w s v
  dis : ∀ (i j : Nat) (s t : Sl) (v : V), ρ[i]? = some (some s) → ρ[j]? = some (some t) → s.isOwn = true → t.isOwn = true → σ[i]? = some (some v) → σ[j]? = some (some v) → i = j
section
variable {K : PySem.W.Frag} {tb : List Addr} {w w' : Wd} {h h' : PH} {ρ : Rho} {σ : L2.St}
theorem Priv.ext {a : Addr} (p : Priv w a) (x : Ext w w') (e : w.H a ≠ none) : Priv w' a := ⟨fun m => (x.ino a m).elim p.1 e, fun f => (x.fn a f).elim p.2 e⟩
theorem RSl.ext {s : Sl} {v : V} (q : RSl K w s v) (x : Ext w w') (r : Rel K tb w h) : RSl K w' s v := by
  cases s with
  | val d => exact RD.ext (show RD K w d v from q) x r
  | own xs =>
    obtain ⟨a, vs, e, h1, h2, h3⟩ := q
    exact ⟨a, vs, e, x.keep a _ h1 (fun z => z) h3.1, h2.ext x r, h3.ext x (by rw [h1]; simp)⟩
  | ownD ks vs =>
    obtain ⟨a, kk, us, e, h1, h2, h3, h4, h5⟩ := q
    exact ⟨a, kk, us, e, x.keep a _ h1 (fun z => z) h5.1, h2, h3, h4.ext x r, h5.ext x (by rw [h1]; simp)⟩
theorem RS.ext (q : RS K w ρ σ) (x : Ext w w') (r : Rel K tb w h) : RS K w' ρ σ := ⟨q.len, fun i s e => by
  obtain ⟨v, h1, h2⟩ := q.at_ i s e
  exact ⟨v, h1, h2.ext x r⟩, q.dis⟩
end
end PI

set_option Elab.async false
set_option linter.all false
set_option maxRecDepth 100000
set_option maxHeartbeats 4000000
set_option autoImplicit false
namespace PI
open PySem PySem.Spec PyProof.Rows L2

/-- data, or a list or dict that stands just now -/
def RO (K : PySem.W.Frag) (w : Wd) (d : D) (v : V) : Prop := RD K w d v ∨
  (∃ xs a vs, d = .lst xs ∧ v = .ref a ∧ w.H a = some (.lst vs) ∧ RDs K w xs vs) ∨
  (∃ ks vs a kk us, d = .dct ks vs ∧ v = .ref a ∧ w.H a = some (.dK (kk.zip us)) ∧ keysD ks = some kk ∧ kk.length = us.length ∧ RDs K w vs us)
/-- .. of one's own: it stands through expressions -/
def RB (K : PySem.W.Frag) (w : Wd) (d : D) (v : V) : Prop := RD K w d v ∨
  (∃ xs a vs, d = .lst xs ∧ v = .ref a ∧ w.H a = some (.lst vs) ∧ RDs K w xs vs ∧ Priv w a) ∨
  (∃ ks vs a kk us, d = .dct ks vs ∧ v = .ref a ∧ w.H a = some (.dK (kk.zip us)) ∧ keysD ks = some kk ∧ kk.length = us.length ∧ RDs K w vs us ∧ Priv w a)
/-- a cell's content, read -/
def cellD (n : Nat) : Option Cell → D
  | some (.lst xs) => .lst xs
  | some (.dct ks vs) => .dct ks vs
  | _ => .ref n
def deref (h : PH) : D → D
  | .ref n => cellD n h[n]?
  | d => d

section
variable {K : PySem.W.Frag} {tb : List Addr} {w w' : Wd} {h h' : PH}
theorem RB.ext {d : D} {v : V} (q : RB K w d v) (x : Ext w w') (r : Rel K tb w h) : RB K w' d v := by
  rcases q with q | ⟨xs, a, vs, e1, e2, h1, h2, h3⟩ | ⟨ks, vs, a, kk, us, e1, e2, h1, h2, h3, h4, h5⟩
  · exact .inl (q.ext x r)
  · exact .inr (.inl ⟨xs, a, vs, e1, e2, x.keep a _ h1 (fun z => z) h3.1, h2.ext x r, h3.ext x (by rw [h1]; simp)⟩)
  · exact .inr (.inr ⟨ks, vs, a, kk, us, e1, e2, x.keep a _ h1 (fun z => z) h5.1, h2, h3, h4.ext x r, h5.ext x (by rw [h1]; simp)⟩)
theorem RB.ro {d : D} {v : V} (q : RB K w d v) : RO K w d v := by
  rcases q with q | ⟨xs, a, vs, e1, e2, h1, h2, h3⟩ | ⟨ks, vs, a, kk, us, e1, e2, h1, h2, h3, h4, h5⟩
  · exact .inl q
  · exact .inr (.inl ⟨xs, a, vs, e1, e2, h1, h2⟩)
  · exact .inr (.inr ⟨ks, vs, a, kk, us, e1, e2, h1, h2, h3, h4⟩)
theorem RD.rb {d : D} {v : V} (q : RD K w d v) : RB K w d v := .inl q
theorem RB.de {d : D} {v : V} (q : RB K w d v) (r : Rel K tb w h) : RO K w (deref h d) v := by
  cases d with
  | ref n =>
    have q' : RD K w (.ref n) v := by
      rcases q with q | ⟨_, _, _, e, _⟩ | ⟨_, _, _, _, _, e, _⟩
      · exact q
      · cases e
      · cases e
    show RO K w (cellD n h[n]?) v
    cases e : h[n]? with
    | none => exact .inl q'
    | some c =>
      obtain ⟨a, h1, h2⟩ := r.cell n _ e
      cases c with
      | lst xs =>
        obtain ⟨vs, h2, h3⟩ := h2
        cases q' with
        | ref h4 =>
          rw [h1] at h4; cases h4
          exact .inr (.inl ⟨xs, a, vs, rfl, rfl, h2, h3⟩)
      | dct ks vs =>
        obtain ⟨kk, us, h2, h3, h4, h5⟩ := h2
        cases q' with
        | ref h6 =>
          rw [h1] at h6; cases h6
          exact .inr (.inr ⟨ks, vs, a, kk, us, rfl, rfl, h2, h3, h4, h5⟩)
      | obj c fs => exact .inl q'
      | dead => exact .inl q'
  | _ => exact q.ro
theorem RO.non {v : V} (q : RO K w .non v) : v = .non := by
  rcases q with q | ⟨_, _, _, e, _⟩ | ⟨_, _, _, _, _, e, _⟩
  · cases q; rfl
  · cases e
  · cases e
theorem RO.bl {b : Bool} {v : V} (q : RO K w (.bl b) v) : v = .bl b := by
  rcases q with q | ⟨_, _, _, e, _⟩ | ⟨_, _, _, _, _, e, _⟩
  · cases q; rfl
  · cases e
  · cases e
theorem RO.int {i : Int} {v : V} (q : RO K w (.int i) v) : v = .int i := by
  rcases q with q | ⟨_, _, _, e, _⟩ | ⟨_, _, _, _, _, e, _⟩
  · cases q; rfl
  · cases e
  · cases e
theorem RO.str {s : Str} {v : V} (q : RO K w (.str s) v) : v = .str s := by
  rcases q with q | ⟨_, _, _, e, _⟩ | ⟨_, _, _, _, _, e, _⟩
  · cases q; rfl
  · cases e
  · cases e
theorem RO.tup {xs : List D} {v : V} (q : RO K w (.tup xs) v) : ∃ a vs, v = .ref a ∧ TF K w a vs ∧ RDs K w xs vs := by
  rcases q with q | ⟨_, _, _, e, _⟩ | ⟨_, _, _, _, _, e, _⟩
  · cases q with
    | tup t r => exact ⟨_, _, rfl, t, r⟩
  · cases e
  · cases e
theorem RO.lst {xs : List D} {v : V} (q : RO K w (.lst xs) v) : ∃ a vs, v = .ref a ∧ w.H a = some (.lst vs) ∧ RDs K w xs vs := by
  rcases q with q | ⟨_, _, _, e, e2, h1, h2⟩ | ⟨_, _, _, _, _, e, _⟩
  · cases q with
    | lst f e r => exact ⟨_, _, rfl, e, r⟩
  · cases e; exact ⟨_, _, e2, h1, h2⟩
  · cases e
theorem RO.scr {ns : List Int} {v : V} (q : RO K w (.scr ns) v) : ∃ a, v = .ref a ∧ LF K w a (ns.map V.int) := by
  rcases q with q | ⟨_, _, _, e, _⟩ | ⟨_, _, _, _, _, e, _⟩
  · cases q with
    | scr t => exact ⟨_, rfl, t⟩
  · cases e
  · cases e
theorem RO.ref {n : Nat} {v : V} (q : RO K w (.ref n) v) : ∃ a, v = .ref a ∧ w.ι[n]? = some a := by
  rcases q with q | ⟨_, _, _, e, _⟩ | ⟨_, _, _, _, _, e, _⟩
  · cases q with
    | ref t => exact ⟨_, rfl, t⟩
  · cases e
  · cases e
theorem RO.dct {ks vs : List D} {v : V} (q : RO K w (.dct ks vs) v) : ∃ a kk us, v = .ref a ∧ w.H a = some (.dK (kk.zip us)) ∧ keysD ks = some kk ∧ kk.length = us.length ∧ RDs K w vs us := by
  rcases q with q | ⟨_, _, _, e, _⟩ | ⟨_, _, _, _, _, e, e2, h1, h2, h3, h4⟩
  · cases q with
    | dctK f e k l r => exact ⟨_, _, _, rfl, e, k, l, r⟩
  · cases e
  · cases e; exact ⟨_, _, _, e2, h1, h2, h3, h4⟩
end

/-- what is wanted behind an expression that gives d -/
def Fin1 (K : PySem.W.Frag) (tb : List Addr) (w : Wd) (h : PH) (d : D) (Q : VK) : Prop := ∀ w' v, Rel K tb w' h → RD K w' d v → Ext w w' → Q v w'.H
/-- .. a new list of its own -/
def FinL (K : PySem.W.Frag) (tb : List Addr) (w : Wd) (h : PH) (xs : List D) (Q : VK) : Prop := ∀ w' a vs, Rel K tb w' h → w'.H a = some (.lst vs) → RDs K w' xs vs → Priv w' a → Ext w w' → w.H a = none → Q (.ref a) w'.H

section
variable {K : PySem.W.Frag} {tb : List Addr} {w w' : Wd} {h h' : PH} {Q : VK}
theorem Fin1.now {d : D} {v : V} (q : Fin1 K tb w h d Q) (r : Rel K tb w h) (x : RD K w d v) : Q v w.H := q w v r x (Ext.refl w)
/-- a new tuple -/
theorem Fin1.tup {xs : List D} {vs : List V} {p : Addr} (q : Fin1 K tb w h (.tup xs) Q) (r : Rel K tb w h) (x : RDs K w xs vs) (hp : w.H p = none) : Q (.ref p) (upd w.H p (.tup vs)) :=
  q (w.frz p (.tup vs)) (.ref p) (r.frz hp (fun z => z)) (.tup (.inl ⟨.inr rfl, .inl upd_same⟩) (x.ext (ext_frz hp) r)) (ext_frz hp)
theorem Fin1.lst {xs : List D} {vs : List V} {p : Addr} (q : Fin1 K tb w h (.lst xs) Q) (r : Rel K tb w h) (x : RDs K w xs vs) (hp : w.H p = none) : Q (.ref p) (upd w.H p (.lst vs)) :=
  q (w.frz p (.lst vs)) (.ref p) (r.frz hp (fun z => z)) (.lst (.inr rfl) upd_same (x.ext (ext_frz hp) r)) (ext_frz hp)
theorem priv_new {p : Addr} (r : Rel K tb w h) (hp : w.H p = none) : Priv w p := by
  refine ⟨fun m => ?_, fun f => ?_⟩
  · obtain ⟨o, e, _⟩ := r.io p m
    rw [hp] at e; cases e
  · obtain ⟨o, e, _⟩ := r.ft p f
    rw [hp] at e; cases e
theorem FinL.new {xs : List D} {vs : List V} {p : Addr} (q : FinL K tb w h xs Q) (r : Rel K tb w h) (x : RDs K w xs vs) (hp : w.H p = none) : Q (.ref p) (upd w.H p (.lst vs)) :=
  q (w.raw p (.lst vs)) p vs (r.raw hp) upd_same (x.ext (ext_raw hp) r) ⟨(priv_new r hp).1, (priv_new r hp).2⟩ (ext_raw hp) hp
/-- freeze it -/
theorem FinL.of1 {xs : List D} (q : Fin1 K tb w h (.lst xs) Q) : FinL K tb w h xs Q := fun w' a vs r e x p ex hn => by
  have l : Le w' ⟨w'.H, w'.ι, fun b => w'.F b ∨ b = a⟩ := ⟨List.prefix_refl _, fun b f => Or.inl f, fun _ _ _ e => e⟩
  refine q ⟨w'.H, w'.ι, fun b => w'.F b ∨ b = a⟩ (.ref a) ⟨r.len, r.nd, fun n c hc => ?_, r.io, fun b m f => ?_, fun b f => ?_, r.tabs⟩ ?_ ⟨ex.ip, fun b f => Or.inl (ex.fz b f), fun b f => ?_, ex.ino, ex.keep, ex.there⟩
  · obtain ⟨b, h1, h2⟩ := r.cell n c hc
    exact ⟨b, h1, h2.le l fun _ e => e⟩
  · rcases f with f | f
    · exact r.nf b m f
    · subst f; exact p.1 m
  · rcases f with f | f
    · exact r.ft b f
    · subst f; exact ⟨_, e, fun z => z⟩
  · exact .lst (Or.inr rfl) e (x.le l)
  · rcases f with f | f
    · exact ex.fn b f
    · subst f; exact .inr hn
end

/-! ### operations on data -/
/-- r (what the layer asks) follows from the operation's answer -/
def OpS (K : PySem.W.Frag) (r : R2) (op : D → D → Option D) : Prop := ∀ {tb : List Addr} {w : Wd} {h : PH} {x y : D} {vx vy : V} {d : D} {Q : VK}, Rel K tb w h → RO K w x vx → RO K w y vy → op x y = some d → Fin1 K tb w h d Q → r vx vy w.H Q

def addD : D → D → Option D
  | .int i, .int j => some (.int (i + j))
  | .tup xs, .tup ys => if xs.length + ys.length ≤ sizeLine then some (.tup (xs ++ ys)) else none
  | .lst xs, .lst ys => if xs.length + ys.length ≤ sizeLine then some (.lst (xs ++ ys)) else none
  | .str x, .str y => if x.length + y.length ≤ sizeLine then some (.str (x ++ y)) else none
  | _, _ => none
def subD : D → D → Option D
  | .int i, .int j => some (.int (i - j))
  | _, _ => none
def mulD : D → D → Option D
  | .int i, .int j => if (-(2 ^ 64) < i ∧ i < 2 ^ 64) ∨ (-(2 ^ 64) < j ∧ j < 2 ^ 64) then some (.int (i * j)) else none
  | .tup xs, .int k => if xs ≠ [] ∧ 2 ≤ k ∧ k ≤ 1000 ∧ xs.length ≤ 1000 then some (.tup (List.replicate k.toNat xs).flatten) else none
  | .lst xs, .int k => if -(2 ^ 63) ≤ k ∧ k < 2 ^ 63 ∧ xs.length * k.toNat ≤ sizeLine then some (.lst (List.replicate k.toNat xs).flatten) else none
  | _, _ => none
def fdivD : D → D → Option D
  | .int i, .int j => if 0 < j ∧ j < 1073741824 then some (.int (i / j)) else none
  | _, _ => none
def modD : D → D → Option D
  | .int i, .int j => if 0 < j then some (.int (i % j)) else none
  | _, _ => none
def powD : D → D → Option D
  | .int i, .int j => if 0 ≤ j ∧ j ≤ 1000000 ∧ i.natAbs < 2 ^ 64 then some (.int (i ^ j.toNat)) else none
  | _, _ => none

section
variable {X : Cx}
theorem nil_iff {K : PySem.W.Frag} {w : Wd} {xs : List D} {vs : List V} (r : RDs K w xs vs) : vs = [] ↔ xs = [] := by
  cases r <;> simp
def rAddA (K : PySem.W.Frag) : R2 := fun x y H Q => rI0 (fun i j => .int (i + j)) x y H Q ∨ rCatA K x y H Q ∨ rCat x y H Q ∨ ∃ i j, x = .str i ∧ y = .str j ∧ i.length + j.length ≤ sizeLine ∧ Q (.str (i ++ j)) H
theorem op_addA : OpR X (binaryOp .Add) (rAddA X.K) := op_add.or (op_catA.or (op_cat.or op_add_str))
theorem addS (K : PySem.W.Frag) : OpS K (rAddA K) addD := by
  intro tb w h x y vx vy d Q r rx ry e q
  unfold addD at e
  split at e
  · cases e
    exact .inl ⟨_, _, rx.int, ry.int, q.now r (.int _)⟩
  · split at e
    · rename_i hz
      cases e
      obtain ⟨a, us, e1, t1, r1⟩ := rx.tup
      obtain ⟨b, vs, e2, t2, r2⟩ := ry.tup
      refine .inr (.inl ⟨a, b, us, vs, e1, e2, t1.sq, t2.sq, by rw [← r1.length, ← r2.length]; exact hz, fun z => ?_, fun _ z => ?_, fun _ _ p hp => q.tup r (r1.append r2) hp⟩)
      · rw [(nil_iff r1).mp z] at q
        exact q.now r (.tup t2 r2)
      · rw [(nil_iff r2).mp z, List.append_nil] at q
        exact q.now r (.tup t1 r1)
    · cases e
  · split at e
    · rename_i hz
      cases e
      obtain ⟨a, us, e1, t1, r1⟩ := rx.lst
      obtain ⟨b, vs, e2, t2, r2⟩ := ry.lst
      exact .inr (.inr (.inl ⟨a, b, us, vs, e1, e2, t1, t2, by rw [← r1.length, ← r2.length]; exact hz, fun p hp => q.lst r (r1.append r2) hp⟩))
    · cases e
  · split at e
    · rename_i hz
      cases e
      exact .inr (.inr (.inr ⟨_, _, rx.str, ry.str, hz, q.now r (.str _)⟩))
    · cases e
  · cases e
theorem subS (K : PySem.W.Frag) : OpS K (rI0 fun i j => .int (i - j)) subD := by
  intro tb w h x y vx vy d Q r rx ry e q
  unfold subD at e
  split at e
  · cases e
    exact ⟨_, _, rx.int, ry.int, q.now r (.int _)⟩
  · cases e
def rMulA (K : PySem.W.Frag) : R2 := fun x y H Q => rI CMul (fun i j => .int (i * j)) x y H Q ∨ rRepT K x y H Q ∨ rRep x y H Q
theorem op_mulA : OpR X (binaryOp .Mult) (rMulA X.K) := op_mul.or (op_repT.or op_rep)
theorem mulS (K : PySem.W.Frag) : OpS K (rMulA K) mulD := by
  intro tb w h x y vx vy d Q r rx ry e q
  unfold mulD at e
  split at e
  · split at e
    · rename_i hz
      cases e
      exact .inl ⟨_, _, rx.int, ry.int, hz, q.now r (.int _)⟩
    · cases e
  · split at e
    · rename_i hz
      cases e
      obtain ⟨a, us, e1, t1, r1⟩ := rx.tup
      exact .inr (.inl ⟨a, _, us, e1, ry.int, t1.sq, fun z => hz.1 ((nil_iff r1).mp z), hz.2.1, hz.2.2.1, by rw [← r1.length]; exact hz.2.2.2, fun p hp => q.tup r (r1.rep _) hp⟩)
    · cases e
  · split at e
    · rename_i hz
      cases e
      obtain ⟨a, us, e1, t1, r1⟩ := rx.lst
      exact .inr (.inr ⟨a, _, us, e1, ry.int, t1, hz.1, hz.2.1, by rw [← r1.length]; exact hz.2.2, fun p hp => q.lst r (r1.rep _) hp⟩)
    · cases e
  · cases e
theorem fdivS (K : PySem.W.Frag) : OpS K (rI CDiv fun i j => .int (i / j)) fdivD := by
  intro tb w h x y vx vy d Q r rx ry e q
  unfold fdivD at e
  split at e
  · split at e
    · rename_i hz
      cases e
      exact ⟨_, _, rx.int, ry.int, hz, q.now r (.int _)⟩
    · cases e
  · cases e
theorem modS (K : PySem.W.Frag) : OpS K (rI (fun _ j => 0 < j) fun i j => .int (i % j)) modD := by
  intro tb w h x y vx vy d Q r rx ry e q
  unfold modD at e
  split at e
  · split at e
    · rename_i hz
      cases e
      exact ⟨_, _, rx.int, ry.int, hz, q.now r (.int _)⟩
    · cases e
  · cases e
theorem powS (K : PySem.W.Frag) : OpS K (rI CPow fun i j => .int (i ^ j.toNat)) powD := by
  intro tb w h x y vx vy d Q r rx ry e q
  unfold powD at e
  split at e
  · split at e
    · rename_i hz
      cases e
      exact ⟨_, _, rx.int, ry.int, hz, q.now r (.int _)⟩
    · cases e
  · cases e
end

/-! ### comparisons -/
mutual
def toP : D → Option PyData
  | .non => some .none
  | .bl b => some (.bool b)
  | .int i => some (.int i)
  | .str s => some (.str s)
  | .tup xs => (toPs xs).map .tuple
  | .lst xs => (toPs xs).map .list
  | _ => none
def toPs : List D → Option (List PyData)
  | [] => some []
  | d :: r => (toP d).bind fun p => (toPs r).map (p :: ·)
end
section
variable {K : PySem.W.Frag} {w : Wd}
mutual
theorem dp_of : ∀ {d : D} {v : V} {p : PyData}, RD K w d v → toP d = some p → Dp K w.H v p
  | _, _, _, .non, e => by simp [toP] at e; subst e; exact .non
  | _, _, _, .bl b, e => by simp [toP] at e; subst e; exact .bl b
  | _, _, _, .int b, e => by simp [toP] at e; subst e; exact .int b
  | _, _, _, .str b, e => by simp [toP] at e; subst e; exact .str b
  | _, _, _, .tup t r, e => by
    rw [toP, Option.map_eq_some_iff] at e
    obtain ⟨ps, e1, rfl⟩ := e
    exact .tup t.sq (dps_of r e1)
  | _, _, _, .lst t h r, e => by
    rw [toP, Option.map_eq_some_iff] at e
    obtain ⟨ps, e1, rfl⟩ := e
    exact .lst (SqL.of h) (dps_of r e1)
  | _, _, _, .scr t, e => by simp [toP] at e
  | _, _, _, .dctK _ _ _ _ _, e => by simp [toP] at e
  | _, _, _, .ref _, e => by simp [toP] at e
theorem dps_of : ∀ {d : List D} {v : List V} {p : List PyData}, RDs K w d v → toPs d = some p → DpAll K w.H v p
  | _, _, _, .nil, e => by simp [toPs] at e; subst e; exact .nil
  | _, _, _, .cons a r, e => by
    rw [toPs, Option.bind_eq_some_iff] at e
    obtain ⟨p, e1, e2⟩ := e
    rw [Option.map_eq_some_iff] at e2
    obtain ⟨ps, e3, rfl⟩ := e2
    exact .cons (dp_of a e1) (dps_of r e3)
end
theorem dpB_of {d : D} {v : V} {p : PyData} (q : RO K w d v) (e : toP d = some p) : Dp K w.H v p := by
  rcases q with q | ⟨xs, a, vs, e1, e2, h1, h2⟩ | ⟨ks, vs, a, kk, us, e1, e2, h1, h2, h3, h4⟩
  · exact dp_of q e
  · subst e1 e2
    rw [toP, Option.map_eq_some_iff] at e
    obtain ⟨ps, e1, rfl⟩ := e
    exact .lst (SqL.of h1) (dps_of h2 e1)
  · subst e1
    simp [toP] at e
end
/-- == of data -/
def eqB (x y : D) : Option Bool := match x, y with
  | .int i, .int j => some (i == j)
  | .str i, .str j => some (i == j)
  | .bl i, .bl j => some (i == j)
  | .non, .non => some true
  | x, y => match toP x, toP y with
    | some p, some q => if SeqAt.shaped p && SeqAt.shaped q then some (PyData.eqv p q) else none
    | _, _ => none
def eqD (x y : D) : Option D := (eqB x y).map .bl
def neD (x y : D) : Option D := (eqB x y).map fun b => .bl !b
def ltD : D → D → Option D
  | .int i, .int j => some (.bl (decide (i < j)))
  | .tup xs, .tup ys => match intsD xs, intsD ys with
    | some ns, some ms => some (.bl (HT.lexLt ns ms))
    | _, _ => none
  | _, _ => none
def leD : D → D → Option D
  | .int i, .int j => some (.bl (decide (i ≤ j)))
  | _, _ => none
def gtD : D → D → Option D
  | .int i, .int j => some (.bl (decide (j < i)))
  | _, _ => none
def geD : D → D → Option D
  | .int i, .int j => some (.bl (decide (j ≤ i)))
  | _, _ => none
def isNonD : D → Bool
  | .non => true
  | _ => false
def isD : D → D → Option D
  | x, .non => some (.bl (isNonD x))
  | .bl a, .bl b => some (.bl (a == b))
  | _, _ => none
def isntD : D → D → Option D
  | x, .non => some (.bl (!isNonD x))
  | .bl a, .bl b => some (.bl (!(a == b)))
  | _, _ => none
/-- the items of a sequence -/
def itemsD : D → Option (List D)
  | .tup xs => some xs
  | .lst xs => some xs
  | .scr ns => some (ns.map .int)
  | _ => none
def hasKey (ks : List D) (k : Key) : Bool := match keysD ks with
  | some kk => kk.any fun j => decide (j = k)
  | none => false
def inB (x y : D) : Option Bool := match y with
  | .dct ks _ => (keyD x).map (hasKey ks)
  | .str t => match x with
    | .str s => some (!(Builtin.Str.occurrences t s 0 t.length 1).isEmpty)
    | _ => none
  | y => match x, itemsD y with
    | .int i, some xs => match intsD xs with
      | some ns => some (ns.any fun n => n == i)
      | none => none
    | _, _ => match toP x, toP y with
      | some p, some (.list ps) => if SeqAt.shaped p && SeqAt.shaped (.list ps) then some (ps.any fun z => PyData.eqv z p) else none
      | _, _ => none
def inD (x y : D) : Option D := (inB x y).map .bl
def notinD (x y : D) : Option D := (inB x y).map fun b => .bl !b

section
variable {X : Cx}
def rEqA (K : PySem.W.Frag) : R2 := fun x y H Q => rEq x y H Q ∨ rEqD K x y H Q
def rNeA (K : PySem.W.Frag) : R2 := fun x y H Q => rNe x y H Q ∨ rNeD K x y H Q
theorem op_eqA (hu : X.A.units + 64 < cLine) : OpR X (compareOp .Eq) (rEqA X.K) := op_eq.or (op_eqD hu)
theorem op_neA (hu : X.A.units + 64 < cLine) : OpR X (compareOp .NotEq) (rNeA X.K) := op_ne.or (op_neD hu)
theorem eq_cases {x y : D} {b : Bool} (e : eqB x y = some b) : (∃ i j, x = .int i ∧ y = .int j ∧ b = (i == j)) ∨ (∃ i j, x = .str i ∧ y = .str j ∧ b = (i == j)) ∨ (∃ i j, x = .bl i ∧ y = .bl j ∧ b = (i == j)) ∨ (x = .non ∧ y = .non ∧ b = true) ∨
    ∃ p q, toP x = some p ∧ toP y = some q ∧ SeqAt.shaped p = true ∧ SeqAt.shaped q = true ∧ b = PyData.eqv p q := by
  unfold eqB at e
  split at e
  · cases e; exact .inl ⟨_, _, rfl, rfl, rfl⟩
  · cases e; exact .inr (.inl ⟨_, _, rfl, rfl, rfl⟩)
  · cases e; exact .inr (.inr (.inl ⟨_, _, rfl, rfl, rfl⟩))
  · cases e; exact .inr (.inr (.inr (.inl ⟨rfl, rfl, rfl⟩)))
  · split at e
    · rename_i p q hp hq
      split at e
      · rename_i hs
        cases e
        obtain ⟨s1, s2⟩ := Bool.and_eq_true_iff.mp hs
        exact .inr (.inr (.inr (.inr ⟨p, q, hp, hq, s1, s2, rfl⟩)))
      · cases e
    · cases e
theorem eqS (K : PySem.W.Frag) : OpS K (rEqA K) eqD := by
  intro tb w h x y vx vy d Q r rx ry e q
  unfold eqD at e
  obtain ⟨b, e0, rfl⟩ := Option.map_eq_some_iff.mp e
  have q' := q.now r (.bl b)
  rcases eq_cases e0 with ⟨i, j, rfl, rfl, rfl⟩ | ⟨i, j, rfl, rfl, rfl⟩ | ⟨i, j, rfl, rfl, rfl⟩ | ⟨rfl, rfl, rfl⟩ | ⟨p, p', h1, h2, s1, s2, rfl⟩
  · rw [rx.int, ry.int]; exact .inl ⟨rfl, by rw [dec_int]; exact q'⟩
  · rw [rx.str, ry.str]; exact .inl ⟨rfl, by rw [dec_str]; exact q'⟩
  · rw [rx.bl, ry.bl]; exact .inl ⟨rfl, by rw [dec_bl]; exact q'⟩
  · rw [rx.non, ry.non]; exact .inl ⟨rfl, by simpa using q'⟩
  · exact .inr ⟨p, p', dpB_of rx h1, dpB_of ry h2, s1, s2, q'⟩
theorem neS (K : PySem.W.Frag) : OpS K (rNeA K) neD := by
  intro tb w h x y vx vy d Q r rx ry e q
  unfold neD at e
  obtain ⟨b, e0, rfl⟩ := Option.map_eq_some_iff.mp e
  have q' := q.now r (.bl (!b))
  rcases eq_cases e0 with ⟨i, j, rfl, rfl, rfl⟩ | ⟨i, j, rfl, rfl, rfl⟩ | ⟨i, j, rfl, rfl, rfl⟩ | ⟨rfl, rfl, rfl⟩ | ⟨p, p', h1, h2, s1, s2, rfl⟩
  · rw [rx.int, ry.int]; exact .inl ⟨rfl, by rw [dec_int]; exact q'⟩
  · rw [rx.str, ry.str]; exact .inl ⟨rfl, by rw [dec_str]; exact q'⟩
  · rw [rx.bl, ry.bl]; exact .inl ⟨rfl, by rw [dec_bl]; exact q'⟩
  · rw [rx.non, ry.non]; exact .inl ⟨rfl, by simpa using q'⟩
  · exact .inr ⟨p, p', dpB_of rx h1, dpB_of ry h2, s1, s2, q'⟩
def rLtA (K : PySem.W.Frag) : R2 := fun x y H Q => rI0 (fun i j => .bl (decide (i < j))) x y H Q ∨ rLtT K x y H Q
theorem op_ltA (hu : X.A.units < cLine) : OpR X (compareOp .Lt) (rLtA X.K) := op_lt.or (op_ltT hu)
theorem ltS (K : PySem.W.Frag) : OpS K (rLtA K) ltD := by
  intro tb w h x y vx vy d Q r rx ry e q
  unfold ltD at e
  split at e
  · cases e
    exact .inl ⟨_, _, rx.int, ry.int, q.now r (.bl _)⟩
  · split at e
    · rename_i ns ms h1 h2
      cases e
      have e1 := intsD_eq h1
      have e2 := intsD_eq h2
      subst e1 e2
      obtain ⟨a, us, e1, t1, r1⟩ := rx.tup
      obtain ⟨b, vs, e2, t2, r2⟩ := ry.tup
      have q1 := r1.ints
      have q2 := r2.ints
      subst q1 q2
      exact .inr ⟨a, b, ns, ms, e1, e2, t1.sq, t2.sq, q.now r (.bl _)⟩
    · cases e
  · cases e
theorem leS (K : PySem.W.Frag) : OpS K (rI0 fun i j => .bl (decide (i ≤ j))) leD := by
  intro tb w h x y vx vy d Q r rx ry e q
  unfold leD at e
  split at e
  · cases e
    exact ⟨_, _, rx.int, ry.int, q.now r (.bl _)⟩
  · cases e
theorem gtS (K : PySem.W.Frag) : OpS K (rI0 fun i j => .bl (decide (j < i))) gtD := by
  intro tb w h x y vx vy d Q r rx ry e q
  unfold gtD at e
  split at e
  · cases e
    exact ⟨_, _, rx.int, ry.int, q.now r (.bl _)⟩
  · cases e
theorem geS (K : PySem.W.Frag) : OpS K (rI0 fun i j => .bl (decide (j ≤ i))) geD := by
  intro tb w h x y vx vy d Q r rx ry e q
  unfold geD at e
  split at e
  · cases e
    exact ⟨_, _, rx.int, ry.int, q.now r (.bl _)⟩
  · cases e
theorem rb_non {K : PySem.W.Frag} {w : Wd} {x : D} {v : V} (r : RO K w x v) : decide (v = .non) = isNonD x := by
  rcases r with r | ⟨xs, a, vs, e1, e2, h1, h2⟩ | ⟨ks, vs, a, kk, us, e1, e2, h1, h2, h3, h4⟩
  · cases r <;> simp [isNonD]
  · subst e1 e2; simp [isNonD]
  · subst e1 e2; simp [isNonD]
def rIsA : R2 := fun x y H Q => (y = .non ∧ Q (.bl (decide (x = .non))) H) ∨ rIsB x y H Q
def rIsntA : R2 := fun x y H Q => (y = .non ∧ Q (.bl (!decide (x = .non))) H) ∨ rNotB x y H Q
theorem op_isA : OpR X (compareOp .Is) rIsA := op_isN.or op_isBl
theorem op_isntA : OpR X (compareOp .IsNot) rIsntA := op_notN.or op_notBl
theorem isS (K : PySem.W.Frag) : OpS K rIsA isD := by
  intro tb w h x y vx vy d Q r rx ry e q
  unfold isD at e
  split at e
  · cases e
    refine .inl ⟨ry.non, ?_⟩
    rw [rb_non rx]
    exact Fin1.now q r (RD.bl _)
  · rename_i a b
    cases e
    refine .inr ⟨_, _, rx.bl, ry.bl, ?_⟩
    have e : decide (a = b) = (a == b) := by cases a <;> cases b <;> rfl
    rw [e]; exact Fin1.now q r (RD.bl _)
  · cases e
theorem isntS (K : PySem.W.Frag) : OpS K rIsntA isntD := by
  intro tb w h x y vx vy d Q r rx ry e q
  unfold isntD at e
  split at e
  · cases e
    refine .inl ⟨ry.non, ?_⟩
    rw [rb_non rx]
    exact Fin1.now q r (RD.bl _)
  · rename_i a b
    cases e
    refine .inr ⟨_, _, rx.bl, ry.bl, ?_⟩
    have e : decide (a = b) = (a == b) := by cases a <;> cases b <;> rfl
    rw [e]; exact Fin1.now q r (RD.bl _)
  · cases e
end
end PI

set_option Elab.async false
set_option linter.all false
set_option maxRecDepth 100000
set_option maxHeartbeats 4000000
set_option autoImplicit false
namespace PI
open PySem PySem.Spec PyProof.Rows L2

/-! ### items, keys -/
section
variable {K : PySem.W.Frag} {w : Wd}
theorem RDs.atI {ds : List D} {vs : List V} {i : Int} {d : D} (r : RDs K w ds vs) (e : L2.atI ds i = some d) : ∃ v, L2.atI vs i = some v ∧ RD K w d v := by
  unfold L2.atI at e ⊢
  rw [r.length] at e
  obtain ⟨j, e1, e2⟩ := Option.bind_eq_some_iff.mp e
  obtain ⟨v, e3, rv⟩ := r.get e2
  exact ⟨v, by rw [e1]; exact e3, rv⟩
theorem atI_map {α β : Type} (f : α → β) (xs : List α) (i : Int) : L2.atI (xs.map f) i = (L2.atI xs i).map f := by
  unfold L2.atI
  rw [List.length_map]
  cases ixN xs.length i with
  | none => rfl
  | some j => simp
/-- the cut of a list -/
def cutD (xs : List D) (lo hi : Option Int) : List D := (xs.drop (HT.sIx xs.length 0 lo)).take (HT.sIx xs.length xs.length hi - HT.sIx xs.length 0 lo)
theorem RDs.cut {ds : List D} {vs : List V} (r : RDs K w ds vs) (lo hi : Option Int) : RDs K w (cutD ds lo hi) (cutV vs lo hi) := by
  unfold cutD cutV
  rw [r.length]
  exact (r.drop _).take _
def getK : List Key → List D → Key → Option D
  | k :: ks, v :: vs, q => if k = q then some v else getK ks vs q
  | _, _, _ => none
theorem getK_val : ∀ {kk : List Key} {ds : List D} {us : List V} {k : Key} {d : D}, RDs K w ds us → getK kk ds k = some d → ∃ u, valV (kk.zip us) k = some u ∧ RD K w d u
  | [], _, _, _, _, _, e => by simp [getK] at e
  | k :: ks, _, _, q, d, .nil, e => by simp [getK] at e
  | k :: ks, _, _, q, d, .cons a r, e => by
    unfold getK at e
    by_cases h : k = q
    · rw [if_pos h] at e
      cases e
      exact ⟨_, by rw [List.zip_cons_cons]; exact valV_pos h, a⟩
    · rw [if_neg h] at e
      obtain ⟨u, h1, h2⟩ := getK_val r e
      exact ⟨u, by rw [List.zip_cons_cons, valV_neg h]; exact h1, h2⟩
theorem keyD_v {d : D} {k : Key} {v : V} (e : keyD d = some k) (r : RO K w d v) : v = kV k := by
  cases d with
  | int i => simp [keyD] at e; subst e; exact r.int
  | str s => simp [keyD] at e; subst e; exact r.str
  | _ => simp [keyD] at e
theorem any_key (kk : List Key) (us : List V) (k : Key) (h : kk.length = us.length) : (valV (kk.zip us) k).isSome = kk.any fun j => decide (j = k) := by
  rw [← valV_any]
  induction kk generalizing us with
  | nil => rfl
  | cons j kk ih =>
    cases us with
    | nil => simp at h
    | cons u us =>
      rw [List.zip_cons_cons, List.any_cons, List.any_cons]
      rw [ih us (by simpa using h)]
end

def idxD : D → D → Option D
  | .tup xs, .int i => L2.atI xs i
  | .lst xs, .int i => L2.atI xs i
  | .scr ns, .int i => (L2.atI ns i).map .int
  | .str z, .int i => if z.length ≤ sizeLine then (L2.atI z.cps.toList i).map fun c => .str ⟨#[c]⟩ else none
  | .dct ks vs, k => match keysD ks, keyD k with
    | some kk, some q => getK kk vs q
    | _, _ => none
  | _, _ => none
theorem idxS (K : PySem.W.Frag) {tb : List Addr} {w : Wd} {h : PH} {x y : D} {vx vy : V} {d : D} {Q : VK} (r : Rel K tb w h) (rx : RO K w x vx) (ry : RO K w y vy) (e : idxD x y = some d) (q : Fin1 K tb w h d Q) :
    rIx K vx vy w.H Q ∨ ∃ a v, vx = .ref a ∧ DGet w.H a vy (some v) ∧ Q v w.H := by
  unfold idxD at e
  split at e
  · obtain ⟨a, us, e1, t1, r1⟩ := rx.tup
    obtain ⟨v, h1, h2⟩ := r1.atI e
    exact .inl (.inr (.inl ⟨a, us, _, v, e1, ry.int, t1.sq, h1, q.now r h2⟩))
  · obtain ⟨a, us, e1, t1, r1⟩ := rx.lst
    obtain ⟨v, h1, h2⟩ := r1.atI e
    exact .inl (.inl ⟨a, us, _, v, e1, ry.int, SqL.of t1, h1, q.now r h2⟩)
  · obtain ⟨a, e1, t1⟩ := rx.scr
    obtain ⟨i, h1, rfl⟩ := Option.map_eq_some_iff.mp e
    exact .inl (.inl ⟨a, _, _, .int i, e1, ry.int, t1.sq, by rw [atI_map, h1]; rfl, q.now r (.int i)⟩)
  · split at e
    · rename_i hz
      obtain ⟨c, h1, rfl⟩ := Option.map_eq_some_iff.mp e
      exact .inl (.inr (.inr ⟨_, _, c, rx.str, ry.int, hz, h1, q.now r (.str _)⟩))
    · cases e
  · split at e
    · rename_i kk k hk hq
      obtain ⟨a, kk', us, e1, t1, h1, h2, h3⟩ := rx.dct
      rw [hk] at h1; cases h1
      obtain ⟨u, g1, g2⟩ := getK_val h3 e
      refine .inr ⟨a, u, e1, ?_, q.now r g2⟩
      rw [keyD_v hq ry, ← g1]
      exact DGet.k t1
    · cases e
  · cases e

/-! ### in -/
theorem toPs_ints (ns : List Int) : toPs (ns.map .int) = some (ns.map PyData.int) := by
  induction ns with
  | nil => rfl
  | cons n ns ih => simp [toPs, toP, ih]
section
variable {X : Cx}
def rInA (K : PySem.W.Frag) : R2 := fun x y H Q => rIn K false x y H Q ∨ rInD K x y H Q ∨ (∃ i j, x = .str i ∧ y = .str j ∧ Q (.bl (!(Builtin.Str.occurrences j i 0 j.length 1).isEmpty)) H)
def rNotInA (K : PySem.W.Frag) : R2 := fun x y H Q => rIn K true x y H Q ∨ rNotInD K x y H Q ∨ (∃ i j, x = .str i ∧ y = .str j ∧ Q (.bl (!(!(Builtin.Str.occurrences j i 0 j.length 1).isEmpty))) H)
theorem op_inA (hu : X.A.units + 65 < cLine) : OpR X (compareOp .In) (rInA X.K) := op_in_seq.or ((op_inD hu).or op_in_str)
theorem op_notInA (hu : X.A.units + 65 < cLine) : OpR X (compareOp .NotIn) (rNotInA X.K) := op_notIn_seq.or ((op_notInD hu).or op_notin_str)
theorem inV_ints (i : Int) (ns : List Int) : inV (.int i) (ns.map V.int) = ns.any fun n => n == i := by
  unfold inV
  rw [List.any_map]
  congr 1
theorem flat_ints (ns : List Int) : (ns.map V.int).all flatV = true := by
  rw [List.all_eq_true]
  intro x hx
  obtain ⟨n, _, rfl⟩ := List.mem_map.mp hx
  rfl
/-- what is known of «x in y» -/
theorem in_cases {K : PySem.W.Frag} {w : Wd} {x y : D} {vx vy : V} {b : Bool} (rx : RO K w x vx) (ry : RO K w y vy) (e : inB x y = some b) :
    (∃ a o, vy = .ref a ∧ DGet w.H a vx o ∧ o.isSome = b) ∨ (∃ p xs, vy = .ref p ∧ (SqL K w.H p xs ∨ SqT K w.H p xs) ∧ flatV vx = true ∧ xs.all flatV = true ∧ inV vx xs = b) ∨
    (∃ d ds, Dp K w.H vx d ∧ Dp K w.H vy (.list ds) ∧ SeqAt.shaped d = true ∧ SeqAt.shaped (.list ds) = true ∧ (ds.any fun z => PyData.eqv z d) = b) ∨
    (∃ i j, vx = .str i ∧ vy = .str j ∧ (!(Builtin.Str.occurrences j i 0 j.length 1).isEmpty) = b) := by
  unfold inB at e
  split at e
  · rename_i ks vs
    obtain ⟨k, hk, rfl⟩ := Option.map_eq_some_iff.mp e
    obtain ⟨a, kk, us, e1, t1, h1, h2, h3⟩ := ry.dct
    refine .inl ⟨a, _, e1, by rw [keyD_v hk rx]; exact DGet.k t1, ?_⟩
    rw [any_key _ _ _ h2]
    unfold hasKey
    rw [h1]
  · split at e
    · cases e
      exact .inr (.inr (.inr ⟨_, _, rx.str, ry.str, rfl⟩))
    · cases e
  · split at e
    · rename_i i xs hx
      split at e
      · rename_i ns hn
        cases e
        have e1 := intsD_eq hn
        subst e1
        have key : ∃ p, vy = .ref p ∧ (SqL K w.H p (ns.map V.int) ∨ SqT K w.H p (ns.map V.int)) := by
          cases y with
          | tup ys =>
            simp only [itemsD, Option.some.injEq] at hx
            subst hx
            obtain ⟨a, us, e1, t1, r1⟩ := ry.tup
            have := r1.ints
            subst this
            exact ⟨a, e1, .inr t1.sq⟩
          | lst ys =>
            simp only [itemsD, Option.some.injEq] at hx
            subst hx
            obtain ⟨a, us, e1, t1, r1⟩ := ry.lst
            have := r1.ints
            subst this
            exact ⟨a, e1, .inl (SqL.of t1)⟩
          | scr ms =>
            simp only [itemsD, Option.some.injEq] at hx
            obtain ⟨a, e1, t1⟩ := ry.scr
            have e2 : ms = ns := by
              have := congrArg intsD hx
              rw [intsD_map, intsD_map] at this
              exact Option.some.inj this
            subst e2
            exact ⟨a, e1, .inl t1.sq⟩
          | _ => simp [itemsD] at hx
        obtain ⟨p, e1, e2⟩ := key
        refine .inr (.inl ⟨p, _, e1, e2, ?_, flat_ints ns, ?_⟩)
        · rw [rx.int]; rfl
        · rw [rx.int]; exact inV_ints _ ns
      · cases e
    · split at e
      · rename_i p ps hp hq
        split at e
        · rename_i hs
          cases e
          obtain ⟨s1, s2⟩ := Bool.and_eq_true_iff.mp hs
          exact .inr (.inr (.inl ⟨p, ps, dpB_of rx hp, dpB_of ry hq, s1, s2, rfl⟩))
        · cases e
      · cases e
theorem inS (K : PySem.W.Frag) {tb : List Addr} {w : Wd} {h : PH} {x y : D} {vx vy : V} {d : D} {Q : VK} (r : Rel K tb w h) (rx : RO K w x vx) (ry : RO K w y vy) (e : inD x y = some d) (q : Fin1 K tb w h d Q) :
    rInA K vx vy w.H Q ∨ ∃ a o, vy = .ref a ∧ DGet w.H a vx o ∧ Q (.bl o.isSome) w.H := by
  obtain ⟨b, e0, rfl⟩ := Option.map_eq_some_iff.mp (show (inB x y).map D.bl = some d from e)
  have q' := q.now r (.bl b)
  rcases in_cases rx ry e0 with ⟨a, o, h1, h2, rfl⟩ | ⟨p, xs, h1, h2, h3, h4, rfl⟩ | ⟨p, ds, h1, h2, h3, h4, rfl⟩ | ⟨i, j, h1, h2, rfl⟩
  · exact .inr ⟨a, o, h1, h2, q'⟩
  · exact .inl (.inl ⟨p, xs, h1, h2, h3, h4, q'⟩)
  · exact .inl (.inr (.inl ⟨p, ds, h1, h2, h3, h4, q'⟩))
  · exact .inl (.inr (.inr ⟨i, j, h1, h2, q'⟩))
theorem notinS (K : PySem.W.Frag) {tb : List Addr} {w : Wd} {h : PH} {x y : D} {vx vy : V} {d : D} {Q : VK} (r : Rel K tb w h) (rx : RO K w x vx) (ry : RO K w y vy) (e : notinD x y = some d) (q : Fin1 K tb w h d Q) :
    rNotInA K vx vy w.H Q ∨ ∃ a o, vy = .ref a ∧ DGet w.H a vx o ∧ Q (.bl (!o.isSome)) w.H := by
  obtain ⟨b, e0, rfl⟩ := Option.map_eq_some_iff.mp (show (inB x y).map (fun b => D.bl !b) = some d from e)
  have q' := q.now r (.bl (!b))
  rcases in_cases rx ry e0 with ⟨a, o, h1, h2, rfl⟩ | ⟨p, xs, h1, h2, h3, h4, rfl⟩ | ⟨p, ds, h1, h2, h3, h4, rfl⟩ | ⟨i, j, h1, h2, rfl⟩
  · exact .inr ⟨a, o, h1, h2, q'⟩
  · exact .inl (.inl ⟨p, xs, h1, h2, h3, h4, q'⟩)
  · exact .inl (.inr (.inl ⟨p, ds, h1, h2, h3, h4, q'⟩))
  · exact .inl (.inr (.inr ⟨i, j, h1, h2, q'⟩))
end

/-! ### truth, slices -/
def truD : D → Option Bool
  | .non => some false
  | .bl b => some b
  | .int i => some (i != 0)
  | .str s => if s.length ≤ sizeLine then some ((s.length : Int) != 0) else none
  | .tup xs => some (!xs.isEmpty)
  | .lst xs => some (!xs.isEmpty)
  | .scr xs => some (!xs.isEmpty)
  | .dct ks _ => some (!ks.isEmpty)
  | _ => none
theorem emp_eq {K : PySem.W.Frag} {w : Wd} {ds : List D} {vs : List V} (r : RDs K w ds vs) : ds.isEmpty = vs.isEmpty := by cases r <;> rfl
theorem keysD_len : ∀ {ks : List D} {kk : List Key}, keysD ks = some kk → ks.length = kk.length
  | [], kk, e => by simp [keysD] at e; subst e; rfl
  | d :: r, kk, e => by
    rw [keysD, Option.bind_eq_some_iff] at e
    obtain ⟨k, _, e2⟩ := e
    obtain ⟨q, h1, rfl⟩ := Option.map_eq_some_iff.mp e2
    simp [keysD_len h1]
theorem truS {K : PySem.W.Frag} {w : Wd} {x : D} {vx : V} {b : Bool} (rx : RO K w x vx) (e : truD x = some b) : TruV K vx w.H b := by
  unfold truD at e
  split at e
  · cases e; rw [rx.non]; rfl
  · cases e; rw [rx.bl]; rfl
  · cases e; rw [rx.int]; rfl
  · split at e
    · rename_i hz; cases e; rw [rx.str]; exact ⟨hz, rfl⟩
    · cases e
  · cases e
    obtain ⟨a, us, e1, t1, r1⟩ := rx.tup
    rw [e1]
    exact .inr (.inl ⟨us, t1.sq, by rw [emp_eq r1]⟩)
  · cases e
    obtain ⟨a, us, e1, t1, r1⟩ := rx.lst
    rw [e1]
    exact .inl ⟨us, SqL.of t1, by rw [emp_eq r1]⟩
  · cases e
    obtain ⟨a, e1, t1⟩ := rx.scr
    rw [e1]
    exact .inl ⟨_, t1.sq, by simp⟩
  · rename_i ks vs
    cases e
    obtain ⟨a, kk, us, e1, t1, h1, h2, h3⟩ := rx.dct
    rw [e1]
    refine .inr (.inr ⟨_, t1, ?_⟩)
    have l1 := keysD_len h1
    cases ks with
    | nil =>
      cases kk with
      | nil => rfl
      | cons _ _ => simp at l1
    | cons _ _ =>
      cases kk with
      | nil => simp at l1
      | cons _ _ =>
        cases us with
        | nil => simp at h2
        | cons _ _ => rfl
  · cases e
def sliceD (x : D) (lo hi : Option Int) : Option D := match x with
  | .tup xs => some (.tup (cutD xs lo hi))
  | .lst xs => some (.lst (cutD xs lo hi))
  | .scr ns => some (.lst (cutD (ns.map .int) lo hi))
  | _ => none
def rSlB (K : PySem.W.Frag) : V → Option Int → Option Int → Hp → VK → Prop := fun x lo hi H Q => rSlA K x lo hi H Q ∨ rSlL K x lo hi H Q
theorem sl_B {X : Cx} : SlR X (rSlB X.K) := sl_tupA.or sl_list
theorem cut_all {xs : List D} {lo hi : Option Int} (h : HT.sIx xs.length 0 lo = 0 ∧ HT.sIx xs.length xs.length hi = xs.length) : cutD xs lo hi = xs := by
  unfold cutD
  rw [h.1, h.2]
  simp
theorem sliceS (K : PySem.W.Frag) {tb : List Addr} {w : Wd} {h : PH} {x : D} {lo hi : Option Int} {vx : V} {d : D} {Q : VK} (r : Rel K tb w h) (rx : RO K w x vx) (e : sliceD x lo hi = some d) (q : Fin1 K tb w h d Q) : rSlB K vx lo hi w.H Q := by
  unfold sliceD at e
  split at e
  · cases e
    obtain ⟨a, us, e1, t1, r1⟩ := rx.tup
    refine .inl ⟨a, us, e1, t1.sq, fun hw => ?_, fun hw p hp => q.tup r (r1.cut lo hi) hp⟩
    rw [← r1.length] at hw
    rw [cut_all hw] at q
    exact q.now r (.tup t1 r1)
  · cases e
    obtain ⟨a, us, e1, t1, r1⟩ := rx.lst
    exact .inr ⟨a, us, e1, SqL.of t1, fun p hp => q.lst r (r1.cut lo hi) hp⟩
  · cases e
    obtain ⟨a, e1, t1⟩ := rx.scr
    exact .inr ⟨a, _, e1, t1.sq, fun p hp => q.lst r ((RDs.ofInts _).cut lo hi) hp⟩
  · cases e

/-! ### built-ins by values -/
inductive B where
  | len | abs | int | tuple | min | max | sum
def minL : Int → List Int → Int
  | m, [] => m
  | m, n :: r => minL (if n < m then n else m) r
def maxL : Int → List Int → Int
  | m, [] => m
  | m, n :: r => maxL (if m < n then n else m) r
theorem minL_spec : ∀ (r : List Int) (m : Int), (minL m r = m ∨ minL m r ∈ r) ∧ minL m r ≤ m ∧ ∀ y ∈ r, minL m r ≤ y
  | [], m => ⟨.inl rfl, Int.le_refl _, fun _ h => by cases h⟩
  | n :: r, m => by
    obtain ⟨h1, h2, h3⟩ := minL_spec r (if n < m then n else m)
    show (minL (if n < m then n else m) r = m ∨ minL (if n < m then n else m) r ∈ n :: r) ∧ _
    refine ⟨?_, ?_, fun y hy => ?_⟩
    · rcases h1 with h1 | h1
      · by_cases hc : n < m
        · rw [if_pos hc] at h1 ⊢; exact .inr (by rw [h1]; simp)
        · rw [if_neg hc] at h1 ⊢; exact .inl h1
      · exact .inr (List.mem_cons_of_mem _ h1)
    · show minL (if n < m then n else m) r ≤ m
      have : (if n < m then n else m) ≤ m := by split <;> omega
      omega
    · show minL (if n < m then n else m) r ≤ y
      rcases List.mem_cons.mp hy with e | hy
      · have : (if n < m then n else m) ≤ n := by split <;> omega
        omega
      · exact h3 y hy
theorem maxL_spec : ∀ (r : List Int) (m : Int), (maxL m r = m ∨ maxL m r ∈ r) ∧ m ≤ maxL m r ∧ ∀ y ∈ r, y ≤ maxL m r
  | [], m => ⟨.inl rfl, Int.le_refl _, fun _ h => by cases h⟩
  | n :: r, m => by
    obtain ⟨h1, h2, h3⟩ := maxL_spec r (if m < n then n else m)
    show (maxL (if m < n then n else m) r = m ∨ maxL (if m < n then n else m) r ∈ n :: r) ∧ _
    refine ⟨?_, ?_, fun y hy => ?_⟩
    · rcases h1 with h1 | h1
      · by_cases hc : m < n
        · rw [if_pos hc] at h1 ⊢; exact .inr (by rw [h1]; simp)
        · rw [if_neg hc] at h1 ⊢; exact .inl h1
      · exact .inr (List.mem_cons_of_mem _ h1)
    · show m ≤ maxL (if m < n then n else m) r
      have : m ≤ (if m < n then n else m) := by split <;> omega
      omega
    · show y ≤ maxL (if m < n then n else m) r
      rcases List.mem_cons.mp hy with e | hy
      · have : n ≤ (if m < n then n else m) := by split <;> omega
        omega
      · exact h3 y hy
def lenD : D → Option D
  | .str s => if s.length ≤ sizeLine then some (.int s.length) else none
  | .tup xs => some (.int xs.length)
  | .lst xs => some (.int xs.length)
  | .scr xs => some (.int xs.length)
  | .dct ks _ => some (.int ks.length)
  | _ => none
def sumL : List Int → Int
  | [] => 0
  | n :: r => n + sumL r
def lstInts : D → Option (List Int)
  | .lst xs => intsD xs
  | .scr ns => some ns
  | _ => none
def biD : B → List D → Option D
  | .len, [x] => lenD x
  | .abs, [.int i] => some (.int (if i < 0 then -i else i))
  | .int, [.int i] => some (.int i)
  | .int, [.bl k] => some (.int (if k then 1 else 0))
  | .tuple, [.tup xs] => some (.tup xs)
  | .tuple, [.lst xs] => some (.tup xs)
  | .tuple, [.scr ns] => some (.tup (ns.map .int))
  | .min, [.int i, .int j] => some (.int (if j < i then j else i))
  | .max, [.int i, .int j] => some (.int (if j > i then j else i))
  | .min, [.int i, .int j, .int k] => some (.int (if k < (if j < i then j else i) then k else (if j < i then j else i)))
  | .max, [.int i, .int j, .int k] => some (.int (if (if i < j then j else i) < k then k else (if i < j then j else i)))
  | .min, [x] => match lstInts x with
    | some (n :: r) => some (.int (minL n r))
    | _ => none
  | .max, [x] => match lstInts x with
    | some (n :: r) => some (.int (maxL n r))
    | _ => none
  | .sum, [x] => (lstInts x).map fun ns => .int ns.sum
  | _, _ => none
inductive ROs (K : PySem.W.Frag) (w : Wd) : List D → List V → Prop
  | nil : ROs K w [] []
  | cons {d : D} {v : V} {ds : List D} {vs : List V} : RO K w d v → ROs K w ds vs → ROs K w (d :: ds) (v :: vs)
theorem ROs.one {K : PySem.W.Frag} {w : Wd} {d : D} {vs : List V} (r : ROs K w [d] vs) : ∃ v, vs = [v] ∧ RO K w d v := by
  cases r with
  | cons a r => cases r; exact ⟨_, rfl, a⟩
theorem ROs.two {K : PySem.W.Frag} {w : Wd} {d e : D} {vs : List V} (r : ROs K w [d, e] vs) : ∃ v u, vs = [v, u] ∧ RO K w d v ∧ RO K w e u := by
  cases r with
  | cons a r =>
    obtain ⟨u, rfl, b⟩ := r.one
    exact ⟨_, _, rfl, a, b⟩
theorem ROs.three {K : PySem.W.Frag} {w : Wd} {d e f : D} {vs : List V} (r : ROs K w [d, e, f] vs) : ∃ v u t, vs = [v, u, t] ∧ RO K w d v ∧ RO K w e u ∧ RO K w f t := by
  cases r with
  | cons a r =>
    obtain ⟨u, t, rfl, b, c⟩ := r.two
    exact ⟨_, _, _, rfl, a, b, c⟩
theorem RO.ints {K : PySem.W.Frag} {w : Wd} {d : D} {v : V} {ns : List Int} (r : RO K w d v) (e : lstInts d = some ns) : ∃ a, v = .ref a ∧ SqL K w.H a (ns.map V.int) := by
  cases d with
  | lst xs =>
    obtain ⟨a, us, e1, t1, r1⟩ := r.lst
    have e2 := intsD_eq (show intsD xs = some ns from e)
    subst e2
    have := r1.ints
    subst this
    exact ⟨a, e1, SqL.of t1⟩
  | scr ms =>
    obtain ⟨a, e1, t1⟩ := r.scr
    have e2 : ms = ns := Option.some.inj e
    subst e2
    exact ⟨a, e1, t1.sq⟩
  | _ => simp [lstInts] at e

/-- the value called, what it asks -/
def B.val : B → Value
  | .len => .builtin "len"
  | .abs => .builtin "abs"
  | .int => .type "int"
  | .tuple => .type "tuple"
  | .min => .builtin "min"
  | .max => .builtin "max"
  | .sum => .builtin "sum"
def B.name : B → Str
  | .len => "len"
  | .abs => "abs"
  | .int => "int"
  | .tuple => "tuple"
  | .min => "min"
  | .max => "max"
  | .sum => "sum"
def B.r (K : PySem.W.Frag) : B → List V → Hp → VK → Prop
  | .len => fun xs H Q => (∃ x n, xs = [x] ∧ LenV K x H n ∧ Q (.int n) H) ∨ ∃ a kvs, xs = [V.ref a] ∧ H a = some (.dK kvs) ∧ Q (.int kvs.length) H
  | .abs => fun xs H Q => ∃ i, xs = [.int i] ∧ Q (.int (if i < 0 then -i else i)) H
  | .int => fun xs H Q => (∃ i, xs = [.int i] ∧ Q (.int i) H) ∨ ∃ k, xs = [.bl k] ∧ Q (.int (if k then 1 else 0)) H
  | .tuple => fun xs H Q => ∃ p ys, xs = [.ref p] ∧ ((SqL K H p ys ∧ ∀ l, H l = none → Q (.ref l) (upd H l (.tup ys))) ∨ (SqT K H p ys ∧ Q (.ref p) H))
  | .min => fun xs H Q => (∃ i j, xs = [.int i, .int j] ∧ Q (.int (if j < i then j else i)) H) ∨ rNuC3 nuMin3 xs H Q ∨ rMin K xs H Q
  | .max => fun xs H Q => (∃ i j, xs = [.int i, .int j] ∧ Q (.int (if j > i then j else i)) H) ∨ rNuC3 nuMax3 xs H Q ∨ rMax K xs H Q
  | .sum => rSum K
theorem B.call {X : Cx} (hc : X.calm = true) : ∀ b : B, CallR X b.val (b.r X.K)
  | .len => call_len.or call_lenD
  | .abs => call_abs
  | .int => call_int1
  | .tuple => call_tuple_of
  | .min => (call_min2 hc).or ((call_min3Nu hc).or (cr_min hc))
  | .max => (call_max2 hc).or ((call_max3Nu hc).or (cr_max hc))
  | .sum => cr_sum hc
theorem biS (K : PySem.W.Frag) {tb : List Addr} {w : Wd} {h : PH} {b : B} {xs : List D} {vs : List V} {d : D} {Q : VK} (r : Rel K tb w h) (rx : ROs K w xs vs) (e : biD b xs = some d) (q : Fin1 K tb w h d Q) : b.r K vs w.H Q := by
  unfold biD at e
  split at e
  · rename_i x
    obtain ⟨v, rfl, ra⟩ := rx.one
    show (∃ x n, [v] = [x] ∧ LenV K x w.H n ∧ Q (.int n) w.H) ∨ _
    unfold lenD at e
    split at e
    · split at e
      · rename_i hz
        cases e
        rw [ra.str]
        exact .inl ⟨_, _, rfl, ⟨hz, rfl⟩, q.now r (.int _)⟩
      · cases e
    · cases e
      obtain ⟨a, us, e1, t1, r1⟩ := ra.tup
      rw [e1]
      refine .inl ⟨_, us.length, rfl, .inr ⟨us, t1.sq, rfl⟩, ?_⟩
      rw [← r1.length]
      exact q.now r (.int _)
    · cases e
      obtain ⟨a, us, e1, t1, r1⟩ := ra.lst
      rw [e1]
      refine .inl ⟨_, us.length, rfl, .inl ⟨us, SqL.of t1, rfl⟩, ?_⟩
      rw [← r1.length]
      exact q.now r (.int _)
    · rename_i ns
      cases e
      obtain ⟨a, e1, t1⟩ := ra.scr
      rw [e1]
      refine .inl ⟨_, (ns.map V.int).length, rfl, .inl ⟨_, t1.sq, rfl⟩, ?_⟩
      rw [List.length_map]
      exact q.now r (.int _)
    · cases e
      obtain ⟨a, kk, us, e1, t1, h1, h2, h3⟩ := ra.dct
      rw [e1]
      refine .inr ⟨a, _, rfl, t1, ?_⟩
      have l1 := keysD_len h1
      have l2 : (kk.zip us).length = kk.length := by rw [List.length_zip]; omega
      rw [l2, ← l1]
      exact q.now r (.int _)
    · cases e
  · cases e
    obtain ⟨v, rfl, ra⟩ := rx.one
    rw [ra.int]
    exact ⟨_, rfl, q.now r (.int _)⟩
  · cases e
    obtain ⟨v, rfl, ra⟩ := rx.one
    rw [ra.int]
    exact .inl ⟨_, rfl, q.now r (.int _)⟩
  · cases e
    obtain ⟨v, rfl, ra⟩ := rx.one
    rw [ra.bl]
    exact .inr ⟨_, rfl, q.now r (.int _)⟩
  · cases e
    obtain ⟨v, rfl, ra⟩ := rx.one
    obtain ⟨a, us, e1, t1, r1⟩ := ra.tup
    rw [e1]
    exact ⟨a, us, rfl, .inr ⟨t1.sq, q.now r (.tup t1 r1)⟩⟩
  · cases e
    obtain ⟨v, rfl, ra⟩ := rx.one
    obtain ⟨a, us, e1, t1, r1⟩ := ra.lst
    rw [e1]
    exact ⟨a, us, rfl, .inl ⟨SqL.of t1, fun p hp => q.tup r r1 hp⟩⟩
  · cases e
    obtain ⟨v, rfl, ra⟩ := rx.one
    obtain ⟨a, e1, t1⟩ := ra.scr
    rw [e1]
    exact ⟨a, _, rfl, .inl ⟨t1.sq, fun p hp => q.tup r (RDs.ofInts _) hp⟩⟩
  · cases e
    obtain ⟨v, u, rfl, ra, rb⟩ := rx.two
    rw [ra.int, rb.int]
    exact .inl ⟨_, _, rfl, q.now r (.int _)⟩
  · cases e
    obtain ⟨v, u, rfl, ra, rb⟩ := rx.two
    rw [ra.int, rb.int]
    exact .inl ⟨_, _, rfl, q.now r (.int _)⟩
  · rename_i i j k
    cases e
    obtain ⟨v, u, t, rfl, ra, rb, rc⟩ := rx.three
    rw [ra.int, rb.int, rc.int]
    refine .inr (.inl ⟨_, _, _, _, rfl, ?_, q.now r (.int _)⟩)
    by_cases h1 : j < i
    · by_cases h2 : k < j <;> simp [nuMin3, nuMin2, nuLt, nuCB, h1, h2]
    · by_cases h2 : k < i <;> simp [nuMin3, nuMin2, nuLt, nuCB, h1, h2]
  · rename_i i j k
    cases e
    obtain ⟨v, u, t, rfl, ra, rb, rc⟩ := rx.three
    rw [ra.int, rb.int, rc.int]
    refine .inr (.inl ⟨_, _, _, _, rfl, ?_, q.now r (.int _)⟩)
    by_cases h1 : i < j
    · by_cases h2 : j < k <;> simp [nuMax3, nuMax2, nuLt, nuCB, h1, h2]
    · by_cases h2 : i < k <;> simp [nuMax3, nuMax2, nuLt, nuCB, h1, h2]
  · split at e
    · rename_i n l hn
      cases e
      obtain ⟨v, rfl, ra⟩ := rx.one
      obtain ⟨a, e1, t1⟩ := ra.ints hn
      rw [e1]
      refine .inr (.inr ⟨a, n :: l, rfl, t1, by simp, fun m hm hl => ?_⟩)
      obtain ⟨s1, s2, s3⟩ := minL_spec l n
      have e2 : m = minL n l := by
        have a1 : m ≤ minL n l := by
          rcases s1 with s1 | s1
          · rw [s1]; exact hl n (by simp)
          · exact hl _ (List.mem_cons_of_mem _ s1)
        have a2 : minL n l ≤ m := by
          rcases List.mem_cons.mp hm with z | z
          · rw [z]; exact s2
          · exact s3 m z
        omega
      rw [e2]
      exact q.now r (.int _)
    · cases e
  · split at e
    · rename_i n l hn
      cases e
      obtain ⟨v, rfl, ra⟩ := rx.one
      obtain ⟨a, e1, t1⟩ := ra.ints hn
      rw [e1]
      refine .inr (.inr ⟨a, n :: l, rfl, t1, by simp, fun m hm hl => ?_⟩)
      obtain ⟨s1, s2, s3⟩ := maxL_spec l n
      have e2 : m = maxL n l := by
        have a1 : maxL n l ≤ m := by
          rcases s1 with s1 | s1
          · rw [s1]; exact hl n (by simp)
          · exact hl _ (List.mem_cons_of_mem _ s1)
        have a2 : m ≤ maxL n l := by
          rcases List.mem_cons.mp hm with z | z
          · rw [z]; exact s2
          · exact s3 m z
        omega
      rw [e2]
      exact q.now r (.int _)
    · cases e
  · obtain ⟨ns, hn, rfl⟩ := Option.map_eq_some_iff.mp e
    obtain ⟨v, rfl, ra⟩ := rx.one
    obtain ⟨a, e1, t1⟩ := ra.ints hn
    rw [e1]
    exact ⟨a, ns, rfl, t1, q.now r (.int _)⟩
  · cases e
end PI

set_option Elab.async false
set_option linter.all false
set_option maxRecDepth 100000
set_option maxHeartbeats 4000000
set_option autoImplicit false
namespace PI
open PySem PySem.Spec PyProof.Rows L2

/-! ### the small syntax -/
inductive Cst where
  | non | bl (b : Bool) | int (i : Int) | str (s : Str)
def Cst.d : Cst → D
  | .non => .non
  | .bl b => .bl b
  | .int i => .int i
  | .str s => .str s
inductive Op where
  | add | sub | mul | fdiv | mod | pow
inductive Cm where
  | eq | ne | lt | le | gt | ge | is | isnt | isin | notin
inductive Ty where
  | int | bool | str | tuple | list
inductive G where
  | all | any | sum | tuple
/-- a target -/
inductive P where
  | nm (i : Nat) | tu (ps : List P)
mutual
inductive E where
  | var (i : Nat) | own (i : Nat) | cst (c : Cst) | tup (es : Es) | ofL (l : L) | celL (l : L)
  | neg (a : E) | bin (o : Op) (a b : E) | cmp (o : Cm) (a b : E) | chn (o p : Cm) (a b c : E)
  | nt (a : E) | an (es : Es) | or (es : Es) | ite (t a b : E)
  | idx (a i : E) | slc (a : E) (lo hi : Eo)
  | call (f : Nat) (es : Es) | callK (f : Nat) (pm : List Nat) (ks : Es) | bi (b : B) (es : Es) | isi (a : E) (t : Ty)
  | gen (g : G) (p : P) (it : It) (own : List Nat) (t : Eo) (e : E)
inductive Es where
  | nil | cons (e : E) (es : Es)
inductive Eo where
  | none | some (e : E)
inductive L where
  | disp (es : Es) | comp (p : P) (it : It) (own : List Nat) (t : Eo) (e : E) | list (e : E) | sorted (e : E)
inductive It where
  | seq (e : E) | rng1 (a : E) | rng2 (a b : E) | enum (e : E) | zip (a b : E) | rev (e : E)
end
inductive S where
  | set (i : Nat) (e : E) | setL (i : Nat) (l : L) | setD (i : Nat) | pat (p : P) (e : E) | par2 (i j : Nat) (a b : E)
  | aug (i : Nat) (o : Op) (e : E) | augI (o k : E) (p : Op) (e : E) | putI (o k e : E) | putO (i : Nat) (k e : E) | augO (i : Nat) (k : E) (p : Op) (e : E) | app (i : Nat) (e : E) | appC (o e : E)
  | expr (e : E) | ret (e : E) | retN | iff (t : E) (a b : List S) | whil (t : E) (b : List S) | forr (p : P) (it : It) (b : List S) | brk | cont | pass | frz (i : Nat)

/-! ### its meaning -/
abbrev R1 (α : Type) := Option (α × PH)
def Op.f : Op → D → D → Option D
  | .add => addD
  | .sub => subD
  | .mul => mulD
  | .fdiv => fdivD
  | .mod => modD
  | .pow => powD
def Cm.f : Cm → D → D → Option D
  | .eq => eqD
  | .ne => neD
  | .lt => ltD
  | .le => leD
  | .gt => gtD
  | .ge => geD
  | .is => isD
  | .isnt => isntD
  | .isin => inD
  | .notin => notinD
def tyB : Ty → D → Option Bool
  | .int, .int _ => some true
  | .int, .bl _ => some true
  | .bool, .bl _ => some true
  | .str, .str _ => some true
  | .tuple, .tup _ => some true
  | .list, .lst _ => some true
  | _, .non => some false
  | _, .int _ => some false
  | _, .bl _ => some false
  | _, .str _ => some false
  | _, .tup _ => some false
  | _, .lst _ => some false
  | _, _ => none
def lookS (ρ : Rho) (i : Nat) : Option Sl := (ρ[i]?).bind id
def varS (ρ : Rho) (i : Nat) : Option D := match lookS ρ i with
  | some (.val d) => some d
  | _ => none
def ownS (ρ : Rho) (i : Nat) : Option D := match lookS ρ i with
  | some (.own xs) => some (.lst xs)
  | some (.ownD ks vs) => some (.dct ks vs)
  | some (.val d) => some d
  | _ => none
def wipeS (ρ : Rho) : List Nat → Rho
  | [] => ρ
  | v :: vs => (wipeS ρ vs).set v none
def setS (ρ : Rho) (i : Nat) (s : Sl) : Rho := ρ.set i (some s)
mutual
/-- a target takes a value -/
def bindP : P → D → Rho → Option Rho
  | .nm i, d, ρ => some (setS ρ i (.val d))
  | .tu ps, d, ρ => match d with
    | .tup xs => bindPs ps xs ρ
    | .lst xs => bindPs ps xs ρ
    | _ => none
def bindPs : List P → List D → Rho → Option Rho
  | [], [], ρ => some ρ
  | p :: ps, d :: ds, ρ => (bindP p d ρ).bind fun ρ' => bindPs ps ds ρ'
  | _, _, _ => none
end
def rngL (lo hi : Int) : List D := (List.range (hi - lo).toNat).map fun i => .int (lo + (i : Nat))
def smallI (i : Int) : Bool := decide (-(2 ^ 62) ≤ i) && decide (i < 2 ^ 62)
/-- the items that are gone through -/
def enumL : Nat → List D → List D
  | _, [] => []
  | n, d :: r => .tup [.int n, d] :: enumL (n + 1) r
def zipL : List D → List D → List D
  | x :: xs, y :: ys => .tup [x, y] :: zipL xs ys
  | _, _ => []
def lstItems : D → Option (List D)
  | .lst xs => some xs
  | .scr ns => some (ns.map .int)
  | _ => none
/-- a comprehension's turns -/
def compL (f : D → PH → R1 (Option D)) : List D → List D → PH → R1 (List D)
  | [], acc, h => if acc.length ≤ sizeLine then some (acc, h) else none
  | x :: xs, acc, h => (f x h).bind fun r => match r with
    | (some y, h') => if acc.length < sizeLine then compL f xs (acc ++ [y]) h' else none
    | (none, h') => compL f xs acc h'
/-- the truth of what all and any see -/
def plainB : D → Option Bool
  | .bl b => some b
  | .int i => some (i != 0)
  | _ => none
/-- all(..), any(..): up to the first that tells -/
def allL (f : D → PH → R1 (Option D)) (stop : Bool) : List D → PH → R1 Bool
  | [], h => some (!stop, h)
  | x :: xs, h => (f x h).bind fun r => match r with
    | (some y, h') => match plainB y with
      | some b => if b = stop then some (stop, h') else allL f stop xs h'
      | none => none
    | (none, h') => allL f stop xs h'
/-- sorted -/
def insI (n : Int) : List Int → List Int
  | [] => [n]
  | m :: r => if n ≤ m then n :: m :: r else m :: insI n r
def sortI : List Int → List Int
  | [] => []
  | n :: r => insI n (sortI r)
def sortD (x : D) : Option (List D) := match x with
  | .dct ks _ => (intsD ks).bind fun ns => if ns.length < 64 then some ((sortI ns).map .int) else none
  | x => (lstInts x).map fun ns => (sortI ns).map .int
def listD (x : D) : Option (List D) := match x with
  | .tup xs => some xs
  | .lst xs => some xs
  | .scr ns => some (ns.map .int)
  | _ => none

abbrev Calls := Nat → List D → PH → R1 D
section
variable (C : Calls)
/-- the arguments of a call with keywords, in the parameters' order -/
def permD (xs : List D) : List Nat → Option (List D)
  | [] => some []
  | i :: is => (xs[i]?).bind fun x => (permD xs is).map (x :: ·)
mutual
noncomputable def ev : E → Rho → PH → R1 D
  | .var i, ρ, h => (varS ρ i).map fun d => (d, h)
  | .own i, ρ, h => (ownS ρ i).map fun d => (d, h)
  | .cst c, _, h => some (c.d, h)
  | .tup es, ρ, h => (evs es ρ h).bind fun r => if r.1.length ≤ sizeLine then some (.tup r.1, r.2) else none
  | .ofL l, ρ, h => (evL l ρ h).map fun r => (.lst r.1, r.2)
  | .celL l, ρ, h => (evL l ρ h).map fun r => (.ref r.2.length, r.2 ++ [.lst r.1])
  | .neg a, ρ, h => (ev a ρ h).bind fun r => match r.1 with
    | .int i => some (.int (-i), r.2)
    | _ => none
  | .bin o a b, ρ, h => (ev a ρ h).bind fun r => (ev b ρ r.2).bind fun q => (o.f (deref q.2 r.1) (deref q.2 q.1)).map fun d => (d, q.2)
  | .cmp o a b, ρ, h => (ev a ρ h).bind fun r => (ev b ρ r.2).bind fun q => (o.f (deref q.2 r.1) (deref q.2 q.1)).map fun d => (d, q.2)
  | .chn o p a b c, ρ, h => (ev a ρ h).bind fun r => (ev b ρ r.2).bind fun q => (o.f (deref q.2 r.1) (deref q.2 q.1)).bind fun d => match d with
    | .bl true => (ev c ρ q.2).bind fun s => (p.f (deref s.2 q.1) (deref s.2 s.1)).map fun d => (d, s.2)
    | .bl false => some (.bl false, q.2)
    | _ => none
  | .nt a, ρ, h => (ev a ρ h).bind fun r => (truD (deref r.2 r.1)).map fun b => (.bl (!b), r.2)
  | .an es, ρ, h => evAnd es ρ h
  | .or es, ρ, h => evOr es ρ h
  | .ite t a b, ρ, h => (evT t ρ h).bind fun r => if r.1 = true then ev a ρ r.2 else ev b ρ r.2
  | .idx a i, ρ, h => (ev a ρ h).bind fun r => (ev i ρ r.2).bind fun q => (idxD (deref q.2 r.1) (deref q.2 q.1)).map fun d => (d, q.2)
  | .slc a lo hi, ρ, h => (ev a ρ h).bind fun r => (evo lo ρ r.2).bind fun q => (evo hi ρ q.2).bind fun s => (sliceD (deref s.2 r.1) q.1 s.1).map fun d => (d, s.2)
  | .call f es, ρ, h => (evs es ρ h).bind fun r => C f r.1 r.2
  | .callK f pm ks, ρ, h => (evs ks ρ h).bind fun q => (permD q.1 pm).bind fun xs => C f xs q.2
  | .bi b es, ρ, h => (evs es ρ h).bind fun r => (biD b (r.1.map (deref r.2))).map fun d => (d, r.2)
  | .isi a t, ρ, h => (ev a ρ h).bind fun r => (tyB t (deref r.2 r.1)).map fun b => (.bl b, r.2)
  | .gen g p it own t e, ρ, h => (evI it ρ h).bind fun r => match g with
    | .all => (allL (fun x h => (bindP p x (wipeS ρ own)).bind fun ρ' => (evOT t ρ' h).bind fun b => if b.1 = true then (ev e ρ' b.2).map fun y => (some y.1, y.2) else some (none, b.2)) false r.1 r.2).map fun b => (.bl b.1, b.2)
    | .any => (allL (fun x h => (bindP p x (wipeS ρ own)).bind fun ρ' => (evOT t ρ' h).bind fun b => if b.1 = true then (ev e ρ' b.2).map fun y => (some y.1, y.2) else some (none, b.2)) true r.1 r.2).map fun b => (.bl b.1, b.2)
    | .sum => (compL (fun x h => (bindP p x (wipeS ρ own)).bind fun ρ' => (evOT t ρ' h).bind fun b => if b.1 = true then (ev e ρ' b.2).map fun y => (some y.1, y.2) else some (none, b.2)) r.1 [] r.2).bind fun q => (intsD q.1).map fun ns => (.int ns.sum, q.2)
    | .tuple => if r.1.length ≤ sizeLine then (compL (fun x h => (bindP p x (wipeS ρ own)).bind fun ρ' => (evOT t ρ' h).bind fun b => if b.1 = true then (ev e ρ' b.2).map fun y => (some y.1, y.2) else some (none, b.2)) r.1 [] r.2).map fun q => (.tup q.1, q.2) else none
noncomputable def evs : Es → Rho → PH → R1 (List D)
  | .nil, _, h => some ([], h)
  | .cons e es, ρ, h => (ev e ρ h).bind fun r => (evs es ρ r.2).map fun q => (r.1 :: q.1, q.2)
noncomputable def evo : Eo → Rho → PH → R1 (Option Int)
  | .none, _, h => some (none, h)
  | .some e, ρ, h => (ev e ρ h).bind fun r => match r.1 with
    | .int i => some (some i, r.2)
    | _ => none
noncomputable def evOT : Eo → Rho → PH → R1 Bool
  | .none, _, h => some (true, h)
  | .some e, ρ, h => evT e ρ h
noncomputable def evAnd : Es → Rho → PH → R1 D
  | .nil, _, _ => none
  | .cons e .nil, ρ, h => ev e ρ h
  | .cons e es, ρ, h => (ev e ρ h).bind fun r => match r.1 with
    | .bl true => evAnd es ρ r.2
    | .bl false => some (.bl false, r.2)
    | _ => none
noncomputable def evOr : Es → Rho → PH → R1 D
  | .nil, _, _ => none
  | .cons e .nil, ρ, h => ev e ρ h
  | .cons e es, ρ, h => (ev e ρ h).bind fun r => match r.1 with
    | .bl false => evOr es ρ r.2
    | .bl true => some (.bl true, r.2)
    | _ => none
/-- as a test -/
noncomputable def evT : E → Rho → PH → R1 Bool
  | .nt a, ρ, h => (evT a ρ h).map fun r => (!r.1, r.2)
  | .an es, ρ, h => evTA es ρ h
  | .or es, ρ, h => evTO es ρ h
  | .cmp o a b, ρ, h => (ev a ρ h).bind fun r => (ev b ρ r.2).bind fun q => (o.f (deref q.2 r.1) (deref q.2 q.1)).bind fun d => match d with
    | .bl b => some (b, q.2)
    | _ => none
  | .chn o p a b c, ρ, h => (ev a ρ h).bind fun r => (ev b ρ r.2).bind fun q => (o.f (deref q.2 r.1) (deref q.2 q.1)).bind fun d => match d with
    | .bl true => (ev c ρ q.2).bind fun s => (p.f (deref s.2 q.1) (deref s.2 s.1)).bind fun d => match d with
      | .bl b => some (b, s.2)
      | _ => none
    | .bl false => some (false, q.2)
    | _ => none
  | .ite _ _ _, _, _ => none
  | e, ρ, h => (ev e ρ h).bind fun r => (truD (deref r.2 r.1)).map fun b => (b, r.2)
noncomputable def evTA : Es → Rho → PH → R1 Bool
  | .nil, _, _ => none
  | .cons e .nil, ρ, h => evT e ρ h
  | .cons e es, ρ, h => (evT e ρ h).bind fun r => if r.1 = true then evTA es ρ r.2 else some (false, r.2)
noncomputable def evTO : Es → Rho → PH → R1 Bool
  | .nil, _, _ => none
  | .cons e .nil, ρ, h => evT e ρ h
  | .cons e es, ρ, h => (evT e ρ h).bind fun r => if r.1 = true then some (true, r.2) else evTO es ρ r.2
/-- a new list -/
noncomputable def evL : L → Rho → PH → R1 (List D)
  | .disp es, ρ, h => (evs es ρ h).bind fun r => if r.1.length ≤ sizeLine then some r else none
  | .comp p it own t e, ρ, h => (evI it ρ h).bind fun r => compL (fun x h => (bindP p x (wipeS ρ own)).bind fun ρ' => (evOT t ρ' h).bind fun b => if b.1 = true then (ev e ρ' b.2).map fun y => (some y.1, y.2) else some (none, b.2)) r.1 [] r.2
  | .list e, ρ, h => (ev e ρ h).bind fun r => (listD (deref r.2 r.1)).map fun xs => (xs, r.2)
  | .sorted e, ρ, h => (ev e ρ h).bind fun r => (sortD (deref r.2 r.1)).map fun xs => (xs, r.2)
noncomputable def evI : It → Rho → PH → R1 (List D)
  | .seq e, ρ, h => (ev e ρ h).bind fun r => (itemsD r.1).map fun xs => (xs, r.2)
  | .rng1 a, ρ, h => (ev a ρ h).bind fun r => match r.1 with
    | .int j => if smallI j = true then some (rngL 0 j, r.2) else none
    | _ => none
  | .rng2 a b, ρ, h => (ev a ρ h).bind fun r => (ev b ρ r.2).bind fun q => match r.1, q.1 with
    | .int i, .int j => if smallI i = true ∧ smallI j = true then some (rngL i j, q.2) else none
    | _, _ => none
  | .enum e, ρ, h => (ev e ρ h).bind fun r => (lstItems r.1).map fun xs => (enumL 0 xs, r.2)
  | .zip a b, ρ, h => (ev a ρ h).bind fun r => (ev b ρ r.2).bind fun q => (lstItems r.1).bind fun xs => (lstItems q.1).map fun ys => (zipL xs ys, q.2)
  | .rev e, ρ, h => (ev e ρ h).bind fun r => (lstItems r.1).map fun xs => (xs.reverse, r.2)
end
end

/-! ### statements -/
inductive Out where
  | nx (ρ : Rho) (h : PH) | rt (d : D) (h : PH) | bk (ρ : Rho) (h : PH) | ct (ρ : Rho) (h : PH)
/-- at most n turns of a while -/
def whileO (c : Rho → PH → R1 Bool) (b : Rho → PH → Option Out) : Nat → Rho → PH → Option Out
  | 0, _, _ => none
  | n + 1, ρ, h => (c ρ h).bind fun r => if r.1 = true then (b ρ r.2).bind fun o => match o with
    | .nx ρ' h' => whileO c b n ρ' h'
    | .ct ρ' h' => whileO c b n ρ' h'
    | .bk ρ' h' => some (.nx ρ' h')
    | .rt d h' => some (.rt d h')
    else some (.nx ρ r.2)
open Classical in
noncomputable def whileS (c : Rho → PH → R1 Bool) (b : Rho → PH → Option Out) (ρ : Rho) (h : PH) : Option Out :=
  if x : ∃ n o, whileO c b n ρ h = some o then some (Classical.choose (Classical.choose_spec x)) else none
def forS (g : D → Rho → Option Rho) (b : Rho → PH → Option Out) : List D → Rho → PH → Option Out
  | [], ρ, h => some (.nx ρ h)
  | x :: xs, ρ, h => (g x ρ).bind fun ρ' => (b ρ' h).bind fun o => match o with
    | .nx ρ' h' => forS g b xs ρ' h'
    | .ct ρ' h' => forS g b xs ρ' h'
    | .bk ρ' h' => some (.nx ρ' h')
    | .rt d h' => some (.rt d h')
/-- d[k] = x -/
def dputD (ks vs : List D) (k x : D) : Option (List D × List D) := match keysD ks, keyD k with
  | some kk, some q => if ks.length < sizeLine then (if (kk.any fun j => decide (j = q)) = true then some (ks, List.zipWith (fun j v => if j = q then x else v) kk vs) else some (ks ++ [k], vs ++ [x])) else none
  | _, _ => none
def lputD (xs : List D) (k x : D) : Option (List D) := match k with
  | .int i => (L2.ixN xs.length i).map fun j => xs.set j x
  | _ => none
/-- a cell's list or dict -/
def isCell (h : PH) : D → Option D
  | .ref n => match h[n]? with
    | some (.lst xs) => some (.lst xs)
    | some (.dct ks vs) => some (.dct ks vs)
    | _ => none
  | _ => none
/-- y[k] = x, a list or a dict -/
def putD (y k x : D) : Option D := match y with
  | .lst xs => (lputD xs k x).map .lst
  | .dct ks vs => (dputD ks vs k x).map fun r => .dct r.1 r.2
  | _ => none
def toCell : D → Option Cell
  | .lst xs => some (.lst xs)
  | .dct ks vs => some (.dct ks vs)
  | _ => none
def ofCell : Cell → Option D
  | .lst xs => some (.lst xs)
  | .dct ks vs => some (.dct ks vs)
  | _ => none
def toOwn : D → Option Sl
  | .lst xs => some (.own xs)
  | .dct ks vs => some (.ownD ks vs)
  | _ => none
def ofOwn : Sl → Option D
  | .own xs => some (.lst xs)
  | .ownD ks vs => some (.dct ks vs)
  | _ => none
/-- o[k] = x for a cell -/
def cputD (h : PH) (o k x : D) : Option PH := match o with
  | .ref n => (h[n]?).bind fun c => (ofCell c).bind fun y => (putD y k x).bind fun y' => (toCell y').map fun c' => h.set n c'
  | _ => none
/-- .. for what is one's own -/
def oputD (ρ : Rho) (i : Nat) (k x : D) : Option Rho := (lookS ρ i).bind fun s => (ofOwn s).bind fun y => (putD y k x).bind fun y' => (toOwn y').map fun s' => setS ρ i s'
section
variable (C : Calls)
mutual
noncomputable def ex : S → Rho → PH → Option Out
  | .set i e, ρ, h => (ev C e ρ h).map fun r => .nx (setS ρ i (.val r.1)) r.2
  | .setL i l, ρ, h => (evL C l ρ h).map fun r => .nx (setS ρ i (.own r.1)) r.2
  | .setD i, ρ, h => some (.nx (setS ρ i (.ownD [] [])) h)
  | .pat p e, ρ, h => (ev C e ρ h).bind fun r => (bindP p r.1 ρ).map fun ρ' => .nx ρ' r.2
  | .par2 i j a b, ρ, h => (ev C a ρ h).bind fun r => (ev C b ρ r.2).map fun q => .nx (setS (setS ρ i (.val r.1)) j (.val q.1)) q.2
  | .aug i o e, ρ, h => (varS ρ i).bind fun x => (ev C e ρ h).bind fun r => match x, r.1 with
    | .int a, .int b => (o.f (.int a) (.int b)).map fun d => .nx (setS ρ i (.val d)) r.2
    | _, _ => none
  | .augI o k p e, ρ, h => (ev C o ρ h).bind fun r => (ev C k ρ r.2).bind fun q => (isCell q.2 r.1).bind fun y => (idxD y q.1).bind fun x => (ev C e ρ q.2).bind fun s => match x, s.1 with
    | .int a, .int b => (p.f (.int a) (.int b)).bind fun d => (cputD s.2 r.1 q.1 d).map fun h' => .nx ρ h'
    | _, _ => none
  | .putI o k e, ρ, h => (ev C e ρ h).bind fun r => (ev C o ρ r.2).bind fun q => (ev C k ρ q.2).bind fun s => (cputD s.2 q.1 s.1 r.1).map fun h' => .nx ρ h'
  | .putO i k e, ρ, h => (ev C e ρ h).bind fun r => (ev C k ρ r.2).bind fun q => (oputD ρ i q.1 r.1).map fun ρ' => .nx ρ' q.2
  | .augO i k p e, ρ, h => (ev C k ρ h).bind fun q => ((lookS ρ i).bind ofOwn).bind fun y => (idxD y q.1).bind fun x => (ev C e ρ q.2).bind fun s => match x, s.1 with
    | .int a, .int b => (p.f (.int a) (.int b)).bind fun d => (oputD ρ i q.1 d).map fun ρ' => .nx ρ' s.2
    | _, _ => none
  | .app i e, ρ, h => (ev C e ρ h).bind fun r => match lookS ρ i with
    | some (.own xs) => if xs.length < sizeLine then some (.nx (setS ρ i (.own (xs ++ [r.1]))) r.2) else none
    | _ => none
  | .appC o e, ρ, h => (ev C o ρ h).bind fun r => (ev C e ρ r.2).bind fun q => match r.1 with
    | .ref n => match r.2[n]?, q.2[n]? with
      | some (.lst _), some (.lst xs) => if xs.length < sizeLine then some (.nx ρ (q.2.set n (.lst (xs ++ [q.1])))) else none
      | _, _ => none
    | _ => none
  | .expr e, ρ, h => (ev C e ρ h).map fun r => .nx ρ r.2
  | .ret e, ρ, h => (ev C e ρ h).map fun r => .rt r.1 r.2
  | .retN, _, h => some (.rt .non h)
  | .iff t a b, ρ, h => (evT C t ρ h).bind fun r => if r.1 = true then exs a ρ r.2 else exs b ρ r.2
  | .whil t b, ρ, h => whileS (evT C t) (exs b) ρ h
  | .forr p it b, ρ, h => (evI C it ρ h).bind fun r => forS (bindP p) (exs b) r.1 ρ r.2
  | .brk, ρ, h => some (.bk ρ h)
  | .cont, ρ, h => some (.ct ρ h)
  | .pass, ρ, h => some (.nx ρ h)
  | .frz i, ρ, h => match lookS ρ i with
    | some (.own xs) => some (.nx (setS ρ i (.val (.lst xs))) h)
    | some (.ownD ks vs) => some (.nx (setS ρ i (.val (.dct ks vs))) h)
    | _ => none
noncomputable def exs : List S → Rho → PH → Option Out
  | [], ρ, h => some (.nx ρ h)
  | s :: r, ρ, h => (ex s ρ h).bind fun o => match o with
    | .nx ρ' h' => exs r ρ' h'
    | o => some o
end
end
/-- a def of the text: how many slots, how many parameters, its body -/
structure Fd where
  slots : Nat
  pars : Nat
  body : List S
def startS (f : Fd) (xs : List D) : Rho := xs.map (fun d => some (.val d)) ++ List.replicate (f.slots - f.pars) none
/-- calls, n deep -/
noncomputable def call (T : List Fd) : Nat → Calls
  | 0 => fun _ _ _ => none
  | n + 1 => fun i xs h => match T[i]? with
    | some f => if xs.length = f.pars then (exs (call T n) f.body (startS f xs) h).bind fun o => match o with
      | .rt d h' => some (d, h')
      | .nx _ h' => some (.non, h')
      | _ => none
      else none
    | none => none
end PI

set_option Elab.async false
set_option linter.all false
set_option maxRecDepth 100000
set_option maxHeartbeats 4000000
set_option autoImplicit false
namespace PI
open PySem PySem.Spec PyProof.Rows L2

structure DefI where
  name : Str
  ps : List Str
/-- a call with keywords alone: the def, the keywords, the parameters' order -/
structure KcI where
  f : Nat
  names : List Str
  perm : List Nat
structure Ck where
  N : List Str
  sc : Scope
  fs : Str → Bool
  nms : List DefI
  kcs : List KcI
  gd : Nat
def Ck.kind (c : Ck) (x : Str) : Option NameKind := c.sc.names.lookup x
def isVis : Option NameKind → Bool
  | some .local => true
  | some .cell => true
  | some .free => true
  | _ => false
def Ck.glob (c : Ck) (x : Str) : Bool := decide (c.kind x = some .globalImplicit)
def Ck.var (c : Ck) (i : Nat) (x : Str) : Bool := decide (c.N[i]? = some x) && isVis (c.kind x) && !(x == ("__debug__" : Str)) && !(x == ("__classdict__" : Str))
def Ck.store (c : Ck) (i : Nat) (x : Str) : Bool := decide (c.N[i]? = some x) && (decide (c.kind x = some .local) || (decide (c.kind x = some .cell) && c.fs x))
def Ck.blk (c : Ck) (scope : Scope) : Ck := { c with sc := relS scope c.sc, fs := fun x => scope.names.lookup x == some .cell }
/-- within a generator expression -/
def Ck.gen (c : Ck) (scope : Scope) : Ck := { c with sc := scope, fs := fun _ => false, gd := 0 }
def ownN (N : List Str) (own : List Nat) : List (Str × Nat) := own.map fun i => (N.getD i Str.empty, i)
def opOk : Op → Operator → Bool
  | .add, .Add => true
  | .sub, .Sub => true
  | .mul, .Mult => true
  | .fdiv, .FloorDiv => true
  | .mod, .Mod => true
  | .pow, .Pow => true
  | _, _ => false
def cmOk : Cm → CmpOp → Bool
  | .eq, .Eq => true
  | .ne, .NotEq => true
  | .lt, .Lt => true
  | .le, .LtE => true
  | .gt, .Gt => true
  | .ge, .GtE => true
  | .is, .Is => true
  | .isnt, .IsNot => true
  | .isin, .In => true
  | .notin, .NotIn => true
  | _, _ => false
def cstOk : Cst → Const → Bool
  | .non, .none => true
  | .bl b, .bool c => b == c
  | .int i, .int j => decide (i = j)
  | .str s, .str t => decide (s = t)
  | _, _ => false
def notStar : Expr → Bool
  | .Starred .. => false
  | _ => true
def notSlice : Expr → Bool
  | .Slice .. => false
  | _ => true
def notSet : Expr → Bool
  | .Set .. => false
  | _ => true
def notList : Expr → Bool
  | .List .. => false
  | _ => true
def noCellS (scope : Scope) : Bool := scope.names.all fun y => match y.2 with
  | .cell => false
  | _ => true
def G.name : G → Str
  | .all => "all"
  | .any => "any"
  | .sum => "sum"
  | .tuple => "tuple"
def tyName : Ty → String
  | .int => "int"
  | .bool => "bool"
  | .str => "str"
  | .tuple => "tuple"
  | .list => "list"
def kwNames (ks : List Keyword) : List Str := ks.filterMap (·.arg)
def Ck.kc (c : Ck) (f : Nat) (ns : List Str) (pm : List Nat) : Bool := c.kcs.any fun k => decide (k.f = f) && decide (k.names = ns) && decide (k.perm = pm)
mutual
def slotsP : P → List Nat
  | .nm i => [i]
  | .tu ps => slotsPs ps
def slotsPs : List P → List Nat
  | [] => []
  | p :: ps => slotsP p ++ slotsPs ps
end
def subOwn (p : P) (own : List Nat) : Bool := (slotsP p).all fun i => decide (i ∈ own)
mutual
def okP (c : Ck) : P → Expr → Bool
  | .nm i, .Name x _ => c.store i x
  | .tu ps, .Tuple es _ _ => okPs c ps es
  | _, _ => false
def okPs (c : Ck) : List P → List Expr → Bool
  | [], [] => true
  | p :: ps, e :: es => notStar e && okP c p e && okPs c ps es
  | _, _ => false
end
def isTupE : Expr → Bool
  | .Tuple .. => true
  | _ => false
mutual
/-- md: 0 a value; 1 a value that is read at once; 2 a test -/
def okE (md : Nat) (c : Ck) : E → Expr → Bool
  | .var i, .Name x _ => c.var i x
  | .own i, .Name x _ => decide (0 < md) && c.var i x
  | .cst k, .Constant v _ _ => cstOk k v
  | .tup es, .Tuple xs _ _ => okEs 0 c es xs
  | .ofL l, e => okL c l e
  | .celL l, e => okL c l e
  | .neg a, .UnaryOp .USub x _ => okE 0 c a x
  | .bin o a b, .BinOp x p y _ => opOk o p && okE 1 c a x && okE 1 c b y
  | .cmp o a b, .Compare x [p] [y] _ => cmOk o p && okE 1 c a x && okE 1 c b y && !behindInMarks p y
  | .chn o p a b d, .Compare x [q, r] [y, z] _ => cmOk o q && cmOk p r && okE 1 c a x && okE 1 c b y && okE 1 c d z && !lastMarks [q, r] [y, z]
  | .nt a, .UnaryOp .Not x _ => if md = 2 then okE 2 c a x else okE 1 c a x
  | .an es, .BoolOp .And xs _ => if md = 2 then okEs 2 c es xs else okEs 0 c es xs
  | .or es, .BoolOp .Or xs _ => if md = 2 then okEs 2 c es xs else okEs 0 c es xs
  | .ite t a b, .IfExp d x y _ => decide (md < 2) && okE 2 c t d && okE 0 c a x && okE 0 c b y
  | .idx a i, .Subscript x y _ => okE 1 c a x && okE 0 c i y && notSlice y
  | .slc a lo hi, .Subscript x (.Slice l u none _) _ => okE 1 c a x && okO c lo l && okO c hi u
  | .call f es, .Call (.Name x _) (y :: ys) [] _ => c.glob x && decide ((c.nms[f]?).map (·.name) = some x) && !(x == ("__debug__" : Str)) && okEs 0 c es (y :: ys)
  | .callK f pm ks, .Call (.Name x _) [] kws _ => c.glob x && decide ((c.nms[f]?).map (·.name) = some x) && !(x == ("__debug__" : Str)) && okKs c ks kws && c.kc f (kwNames kws) pm
  | .bi b es, .Call (.Name x _) (y :: ys) [] _ => c.glob x && decide (x = b.name) && okEs 1 c es (y :: ys)
  | .isi a t, .Call (.Name x _) [y, .Name z _] [] _ => c.glob x && decide (x = ("isinstance" : Str)) && c.glob z && decide (z = Str.ofString (tyName t)) && okE 1 c a y && notStar y
  | .gen gg p it own t m, .Call (.Name x _) [.GeneratorExp elt [⟨tg, iter, ifs, 0⟩] scope _] [] _ => c.glob x && decide (x = gg.name) && decide (0 < c.gd) && okI 1 c it tg iter && notSet iter && notList iter && blkC c.N c.sc scope (ownN c.N own) && noCellS scope && !scope.isCoroutine && decide (scope.names.lookup (".0" : Str) = some NameKind.local) && subOwn p own && okP (c.gen scope) p tg && okTs (c.gen scope) t ifs && okE 0 (c.gen scope) m elt
  | _, _ => false
def okEs (md : Nat) (c : Ck) : Es → List Expr → Bool
  | .nil, [] => true
  | .cons m ms, e :: es => notStar e && okE md c m e && okEs md c ms es
  | _, _ => false
def okKs (c : Ck) : Es → List Keyword → Bool
  | .nil, [] => true
  | .cons m ms, k :: ks => k.arg.isSome && okE 0 c m k.value && okKs c ms ks
  | _, _ => false
def okO (c : Ck) : Eo → Option Expr → Bool
  | .none, none => true
  | .some m, some e => okE 0 c m e
  | _, _ => false
def okTs (c : Ck) : Eo → List Expr → Bool
  | .none, [] => true
  | .some m, [e] => okE 2 c m e
  | _, _ => false
def okL (c : Ck) : L → Expr → Bool
  | .disp es, .List xs _ => okEs 0 c es xs
  | .comp p it own t e, .ListComp elt [⟨tg, iter, ifs, 0⟩] scope _ => okI 1 c it tg iter && notSet iter && blkC c.N c.sc scope (ownN c.N own) && subOwn p own && okP (c.blk scope) p tg && okTs (c.blk scope) t ifs && okE 0 (c.blk scope) e elt
  | .list m, .Call (.Name x _) [y] [] _ => c.glob x && decide (x = ("list" : Str)) && okE 1 c m y && notStar y
  | .sorted m, .Call (.Name x _) [y] [] _ => c.glob x && decide (x = ("sorted" : Str)) && okE 1 c m y && notStar y
  | _, _ => false
/-- what is walked, with its target; md 0: it stands by being frozen; md 1: .. or by being one's own -/
def okI (md : Nat) (c : Ck) : It → Expr → Expr → Bool
  | .seq m, _, e => okE md c m e
  | .rng1 a, _, .Call (.Name x _) [y] [] _ => c.glob x && decide (x = ("range" : Str)) && okE 0 c a y && notStar y
  | .rng2 a b, _, .Call (.Name x _) [y, z] [] _ => c.glob x && decide (x = ("range" : Str)) && okE 0 c a y && okE 0 c b z && notStar y && notStar z
  | .enum m, tg, .Call (.Name x _) [y] [] _ => c.glob x && decide (x = ("enumerate" : Str)) && okE md c m y && notStar y && isTupE tg
  | .zip a b, tg, .Call (.Name x _) [y, z] [] _ => c.glob x && decide (x = ("zip" : Str)) && okE md c a y && okE md c b z && notStar y && notStar z && isTupE tg
  | .rev m, _, .Call (.Name x _) [y] [] _ => c.glob x && decide (x = ("reversed" : Str)) && okE md c m y && notStar y
  | _, _, _ => false
end
end PI

set_option Elab.async false
set_option linter.all false
set_option maxRecDepth 100000
set_option maxHeartbeats 4000000
set_option autoImplicit false
namespace PI
open PySem PySem.Spec PyProof.Rows L2

def bnames : List Str := ["range", "len", "abs", "int", "tuple", "min", "max", "sum", "list", "sorted", "isinstance", "bool", "str", "enumerate", "zip", "reversed", "any", "all"]

/-- a def's promise: what the calls C give -/
def SpC (C : Calls) (K : PySem.W.Frag) (tb : List Addr) (f : Nat) : Sp := fun vs H Q _ => ∃ w h xs d h', w.H = H ∧ Rel K tb w h ∧ RDs K w xs vs ∧ C f xs h = some (d, h') ∧ Fin1 K tb w h' d Q
/-- the keywords' values in the parameters' order -/
def permF {α : Type} (pm : List Nat) (ws : List α) : List α := pm.filterMap fun i => ws[i]?
structure Calls1 (C : Calls) (nms : List DefI) (kcs : List KcI) (tb : List Addr) (n : Nat) (P : Program) (w : World) (K : PySem.W.Frag) (mg : Str → Option Value) (base : Heap) : Prop where
  fn : ∀ (f : Nat) (d : DefI), nms[f]? = some d → ∃ (a : Addr) (fd : FuncData), mg d.name = some (.ref a) ∧ PySem.W.keepIn K (.ref a) = true ∧ FnOk P w K mg base CX0 n a fd d.ps (SpC C K tb f) ∧ Binds K fd d.ps [] ∧ (∀ k ∈ kcs, k.f = f → KBn K fd d.ps 0 k.names (fun _ ws => permF k.perm ws) (fun _ zs => permF k.perm zs)) ∧ ∃ oc od osl, K.lookup a = some ⟨oc, od, .func fd, osl⟩
  bl : ∀ x ∈ bnames, mg x = none
structure Good (C : Calls) (tb : List Addr) (n : Nat) (c : Ck) (X : Cx) : Prop where
  hN : X.N = c.N
  nd : c.N.Nodup
  sc : X.env.scope = c.sc
  calm : X.calm = true
  xe : X.xe = fun _ _ => False
  roomG : Room (n + c.gd) X.A
  fn : X.fn = c.fs
  cs : Calls1 C c.nms c.kcs tb n X.prog X.w X.K X.mg X.base
  cod : 0 < c.gd → ∃ cc P, X.env.code = .ref cc ∧ GxR.TabB X.base X.mg cc P ∧ P ∈ tb
theorem Good.room {C : Calls} {tb : List Addr} {n : Nat} {c : Ck} {X : Cx} (g : Good C tb n c X) : Room n X.A := g.roomG.mono (Nat.le_add_right _ _)

section
variable {X : Cx}
theorem _root_.L2.PE.imp {e : Expr} {t t' : TE} (h : PE X e t) (i : ∀ σ H Q, t' σ H Q → t σ H Q) : PE X e t' := ⟨fun pins s σ H Q I hw => h.run pins s σ H Q I (i σ H Q hw)⟩
theorem _root_.L2.PE.orr {e : Expr} {t t' : TE} (h : PE X e t) (h' : PE X e t') : PE X e (fun σ H Q => t σ H Q ∨ t' σ H Q) := ⟨fun pins s σ H Q I hw => hw.elim (h.run pins s σ H Q I) (h'.run pins s σ H Q I)⟩
theorem _root_.L2.PT.imp {e : Expr} {t t' : TT} (h : PT X e t) (i : ∀ σ H Q, t' σ H Q → t σ H Q) : PT X e t' := ⟨fun pins s σ H Q I hw => h.run pins s σ H Q I (i σ H Q hw)⟩
theorem _root_.L2.PT.orr {e : Expr} {t t' : TT} (h : PT X e t) (h' : PT X e t') : PT X e (fun σ H Q => t σ H Q ∨ t' σ H Q) := ⟨fun pins s σ H Q I hw => hw.elim (h.run pins s σ H Q I) (h'.run pins s σ H Q I)⟩
theorem _root_.L2.PW.imp {e : Expr} {t t' : TT} (h : PW X e t) (i : ∀ σ H Q, t' σ H Q → t σ H Q) : PW X e t' := ⟨fun wh pins s σ H Q I hw => h.run wh pins s σ H Q I (i σ H Q hw)⟩
theorem _root_.L2.PA.imp {e : List Expr} {t t' : TA} (h : PA X e t) (i : ∀ σ H Q, t' σ H Q → t σ H Q) : PA X e t' := ⟨fun pos pins s σ H Q I hw => h.run pos pins s σ H Q I (i σ H Q hw)⟩
theorem _root_.L2.PG.imp {e : Expr} {t t' : TG} (h : PG X e t) (i : ∀ v σ H Q, t' v σ H Q → t v σ H Q) : PG X e t' := ⟨fun pins s σ H v u Q I r hw => h.run pins s σ H v u Q I r (i v σ H Q hw)⟩
theorem _root_.L2.PG.orr {e : Expr} {t t' : TG} (h : PG X e t) (h' : PG X e t') : PG X e (fun v σ H Q => t v σ H Q ∨ t' v σ H Q) := ⟨fun pins s σ H v u Q I r hw => hw.elim (h.run pins s σ H v u Q I r) (h'.run pins s σ H v u Q I r)⟩
theorem _root_.L2.PGs.imp {e : List Expr} {t t' : TGs} (h : PGs X e t) (i : ∀ v σ H Q, t' v σ H Q → t v σ H Q) : PGs X e t' := ⟨fun pins s σ H v u Q I r hw => h.run pins s σ H v u Q I r (i v σ H Q hw)⟩
theorem _root_.L2.PS.imp {e : Stmt} {t t' : TS} (h : PS X e t) (i : ∀ D σ H, t' D σ H → t D σ H) : PS X e t' := ⟨fun pins s σ H D I hw => h.run pins s σ H D I (i D σ H hw)⟩
theorem _root_.L2.PSs.imp {e : List Stmt} {t t' : TS} (h : PSs X e t) (i : ∀ D σ H, t' D σ H → t D σ H) : PSs X e t' := ⟨fun pins s σ H D I hw => h.run pins s σ H D I (i D σ H hw)⟩
theorem _root_.L2.PI.imp {tg e : Expr} {t t' : TI} (h : PI X tg e t) (i : ∀ σ H R, t' σ H R → t σ H R) : PI X tg e t' := ⟨fun pins s σ H R I hw => h.run pins s σ H R I (i σ H R hw)⟩
theorem _root_.L2.PI.orr {tg e : Expr} {t t' : TI} (h : PI X tg e t) (h' : PI X tg e t') : PI X tg e (fun σ H R => t σ H R ∨ t' σ H R) := ⟨fun pins s σ H R I hw => hw.elim (h.run pins s σ H R I) (h'.run pins s σ H R I)⟩
theorem _root_.L2.PO.imp {e : Option Expr} {t t' : TO} (h : PO X e t) (i : ∀ σ H Q, t' σ H Q → t σ H Q) : PO X e t' := ⟨fun pins s σ H Q I hw => h.run pins s σ H Q I (i σ H Q hw)⟩
end

/-! ### readings out of the meaning -/
section
variable (K : PySem.W.Frag) (tb : List Addr)
def Tx (f : Rho → PH → R1 D) : TE := fun σ H Q => ∃ w ρ h d h', w.H = H ∧ Rel K tb w h ∧ RS K w ρ σ ∧ f ρ h = some (d, h') ∧ Fin1 K tb w h' d Q
def Tb (f : Rho → PH → R1 D) : TE := fun σ H Q => ∃ w ρ h d h', w.H = H ∧ Rel K tb w h ∧ RS K w ρ σ ∧ f ρ h = some (d, h') ∧ ∀ w' v, Rel K tb w' h' → RB K w' d v → Ext w w' → Q v w'.H
def Tt (f : Rho → PH → R1 Bool) : TT := fun σ H Q => ∃ w ρ h b h', w.H = H ∧ Rel K tb w h ∧ RS K w ρ σ ∧ f ρ h = some (b, h') ∧ ∀ w', Rel K tb w' h' → Ext w w' → Q b w'.H
def Tas (f : Rho → PH → R1 (List D)) : TA := fun σ H Q => ∃ w ρ h d h', w.H = H ∧ Rel K tb w h ∧ RS K w ρ σ ∧ f ρ h = some (d, h') ∧ ∀ w' v, Rel K tb w' h' → RDs K w' d v → Ext w w' → Q v w'.H
inductive RBs (w : Wd) : List D → List V → Prop
  | nil : RBs w [] []
  | cons {d : D} {v : V} {ds : List D} {vs : List V} : RB K w d v → RBs w ds vs → RBs w (d :: ds) (v :: vs)
def Tbs (f : Rho → PH → R1 (List D)) : TA := fun σ H Q => ∃ w ρ h d h', w.H = H ∧ Rel K tb w h ∧ RS K w ρ σ ∧ f ρ h = some (d, h') ∧ ∀ w' v, Rel K tb w' h' → RBs K w' d v → Ext w w' → Q v w'.H
def Tl (f : Rho → PH → R1 (List D)) : TE := fun σ H Q => ∃ w ρ h d h', w.H = H ∧ Rel K tb w h ∧ RS K w ρ σ ∧ f ρ h = some (d, h') ∧ FinL K tb w h' d Q
def To (f : Rho → PH → R1 (Option Int)) : TO := fun σ H Q => ∃ w ρ h d h', w.H = H ∧ Rel K tb w h ∧ RS K w ρ σ ∧ f ρ h = some (d, h') ∧ ∀ w', Rel K tb w' h' → Ext w w' → Q d w'.H
/-- an iterator goes through the data xs, whatever comes between -/
structure Wk (R : Wd → Wd → Prop) (J : L2.It) (w0 : Wd) (xs : List D) : Prop where
  go : ∀ i w h, R w0 w → Rel K tb w h → i < xs.length → J.go i w.H
  yld : ∀ i w h x H', i < xs.length → R w0 w → Rel K tb w h → J.yld i w.H x H' → ∃ w' d, xs[i]? = some d ∧ w'.H = H' ∧ Rel K tb w' h ∧ RD K w' d x ∧ Ext w w'
  stop : ∀ i w h, R w0 w → Rel K tb w h → xs.length ≤ i → J.stop i w.H
def Ti (R : Wd → Wd → Prop) (f : Rho → PH → R1 (List D)) : TI := fun σ H U => ∃ w ρ h d h', w.H = H ∧ Rel K tb w h ∧ RS K w ρ σ ∧ f ρ h = some (d, h') ∧ ∀ w' J, Rel K tb w' h' → Ext w w' → Wk K tb R J w' d → U J w'.H
def Tg (p : P) : TG := fun v σ H Q => ∃ w ρ h d ρ', w.H = H ∧ Rel K tb w h ∧ RS K w ρ σ ∧ RD K w d v ∧ bindP p d ρ = some ρ' ∧ ∀ σ', RS K w ρ' σ' → (∀ j, j ∉ slotsP p → σ'[j]? = σ[j]?) → Q σ' H
def Tgs (ps : List P) : TGs := fun vs σ H Q => ∃ w ρ h ds ρ', w.H = H ∧ Rel K tb w h ∧ RS K w ρ σ ∧ RDs K w ds vs ∧ bindPs ps ds ρ = some ρ' ∧ ∀ σ', RS K w ρ' σ' → (∀ j, j ∉ slotsPs ps → σ'[j]? = σ[j]?) → Q σ' H
end

section
variable {C : Calls} {tb : List Addr} {n : Nat} {c : Ck} {X : Cx} {K : PySem.W.Frag} {w w' : Wd} {h h' : PH} {ρ : Rho} {σ : L2.St} {Q : VK}
theorem Fin1.aft {d : D} (q : Fin1 K tb w h d Q) (x : Ext w w') : Fin1 K tb w' h d Q := fun w2 v r y e => q w2 v r y (x.trans e)
theorem FinL.aft {d : List D} (q : FinL K tb w h d Q) (x : Ext w w') : FinL K tb w' h d Q := fun w2 a vs r y e p ex hn => by
  refine q w2 a vs r y e p (x.trans ex) ?_
  cases z : w.H a with
  | none => rfl
  | some o => exact absurd hn (x.there a (by rw [z]; simp))
theorem RBs.ext {ds : List D} {vs : List V} (q : RBs K w ds vs) (x : Ext w w') (r : Rel K tb w h) : RBs K w' ds vs := by
  induction q with
  | nil => exact .nil
  | cons a _ ih => exact .cons (a.ext x r) ih
theorem RBs.de {ds : List D} {vs : List V} (q : RBs K w ds vs) (r : Rel K tb w h) : ROs K w (ds.map (deref h)) vs := by
  induction q with
  | nil => exact .nil
  | cons a _ ih => exact .cons (a.de r) ih
theorem lookS_at {i : Nat} {s : Sl} (e : lookS ρ i = some s) : ρ[i]? = some (some s) := by
  unfold lookS at e
  obtain ⟨o, h1, h2⟩ := Option.bind_eq_some_iff.mp e
  rw [h1]
  exact congrArg some h2
theorem varS_at {i : Nat} {d : D} (e : varS ρ i = some d) : lookS ρ i = some (.val d) := by
  unfold varS at e
  split at e
  · rename_i d' h'; cases e; exact h'
  · cases e
theorem xs_of (g : Good C tb n c X) {e : Expr} {f : Rho → PH → R1 D} (p : PE X e (Tx K tb f)) : PE X e (Tb K tb f) := p.imp fun σ H Q ⟨w, ρ, h, d, h', e, r, rs, ev, q⟩ => ⟨w, ρ, h, d, h', e, r, rs, ev, fun w' v r' x ex => q w' v r' (.inl x) ex⟩

/-! ### names -/
theorem Good.pv (g : Good C tb n c X) {i : Nat} {x : Str} {pos : Pos} (hv : c.var i x = true) : PE X (.Name x pos) (tVar i) := by
  unfold Ck.var at hv
  simp only [Bool.and_eq_true, decide_eq_true_eq, Bool.not_eq_true'] at hv
  obtain ⟨⟨⟨h1, h2⟩, h3⟩, h4⟩ := hv
  refine pe_var (by rw [g.hN]; exact h1) ?_ h3 h4
  unfold Vis
  rw [g.sc]
  have h2' : isVis (c.sc.names.lookup x) = true := h2
  cases e : c.sc.names.lookup x with
  | none => rw [e] at h2'; cases h2'
  | some k =>
    rw [e] at h2'
    cases k with
    | «local» => exact .inl rfl
    | cell => exact .inr (.inl rfl)
    | free => exact .inr (.inr rfl)
    | _ => cases h2'
theorem Good.gl (g : Good C tb n c X) {x : Str} (h : c.glob x = true) : Gl X x := by
  unfold Gl Env.kindOf
  rw [g.sc]
  exact of_decide_eq_true h
theorem Good.ng (g : Good C tb n c X) : PG X (.Name Str.empty ⟨0, 0, 0, 0⟩) (fun _ _ _ _ => False) := ⟨fun _ _ _ _ _ _ _ _ _ h => h.elim⟩
theorem set_at {α : Type} {l : List α} {i j : Nat} {a b : α} (e : (l.set i a)[j]? = some b) : (j = i ∧ b = a) ∨ (j ≠ i ∧ l[j]? = some b) := by
  by_cases h : i = j
  · subst h
    by_cases hl : i < l.length
    · rw [List.getElem?_set_self hl] at e
      exact .inl ⟨rfl, (Option.some.inj e).symm⟩
    · rw [List.getElem?_eq_none (by simpa using hl)] at e; cases e
  · rw [List.getElem?_set_ne h] at e
    exact .inr ⟨fun z => h z.symm, e⟩
theorem RS.setv (q : RS K w ρ σ) {i : Nat} {s : Sl} {v : V} (hs : RSl K w s v) (hd : s.isOwn = true → ∀ (j : Nat) (t : Sl), j ≠ i → ρ[j]? = some (some t) → t.isOwn = true → σ[j]? ≠ some (some v)) : RS K w (setS ρ i s) (σ.set i (some v)) where
  len := by unfold setS; rw [List.length_set, List.length_set]; exact q.len
  at_ := fun j t e => by
    unfold setS at e
    rcases set_at e with ⟨rfl, e2⟩ | ⟨hj, e⟩
    · cases e2
      refine ⟨v, ?_, hs⟩
      have hl : j < σ.length := by
        rw [← q.len]
        obtain ⟨z, _⟩ := List.getElem?_eq_some_iff.mp e
        simpa using z
      exact List.getElem?_set_self hl
    · obtain ⟨u, h1, h2⟩ := q.at_ j t e
      exact ⟨u, by rw [List.getElem?_set_ne (Ne.symm hj)]; exact h1, h2⟩
  dis := fun j k s' t' u e1 e2 o1 o2 f1 f2 => by
    unfold setS at e1 e2
    rcases set_at e1 with ⟨rfl, z1⟩ | ⟨hj, g1⟩
    · rcases set_at e2 with ⟨rfl, z2⟩ | ⟨hk, g2⟩
      · rfl
      · cases z1
        rcases set_at f1 with ⟨_, z⟩ | ⟨z, _⟩
        · cases z
          rw [List.getElem?_set_ne (Ne.symm hk)] at f2
          exact absurd f2 (hd o1 k t' hk g2 o2)
        · exact absurd rfl z
    · rcases set_at e2 with ⟨rfl, z2⟩ | ⟨hk, g2⟩
      · cases z2
        rcases set_at f2 with ⟨_, z⟩ | ⟨z, _⟩
        · cases z
          rw [List.getElem?_set_ne (Ne.symm hj)] at f1
          exact absurd f1 (hd o2 j s' hj g1 o1)
        · exact absurd rfl z
      · rw [List.getElem?_set_ne (Ne.symm hj)] at f1
        rw [List.getElem?_set_ne (Ne.symm hk)] at f2
        exact q.dis j k s' t' u g1 g2 o1 o2 f1 f2
theorem RS.setd (q : RS K w ρ σ) {i : Nat} {d : D} {v : V} (hs : RD K w d v) : RS K w (setS ρ i (.val d)) (σ.set i (some v)) := q.setv (s := .val d) hs fun z => by cases z
theorem Good.pgn (g : Good C tb n c X) {i : Nat} {x : Str} {pos : Pos} (h : c.store i x = true) : PG X (.Name x pos) (gName i) := by
  unfold Ck.store at h
  simp only [Bool.and_eq_true, decide_eq_true_eq, Bool.or_eq_true] at h
  obtain ⟨h1, h2⟩ := h
  refine pg_name (by rw [g.hN]; exact g.nd) (by rw [g.hN]; exact h1) ?_ ?_
  · unfold L2.Loc
    rw [g.sc]
    rcases h2 with h2 | ⟨h2, _⟩
    · exact .inl h2
    · exact .inr h2
  · rw [g.sc, g.fn]
    rcases h2 with h2 | ⟨_, h2⟩
    · exact .inr h2
    · exact .inl h2
theorem assignEach_cons {e : Expr} {es : List Expr} {env : Env} (h : notStar e = true) : assignEach (e :: es) env = (false, assign e env) :: assignEach es env := by
  cases e <;> first | rfl | cases h
theorem starEach_cons {e : Expr} {es : List Expr} {env : Env} (h : notStar e = true) : starEach (e :: es) env = (false, eval e env) :: starEach es env := by
  cases e <;> first | rfl | cases h
/-! ### targets -/
theorem okPs_len : ∀ {ps : List P} {es : List Expr}, okPs c ps es = true → ps.length = es.length
  | [], [], _ => rfl
  | [], _ :: _, h => by simp [okPs] at h
  | _ :: _, [], h => by simp [okPs] at h
  | p :: ps, e :: es, h => by
    simp only [okPs, Bool.and_eq_true] at h
    simp [okPs_len h.2]
theorem ae_len : ∀ {ps : List P} {es : List Expr} {env : Env}, okPs c ps es = true → (assignEach es env).length = es.length ∧ (assignEach es env).findIdx? (·.1) = none
  | [], [], _, _ => ⟨rfl, rfl⟩
  | [], _ :: _, _, h => by simp [okPs] at h
  | _ :: _, [], _, h => by simp [okPs] at h
  | p :: ps, e :: es, env, h => by
    simp only [okPs, Bool.and_eq_true] at h
    obtain ⟨a, b⟩ := ae_len (env := env) h.2
    rw [assignEach_cons h.1.1]
    exact ⟨by simp [a], by simp [List.findIdx?_cons, b]⟩
mutual
theorem sP (g : Good C tb n c X) : ∀ (p : P) (e : Expr), okP c p e = true → PG X e (Tg X.K tb p)
  | .nm i, e, hk => by
    cases e with
    | Name x pos =>
      refine (g.pgn (i := i) hk).imp fun v σ H Q ⟨w, ρ, h, d, ρ', e, r, rs, rd, b, q⟩ => ?_
      simp only [bindP, Option.some.injEq] at b
      subst b
      exact q _ (rs.setd rd) fun j hj => List.getElem?_set_ne (fun z => hj (by rw [z]; simp [slotsP]))
    | _ => simp [okP] at hk
  | .tu ps, e, hk => by
    cases e with
    | Tuple es k pos =>
      have hk' : okPs c ps es = true := by simpa [okP] using hk
      obtain ⟨l1, l2⟩ := ae_len (env := X.env) hk'
      have lenP : ∀ {ps : List P} {xs : List D} {ρ ρ' : Rho}, bindPs ps xs ρ = some ρ' → xs.length = ps.length := by
        intro ps
        induction ps with
        | nil =>
          intro xs ρ ρ' b
          cases xs with
          | nil => rfl
          | cons _ _ => simp [bindPs] at b
        | cons p ps ih =>
          intro xs ρ ρ' b
          cases xs with
          | nil => simp [bindPs] at b
          | cons d ds =>
            simp only [bindPs] at b
            obtain ⟨_, _, h2⟩ := Option.bind_eq_some_iff.mp b
            simp [ih h2]
      have pt := pg_tup (n := es.length) (k := k) (pos := pos) g.calm (sPs g ps es hk') l1 l2
      have pl := L2.pg_unl (n := es.length) (k := k) (pos := pos) g.calm (sPs g ps es hk') l1 l2
      refine (pt.orr pl).imp fun v σ H Q ⟨w, ρ, h, d, ρ', e, r, rs, rd, b, q⟩ => ?_
      subst e
      cases d with
      | tup xs =>
        simp only [bindP] at b
        cases rd with
        | tup t rr =>
          exact .inl ⟨_, _, rfl, t.sq, by rw [← rr.length, ← okPs_len hk']; exact lenP b, w, ρ, h, xs, ρ', rfl, r, rs, rr, b, q⟩
      | lst xs =>
        simp only [bindP] at b
        cases rd with
        | lst f t rr =>
          exact .inr ⟨_, _, rfl, SqL.of t, by rw [← rr.length, ← okPs_len hk']; exact lenP b, w, ρ, h, xs, ρ', rfl, r, rs, rr, b, q⟩
      | _ => simp [bindP] at b
    | _ => simp [okP] at hk
theorem sPs (g : Good C tb n c X) : ∀ (ps : List P) (es : List Expr), okPs c ps es = true → PGs X es (Tgs X.K tb ps)
  | [], [], _ => pgs_nil.imp fun vs σ H Q ⟨w, ρ, h, d, ρ', e, r, rs, rd, b, q⟩ => by
    cases d with
    | nil =>
      simp only [bindPs, Option.some.injEq] at b
      subst b
      cases rd
      exact ⟨rfl, q σ rs fun _ _ => rfl⟩
    | cons _ _ => simp [bindPs] at b
  | [], _ :: _, h => by simp [okPs] at h
  | _ :: _, [], h => by simp [okPs] at h
  | p :: ps, e :: es, hk => by
    simp only [okPs, Bool.and_eq_true] at hk
    refine (pgs_cons (sP g p e hk.1.2) (sPs g ps es hk.2) (by rw [assignEach_cons hk.1.1]; rfl)).imp fun vs σ H Q ⟨w, ρ, h, d, ρ', e, r, rs, rd, b, q⟩ => ?_
    cases d with
    | nil => simp [bindPs] at b
    | cons d ds =>
      simp only [bindPs] at b
      obtain ⟨ρ1, b1, b2⟩ := Option.bind_eq_some_iff.mp b
      cases rd with
      | cons r1 r2 =>
        refine ⟨_, _, rfl, w, ρ, h, d, ρ1, e, r, rs, r1, b1, fun σ1 rs1 a1 => ?_⟩
        refine ⟨w, ρ1, h, ds, ρ', e, r, rs1, r2, b2, fun σ2 rs2 a2 => q σ2 rs2 fun j hj => ?_⟩
        simp only [slotsPs, List.mem_append, not_or] at hj
        exact (a2 j hj.2).trans (a1 j hj.1)
end
end
end PI

set_option Elab.async false
set_option linter.all false
set_option maxRecDepth 100000
set_option maxHeartbeats 4000000
set_option autoImplicit false
namespace PI
open PySem PySem.Spec PyProof.Rows L2
section
variable {K : PySem.W.Frag} {tb : List Addr} {w0 : Wd} {h : PH}
theorem RDs.ix {xs : List D} {vs : List V} {i : Nat} {w : Wd} (r : RDs K w xs vs) {x : V} (e : vs[i]? = some x) : ∃ d, xs[i]? = some d ∧ RD K w d x := r.getV e
theorem get_lt {α : Type} {l : List α} {i : Nat} (h : i < l.length) : ∃ x, l[i]? = some x := ⟨l[i], List.getElem?_eq_getElem h⟩
theorem wk_tup {R : Wd → Wd → Prop} {a : Addr} {xs : List D} (t : ∀ w h, R w0 w → Rel K tb w h → ∃ vs, SqT K w.H a vs ∧ RDs K w xs vs) : Wk K tb R (Itt K a) w0 xs where
  go := fun i w h l rel hi => by
    obtain ⟨vs, q, r⟩ := t w h l rel
    obtain ⟨x, e⟩ := get_lt (l := vs) (i := i) (by rw [← r.length]; exact hi)
    exact ⟨vs, x, q, e⟩
  yld := fun i w h x H' hi l rel y => by
    obtain ⟨vs, q, r⟩ := t w h l rel
    obtain ⟨rfl, y⟩ := y
    obtain ⟨d, h1, h2⟩ := r.ix (y vs q)
    exact ⟨w, d, h1, rfl, rel, h2, Ext.refl w⟩
  stop := fun i w h l rel hi => by
    obtain ⟨vs, q, r⟩ := t w h l rel
    exact ⟨vs, q, by rw [← r.length]; exact hi⟩
/-- a list that stands while R -/
def LW (K : PySem.W.Frag) (tb : List Addr) (R : Wd → Wd → Prop) (w0 : Wd) (a : Addr) (xs : List D) : Prop := ∀ w h, R w0 w → Rel K tb w h → ∃ vs, SqL K w.H a vs ∧ RDs K w xs vs
theorem wk_lst {R : Wd → Wd → Prop} {a : Addr} {xs : List D} (t : LW K tb R w0 a xs) : Wk K tb R (Itl K a) w0 xs where
  go := fun i w h l rel hi => by
    obtain ⟨vs, q, r⟩ := t w h l rel
    obtain ⟨x, e⟩ := get_lt (l := vs) (i := i) (by rw [← r.length]; exact hi)
    exact ⟨vs, x, q, e⟩
  yld := fun i w h x H' hi l rel y => by
    obtain ⟨vs, q, r⟩ := t w h l rel
    obtain ⟨rfl, y⟩ := y
    obtain ⟨d, h1, h2⟩ := r.ix (y vs q)
    exact ⟨w, d, h1, rfl, rel, h2, Ext.refl w⟩
  stop := fun i w h l rel hi => by
    obtain ⟨vs, q, r⟩ := t w h l rel
    exact ⟨vs, q, by rw [← r.length]; exact hi⟩
theorem rngL_at (lo hi : Int) (i : Nat) (h : i < (hi - lo).toNat) : (rngL lo hi)[i]? = some (.int (lo + i)) := by
  unfold rngL
  rw [List.getElem?_map, List.getElem?_range h]; rfl
theorem rngL_len (lo hi : Int) : (rngL lo hi).length = (hi - lo).toNat := by unfold rngL; simp
theorem wk_rng {R : Wd → Wd → Prop} {lo hi : Int} : Wk K tb R (Itr lo (hi - lo).toNat) w0 (rngL lo hi) where
  go := fun i w h l _ hi => by
    rw [rngL_len] at hi; exact hi
  yld := fun i w h x H' hi l rel y => by
    obtain ⟨rfl, rfl⟩ := y
    rw [rngL_len] at hi
    exact ⟨w, _, rngL_at _ _ _ hi, rfl, rel, .int _, Ext.refl w⟩
  stop := fun i w h l _ hi => by rw [rngL_len] at hi; exact hi
theorem enumL_at : ∀ (xs : List D) (n i : Nat) (x : D), xs[i]? = some x → (enumL n xs)[i]? = some (.tup [.int ((n + i : Nat) : Int), x])
  | [], _, _, _, h => by simp at h
  | d :: r, n, 0, x, h => by simp at h; subst h; rfl
  | d :: r, n, i + 1, x, h => by
    have := enumL_at r (n + 1) i x (by simpa using h)
    show (enumL (n + 1) r)[i]? = _
    rw [this]
    have e : n + 1 + i = n + (i + 1) := by omega
    rw [e]
theorem enumL_len : ∀ (xs : List D) (n : Nat), (enumL n xs).length = xs.length
  | [], _ => rfl
  | d :: r, n => by show (enumL (n + 1) r).length + 1 = _; rw [enumL_len r]; rfl
theorem wk_enum {R : Wd → Wd → Prop} {a : Addr} {xs : List D} (t : LW K tb R w0 a xs) : Wk K tb R (Ite K a) w0 (enumL 0 xs) where
  go := fun i w h l rel hi => by
    obtain ⟨vs, q, r⟩ := t w h l rel
    rw [enumL_len] at hi
    obtain ⟨x, e⟩ := get_lt (l := vs) (i := i) (by rw [← r.length]; exact hi)
    exact ⟨vs, x, q, e⟩
  yld := fun i w h x H' hi l rel y => by
    obtain ⟨vs, q, r⟩ := t w h l rel
    obtain ⟨T, v, rfl, hT, rfl, y⟩ := y
    obtain ⟨d, h1, h2⟩ := r.ix (y vs q)
    refine ⟨w.frz T (.tup [.int (i : Nat), v]), .tup [.int ((0 + i : Nat) : Int), d], enumL_at _ _ _ _ h1, rfl, rel.frz hT (fun z => z), ?_, ext_frz hT⟩
    rw [Nat.zero_add]
    exact .tup (.inl ⟨.inr rfl, .inl upd_same⟩) (.cons (.int _) (.cons (h2.ext (ext_frz hT) rel) .nil))
  stop := fun i w h l rel hi => by
    obtain ⟨vs, q, r⟩ := t w h l rel
    exact ⟨vs, q, by rw [enumL_len] at hi; rw [← r.length]; exact hi⟩
theorem zipL_at : ∀ (xs ys : List D) (i : Nat) (x y : D), xs[i]? = some x → ys[i]? = some y → (zipL xs ys)[i]? = some (.tup [x, y])
  | [], _, _, _, _, h, _ => by simp at h
  | _ :: _, [], _, _, _, _, h => by simp at h
  | a :: r, b :: s, 0, x, y, h, h' => by simp at h h'; subst h h'; rfl
  | a :: r, b :: s, i + 1, x, y, h, h' => by
    show (zipL r s)[i]? = _
    exact zipL_at r s i x y (by simpa using h) (by simpa using h')
theorem zipL_len : ∀ (xs ys : List D), (zipL xs ys).length = min xs.length ys.length
  | [], _ => by simp [zipL]
  | _ :: _, [] => by simp [zipL]
  | a :: r, b :: s => by
    show (zipL r s).length + 1 = _
    rw [zipL_len r s, List.length_cons, List.length_cons]; omega
theorem wk_zip {R : Wd → Wd → Prop} {a b : Addr} {xs ys : List D} (t : LW K tb R w0 a xs) (t' : LW K tb R w0 b ys) : Wk K tb R (Itz K a b) w0 (zipL xs ys) where
  go := fun i w h l rel hi => by
    obtain ⟨vs, q, r⟩ := t w h l rel
    obtain ⟨us, q', r'⟩ := t' w h l rel
    rw [zipL_len] at hi
    have l1 := r.length
    have l2 := r'.length
    obtain ⟨x, e⟩ := get_lt (l := vs) (i := i) (by omega)
    obtain ⟨y, e'⟩ := get_lt (l := us) (i := i) (by omega)
    exact ⟨vs, us, x, y, q, q', e, e'⟩
  yld := fun i w h x H' hi l rel y => by
    obtain ⟨vs, q, r⟩ := t w h l rel
    obtain ⟨us, q', r'⟩ := t' w h l rel
    obtain ⟨T, v, u, rfl, hT, rfl, y, y'⟩ := y
    obtain ⟨d, h1, h2⟩ := r.ix (y vs q)
    obtain ⟨d', h1', h2'⟩ := r'.ix (y' us q')
    exact ⟨w.frz T (.tup [v, u]), .tup [d, d'], zipL_at _ _ _ _ _ h1 h1', rfl, rel.frz hT (fun z => z),
      .tup (.inl ⟨.inr rfl, .inl upd_same⟩) (.cons (h2.ext (ext_frz hT) rel) (.cons (h2'.ext (ext_frz hT) rel) .nil)), ext_frz hT⟩
  stop := fun i w h l rel hi => by
    obtain ⟨vs, q, r⟩ := t w h l rel
    obtain ⟨us, q', r'⟩ := t' w h l rel
    exact ⟨vs, us, q, q', by rw [zipL_len] at hi; have l1 := r.length; have l2 := r'.length; omega⟩
theorem wk_rev {R : Wd → Wd → Prop} {a : Addr} {xs : List D} (t : LW K tb R w0 a xs) : Wk K tb R (Itv K a xs.length) w0 xs.reverse where
  go := fun i w h l rel hi => by
    obtain ⟨vs, q, r⟩ := t w h l rel
    rw [List.length_reverse] at hi
    obtain ⟨x, e⟩ := get_lt (l := vs) (i := xs.length - 1 - i) (by have := r.length; omega)
    exact ⟨hi, vs, x, q, e⟩
  yld := fun i w h x H' hi l rel y => by
    obtain ⟨vs, q, r⟩ := t w h l rel
    obtain ⟨rfl, y⟩ := y
    obtain ⟨d, h1, h2⟩ := r.ix (y vs q)
    rw [List.length_reverse] at hi
    refine ⟨w, d, ?_, rfl, rel, h2, Ext.refl w⟩
    rw [List.getElem?_reverse hi]
    exact h1
  stop := fun i w h l rel hi => by rw [List.length_reverse] at hi; exact hi
/-- how a list stands: by what is frozen, or one's own -/
theorem lw_of {R : Wd → Wd → Prop} (hR : ∀ w, R w0 w → Le w0 w) {d : D} {v : V} {xs : List D} (r : RD K w0 d v) (e : lstItems d = some xs) : ∃ a, v = .ref a ∧ LW K tb R w0 a xs := by
  cases r with
  | lst f h s => simp only [lstItems, Option.some.injEq] at e; subst e; exact ⟨_, rfl, fun w h' l rel => ⟨_, SqL.of ((hR w l).keep _ f _ h), s.le (hR w l)⟩⟩
  | scr t => simp only [lstItems, Option.some.injEq] at e; subst e; exact ⟨_, rfl, fun w h' l rel => ⟨_, ((hR w l).lf t).sq, RDs.ofInts _⟩⟩
  | _ => simp [lstItems] at e
theorem lw_ofB (rel0 : Rel K tb w0 h) {d : D} {v : V} {xs : List D} (r : RB K w0 d v) (e : lstItems d = some xs) : ∃ a, v = .ref a ∧ LW K tb Ext w0 a xs := by
  rcases r with r | ⟨ys, a, vs, e1, e2, h1, h2, h3⟩ | ⟨_, _, _, _, _, e1, _⟩
  · exact lw_of (fun w x => x.le rel0) r e
  · subst e1
    simp only [lstItems, Option.some.injEq] at e; subst e
    exact ⟨a, e2, fun w h' x rel => ⟨vs, SqL.of (x.keep a _ h1 (fun z => z) h3.1), h2.ext x rel0⟩⟩
  · subst e1
    simp [lstItems] at e
end
end PI

set_option Elab.async false
set_option linter.all false
set_option maxRecDepth 100000
set_option maxHeartbeats 4000000
set_option autoImplicit false
namespace PI
open PySem PySem.Spec PyProof.Rows L2
section
variable {C : Calls} {tb : List Addr} {n : Nat} {c : Ck} {X : Cx} {K : PySem.W.Frag} {w w1 w' : Wd} {h h1 h' : PH} {ρ : Rho} {σ : L2.St} {Q : VK}

/-! ### a private list grows -/
theorem Rel.pput (r : Rel K tb w h) {a : Addr} {o : HO} (p : Priv w a) (hn : ∃ o', w.H a = some o' ∧ ¬ isTbl o') : Rel K tb (w.put a o) h where
  len := r.len
  nd := r.nd
  cell := fun n c e => by
    obtain ⟨b, g1, g2⟩ := r.cell n c e
    refine ⟨b, g1, g2.le (le_put r p.2) fun o' e' => ?_⟩
    show upd w.H a o b = some o'
    rw [upd_ne fun z => p.1 (by rw [← z]; exact List.mem_of_getElem? g1)]; exact e'
  io := fun b m => by
    obtain ⟨o', e, t⟩ := r.io b m
    exact ⟨o', by show upd w.H a o b = some o'; rw [upd_ne fun z => p.1 (by rw [← z]; exact m)]; exact e, t⟩
  nf := r.nf
  ft := fun b f => by
    obtain ⟨o', e, t⟩ := r.ft b f
    exact ⟨o', by show upd w.H a o b = some o'; rw [upd_ne fun z => p.2 (by rw [← z]; exact f)]; exact e, t⟩
  tabs := tabs_upd r.tabs fun ps z => by
    obtain ⟨o', e, t⟩ := hn
    rw [z] at e; cases e; exact t trivial
theorem ext_pput {a : Addr} {o : HO} (x : Ext w1 w) (hn : w1.H a = none) : Ext w1 (w.put a o) where
  ip := x.ip
  fz := x.fz
  fn := x.fn
  ino := x.ino
  keep := fun b o' e t m => by
    show upd w.H a o b = some o'
    rw [upd_ne (ne_of_none e hn)]; exact x.keep b o' e t m
  there := fun b e => upd_thr (x.there b e)

theorem two {fa fb : Rho → PH → R1 D} {x y : D} {h2 : PH} {R : V → V → Hp → Prop} (r : Rel K tb w h) (rs : RS K w ρ σ) (e1 : fa ρ h = some (x, h1)) (e2 : fb ρ h1 = some (y, h2))
    (q : ∀ w2 vx vy, Rel K tb w2 h2 → RB K w2 x vx → RB K w2 y vy → Ext w w2 → R vx vy w2.H) : Tb K tb fa σ w.H (fun vx H1 => Tb K tb fb σ H1 (fun vy H2 => R vx vy H2)) :=
  ⟨w, ρ, h, x, h1, rfl, r, rs, e1, fun w1 vx r1 rx ex1 => ⟨w1, ρ, h1, y, h2, rfl, r1, rs.ext ex1 r, e2, fun w2 vy r2 ry ex2 => q w2 vx vy r2 (rx.ext ex2 r1) ry (ex1.trans ex2)⟩⟩

/-! ### operators -/
def Op.r (K : PySem.W.Frag) : Op → R2
  | .add => rAddA K
  | .sub => rI0 fun i j => .int (i - j)
  | .mul => rMulA K
  | .fdiv => rI CDiv fun i j => .int (i / j)
  | .mod => rI (fun _ j => 0 < j) fun i j => .int (i % j)
  | .pow => rI CPow fun i j => .int (i ^ j.toNat)
theorem opS (o : Op) : OpS K (o.r K) o.f := by
  cases o
  · exact addS K
  · exact subS K
  · exact mulS K
  · exact fdivS K
  · exact modS K
  · exact powS K
theorem opR {o : Op} {p : Operator} (h : opOk o p = true) : OpR X (binaryOp p) (o.r X.K) := by
  cases o <;> cases p <;> first
    | exact absurd h Bool.false_ne_true
    | exact op_addA
    | exact op_sub
    | exact op_mulA
    | exact op_fdiv
    | exact op_mod
    | exact op_pow
/-- the comparisons that are one OpR -/
def Cm.r (K : PySem.W.Frag) : Cm → R2
  | .eq => rEqA K
  | .ne => rNeA K
  | .lt => rLtA K
  | .le => rI0 fun i j => .bl (decide (i ≤ j))
  | .gt => rI0 fun i j => .bl (decide (j < i))
  | .ge => rI0 fun i j => .bl (decide (j ≤ i))
  | .is => rIsA
  | .isnt => rIsntA
  | .isin => fun x y H Q => rInA K x y H Q ∨ ∃ a o, y = .ref a ∧ DGet H a x o ∧ Q (.bl o.isSome) H
  | .notin => fun x y H Q => rNotInA K x y H Q ∨ ∃ a o, y = .ref a ∧ DGet H a x o ∧ Q (.bl (!o.isSome)) H
theorem cmS (o : Cm) : OpS K (o.r K) o.f := by
  cases o
  · exact eqS K
  · exact neS K
  · exact ltS K
  · exact leS K
  · exact gtS K
  · exact geS K
  · exact isS K
  · exact isntS K
  · exact fun r rx ry e q => inS K r rx ry e q
  · exact fun r rx ry e q => notinS K r rx ry e q
theorem op_inDct (hu : X.A.units + 1 < cLine) : OpR X (compareOp .In) (fun x y H Q => ∃ a o, y = .ref a ∧ DGet H a x o ∧ Q (.bl o.isSome) H) := by
  intro pins s σ H x y v u Q I rx ry h
  obtain ⟨a, o, rfl, g, q⟩ := h
  cases ry
  exact d_in hu I g rx fun s' I' => ⟨.bl _, H, I', rfl, q⟩
theorem op_notInDct (hu : X.A.units + 1 < cLine) : OpR X (compareOp .NotIn) (fun x y H Q => ∃ a o, y = .ref a ∧ DGet H a x o ∧ Q (.bl (!o.isSome)) H) := by
  intro pins s σ H x y v u Q I rx ry h
  obtain ⟨a, o, rfl, g, q⟩ := h
  cases ry
  exact d_notIn hu I g rx fun s' I' => ⟨.bl _, H, I', rfl, q⟩
theorem room65 {k : Nat} {A : Around} (r : Room k A) : A.units + 65 < cLine := by have := r.un; omega
theorem cmR {o : Cm} {p : CmpOp} (hr : Room n X.A) (h : cmOk o p = true) : OpR X (compareOp p) (o.r X.K) := by
  cases o <;> cases p <;> first
    | exact absurd h Bool.false_ne_true
    | exact op_eqA hr.units
    | exact op_neA hr.units
    | exact op_ltA hr.units0
    | exact op_le
    | exact op_gt
    | exact op_ge
    | exact op_isA
    | exact op_isntA
    | exact (op_inA (room65 hr)).or (op_inDct (hu_of hr))
    | exact (op_notInA (room65 hr)).or (op_notInDct (hu_of hr))

/-! ### argument lists -/
theorem ns_any : ∀ {md : Nat} {ms : Es} {es : List Expr} {env : Env} {pos : Pos}, okEs md c ms es = true → (backTo pos (starEach es env)).any (·.1) = false
  | _, .nil, [], _, _, _ => rfl
  | _, .nil, _ :: _, _, _, h => by simp [okEs] at h
  | _, .cons _ _, [], _, _, h => by simp [okEs] at h
  | md, .cons m ms, e :: es, env, pos, h => by
    simp only [okEs, Bool.and_eq_true] at h
    rw [starEach_cons h.1.1]
    have ih := ns_any (env := env) (pos := pos) h.2
    unfold backTo at ih ⊢
    rw [List.map_cons, List.any_cons, ih]
    rfl
theorem ns_head {md : Nat} {ms : Es} {e : Expr} {es : List Expr} (h : okEs md c ms (e :: es) = true) : ∃ m r, ms = .cons m r ∧ notStar e = true ∧ okE md c m e = true ∧ okEs md c r es = true := by
  cases ms with
  | nil => simp [okEs] at h
  | cons m r =>
    simp only [okEs, Bool.and_eq_true] at h
    exact ⟨m, r, rfl, h.1.1, h.1.2, h.2⟩

/-! ### built-ins -/
theorem B.boot : ∀ b : B, bootBuiltins b.name = some b.val
  | .len => by decide +kernel
  | .abs => by decide +kernel
  | .int => by decide +kernel
  | .tuple => by decide +kernel
  | .min => by decide +kernel
  | .max => by decide +kernel
  | .sum => by decide +kernel
theorem B.mem (b : B) : b.name ∈ bnames := by cases b <;> decide
theorem pe_bi (g : Good C tb n c X) {b : B} {p pos : Pos} {e : Expr} {es : List Expr} {t : TA} (hg : c.glob b.name = true) (ha : PA X (e :: es) t) (he : notStar e = true) (hpl : (backTo pos (starEach es X.env)).any (·.1) = false) :
    PE X (.Call (.Name b.name p) (e :: es) [] pos) (tCB (b.r X.K) t) := by
  have gl := g.gl hg
  have hm := g.cs.bl _ b.mem
  have hb := b.boot
  have hc := B.call g.calm b
  cases b
  · exact pe_callB hc gl hm hb ha (by decide) (by decide) (starEach_cons he) hpl
  · exact pe_callB hc gl hm hb ha (by decide) (by decide) (starEach_cons he) hpl
  · exact pe_callTy hc gl hm hb ha (by decide) (by decide) (starEach_cons he) hpl
  · exact pe_callTy hc gl hm hb ha (by decide) (by decide) (starEach_cons he) hpl
  · exact pe_callB hc gl hm hb ha (by decide) (by decide) (starEach_cons he) hpl
  · exact pe_callB hc gl hm hb ha (by decide) (by decide) (starEach_cons he) hpl
  · exact pe_callB hc gl hm hb ha (by decide) (by decide) (starEach_cons he) hpl
/-- isinstance -/
theorem tyS {d : D} {v : V} {t : Ty} {b : Bool} (r : RO K w d v) (e : tyB t d = some b) : ∃ T, TyX K w.H v (.type T) ∧ PySem.W.kitOne K (.type T) (.type (tyName t)) = some b := by
  have key : ∀ T : String, kitB T (tyName t) = some b → PySem.W.kitOne K (.type T) (.type (tyName t)) = some b := fun T h => kit_ty h
  cases d with
  | non =>
    rw [r.non]
    refine ⟨"NoneType", .base .non, key _ ?_⟩
    cases t <;> simp only [tyB, Option.some.injEq] at e <;> subst e <;> decide +kernel
  | bl k =>
    rw [r.bl]
    refine ⟨"bool", .base (.bl k), key _ ?_⟩
    cases t <;> simp only [tyB, Option.some.injEq] at e <;> subst e <;> decide +kernel
  | int i =>
    rw [r.int]
    refine ⟨"int", .base (.int i), key _ ?_⟩
    cases t <;> simp only [tyB, Option.some.injEq] at e <;> subst e <;> decide +kernel
  | str s =>
    rw [r.str]
    refine ⟨"str", .base (.str s), key _ ?_⟩
    cases t <;> simp only [tyB, Option.some.injEq] at e <;> subst e <;> decide +kernel
  | tup xs =>
    obtain ⟨a, us, e1, t1, r1⟩ := r.tup
    rw [e1]
    have ty : TyX K w.H (.ref a) (.type "tuple") := by
      rcases t1.sq with (z | ⟨o, z⟩) | ⟨o, its, n, z, z2, _⟩
      · exact .base (.tup z)
      · exact .fTuple z
      · exact .kTuple z z2
    refine ⟨"tuple", ty, key _ ?_⟩
    cases t <;> simp only [tyB, Option.some.injEq] at e <;> subst e <;> decide +kernel
  | lst xs =>
    obtain ⟨a, us, e1, t1, r1⟩ := r.lst
    rw [e1]
    refine ⟨"list", .base (.lst t1), key _ ?_⟩
    cases t <;> simp only [tyB, Option.some.injEq] at e <;> subst e <;> decide +kernel
  | _ => cases t <;> simp [tyB] at e
theorem ty_boot (t : Ty) : bootBuiltins (Str.ofString (tyName t)) = some (.type (tyName t)) := by cases t <;> decide +kernel
theorem ty_mem (t : Ty) : Str.ofString (tyName t) ∈ bnames := by cases t <;> decide
end
end PI

set_option Elab.async false
set_option linter.all false
set_option maxRecDepth 100000
set_option maxHeartbeats 4000000
set_option autoImplicit false
namespace PI
open PySem PySem.Spec PyProof.Rows L2

/-! ### sorted -/
theorem insI_perm (n : Int) : ∀ l : List Int, (insI n l).Perm (n :: l)
  | [] => List.Perm.refl _
  | m :: r => by
    unfold insI
    split
    · exact List.Perm.refl _
    · exact ((insI_perm n r).cons m).trans (List.Perm.swap n m r)
theorem sortI_perm : ∀ l : List Int, (sortI l).Perm l
  | [] => List.Perm.refl _
  | n :: r => (insI_perm n (sortI r)).trans ((sortI_perm r).cons n)
theorem insI_sorted (n : Int) : ∀ l : List Int, l.Pairwise (· ≤ ·) → (insI n l).Pairwise (· ≤ ·)
  | [], _ => List.pairwise_singleton _ _
  | m :: r, h => by
    unfold insI
    obtain ⟨h1, h2⟩ := List.pairwise_cons.mp h
    split
    · rename_i hc
      refine List.pairwise_cons.mpr ⟨fun y hy => ?_, h⟩
      rcases List.mem_cons.mp hy with e | hy
      · omega
      · have := h1 y hy; omega
    · rename_i hc
      refine List.pairwise_cons.mpr ⟨fun y hy => ?_, insI_sorted n r h2⟩
      rcases List.mem_cons.mp ((insI_perm n r).mem_iff.mp hy) with e | hy
      · omega
      · exact h1 y hy
theorem sortI_sorted : ∀ l : List Int, (sortI l).Pairwise (· ≤ ·)
  | [] => List.Pairwise.nil
  | n :: r => insI_sorted n _ (sortI_sorted r)
theorem sorted_eq : ∀ {a b : List Int}, a.Perm b → a.Pairwise (· ≤ ·) → b.Pairwise (· ≤ ·) → a = b
  | [], b, p, _, _ => p.nil_eq
  | x :: a, [], p, _, _ => absurd p.length_eq (by simp)
  | x :: a, y :: b, p, ha, hb => by
    obtain ⟨a1, a2⟩ := List.pairwise_cons.mp ha
    obtain ⟨b1, b2⟩ := List.pairwise_cons.mp hb
    have e : x = y := by
      have h1 : x ∈ y :: b := p.mem_iff.mp (by simp)
      have h2 : y ∈ x :: a := p.mem_iff.mpr (by simp)
      have i1 : y ≤ x := by
        rcases List.mem_cons.mp h1 with z | z
        · omega
        · exact b1 x z
      have i2 : x ≤ y := by
        rcases List.mem_cons.mp h2 with z | z
        · omega
        · exact a1 y z
      omega
    subst e
    rw [sorted_eq ((List.perm_cons x).mp p) a2 b2]
theorem sort_uniq {a b : List Int} (p : a.Perm b) (h : a.Pairwise (· ≤ ·)) : a = sortI b := sorted_eq (p.trans (sortI_perm b).symm) h (sortI_sorted b)

section
variable {C : Calls} {tb : List Addr} {n : Nat} {c : Ck} {X : Cx} {K : PySem.W.Frag} {w w1 w' : Wd} {h h1 h' : PH} {ρ : Rho} {σ : L2.St} {Q : VK}
/-! ### blocks -/
theorem Good.blk (g : Good C tb n c X) {s : Shared} {H : Hp} {scope : Scope} {Ca : Addr} {cl : List (Str × Addr)} {fp : List Addr} : Good C tb n (c.blk scope) (X.blk s H scope (compEnvC scope cl Ca X.env) fp) where
  hN := g.hN
  nd := g.nd
  sc := by
    show relS scope X.env.scope = relS scope c.sc
    rw [g.sc]
  calm := g.calm
  xe := rfl
  roomG := g.roomG
  fn := rfl
  cs := g.cs
  cod := g.cod
theorem wipe_get (σ : L2.St) (i : Nat) : ∀ vs : List Nat, i ∉ vs → (wipe σ vs)[i]? = σ[i]?
  | [], _ => rfl
  | v :: vs, h => by
    simp only [List.mem_cons, not_or] at h
    unfold wipe
    rw [List.getElem?_set_ne (Ne.symm h.1)]
    exact wipe_get σ i vs h.2
theorem wipeS_get (ρ : Rho) (i : Nat) : ∀ vs : List Nat, i ∉ vs → (wipeS ρ vs)[i]? = ρ[i]?
  | [], _ => rfl
  | v :: vs, h => by
    simp only [List.mem_cons, not_or] at h
    unfold wipeS
    rw [List.getElem?_set_ne (Ne.symm h.1)]
    exact wipeS_get ρ i vs h.2
theorem wipeS_len (ρ : Rho) : ∀ vs : List Nat, (wipeS ρ vs).length = ρ.length
  | [] => rfl
  | v :: vs => by unfold wipeS; rw [List.length_set, wipeS_len ρ vs]
theorem wipeS_some {ρ : Rho} {i : Nat} {s : Sl} : ∀ {vs : List Nat}, (wipeS ρ vs)[i]? = some (some s) → ρ[i]? = some (some s) ∧ i ∉ vs
  | [], h => ⟨h, by simp⟩
  | v :: vs, h => by
    unfold wipeS at h
    rcases set_at h with ⟨_, z⟩ | ⟨hi, h⟩
    · cases z
    · obtain ⟨h1, h2⟩ := wipeS_some h
      exact ⟨h1, by simp only [List.mem_cons, not_or]; exact ⟨hi, h2⟩⟩
theorem RS.wipe (q : RS K w ρ σ) (vs : List Nat) : RS K w (wipeS ρ vs) (L2.wipe σ vs) where
  len := by rw [wipeS_len, wipe_length]; exact q.len
  at_ := fun i s e => by
    obtain ⟨e, hi⟩ := wipeS_some e
    obtain ⟨v, h1, h2⟩ := q.at_ i s e
    exact ⟨v, by rw [wipe_get σ i vs hi]; exact h1, h2⟩
  dis := fun i j s t v e1 e2 o1 o2 f1 f2 => by
    obtain ⟨e1, hi⟩ := wipeS_some e1
    obtain ⟨e2, hj⟩ := wipeS_some e2
    rw [wipe_get σ i vs hi] at f1
    rw [wipe_get σ j vs hj] at f2
    exact q.dis i j s t v e1 e2 o1 o2 f1 f2
theorem wipe_none (σ : L2.St) {i : Nat} : ∀ {vs : List Nat}, i ∈ vs → i < σ.length → (wipe σ vs)[i]? = some none
  | v :: vs, h, hl => by
    unfold wipe
    by_cases hv : v = i
    · subst hv
      exact List.getElem?_set_self (by rw [wipe_length]; exact hl)
    · rw [List.getElem?_set_ne hv]
      rcases List.mem_cons.mp h with e | h
      · exact absurd e.symm hv
      · exact wipe_none σ h hl
theorem wipe_eq {σ σ2 : L2.St} {vs : List Nat} (hl : σ2.length = σ.length) (h : ∀ j, j ∉ vs → σ2[j]? = (wipe σ vs)[j]?) : wipe σ2 vs = wipe σ vs := by
  refine List.ext_getElem? fun i => ?_
  by_cases hi : i ∈ vs
  · by_cases hlt : i < σ.length
    · rw [wipe_none σ hi hlt, wipe_none σ2 hi (by rw [hl]; exact hlt)]
    · rw [List.getElem?_eq_none (by rw [wipe_length, hl]; omega), List.getElem?_eq_none (by rw [wipe_length]; omega)]
  · rw [wipe_get σ2 i vs hi, h i hi]

/-- one turn of a comprehension -/
noncomputable def turnF (C : Calls) (p : P) (own : List Nat) (t : Eo) (e : E) (ρ : Rho) : D → PH → R1 (Option D) := fun x h => (bindP p x (wipeS ρ own)).bind fun ρ' => (evOT C t ρ' h).bind fun b => if b.1 = true then (ev C e ρ' b.2).map fun y => (some y.1, y.2) else some (none, b.2)

theorem comp_ok {p : P} {own : List Nat} {t : Eo} {e : E} {J : L2.It} {xs ys : List D} (hs : subOwn p own = true) (r1 : Rel K tb w1 h1) (rs : RS K w1 ρ σ) (W : Wk K tb Ext J w1 xs) (ec : compL (turnF C p own t e ρ) xs [] h1 = some (ys, h')) (q : FinL K tb w1 h' ys Q) :
    ∀ Da, w1.H Da = none → ∃ Wi : Nat → Nat → Hp → Prop, (∃ m, Wi 0 m (upd w1.H Da (.lst []))) ∧ ∀ i m H, Wi i m H →
      (J.stop i H ∧ Q (.ref Da) H) ∨ (J.go i H ∧ ∃ Nx : Hp → Prop, (∀ H', Nx H' → ∃ m', m' < m ∧ Wi (i + 1) m' H') ∧ ∀ x H', J.yld i H x H' → Tg K tb p x (wipe σ own) H' fun σ2 H2 => wipe σ2 own = wipe σ own ∧ Tt K tb (evOT C t) σ2 H2 fun b H3 =>
        if b = true then Tx K tb (ev C e) σ2 H3 fun y H4 => ∃ acc, H4 Da = some (.lst acc) ∧ acc.length < sizeLine ∧ Nx (upd H4 Da (.lst (acc ++ [y]))) else Nx H3) := by
  intro Da hD
  refine ⟨fun i m H => m = xs.length - i ∧ i ≤ xs.length ∧ ∃ w h acc av, w.H = H ∧ Rel K tb w h ∧ Ext w1 w ∧ w.H Da = some (.lst av) ∧ RDs K w acc av ∧ Priv w Da ∧ compL (turnF C p own t e ρ) (xs.drop i) acc h = some (ys, h'), ⟨xs.length, by simp, Nat.zero_le _, w1.raw Da (.lst []), h1, [], [], rfl, r1.raw hD, ext_raw hD, upd_same, .nil, ?_, ec⟩, ?_⟩
  · exact ⟨(priv_new r1 hD).1, (priv_new r1 hD).2⟩
  rintro i m H ⟨rfl, hi, w, h, acc, av, rfl, r, ex, hDa, ra, pv, ev1⟩
  by_cases hlt : i < xs.length
  · refine .inr ⟨W.go i w h ex r hlt, fun H' => ∃ w h acc av, w.H = H' ∧ Rel K tb w h ∧ Ext w1 w ∧ w.H Da = some (.lst av) ∧ RDs K w acc av ∧ Priv w Da ∧ compL (turnF C p own t e ρ) (xs.drop (i + 1)) acc h = some (ys, h'), fun H' hx => ⟨xs.length - (i + 1), by omega, rfl, hlt, hx⟩, fun x H' hy => ?_⟩
    obtain ⟨w2, d, e1, rfl, r2, rd, ex2⟩ := W.yld i w h x H' hlt ex r hy
    have hdr : xs.drop i = d :: xs.drop (i + 1) := by
      rw [List.drop_eq_getElem_cons hlt]
      rw [List.getElem?_eq_getElem hlt] at e1
      rw [Option.some.inj e1]
    rw [hdr] at ev1
    unfold compL at ev1
    obtain ⟨⟨o, h3⟩, f1, f2⟩ := Option.bind_eq_some_iff.mp ev1
    unfold turnF at f1
    obtain ⟨ρ', b1, f1⟩ := Option.bind_eq_some_iff.mp f1
    obtain ⟨⟨b, h4⟩, b2, f1⟩ := Option.bind_eq_some_iff.mp f1
    have ex12 := ex.trans ex2
    have hDa2 : w2.H Da = some (.lst av) := ex2.keep Da _ hDa (fun z => z) pv.1
    have pv2 : Priv w2 Da := pv.ext ex2 (by rw [hDa]; simp)
    have ra2 : RDs K w2 acc av := ra.ext ex2 r
    refine ⟨w2, wipeS ρ own, h, d, ρ', rfl, r2, (rs.ext ex12 r1).wipe own, rd, b1, fun σ2 rs2 ag => ⟨wipe_eq ?_ fun j hj => ag j fun hm => hj ?_, ?_⟩⟩
    · rw [← rs2.len]
      have : ∀ {p : P} {d : D} {ρ ρ' : Rho}, bindP p d ρ = some ρ' → ρ'.length = ρ.length := by
        intro p
        have key : (∀ (p : P) {d : D} {ρ ρ' : Rho}, bindP p d ρ = some ρ' → ρ'.length = ρ.length) := by
          intro p
          refine P.rec (motive_1 := fun p => ∀ {d : D} {ρ ρ' : Rho}, bindP p d ρ = some ρ' → ρ'.length = ρ.length) (motive_2 := fun ps => ∀ {ds : List D} {ρ ρ' : Rho}, bindPs ps ds ρ = some ρ' → ρ'.length = ρ.length) ?_ ?_ ?_ ?_ p
          · intro i d ρ ρ' e
            simp only [bindP, Option.some.injEq] at e
            subst e
            unfold setS; rw [List.length_set]
          · intro ps ih d ρ ρ' e
            cases d with
            | tup xs => simp only [bindP] at e; exact ih e
            | lst xs => simp only [bindP] at e; exact ih e
            | _ => simp [bindP] at e
          · intro ds ρ ρ' e
            cases ds with
            | nil => simp only [bindPs, Option.some.injEq] at e; rw [e]
            | cons _ _ => simp [bindPs] at e
          · intro p ps ihp ihs ds ρ ρ' e
            cases ds with
            | nil => simp [bindPs] at e
            | cons d ds =>
              simp only [bindPs] at e
              obtain ⟨ρ1, e1, e2⟩ := Option.bind_eq_some_iff.mp e
              rw [ihs e2, ihp e1]
        intro d ρ ρ' e
        exact key p e
      rw [this b1, wipeS_len]
      exact rs.len
    · have hs' := List.all_eq_true.mp hs j hm
      exact of_decide_eq_true hs'
    · refine ⟨w2, ρ', h, b, h4, rfl, r2, rs2, b2, fun w3 r3 ex3 => ?_⟩
      have hDa3 : w3.H Da = some (.lst av) := ex3.keep Da _ hDa2 (fun z => z) pv2.1
      have pv3 : Priv w3 Da := pv2.ext ex3 (by rw [hDa2]; simp)
      have ra3 : RDs K w3 acc av := ra2.ext ex3 r2
      have ex13 := ex12.trans ex3
      cases b with
      | false =>
        show ∃ w h acc av, _
        simp only [Bool.false_eq_true, if_false] at f1
        cases f1
        exact ⟨w3, _, acc, av, rfl, r3, ex13, hDa3, ra3, pv3, f2⟩
      | true =>
        show Tx K tb (ev C e) σ2 w3.H _
        simp only [if_true] at f1
        obtain ⟨⟨y, h5⟩, b3, f1⟩ := Option.map_eq_some_iff.mp f1
        cases f1
        refine ⟨w3, ρ', h4, y, h5, rfl, r3, rs2.ext ex3 r2, b3, fun w4 v r4 rv ex4 => ?_⟩
        have hDa4 : w4.H Da = some (.lst av) := ex4.keep Da _ hDa3 (fun z => z) pv3.1
        have pv4 : Priv w4 Da := pv3.ext ex4 (by rw [hDa3]; simp)
        have ra4 : RDs K w4 acc av := ra3.ext ex4 r3
        have ex14 := ex13.trans ex4
        dsimp only at f2
        split at f2
        · rename_i hz
          refine ⟨av, hDa4, by rw [← ra4.length]; exact hz, w4.put Da (.lst (av ++ [v])), h5, acc ++ [y], av ++ [v], rfl, r4.pput pv4 ⟨_, hDa4, fun z => z⟩, ext_pput ex14 hD, upd_same, ?_, ⟨pv4.1, pv4.2⟩, f2⟩
          exact (ra4.le (le_put r4 pv4.2)).append (.cons (rv.le (le_put r4 pv4.2)) .nil)
        · cases f2
  · have e : i = xs.length := by omega
    subst e
    rw [List.drop_length] at ev1
    unfold compL at ev1
    split at ev1
    · cases ev1
      exact .inl ⟨W.stop _ w _ ex r (Nat.le_refl _), q w Da av r hDa ra pv ex hD⟩
    · cases ev1
end
end PI

set_option Elab.async false
set_option linter.all false
set_option maxRecDepth 100000
set_option maxHeartbeats 4000000
set_option autoImplicit false
namespace PI
open PySem PySem.Spec PyProof.Rows L2
section
variable {C : Calls} {tb : List Addr} {n : Nat} {c : Ck} {X : Cx} {K : PySem.W.Frag} {w w1 w' : Wd} {h h1 h' : PH} {ρ : Rho} {σ : L2.St} {Q : VK}

/-- d[y], by values -/
theorem ix_dget (hu : X.A.units + 1 < cLine) : IxR X (fun x y H Q => ∃ a v, x = .ref a ∧ DGet H a y (some v) ∧ Q v H) := by
  intro value slice pins s σ H x y v u Q I rx ry h hs
  obtain ⟨a, v0, rfl, g, q⟩ := h
  obtain rfl : v = Value.ref a := rx
  exact tail_any (dict_typeIs I g) PySem.F.slot_dict_getitem.lookup (d_getItem hu I g ry fun w' s3 I3 rw' => ⟨v0, H, I3, rw', q⟩) hs
theorem plain_ix {b : Expr} (h : notSlice b = true) : PlainIx b := by
  cases b <;> first | exact absurd h Bool.false_ne_true | exact fun _ _ => rfl
theorem pe_false {e : Expr} : PE X e (fun _ _ _ => False) := ⟨fun _ _ _ _ _ _ h => h.elim⟩
theorem pt_false {e : Expr} : PT X e (fun _ _ _ => False) := ⟨fun _ _ _ _ _ _ h => h.elim⟩
theorem pw_false {e : Expr} : PW X e (fun _ _ _ => False) := ⟨fun _ _ _ _ _ _ _ h => h.elim⟩
theorem pa_false {e : List Expr} : PA X e (fun _ _ _ => False) := ⟨fun _ _ _ _ _ _ _ h => h.elim⟩

/-! ### rules -/
theorem r_var (g : Good C tb n c X) {i : Nat} {x : Str} {pos : Pos} (hv : c.var i x = true) : PE X (.Name x pos) (Tx X.K tb (ev C (.var i))) :=
  (g.pv hv).imp fun σ H Q ⟨w, ρ, h, d, h', e, r, rs, hv, q⟩ => by
    subst e
    simp only [ev, Option.map_eq_some_iff] at hv
    obtain ⟨d', h1, h2⟩ := hv
    cases h2
    obtain ⟨v, h3, h4⟩ := rs.at_ i _ (lookS_at (varS_at h1))
    exact ⟨v, h3, q.now r h4⟩
theorem r_own (g : Good C tb n c X) {i : Nat} {x : Str} {pos : Pos} (hv : c.var i x = true) : PE X (.Name x pos) (Tb X.K tb (ev C (.own i))) :=
  (g.pv hv).imp fun σ H Q ⟨w, ρ, h, d, h', e, r, rs, hv, q⟩ => by
    subst e
    simp only [ev, Option.map_eq_some_iff] at hv
    obtain ⟨d', h1, h2⟩ := hv
    cases h2
    unfold ownS at h1
    split at h1
    · rename_i xs hl
      cases h1
      obtain ⟨v, h3, a, vs, h4, h5, h6, h7⟩ := rs.at_ i _ (lookS_at hl)
      exact ⟨v, h3, q w v r (.inr (.inl ⟨xs, a, vs, rfl, h4, h5, h6, h7⟩)) (Ext.refl w)⟩
    · rename_i ks vs hl
      cases h1
      obtain ⟨v, h3, a, kk, us, h4, h5, h6, h7, h8, h9⟩ := rs.at_ i _ (lookS_at hl)
      exact ⟨v, h3, q w v r (.inr (.inr ⟨ks, vs, a, kk, us, rfl, h4, h5, h6, h7, h8, h9⟩)) (Ext.refl w)⟩
    · rename_i d hl
      cases h1
      obtain ⟨v, h3, h4⟩ := rs.at_ i _ (lookS_at hl)
      exact ⟨v, h3, q w v r (.inl h4) (Ext.refl w)⟩
    · cases h1
theorem r_cst {k : Cst} {v : Const} {kd : Nat} {pos : Pos} (hk : cstOk k v = true) : PE X (.Constant v kd pos) (Tx X.K tb (ev C (.cst k))) := by
  have key : ∀ (d : D) (u : V), k.d = d → (∀ w, RD X.K w d u) → PE X (.Constant v kd pos) (tC u) → PE X (.Constant v kd pos) (Tx X.K tb (ev C (.cst k))) := fun d u hd hr hp => hp.imp fun σ H Q ⟨w, ρ, h, d', h', e, r, rs, hv, q⟩ => by
    subst e
    simp only [ev, Option.some.injEq] at hv
    cases hv
    exact q.now r (by rw [hd]; exact hr w)
  cases k <;> cases v <;> first
    | exact absurd hk Bool.false_ne_true
    | skip
  · exact key .non .non rfl (fun _ => .non) pe_non
  · rename_i a b
    obtain rfl : a = b := by simpa [cstOk] using hk
    exact key (.bl a) (.bl a) rfl (fun _ => .bl _) pe_bl
  · rename_i a b
    obtain rfl : a = b := by simpa [cstOk] using hk
    exact key (.int a) (.int a) rfl (fun _ => .int _) pe_int
  · rename_i a b
    obtain rfl : a = b := by simpa [cstOk] using hk
    exact key (.str a) (.str a) rfl (fun _ => .str _) pe_str
theorem r_tup {es : Es} {xs : List Expr} {k : Nat} {pos : Pos} (ha : PA X xs (Tas X.K tb (evs C es))) : PE X (.Tuple xs k pos) (Tx X.K tb (ev C (.tup es))) :=
  (pe_tup ha).imp fun σ H Q ⟨w, ρ, h, d, h', e, r, rs, hv, q⟩ => by
    simp only [ev] at hv
    obtain ⟨⟨ds, h1⟩, e1, e2⟩ := Option.bind_eq_some_iff.mp hv
    split at e2
    · rename_i hz
      cases e2
      exact ⟨w, ρ, h, ds, h1, e, r, rs, e1, fun w2 v r2 rx ex => ⟨by rw [← rx.length]; exact hz, fun p hp => (q.aft ex).tup r2 rx hp⟩⟩
    · cases e2
theorem r_ofL {l : L} {e : Expr} (hl : PE X e (Tl X.K tb (evL C l))) : PE X e (Tx X.K tb (ev C (.ofL l))) :=
  hl.imp fun σ H Q ⟨w, ρ, h, d, h', e, r, rs, hv, q⟩ => by
    simp only [ev] at hv
    obtain ⟨⟨ds, h1⟩, e1, e2⟩ := Option.map_eq_some_iff.mp hv
    cases e2
    exact ⟨w, ρ, h, ds, h1, e, r, rs, e1, FinL.of1 q⟩
/-- a list of one's own becomes a cell -/
def Wd.add (w : Wd) (a : Addr) : Wd := ⟨w.H, w.ι ++ [a], w.F⟩
theorem le_add {a : Addr} : Le w (w.add a) := ⟨List.prefix_append _ _, fun _ f => f, fun _ _ _ e => e⟩
theorem Rel.adopt (r : Rel K tb w h) {a : Addr} {o : HO} {c : Cell} (p : Priv w a) (ho : w.H a = some o) (ht : ¬ isTbl o) (hc : RC K (w.add a) a c) : Rel K tb (w.add a) (h ++ [c]) where
  len := by show (w.ι ++ [a]).length = _; simp [r.len]
  nd := by
    show (w.ι ++ [a]).Nodup
    rw [List.nodup_append]
    refine ⟨r.nd, by simp, fun b hb z hz e => ?_⟩
    simp at hz; subst hz; subst e
    exact p.1 hb
  cell := fun n c' e => by
    by_cases hn : n < h.length
    · rw [List.getElem?_append_left hn] at e
      obtain ⟨b, h1, h2⟩ := r.cell n c' e
      exact ⟨b, by show (w.ι ++ [a])[n]? = _; rw [List.getElem?_append_left (by rw [r.len]; exact hn)]; exact h1, h2.le le_add fun o' e' => e'⟩
    · have hn' : h.length ≤ n := Nat.le_of_not_lt hn
      rw [List.getElem?_append_right hn'] at e
      by_cases h0 : n - h.length = 0
      · rw [h0] at e
        simp at e; subst e
        refine ⟨a, ?_, hc⟩
        show (w.ι ++ [a])[n]? = _
        rw [List.getElem?_append_right (by rw [r.len]; exact hn'), r.len, h0]; rfl
      · obtain ⟨k, hk⟩ : ∃ k, n - h.length = k + 1 := ⟨n - h.length - 1, by omega⟩
        rw [hk] at e; simp at e
  io := fun b m => by
    rcases List.mem_append.mp m with m | m
    · exact r.io b m
    · simp at m; subst m
      exact ⟨o, ho, ht⟩
  nf := fun b m f => by
    rcases List.mem_append.mp m with m | m
    · exact r.nf b m f
    · simp at m; subst m
      exact p.2 f
  ft := r.ft
  tabs := r.tabs
theorem ext_add {a : Addr} (x : Ext w w') (hn : w.H a = none) : Ext w (w'.add a) where
  ip := x.ip.trans (List.prefix_append _ _)
  fz := x.fz
  fn := x.fn
  ino := fun b m => by
    rcases List.mem_append.mp m with m | m
    · exact x.ino b m
    · simp at m; subst m; exact .inr hn
  keep := x.keep
  there := x.there
theorem r_celL {l : L} {e : Expr} (hl : PE X e (Tl X.K tb (evL C l))) : PE X e (Tx X.K tb (ev C (.celL l))) :=
  hl.imp fun σ H Q ⟨w, ρ, h, d, h', e, r, rs, hv, q⟩ => by
    simp only [ev] at hv
    obtain ⟨⟨ds, h1⟩, e1, e2⟩ := Option.map_eq_some_iff.mp hv
    cases e2
    refine ⟨w, ρ, h, ds, h1, e, r, rs, e1, fun w2 a vs r2 ha rv pv ex hn => ?_⟩
    refine q (w2.add a) (.ref a) (r2.adopt pv ha (fun z => z) ⟨vs, ha, rv.le le_add⟩) (.ref ?_) (ext_add ex hn)
    show (w2.ι ++ [a])[h1.length]? = _
    rw [List.getElem?_append_right (by rw [r2.len]; exact Nat.le_refl _), r2.len]
    simp
theorem r_neg {a : E} {x : Expr} {pos : Pos} (ha : PE X x (Tx X.K tb (ev C a))) : PE X (.UnaryOp .USub x pos) (Tx X.K tb (ev C (.neg a))) :=
  (pe_un un_neg ha).imp fun σ H Q ⟨w, ρ, h, d, h', e, r, rs, hv, q⟩ => by
    simp only [ev] at hv
    obtain ⟨⟨x, h1⟩, e1, e2⟩ := Option.bind_eq_some_iff.mp hv
    cases x with
    | int i =>
      cases e2
      refine ⟨w, ρ, h, _, _, e, r, rs, e1, fun w2 v r2 rv ex => ?_⟩
      cases rv
      exact ⟨i, rfl, (q.aft ex).now r2 (.int _)⟩
    | _ => cases e2
theorem r_bin {o : Op} {p : Operator} {a b : E} {x y : Expr} {pos : Pos} (ho : opOk o p = true) (ha : PE X x (Tb X.K tb (ev C a))) (hb : PE X y (Tb X.K tb (ev C b))) : PE X (.BinOp x p y pos) (Tx X.K tb (ev C (.bin o a b))) :=
  (pe_op (opR ho) ha hb).imp fun σ H Q ⟨w, ρ, h, d, h', e, r, rs, hv, q⟩ => by
    subst e
    simp only [ev] at hv
    obtain ⟨⟨dx, h1⟩, e1, hv⟩ := Option.bind_eq_some_iff.mp hv
    obtain ⟨⟨dy, h2⟩, e2, hv⟩ := Option.bind_eq_some_iff.mp hv
    obtain ⟨dz, e3, hv⟩ := Option.map_eq_some_iff.mp hv
    cases hv
    exact two r rs e1 e2 fun w2 vx vy r2 rx ry ex => opS o r2 (rx.de r2) (ry.de r2) e3 (q.aft ex)
theorem r_cmp (g : Good C tb n c X) {o : Cm} {p : CmpOp} {a b : E} {x y : Expr} {pos : Pos} (ho : cmOk o p = true) (ha : PE X x (Tb X.K tb (ev C a))) (hb : PE X y (Tb X.K tb (ev C b))) (hm : behindInMarks p y = false) : PE X (.Compare x [p] [y] pos) (Tx X.K tb (ev C (.cmp o a b))) :=
  (pe_cmpR (cmR g.room ho) ha hb hm).imp fun σ H Q ⟨w, ρ, h, d, h', e, r, rs, hv, q⟩ => by
    subst e
    simp only [ev] at hv
    obtain ⟨⟨dx, h1⟩, e1, hv⟩ := Option.bind_eq_some_iff.mp hv
    obtain ⟨⟨dy, h2⟩, e2, hv⟩ := Option.bind_eq_some_iff.mp hv
    obtain ⟨dz, e3, hv⟩ := Option.map_eq_some_iff.mp hv
    cases hv
    exact two r rs e1 e2 fun w2 vx vy r2 rx ry ex => cmS o r2 (rx.de r2) (ry.de r2) e3 (q.aft ex)
theorem r_cmpT (g : Good C tb n c X) {o : Cm} {p : CmpOp} {a b : E} {x y : Expr} {pos : Pos} (ho : cmOk o p = true) (ha : PE X x (Tb X.K tb (ev C a))) (hb : PE X y (Tb X.K tb (ev C b))) (hm : behindInMarks p y = false) : PT X (.Compare x [p] [y] pos) (Tt X.K tb (evT C (.cmp o a b))) :=
  (pt_cmpR (cmR g.room ho) ha hb hm).imp fun σ H Q ⟨w, ρ, h, d, h', e, r, rs, hv, q⟩ => by
    subst e
    simp only [evT] at hv
    obtain ⟨⟨dx, h1⟩, e1, hv⟩ := Option.bind_eq_some_iff.mp hv
    obtain ⟨⟨dy, h2⟩, e2, hv⟩ := Option.bind_eq_some_iff.mp hv
    obtain ⟨dz, e3, hv⟩ := Option.bind_eq_some_iff.mp hv
    cases dz with
    | bl k =>
      cases hv
      exact two r rs e1 e2 fun w2 vx vy r2 rx ry ex => cmS o r2 (rx.de r2) (ry.de r2) e3 fun w3 v r3 rv ex3 => by
        cases rv
        exact ⟨_, rfl, q w3 r3 (ex.trans ex3)⟩
    | _ => cases hv
theorem r_chn (g : Good C tb n c X) {o o' : Cm} {p p' : CmpOp} {a b d : E} {x y z : Expr} {pos : Pos} (ho : cmOk o p = true) (ho' : cmOk o' p' = true) (ha : PE X x (Tb X.K tb (ev C a))) (hb : PE X y (Tb X.K tb (ev C b))) (hd : PE X z (Tb X.K tb (ev C d))) (hm : lastMarks [p, p'] [y, z] = false) :
    PE X (.Compare x [p, p'] [y, z] pos) (Tx X.K tb (ev C (.chn o o' a b d))) :=
  (pe_chain (cmR g.room ho) (cmR g.room ho') ha hb hd hm).imp fun σ H Q ⟨w, ρ, h, d, h', e, r, rs, hv, q⟩ => by
    subst e
    simp only [ev] at hv
    obtain ⟨⟨dx, h1⟩, e1, hv⟩ := Option.bind_eq_some_iff.mp hv
    obtain ⟨⟨dy, h2⟩, e2, hv⟩ := Option.bind_eq_some_iff.mp hv
    obtain ⟨dk, e3, hv⟩ := Option.bind_eq_some_iff.mp hv
    refine two r rs e1 e2 fun w2 vx vy r2 rx ry ex => cmS o r2 (rx.de r2) (ry.de r2) e3 fun w3 v r3 rv ex3 => ?_
    split at hv
    · cases rv
      obtain ⟨⟨dz, h3⟩, e4, hv⟩ := Option.bind_eq_some_iff.mp hv
      obtain ⟨dw, e5, hv⟩ := Option.map_eq_some_iff.mp hv
      cases hv
      refine ⟨true, rfl, ?_⟩
      rw [if_pos rfl]
      exact ⟨w3, ρ, h2, dz, h3, rfl, r3, rs.ext (ex.trans ex3) r, e4, fun w4 vz r4 rz ex4 => cmS o' r4 (((ry.ext ex3 r2).ext ex4 r3).de r4) (rz.de r4) e5 (q.aft ((ex.trans ex3).trans ex4))⟩
    · cases rv
      cases hv
      refine ⟨false, rfl, ?_⟩
      rw [if_neg Bool.false_ne_true]
      exact q _ _ r3 (.bl _) (ex.trans ex3)
    · cases hv
theorem r_chnT (g : Good C tb n c X) {o o' : Cm} {p p' : CmpOp} {a b d : E} {x y z : Expr} {pos : Pos} (ho : cmOk o p = true) (ho' : cmOk o' p' = true) (ha : PE X x (Tb X.K tb (ev C a))) (hb : PE X y (Tb X.K tb (ev C b))) (hd : PE X z (Tb X.K tb (ev C d))) (hm : lastMarks [p, p'] [y, z] = false) :
    PT X (.Compare x [p, p'] [y, z] pos) (Tt X.K tb (evT C (.chn o o' a b d))) :=
  (pt_chain (cmR g.room ho) (cmR g.room ho') ha hb hd hm).imp fun σ H Q ⟨w, ρ, h, d, h', e, r, rs, hv, q⟩ => by
    subst e
    simp only [evT] at hv
    obtain ⟨⟨dx, h1⟩, e1, hv⟩ := Option.bind_eq_some_iff.mp hv
    obtain ⟨⟨dy, h2⟩, e2, hv⟩ := Option.bind_eq_some_iff.mp hv
    obtain ⟨dk, e3, hv⟩ := Option.bind_eq_some_iff.mp hv
    refine two r rs e1 e2 fun w2 vx vy r2 rx ry ex => cmS o r2 (rx.de r2) (ry.de r2) e3 fun w3 v r3 rv ex3 => ?_
    split at hv
    · cases rv
      obtain ⟨⟨dz, h3⟩, e4, hv⟩ := Option.bind_eq_some_iff.mp hv
      obtain ⟨dw, e5, hv⟩ := Option.bind_eq_some_iff.mp hv
      cases dw with
      | bl k =>
        cases hv
        refine ⟨true, rfl, ?_⟩
        rw [if_pos rfl]
        exact ⟨w3, ρ, h2, dz, h3, rfl, r3, rs.ext (ex.trans ex3) r, e4, fun w4 vz r4 rz ex4 => cmS o' r4 (((ry.ext ex3 r2).ext ex4 r3).de r4) (rz.de r4) e5 fun w5 v5 r5 rv5 ex5 => by
          cases rv5
          exact ⟨_, rfl, q w5 r5 (((ex.trans ex3).trans ex4).trans ex5)⟩⟩
      | _ => cases hv
    · cases rv
      cases hv
      refine ⟨false, rfl, ?_⟩
      rw [if_neg Bool.false_ne_true]
      exact ⟨_, rfl, q w3 r3 (ex.trans ex3)⟩
    · cases hv
theorem r_nt {a : E} {x : Expr} {pos : Pos} (ha : PE X x (Tb X.K tb (ev C a))) : PE X (.UnaryOp .Not x pos) (Tx X.K tb (ev C (.nt a))) :=
  (pe_notT ha).imp fun σ H Q ⟨w, ρ, h, d, h', e, r, rs, hv, q⟩ => by
    subst e
    simp only [ev] at hv
    obtain ⟨⟨dx, h1⟩, e1, hv⟩ := Option.bind_eq_some_iff.mp hv
    obtain ⟨b, e2, hv⟩ := Option.map_eq_some_iff.mp hv
    cases hv
    exact ⟨w, ρ, h, dx, h1, rfl, r, rs, e1, fun w2 v r2 rv ex => ⟨b, truS (rv.de r2) e2, (q.aft ex).now r2 (.bl _)⟩⟩
theorem r_ntT {a : E} {x : Expr} {pos : Pos} (ha : PT X x (Tt X.K tb (evT C a))) : PT X (.UnaryOp .Not x pos) (Tt X.K tb (evT C (.nt a))) :=
  (pt_not ha).imp fun σ H Q ⟨w, ρ, h, d, h', e, r, rs, hv, q⟩ => by
    subst e
    simp only [evT] at hv
    obtain ⟨⟨b, h1⟩, e1, hv⟩ := Option.map_eq_some_iff.mp hv
    cases hv
    exact ⟨w, ρ, h, b, h1, rfl, r, rs, e1, fun w2 r2 ex => q w2 r2 ex⟩
/-- its test is its value's truth -/
def truPlain : Expr → Bool
  | .Compare .. => false
  | .BoolOp .. => false
  | .UnaryOp .Not _ _ => false
  | .IfExp .. => false
  | _ => true
def trF (f : Rho → PH → R1 D) : Rho → PH → R1 Bool := fun ρ h => (f ρ h).bind fun r => (truD (deref r.2 r.1)).map fun b => (b, r.2)
theorem tru_plain {e : Expr} {env : Env} (h : truPlain e = true) : ∀ whole, isTrue e env whole = (do let v ← whole; standAt e.pos; holding [v] (truthy v)) := by
  intro whole
  cases e with
  | UnaryOp o x p => cases o <;> first | rfl | exact absurd h Bool.false_ne_true
  | _ => first | rfl | exact absurd h Bool.false_ne_true
theorem r_tru {f : Rho → PH → R1 D} {e : Expr} (ha : PE X e (Tb X.K tb f)) (he : truPlain e = true) : PT X e (Tt X.K tb (trF f)) :=
  (pt_truth ha (tru_plain he)).imp fun σ H Q ⟨w, ρ, h, d, h', e, r, rs, hv, q⟩ => by
    obtain ⟨⟨dx, h1⟩, e1, hv⟩ := Option.bind_eq_some_iff.mp hv
    obtain ⟨b, e2, hv⟩ := Option.map_eq_some_iff.mp hv
    cases hv
    exact ⟨w, ρ, h, dx, h1, e, r, rs, e1, fun w2 v r2 rv ex => ⟨_, truS (rv.de r2) e2, q w2 r2 ex⟩⟩
theorem r_ite {t a b : E} {d x y : Expr} {pos : Pos} (ht : PT X d (Tt X.K tb (evT C t))) (ha : PE X x (Tx X.K tb (ev C a))) (hb : PE X y (Tx X.K tb (ev C b))) : PE X (.IfExp d x y pos) (Tx X.K tb (ev C (.ite t a b))) :=
  (pe_ifExp ht ha hb).imp fun σ H Q ⟨w, ρ, h, d, h', e, r, rs, hv, q⟩ => by
    simp only [ev] at hv
    obtain ⟨⟨k, h1⟩, e1, hv⟩ := Option.bind_eq_some_iff.mp hv
    refine ⟨w, ρ, h, k, h1, e, r, rs, e1, fun w2 r2 ex => ?_⟩
    cases k with
    | true =>
      rw [if_pos rfl] at hv ⊢
      exact ⟨w2, ρ, h1, d, h', rfl, r2, rs.ext ex r, hv, q.aft ex⟩
    | false =>
      rw [if_neg Bool.false_ne_true] at hv ⊢
      exact ⟨w2, ρ, h1, d, h', rfl, r2, rs.ext ex r, hv, q.aft ex⟩
theorem r_idx (g : Good C tb n c X) {a i : E} {x y : Expr} {pos : Pos} (ha : PE X x (Tb X.K tb (ev C a))) (hi : PE X y (Tb X.K tb (ev C i))) (hs : notSlice y = true) : PE X (.Subscript x y pos) (Tx X.K tb (ev C (.idx a i))) :=
  (pe_ix (ix_seq.or (ix_dget (hu_of g.room))) ha hi (plain_ix hs)).imp fun σ H Q ⟨w, ρ, h, d, h', e, r, rs, hv, q⟩ => by
    subst e
    simp only [ev] at hv
    obtain ⟨⟨dx, h1⟩, e1, hv⟩ := Option.bind_eq_some_iff.mp hv
    obtain ⟨⟨dy, h2⟩, e2, hv⟩ := Option.bind_eq_some_iff.mp hv
    obtain ⟨dz, e3, hv⟩ := Option.map_eq_some_iff.mp hv
    cases hv
    exact two r rs e1 e2 fun w2 vx vy r2 rx ry ex => idxS X.K r2 (rx.de r2) (ry.de r2) e3 (q.aft ex)
theorem r_slc {a : E} {lo hi : Eo} {x : Expr} {l u : Option Expr} {p2 pos : Pos} (ha : PE X x (Tb X.K tb (ev C a))) (hl : PO X l (To X.K tb (evo C lo))) (hh : PO X u (To X.K tb (evo C hi))) : PE X (.Subscript x (.Slice l u none p2) pos) (Tx X.K tb (ev C (.slc a lo hi))) :=
  (pe_slice sl_B ha hl hh).imp fun σ H Q ⟨w, ρ, h, d, h', e, r, rs, hv, q⟩ => by
    simp only [ev] at hv
    obtain ⟨⟨dx, h1⟩, e1, hv⟩ := Option.bind_eq_some_iff.mp hv
    obtain ⟨⟨o1, h2⟩, e2, hv⟩ := Option.bind_eq_some_iff.mp hv
    obtain ⟨⟨o2, h3⟩, e3, hv⟩ := Option.bind_eq_some_iff.mp hv
    obtain ⟨dz, e4, hv⟩ := Option.map_eq_some_iff.mp hv
    cases hv
    exact ⟨w, ρ, h, dx, h1, e, r, rs, e1, fun w1 vx r1 rx ex1 => ⟨w1, ρ, h1, o1, h2, rfl, r1, rs.ext ex1 r, e2, fun w2 r2 ex2 => ⟨w2, ρ, h2, o2, h3, rfl, r2, (rs.ext ex1 r).ext ex2 r1, e3, fun w3 r3 ex3 =>
      sliceS X.K r3 (((rx.ext ex2 r1).ext ex3 r2).de r3) e4 (q.aft ((ex1.trans ex2).trans ex3))⟩⟩⟩
theorem r_onone : PO X none (To X.K tb (evo C .none)) := po_none.imp fun σ H Q ⟨w, ρ, h, d, h', e, r, rs, hv, q⟩ => by
  subst e
  simp only [evo, Option.some.injEq] at hv
  cases hv
  exact q w r (Ext.refl w)
theorem r_osome {m : E} {e : Expr} (ha : PE X e (Tx X.K tb (ev C m))) : PO X (some e) (To X.K tb (evo C (.some m))) := (po_some ha).imp fun σ H Q ⟨w, ρ, h, d, h', e, r, rs, hv, q⟩ => by
  simp only [evo] at hv
  obtain ⟨⟨dx, h1⟩, e1, hv⟩ := Option.bind_eq_some_iff.mp hv
  cases dx with
  | int i =>
    cases hv
    exact ⟨w, ρ, h, _, _, e, r, rs, e1, fun w1 v r1 rv ex => by cases rv; exact ⟨i, rfl, q w1 r1 ex⟩⟩
  | _ => cases hv
theorem r_nil : PA X [] (Tas X.K tb (evs C .nil)) := pa_nil.imp fun σ H Q ⟨w, ρ, h, d, h', e, r, rs, hv, q⟩ => by
  subst e
  simp only [evs, Option.some.injEq] at hv
  cases hv
  exact q w _ r .nil (Ext.refl w)
theorem r_cons {m : E} {ms : Es} {e : Expr} {es : List Expr} (he : notStar e = true) (ha : PE X e (Tx X.K tb (ev C m))) (hb : PA X es (Tas X.K tb (evs C ms))) : PA X (e :: es) (Tas X.K tb (evs C (.cons m ms))) :=
  (pa_cons ha hb (starEach_cons he)).imp fun σ H Q ⟨w, ρ, h, d, h', e, r, rs, hv, q⟩ => by
    simp only [evs] at hv
    obtain ⟨⟨dx, h1⟩, e1, hv⟩ := Option.bind_eq_some_iff.mp hv
    obtain ⟨⟨dy, h2⟩, e2, hv⟩ := Option.map_eq_some_iff.mp hv
    cases hv
    exact ⟨w, ρ, h, dx, h1, e, r, rs, e1, fun w1 vx r1 rx ex1 => ⟨w1, ρ, h1, dy, h2, rfl, r1, rs.ext ex1 r, e2, fun w2 vy r2 ry ex2 => q w2 _ r2 (.cons (rx.ext ex2 r1) ry) (ex1.trans ex2)⟩⟩
theorem r_nilB : PA X [] (Tbs X.K tb (evs C .nil)) := pa_nil.imp fun σ H Q ⟨w, ρ, h, d, h', e, r, rs, hv, q⟩ => by
  subst e
  simp only [evs, Option.some.injEq] at hv
  cases hv
  exact q w _ r .nil (Ext.refl w)
theorem r_consB {m : E} {ms : Es} {e : Expr} {es : List Expr} (he : notStar e = true) (ha : PE X e (Tb X.K tb (ev C m))) (hb : PA X es (Tbs X.K tb (evs C ms))) : PA X (e :: es) (Tbs X.K tb (evs C (.cons m ms))) :=
  (pa_cons ha hb (starEach_cons he)).imp fun σ H Q ⟨w, ρ, h, d, h', e, r, rs, hv, q⟩ => by
    simp only [evs] at hv
    obtain ⟨⟨dx, h1⟩, e1, hv⟩ := Option.bind_eq_some_iff.mp hv
    obtain ⟨⟨dy, h2⟩, e2, hv⟩ := Option.map_eq_some_iff.mp hv
    cases hv
    exact ⟨w, ρ, h, dx, h1, e, r, rs, e1, fun w1 vx r1 rx ex1 => ⟨w1, ρ, h1, dy, h2, rfl, r1, rs.ext ex1 r, e2, fun w2 vy r2 ry ex2 => q w2 _ r2 (.cons (rx.ext ex2 r1) ry) (ex1.trans ex2)⟩⟩
end
end PI

set_option Elab.async false
set_option linter.all false
set_option maxRecDepth 100000
set_option maxHeartbeats 4000000
set_option autoImplicit false
namespace PI
open PySem PySem.Spec PyProof.Rows L2
section
variable {C : Calls} {tb : List Addr} {n : Nat} {c : Ck} {X : Cx} {K : PySem.W.Frag} {w w1 w' : Wd} {h h1 h' : PH} {ρ : Rho} {σ : L2.St} {Q : VK}

/-! ### calls -/
theorem r_call (g : Good C tb n c X) {f : Nat} {x : Str} {p pos : Pos} {es : Es} {y : Expr} {ys : List Expr} (hg : c.glob x = true) (hf : (c.nms[f]?).map (·.name) = some x) (hdb : (x == ("__debug__" : Str)) = false) (ha : PA X (y :: ys) (Tas X.K tb (evs C es)))
    (hy : notStar y = true) (hpl : (backTo pos (starEach ys X.env)).any (·.1) = false) : PE X (.Call (.Name x p) (y :: ys) [] pos) (Tx X.K tb (ev C (.call f es))) := by
  obtain ⟨d, h1, h2⟩ := Option.map_eq_some_iff.mp hf
  obtain ⟨a, fd, m1, m2, F, m3, _⟩ := g.cs.fn f d h1
  rw [h2] at m1
  refine (pe_call (dvs := []) (E := E0) F g.room (g.gl hg) m1 m2 m3 .nil pass0 ha hdb (starEach_cons hy) hpl).imp fun σ H Q ⟨w, ρ, h, d, h', e, r, rs, hv, q⟩ => ?_
  simp only [ev] at hv
  obtain ⟨⟨ds, h1⟩, e1, hv⟩ := Option.bind_eq_some_iff.mp hv
  refine ⟨w, ρ, h, ds, h1, e, r, rs, e1, fun w1 vs r1 rv ex => ?_⟩
  show SpC C X.K tb f (vs ++ []) w1.H Q E0
  rw [List.append_nil]
  exact ⟨w1, h1, ds, d, h', rfl, r1, rv, hv, q.aft ex⟩
/-- f(k = v, ..) -/
theorem pe_callN0 {CX : CXT} {k : Nat} {f : Addr} {fd : FuncData} {ps ks : List Str} {sp : Sp} {E : XK} {x : Str} {p pos : Pos} {kws : List Keyword} {tk : TA} {g : List Value → List Value → List Value} {gV : List V → List V → List V}
    (F : FnOk X.prog X.w X.K X.mg X.base CX k f fd ps sp) (hr : Room k X.A) (hg : Gl X x) (hm : X.mg x = some (.ref f)) (hk : PySem.W.keepIn X.K (.ref f) = true) (hb : KBn X.K fd ps 0 ks g gV) (hx : Passes CX X E)
    (hkw : PK X kws tk) (hall : (backToKw pos (keywordEach kws X.env)).all (·.1.isSome) = true) (hks : (backToKw pos (keywordEach kws X.env)).filterMap (·.1) = ks) (hdb : (x == ("__debug__" : Str)) = false)
    (hpl : ((backTo pos (starEach [] X.env)).any (·.1) || (backToKw pos (keywordEach kws X.env)).any (·.1.isNone)) = false) : PE X (.Call (.Name x p) [] kws pos) (tCallN 0 ks.length sp gV E tNil tk) := by
  refine ⟨fun pins s σ H Q I h => ?_⟩
  refine wpAny_Call_Name_kw (ld_glob I hg hm ?_ hdb)
  refine PySem.W.callWith_KW0 (h₀ := X.base) I.ok.mod.kin hk hall (thn (hkw.run pos pins s σ H _ I h) fun ws s2 ⟨zs, H2, I2, rz, l1, l2, q2⟩ => ⟨I2.kIn, ?_⟩) hpl
  rw [hks]
  exact run_fnN (us := []) (vs := []) F hr hb hx I2 .nil rz l1 l2 q2
theorem kw_all {c : Ck} : ∀ {ms : Es} {kws : List Keyword} {env : Env} {pos : Pos}, okKs c ms kws = true → (backToKw pos (keywordEach kws env)).all (·.1.isSome) = true ∧ (backToKw pos (keywordEach kws env)).filterMap (·.1) = kwNames kws ∧ (backToKw pos (keywordEach kws env)).any (·.1.isNone) = false
  | .nil, [], _, _, _ => ⟨rfl, rfl, rfl⟩
  | .nil, _ :: _, _, _, h => absurd h Bool.false_ne_true
  | .cons _ _, [], _, _, h => absurd h Bool.false_ne_true
  | .cons m ms, ⟨nm, v, kp⟩ :: ks, env, pos, h => by
    have h' : ((nm.isSome && okE 0 c m v) && okKs c ms ks) = true := h
    rw [Bool.and_eq_true, Bool.and_eq_true] at h'
    obtain ⟨i1, i2, i3⟩ := kw_all (env := env) (pos := pos) h'.2
    cases nm with
    | none => exact absurd h'.1.1 Bool.false_ne_true
    | some z =>
      unfold backToKw kwNames at *
      unfold keywordEach
      refine ⟨?_, ?_, ?_⟩
      · rw [List.map_cons, List.all_cons, i1]; rfl
      · rw [List.map_cons, List.filterMap_cons, i2]; rfl
      · rw [List.map_cons, List.any_cons, i3]; rfl
theorem permD_rds {w : Wd} {xs : List D} {vs : List V} (r : RDs K w xs vs) : ∀ {pm : List Nat} {zs : List D}, permD xs pm = some zs → RDs K w zs (permF pm vs)
  | [], zs, e => by simp only [permD, Option.some.injEq] at e; subst e; exact .nil
  | i :: pm, zs, e => by
    simp only [permD] at e
    obtain ⟨x, e1, e⟩ := Option.bind_eq_some_iff.mp e
    obtain ⟨ys, e2, rfl⟩ := Option.map_eq_some_iff.mp e
    obtain ⟨v, e3, e4⟩ := r.get e1
    unfold permF
    rw [List.filterMap_cons, e3]
    exact .cons e4 (permD_rds r e2)
theorem evs_len : ∀ {ms : Es} {kws : List Keyword} {ρ : Rho} {h : PH} {xs : List D} {h' : PH}, okKs c ms kws = true → evs C ms ρ h = some (xs, h') → xs.length = (kwNames kws).length
  | .nil, [], _, _, _, _, _, e => by simp only [evs, Option.some.injEq] at e; cases e; rfl
  | .nil, _ :: _, _, _, _, _, h, _ => absurd h Bool.false_ne_true
  | .cons _ _, [], _, _, _, _, h, _ => absurd h Bool.false_ne_true
  | .cons m ms, ⟨nm, v, kp⟩ :: ks, _, _, _, _, h, e => by
    have h' : ((nm.isSome && okE 0 c m v) && okKs c ms ks) = true := h
    rw [Bool.and_eq_true, Bool.and_eq_true] at h'
    simp only [evs] at e
    obtain ⟨⟨x, h1⟩, e1, e⟩ := Option.bind_eq_some_iff.mp e
    obtain ⟨⟨ys, h2⟩, e2, e⟩ := Option.map_eq_some_iff.mp e
    cases e
    cases nm with
    | none => exact absurd h'.1.1 Bool.false_ne_true
    | some z =>
      have := evs_len h'.2 e2
      unfold kwNames at *
      rw [List.filterMap_cons]
      simpa using this
theorem r_callK (g : Good C tb n c X) {f : Nat} {pm : List Nat} {x : Str} {p pos : Pos} {ks : Es} {kws : List Keyword} (hg : c.glob x = true) (hf : (c.nms[f]?).map (·.name) = some x) (hdb : (x == ("__debug__" : Str)) = false) (hk : okKs c ks kws = true) (hc : c.kc f (kwNames kws) pm = true)
    (ha : PK X kws (Tas X.K tb (evs C ks))) : PE X (.Call (.Name x p) [] kws pos) (Tx X.K tb (ev C (.callK f pm ks))) := by
  obtain ⟨d, h1, h2⟩ := Option.map_eq_some_iff.mp hf
  obtain ⟨a, fd, m1, m2, F, m3, m4, _⟩ := g.cs.fn f d h1
  rw [h2] at m1
  unfold Ck.kc at hc
  obtain ⟨k, hk1, hk2⟩ := List.any_eq_true.mp hc
  simp only [Bool.and_eq_true, decide_eq_true_eq] at hk2
  obtain ⟨⟨k1, k2⟩, k3⟩ := hk2
  have kb := m4 k hk1 k1
  rw [k2, k3] at kb
  obtain ⟨i1, i2, i3⟩ := kw_all (env := X.env) (pos := pos) hk
  refine (pe_callN0 (E := E0) F g.room (g.gl hg) m1 m2 kb pass0 ha i1 i2 hdb (by rw [i3]; rfl)).imp fun σ H Q ⟨w, ρ, h, d, h', e, r, rs, hv, q⟩ => ?_
  simp only [ev] at hv
  obtain ⟨⟨ds, h1⟩, e1, hv⟩ := Option.bind_eq_some_iff.mp hv
  obtain ⟨zs, e2, hv⟩ := Option.bind_eq_some_iff.mp hv
  refine ⟨w, ρ, h, ds, h1, e, r, rs, e1, fun w1 vs r1 rv ex => ⟨rfl, ?_, ?_⟩⟩
  · rw [← rv.length]; exact evs_len hk e1
  · exact ⟨w1, h1, zs, d, h', rfl, r1, permD_rds rv e2, hv, q.aft ex⟩
theorem r_bi (g : Good C tb n c X) {b : B} {p pos : Pos} {es : Es} {y : Expr} {ys : List Expr} (hg : c.glob b.name = true) (ha : PA X (y :: ys) (Tbs X.K tb (evs C es)))
    (hy : notStar y = true) (hpl : (backTo pos (starEach ys X.env)).any (·.1) = false) : PE X (.Call (.Name b.name p) (y :: ys) [] pos) (Tx X.K tb (ev C (.bi b es))) :=
  (pe_bi g hg ha hy hpl).imp fun σ H Q ⟨w, ρ, h, d, h', e, r, rs, hv, q⟩ => by
    simp only [ev] at hv
    obtain ⟨⟨ds, h1⟩, e1, hv⟩ := Option.bind_eq_some_iff.mp hv
    obtain ⟨dz, e2, hv⟩ := Option.map_eq_some_iff.mp hv
    cases hv
    exact ⟨w, ρ, h, ds, h1, e, r, rs, e1, fun w1 vs r1 rv ex => biS X.K r1 (rv.de r1) e2 (q.aft ex)⟩
theorem boot_isi : bootBuiltins ("isinstance" : Str) = some (.builtin "isinstance") := by decide +kernel
theorem boot_list : bootBuiltins ("list" : Str) = some (.type "list") := by decide +kernel
theorem boot_sorted : bootBuiltins ("sorted" : Str) = some (.builtin "sorted") := by decide +kernel
theorem r_isi (g : Good C tb n c X) {a : E} {t : Ty} {y : Expr} {p p2 pos : Pos} (hi : c.glob ("isinstance" : Str) = true) (ht : c.glob (Str.ofString (tyName t)) = true) (ha : PE X y (Tb X.K tb (ev C a))) (hy : notStar y = true) :
    PE X (.Call (.Name ("isinstance" : Str) p) [y, .Name (Str.ofString (tyName t)) p2] [] pos) (Tx X.K tb (ev C (.isi a t))) := by
  have pt : PE X (.Name (Str.ofString (tyName t)) p2) (tC (.ty (tyName t))) := pe_bltn (u := .type (tyName t)) (g.gl ht) (g.cs.bl _ (ty_mem t)) (ty_boot t) rfl (by cases t <;> decide) (by cases t <;> decide)
  refine (pe_callB call_isi (g.gl hi) (g.cs.bl _ (by decide)) boot_isi (pa_cons ha (pa_cons pt pa_nil rfl) (starEach_cons hy)) (by decide) (by decide) (starEach_cons hy) rfl).imp fun σ H Q ⟨w, ρ, h, d, h', e, r, rs, hv, q⟩ => ?_
  simp only [ev] at hv
  obtain ⟨⟨dx, h1⟩, e1, hv⟩ := Option.bind_eq_some_iff.mp hv
  obtain ⟨k, e2, hv⟩ := Option.map_eq_some_iff.mp hv
  cases hv
  refine ⟨w, ρ, h, dx, h1, e, r, rs, e1, fun w1 v r1 rv ex => ?_⟩
  obtain ⟨T, y1, y2⟩ := tyS (rv.de r1) e2
  exact ⟨v, _, _, _, k, rfl, .ty _, y1, y2, (q.aft ex).now r1 (.bl _)⟩

/-! ### new lists -/
theorem r_disp {es : Es} {xs : List Expr} {pos : Pos} (ha : PA X xs (Tas X.K tb (evs C es))) : PE X (.List xs pos) (Tl X.K tb (evL C (.disp es))) :=
  (pe_lst ha).imp fun σ H Q ⟨w, ρ, h, d, h', e, r, rs, hv, q⟩ => by
    simp only [evL] at hv
    obtain ⟨⟨ds, h1⟩, e1, e2⟩ := Option.bind_eq_some_iff.mp hv
    split at e2
    · rename_i hz
      cases e2
      exact ⟨w, ρ, h, _, _, e, r, rs, e1, fun w2 v r2 rx ex => ⟨by rw [← rx.length]; exact hz, fun p hp => (q.aft ex).new r2 rx hp⟩⟩
    · cases e2
theorem r_list (g : Good C tb n c X) {a : E} {y : Expr} {p pos : Pos} (hi : c.glob ("list" : Str) = true) (ha : PE X y (Tb X.K tb (ev C a))) (hy : notStar y = true) : PE X (.Call (.Name ("list" : Str) p) [y] [] pos) (Tl X.K tb (evL C (.list a))) :=
  (pe_callTy call_list_of (g.gl hi) (g.cs.bl _ (by decide)) boot_list (pa_cons ha pa_nil (starEach_cons hy)) (by decide) (by decide) (starEach_cons hy) rfl).imp fun σ H Q ⟨w, ρ, h, d, h', e, r, rs, hv, q⟩ => by
    simp only [evL] at hv
    obtain ⟨⟨dx, h1⟩, e1, hv⟩ := Option.bind_eq_some_iff.mp hv
    obtain ⟨xs, e2, hv⟩ := Option.map_eq_some_iff.mp hv
    cases hv
    refine ⟨w, ρ, h, dx, h1, e, r, rs, e1, fun w1 v r1 rv ex => ?_⟩
    have ro := rv.de r1
    unfold listD at e2
    dsimp only at e2
    split at e2
    · rename_i zs hz
      cases e2
      rw [hz] at ro
      obtain ⟨b, us, f1, f2, f3⟩ := ro.tup
      exact ⟨b, us, by rw [f1], .inr f2.sq, fun l hl => (q.aft ex).new r1 f3 hl⟩
    · rename_i zs hz
      cases e2
      rw [hz] at ro
      obtain ⟨b, us, f1, f2, f3⟩ := ro.lst
      exact ⟨b, us, by rw [f1], .inl (SqL.of f2), fun l hl => (q.aft ex).new r1 f3 hl⟩
    · rename_i zs hz
      cases e2
      rw [hz] at ro
      obtain ⟨b, f1, f2⟩ := ro.scr
      exact ⟨b, _, by rw [f1], .inl f2.sq, fun l hl => (q.aft ex).new r1 (RDs.ofInts _) hl⟩
    · cases e2
theorem keys_ints : ∀ {ks : List D} {kk : List Key} {ns : List Int}, keysD ks = some kk → intsD ks = some ns → kk = ns.map Sum.inl
  | [], _, _, h1, h2 => by
    simp only [keysD, intsD, Option.some.injEq] at h1 h2
    subst h1 h2; rfl
  | .int i :: r, _, _, h1, h2 => by
    simp only [keysD, keyD, intsD, Option.bind_some, Option.map_eq_some_iff] at h1 h2
    obtain ⟨k1, g1, rfl⟩ := h1
    obtain ⟨k2, g2, rfl⟩ := h2
    rw [keys_ints g1 g2]; rfl
  | .non :: _, _, _, _, h2 => by simp [intsD] at h2
  | .bl _ :: _, _, _, _, h2 => by simp [intsD] at h2
  | .str _ :: _, _, _, _, h2 => by simp [intsD] at h2
  | .tup _ :: _, _, _, _, h2 => by simp [intsD] at h2
  | .lst _ :: _, _, _, _, h2 => by simp [intsD] at h2
  | .scr _ :: _, _, _, _, h2 => by simp [intsD] at h2
  | .dct _ _ :: _, _, _, _, h2 => by simp [intsD] at h2
  | .rc _ _ :: _, _, _, _, h2 => by simp [intsD] at h2
  | .ref _ :: _, _, _, _, h2 => by simp [intsD] at h2
theorem r_sorted (g : Good C tb n c X) {a : E} {y : Expr} {p pos : Pos} (hi : c.glob ("sorted" : Str) = true) (ha : PE X y (Tb X.K tb (ev C a))) (hy : notStar y = true) : PE X (.Call (.Name ("sorted" : Str) p) [y] [] pos) (Tl X.K tb (evL C (.sorted a))) :=
  (pe_callB (CallR.or (cr_sortedI (X := X)) (call_sortedDI g.calm)) (g.gl hi) (g.cs.bl _ (by decide)) boot_sorted (pa_cons ha pa_nil (starEach_cons hy)) (by decide) (by decide) (starEach_cons hy) rfl).imp fun σ H Q ⟨w, ρ, h, d, h', e, r, rs, hv, q⟩ => by
    simp only [evL] at hv
    obtain ⟨⟨dx, h1⟩, e1, hv⟩ := Option.bind_eq_some_iff.mp hv
    obtain ⟨xs, e2, hv⟩ := Option.map_eq_some_iff.mp hv
    cases hv
    refine ⟨w, ρ, h, dx, h1, e, r, rs, e1, fun w1 v r1 rv ex => ?_⟩
    have ro := rv.de r1
    unfold sortD at e2
    dsimp only at e2
    split at e2
    · rename_i ks vs hz
      rw [hz] at ro
      obtain ⟨b, kk, us, f1, f2, f3, f4, f5⟩ := ro.dct
      obtain ⟨ns, f6, e2⟩ := Option.bind_eq_some_iff.mp e2
      split at e2
      · rename_i hl
        cases e2
        refine .inr ⟨b, _, ns, by rw [f1], .inl f2, ?_, hl, fun ys pp hp hs hn => ?_⟩
        · rw [List.map_fst_zip (by omega)]
          exact keys_ints f3 f6
        · rw [sort_uniq hp hs]
          exact (q.aft ex).new r1 (RDs.ofInts _) hn
      · cases e2
    · obtain ⟨ns, f6, e2⟩ := Option.map_eq_some_iff.mp e2
      subst e2
      obtain ⟨b, f1, f2⟩ := ro.ints f6
      refine .inl ⟨b, ns, by rw [f1], f2, fun ys pp hp hs hn => ?_⟩
      rw [sort_uniq hp hs]
      exact (q.aft ex).new r1 (RDs.ofInts _) hn

/-! ### walks -/
structure MdOk (K : PySem.W.Frag) (tb : List Addr) (R : Wd → Wd → Prop) (P : Wd → D → V → Prop) : Prop where
  rfl_ : ∀ w, R w w
  tup : ∀ w h xs v, Rel K tb w h → P w (.tup xs) v → ∃ a, v = .ref a ∧ ∀ w' h', R w w' → Rel K tb w' h' → ∃ vs, SqT K w'.H a vs ∧ RDs K w' xs vs
  lst : ∀ w h d xs v, Rel K tb w h → P w d v → lstItems d = some xs → ∃ a, v = .ref a ∧ LW K tb R w a xs
theorem md0 : MdOk K tb Le (RD K) where
  rfl_ := Le.refl
  tup := fun w h xs v r p => by
    cases p with
    | tup t s => exact ⟨_, rfl, fun w' h' x rel => ⟨_, (x.tf t).sq, s.le x⟩⟩
  lst := fun w h d xs v r p e => lw_of (fun _ x => x) p e
theorem md1 : MdOk K tb Ext (RB K) where
  rfl_ := Ext.refl
  tup := fun w h xs v r p => by
    rcases p with p | ⟨_, _, _, e, _⟩ | ⟨_, _, _, _, _, e, _⟩
    · cases p with
      | tup t s => exact ⟨_, rfl, fun w' h' x rel => ⟨_, ((x.le r).tf t).sq, s.ext x r⟩⟩
    · cases e
    · cases e
  lst := fun w h d xs v r p e => lw_ofB r p e
/-- the reading with the value's relation open -/
def TP (K : PySem.W.Frag) (tb : List Addr) (P : Wd → D → V → Prop) (f : Rho → PH → R1 D) : TE := fun σ H Q => ∃ w ρ h d h', w.H = H ∧ Rel K tb w h ∧ RS K w ρ σ ∧ f ρ h = some (d, h') ∧ ∀ w' v, Rel K tb w' h' → P w' d v → Ext w w' → Q v w'.H
variable {R : Wd → Wd → Prop} {P0 : Wd → D → V → Prop}
theorem i_seq (ok : MdOk X.K tb R P0) {tg e : Expr} {m : E} (ha : PE X e (TP X.K tb P0 (ev C m))) : PI X tg e (Ti X.K tb R (evI C (.seq m))) :=
  ((pi_tup ha).orr (pi_list ha)).imp fun σ H U ⟨w, ρ, h, d, h', e, r, rs, hv, q⟩ => by
    simp only [evI] at hv
    obtain ⟨⟨dx, h1⟩, e1, hv⟩ := Option.bind_eq_some_iff.mp hv
    obtain ⟨xs, e2, hv⟩ := Option.map_eq_some_iff.mp hv
    cases hv
    have li : ∀ xs', lstItems dx = some xs' → xs' = d → (iList X.K (TP X.K tb P0 (ev C m))) σ H U := fun xs' hl hx => by
      subst hx
      refine ⟨w, ρ, h, dx, _, e, r, rs, e1, fun w1 v r1 rv ex => ?_⟩
      obtain ⟨a, f1, f2⟩ := ok.lst _ _ _ _ _ r1 rv hl
      obtain ⟨vs, f3, f4⟩ := f2 w1 _ (ok.rfl_ w1) r1
      exact ⟨a, f1, ⟨vs, f3⟩, q w1 _ r1 ex (wk_lst f2)⟩
    cases dx with
    | tup ys =>
      cases e2
      refine .inl ⟨w, ρ, h, _, _, e, r, rs, e1, fun w1 v r1 rv ex => ?_⟩
      obtain ⟨a, f1, f2⟩ := ok.tup _ _ _ _ r1 rv
      obtain ⟨vs, f3, f4⟩ := f2 w1 _ (ok.rfl_ w1) r1
      exact ⟨a, f1, ⟨vs, f3⟩, q w1 _ r1 ex (wk_tup f2)⟩
    | lst ys => cases e2; exact .inr (li _ rfl rfl)
    | scr ys => cases e2; exact .inr (li _ rfl rfl)
    | _ => cases e2
theorem i_rng1 (g : Good C tb n c X) {tg y : Expr} {a : E} {p pos : Pos} (hg : c.glob ("range" : Str) = true) (ha : PE X y (Tx X.K tb (ev C a))) (hy : notStar y = true) : PI X tg (.Call (.Name ("range" : Str) p) [y] [] pos) (Ti X.K tb R (evI C (.rng1 a))) :=
  (pi_range1 (g.gl hg) (g.cs.bl _ (by decide)) (pa_cons ha pa_nil (starEach_cons hy)) (starEach_cons hy)).imp fun σ H U ⟨w, ρ, h, d, h', e, r, rs, hv, q⟩ => by
    simp only [evI] at hv
    obtain ⟨⟨dx, h1⟩, e1, hv⟩ := Option.bind_eq_some_iff.mp hv
    cases dx with
    | int j =>
      dsimp only at hv
      split at hv
      · rename_i hj
        cases hv
        refine ⟨w, ρ, h, _, _, e, r, rs, e1, fun w1 v r1 rv ex => ?_⟩
        cases rv
        simp only [smallI, Bool.and_eq_true, decide_eq_true_eq] at hj
        refine ⟨j, rfl, hj.1, hj.2, ?_⟩
        have := q w1 _ r1 ex (wk_rng (lo := 0) (hi := j))
        rw [Int.sub_zero] at this
        exact this
      · cases hv
    | _ => cases hv
theorem i_rng2 (g : Good C tb n c X) {tg y z : Expr} {a b : E} {p pos : Pos} (hg : c.glob ("range" : Str) = true) (ha : PE X y (Tx X.K tb (ev C a))) (hb : PE X z (Tx X.K tb (ev C b))) (hy : notStar y = true) (hz : notStar z = true) :
    PI X tg (.Call (.Name ("range" : Str) p) [y, z] [] pos) (Ti X.K tb R (evI C (.rng2 a b))) := by
  have s1 : starEach [z] X.env = [(false, eval z X.env)] := starEach_cons hz
  have s2 : starEach [y, z] X.env = [(false, eval y X.env), (false, eval z X.env)] := by rw [starEach_cons hy, s1]
  refine (pi_range2 (g.gl hg) (g.cs.bl _ (by decide)) (pa_cons ha (pa_cons hb pa_nil s1) (starEach_cons hy)) s2 s1).imp fun σ H U ⟨w, ρ, h, d, h', e, r, rs, hv, q⟩ => ?_
  simp only [evI] at hv
  obtain ⟨⟨dx, h1⟩, e1, hv⟩ := Option.bind_eq_some_iff.mp hv
  obtain ⟨⟨dy, h2⟩, e2, hv⟩ := Option.bind_eq_some_iff.mp hv
  split at hv
  · rename_i i j f1 f2
    split at hv
    · rename_i hj
      cases hv
      refine ⟨w, ρ, h, _, _, e, r, rs, e1, fun w1 v r1 rv ex => ⟨w1, ρ, _, _, _, rfl, r1, rs.ext ex r, e2, fun w2 v2 r2 rv2 ex2 => ?_⟩⟩
      dsimp only at f1 f2
      subst f1 f2
      cases rv
      cases rv2
      simp only [smallI, Bool.and_eq_true, decide_eq_true_eq] at hj
      exact ⟨i, j, rfl, ⟨hj.1.1, hj.1.2, hj.2.1, hj.2.2⟩, q w2 _ r2 (ex.trans ex2) (wk_rng (lo := i) (hi := j))⟩
    · cases hv
  · cases hv
theorem i_enum (g : Good C tb n c X) (ok : MdOk X.K tb R P0) {y : Expr} {elts : List Expr} {kk : Nat} {tpos : Pos} {a : E} {p pos : Pos} (hg : c.glob ("enumerate" : Str) = true) (ha : PE X y (TP X.K tb P0 (ev C a))) (hy : notStar y = true) :
    PI X (.Tuple elts kk tpos) (.Call (.Name ("enumerate" : Str) p) [y] [] pos) (Ti X.K tb R (evI C (.enum a))) :=
  (pi_enum (g.gl hg) (g.cs.bl _ (by decide)) (pa_cons ha pa_nil (starEach_cons hy)) (starEach_cons hy)).imp fun σ H U ⟨w, ρ, h, d, h', e, r, rs, hv, q⟩ => by
    simp only [evI] at hv
    obtain ⟨⟨dx, h1⟩, e1, hv⟩ := Option.bind_eq_some_iff.mp hv
    obtain ⟨xs, e2, hv⟩ := Option.map_eq_some_iff.mp hv
    cases hv
    refine ⟨w, ρ, h, _, _, e, r, rs, e1, fun w1 v r1 rv ex => ?_⟩
    obtain ⟨b, f1, f2⟩ := ok.lst _ _ _ _ _ r1 rv e2
    obtain ⟨vs, f3, f4⟩ := f2 w1 _ (ok.rfl_ w1) r1
    exact ⟨b, vs, by rw [f1], f3, q w1 _ r1 ex (wk_enum f2)⟩
theorem i_rev (g : Good C tb n c X) (ok : MdOk X.K tb R P0) {y tg : Expr} {a : E} {p pos : Pos} (hg : c.glob ("reversed" : Str) = true) (ha : PE X y (TP X.K tb P0 (ev C a))) (hy : notStar y = true) :
    PI X tg (.Call (.Name ("reversed" : Str) p) [y] [] pos) (Ti X.K tb R (evI C (.rev a))) :=
  (pi_reversed (g.gl hg) (g.cs.bl _ (by decide)) (pa_cons ha pa_nil (starEach_cons hy)) (starEach_cons hy)).imp fun σ H U ⟨w, ρ, h, d, h', e, r, rs, hv, q⟩ => by
    simp only [evI] at hv
    obtain ⟨⟨dx, h1⟩, e1, hv⟩ := Option.bind_eq_some_iff.mp hv
    obtain ⟨xs, e2, hv⟩ := Option.map_eq_some_iff.mp hv
    cases hv
    refine ⟨w, ρ, h, _, _, e, r, rs, e1, fun w1 v r1 rv ex => ?_⟩
    obtain ⟨b, f1, f2⟩ := ok.lst _ _ _ _ _ r1 rv e2
    obtain ⟨vs, f3, f4⟩ := f2 w1 _ (ok.rfl_ w1) r1
    refine ⟨b, vs, by rw [f1], f3, ?_⟩
    rw [← f4.length]
    exact q w1 _ r1 ex (wk_rev f2)
theorem lw_ext (hR : ∀ {a b c : Wd}, Ext a b → R b c → R a c) {a : Addr} {xs : List D} (t : LW K tb R w a xs) (x : Ext w w') : LW K tb R w' a xs := fun w2 h2 l rel => t w2 h2 (hR x l) rel
theorem i_zip (g : Good C tb n c X) (ok : MdOk X.K tb R P0) (ok2 : ∀ {w w' : Wd} {h : PH} {d : D} {v : V}, Rel X.K tb w h → P0 w d v → Ext w w' → P0 w' d v) {y z : Expr} {elts : List Expr} {kk : Nat} {tpos : Pos} {a b : E} {p pos : Pos} (hg : c.glob ("zip" : Str) = true)
    (ha : PE X y (TP X.K tb P0 (ev C a))) (hb : PE X z (TP X.K tb P0 (ev C b))) (hy : notStar y = true) (hz : notStar z = true) :
    PI X (.Tuple elts kk tpos) (.Call (.Name ("zip" : Str) p) [y, z] [] pos) (Ti X.K tb R (evI C (.zip a b))) := by
  have s1 : starEach [z] X.env = [(false, eval z X.env)] := starEach_cons hz
  refine (pi_zip (g.gl hg) (g.cs.bl _ (by decide)) (pa_cons ha (pa_cons hb pa_nil s1) (starEach_cons hy)) (starEach_cons hy) (by rw [s1]; rfl)).imp fun σ H U ⟨w, ρ, h, d, h', e, r, rs, hv, q⟩ => ?_
  simp only [evI] at hv
  obtain ⟨⟨dx, h1⟩, e1, hv⟩ := Option.bind_eq_some_iff.mp hv
  obtain ⟨⟨dy, h2⟩, e2, hv⟩ := Option.bind_eq_some_iff.mp hv
  obtain ⟨xs, e3, hv⟩ := Option.bind_eq_some_iff.mp hv
  obtain ⟨ys, e4, hv⟩ := Option.map_eq_some_iff.mp hv
  cases hv
  refine ⟨w, ρ, h, _, _, e, r, rs, e1, fun w1 v r1 rv ex => ⟨w1, ρ, _, _, _, rfl, r1, rs.ext ex r, e2, fun w2 v2 r2 rv2 ex2 => ?_⟩⟩
  obtain ⟨b1, f1, f2⟩ := ok.lst _ _ _ _ _ r2 (ok2 r1 rv ex2) e3
  obtain ⟨b2, f3, f4⟩ := ok.lst _ _ _ _ _ r2 rv2 e4
  obtain ⟨vs, f5, _⟩ := f2 w2 _ (ok.rfl_ w2) r2
  obtain ⟨us, f6, _⟩ := f4 w2 _ (ok.rfl_ w2) r2
  exact ⟨b1, b2, vs, us, by rw [f1, f3], f5, f6, q w2 _ r2 (ex.trans ex2) (wk_zip f2 f4)⟩
end
end PI

set_option Elab.async false
set_option linter.all false
set_option maxRecDepth 100000
set_option maxHeartbeats 4000000
set_option autoImplicit false
namespace PI
open PySem PySem.Spec PyProof.Rows L2

/-! ### what drives a generator -/
/-- the truth of a value that does not ask the heap -/
def Tru (v : Value) (k : Bool) : Prop := v = .bool k ∨ ∃ i t, v = .int i t ∧ k = (i != 0)
theorem Tru.run {prog : Program} {w : World} {A : Around} {E : Value → Shared → Prop} {s : Shared} {v : Value} {k : Bool} {Q : Bool → Shared → Prop} (h : Tru v k) (q : Q k s) : wpAny (model prog w) A (truthy v) Q E s := by
  rcases h with rfl | ⟨i, t, rfl, rfl⟩
  · exact wpAny_truthy_bool q
  · exact PySem.P.truthy_int q
theorem Tru.uniq {v : Value} {k j : Bool} (h : Tru v k) (g : Tru v j) : k = j := by
  rcases h with rfl | ⟨i, t, rfl, rfl⟩
  · rcases g with g | ⟨i, t, g, _⟩
    · exact Value.bool.inj g
    · cases g
  · rcases g with g | ⟨i', t', g, e⟩
    · cases g
    · cases g; exact e.symm
/-- no cell -/
def NoCell (o : Obj) : Prop := ∀ v, o.data ≠ .cell v
/-- a generator at I: St while it sleeps, En behind its end, Yd what it hands out -/
structure Drv {τ : Type} (prog : Program) (w : World) (A : Around) (I : Addr) (St En : List (Addr × Obj) → τ → Shared → Prop) (Sp : List (Addr × Obj) → τ → Value → τ → Shared → Prop) (Yd : τ → Value → τ → Prop) (nd Gd : τ → Prop) (μ : τ → Nat) (rd : List (Addr × Obj) → Prop) (Up : Obj → Value → Obj → Prop) (Sm : Obj → Obj → Prop) (ly : Prop) : Prop where
  turn : ∀ P t s (Q : Option Value → Shared → Prop) (E : Value → Shared → Prop), rd P → St P t s → Gd t → (∀ s', En P t s' → Q none s') → (∀ v s' t', Yd t v t' → Sp P t v t' s' → Q (some v) s') → wpAny (model prog w) A (pyNext (.ref I)) Q E s
  gen : ∀ P t s, St P t s → ∃ g, s.heap.IsGen I g
  sp0 : ∀ t v t' s, rd [] → Sp [] t v t' s → St [] t' s
  lay : ∀ t s tk o, ly → St [] t s → o.isFreed = false → NoCell o → Sm { cls := .type "list", data := .seq #[] } o → St [(s.heap.objs.size, o)] t { s with heap := s.heap.push o, toks := tk }
  upd : ∀ t v t' s S o o' h' tk, Sp [(S, o)] t v t' s → Up o v o' → NoCell o' → h'.get? S = some o' → (∀ b, b ≠ S → ∀ u, s.heap.get? b = some u → h'.get? b = some u) → St [(S, o')] t' { s with heap := h', toks := tk }
  same : ∀ t s S o o' h' tk, St [(S, o)] t s → Sm o o' → NoCell o' → h'.get? S = some o' → (∀ b, b ≠ S → ∀ u, s.heap.get? b = some u → h'.get? b = some u) → St [(S, o')] t { s with heap := h', toks := tk }
  pin : ∀ t s S o, St [(S, o)] t s → s.heap.get? S = some o
  pinS : ∀ t v t' s S o, Sp [(S, o)] t v t' s → s.heap.get? S = some o
  pinE : ∀ t s S o, En [(S, o)] t s → s.heap.get? S = some o
  ende : ∀ P t s, En P t s → nd t
  dec : ∀ t v t', Yd t v t' → μ t' < μ t
section
variable {τ : Type} {prog : Program} {w : World} {A : Around} {I : Addr} {St En : List (Addr × Obj) → τ → Shared → Prop} {Sp : List (Addr × Obj) → τ → Value → τ → Shared → Prop} {Yd : τ → Value → τ → Prop} {nd Gd : τ → Prop} {μ : τ → Nat} {rd : List (Addr × Obj) → Prop} {Up : Obj → Value → Obj → Prop} {Sm : Obj → Obj → Prop} {ly : Prop} {R : Result → Shared → Prop}
theorem Drv.gd {Gd' : τ → Prop} (D : Drv prog w A I St En Sp Yd nd Gd μ rd Up Sm ly) (h : ∀ t, Gd' t → Gd t) : Drv prog w A I St En Sp Yd nd Gd' μ rd Up Sm ly := ⟨fun P t s Q E r a b => D.turn P t s Q E r a (h t b), D.gen, D.sp0, D.lay, D.upd, D.same, D.pin, D.pinS, D.pinE, D.ende, D.dec⟩
theorem Drv.iter {B : Around} (D : Drv prog w A I St En Sp Yd nd Gd μ rd Up Sm ly) {P : List (Addr × Obj)} {t : τ} {s : Shared} {Q : Value → Shared → Prop} {E : Value → Shared → Prop} (h : St P t s) (q : Q (.ref I) s) : wpAny (model prog w) B (pyIter (.ref I)) Q E s := by
  obtain ⟨g, hg⟩ := D.gen P t s h
  exact wpAny_pyIter_gen hg q
theorem Drv.ty (D : Drv prog w A I St En Sp Yd nd Gd μ rd Up Sm ly) {P : List (Addr × Obj)} {t : τ} {s : Shared} (h : St P t s) : s.TypeIs (.ref I) "generator" := by
  obtain ⟨g, hg⟩ := D.gen P t s h
  exact hg.typeIs
/-- how all(..) and any(..) go -/
inductive AllG (Yd : τ → Value → τ → Prop) (nd : τ → Prop) (stop : Bool) : τ → Bool → τ → Prop
  | fin {t : τ} : nd t → AllG Yd nd stop t (!stop) t
  | hit {t t' : τ} {v : Value} : Yd t v t' → Tru v stop → AllG Yd nd stop t stop t'
  | go {t t' t2 : τ} {v : Value} {b : Bool} : Yd t v t' → Tru v (!stop) → AllG Yd nd stop t' b t2 → AllG Yd nd stop t b t2
theorem all_loop (D : Drv prog w A.in1 I St En Sp Yd nd Gd μ rd Up Sm ly) (h0 : rd []) (tru : ∀ P t v t' s', Gd t → Yd t v t' → Sp P t v t' s' → ∃ k, Tru v k ∧ (k = true → Gd t')) : ∀ (m : Nat) (t : τ) (s : Shared), μ t ≤ m → St [] t s → Gd t →
    (∀ b t' s', AllG Yd nd false t b t' → ((b = true ∧ En [] t' s') ∨ (b = false ∧ St [] t' s')) → R (.ok (.ret (.bool b))) s') → codeAny (model prog w) A (.builtin "all.loop" ⟨[.ref I], []⟩) R s := by
  intro m
  induction m with
  | zero =>
    intro t s hm hst hg hR
    refine codeAny_builtin F.entry_all_loop ?_
    rw [Around.under_plainId F.plain_all_loop _]
    show wpAny _ A.in1 (pyNext (.ref I) >>= _) _ _ s
    refine wpAny_bind (D.turn [] t s _ _ h0 hst hg (fun s' he => ?_) fun v s' t' hy hs => ?_)
    · exact wpAny_bind (wpAny_rule (wpAny_pure (hR true t s' (.fin (D.ende _ _ _ he)) (.inl ⟨rfl, he⟩))))
    · have := D.dec _ _ _ hy
      omega
  | succ m ih =>
    intro t s hm hst hg hR
    refine codeAny_builtin F.entry_all_loop ?_
    rw [Around.under_plainId F.plain_all_loop _]
    show wpAny _ A.in1 (pyNext (.ref I) >>= _) _ _ s
    refine wpAny_bind (D.turn [] t s _ _ h0 hst hg (fun s' he => ?_) fun v s' t' hy hs => ?_)
    · exact wpAny_bind (wpAny_rule (wpAny_pure (hR true t s' (.fin (D.ende _ _ _ he)) (.inl ⟨rfl, he⟩))))
    · obtain ⟨k, hk, hk2⟩ := tru _ t v t' s' hg hy hs
      refine wpAny_bind (wpAny_holding (hk.run ?_))
      refine wpAny_bind (wpAny_letGo ?_)
      cases k with
      | true =>
        simp only [if_true]
        have := D.dec _ _ _ hy
        exact wpAny_pure ⟨plainId_quiet F.plain_all_loop _, ih t' s' (by omega) (D.sp0 _ _ _ _ h0 hs) (hk2 rfl) fun b t2 s2 ha he => hR b t2 s2 (.go hy hk ha) he⟩
      | false =>
        simp only [Bool.false_eq_true, if_false]
        exact wpAny_bind (wpAny_rule (wpAny_pure (hR false t' s' (.hit hy hk) (.inr ⟨rfl, D.sp0 _ _ _ _ h0 hs⟩))))
theorem any_loop (D : Drv prog w A.in1 I St En Sp Yd nd Gd μ rd Up Sm ly) (h0 : rd []) (tru : ∀ P t v t' s', Gd t → Yd t v t' → Sp P t v t' s' → ∃ k, Tru v k ∧ (k = false → Gd t')) : ∀ (m : Nat) (t : τ) (s : Shared), μ t ≤ m → St [] t s → Gd t →
    (∀ b t' s', AllG Yd nd true t b t' → ((b = false ∧ En [] t' s') ∨ (b = true ∧ St [] t' s')) → R (.ok (.ret (.bool b))) s') → codeAny (model prog w) A (.builtin "any.loop" ⟨[.ref I], []⟩) R s := by
  intro m
  induction m with
  | zero =>
    intro t s hm hst hg hR
    refine codeAny_builtin F.entry_any_loop ?_
    rw [Around.under_plainId F.plain_any_loop _]
    show wpAny _ A.in1 (pyNext (.ref I) >>= _) _ _ s
    refine wpAny_bind (D.turn [] t s _ _ h0 hst hg (fun s' he => ?_) fun v s' t' hy hs => ?_)
    · exact wpAny_bind (wpAny_rule (wpAny_pure (hR false t s' (.fin (D.ende _ _ _ he)) (.inl ⟨rfl, he⟩))))
    · have := D.dec _ _ _ hy
      omega
  | succ m ih =>
    intro t s hm hst hg hR
    refine codeAny_builtin F.entry_any_loop ?_
    rw [Around.under_plainId F.plain_any_loop _]
    show wpAny _ A.in1 (pyNext (.ref I) >>= _) _ _ s
    refine wpAny_bind (D.turn [] t s _ _ h0 hst hg (fun s' he => ?_) fun v s' t' hy hs => ?_)
    · exact wpAny_bind (wpAny_rule (wpAny_pure (hR false t s' (.fin (D.ende _ _ _ he)) (.inl ⟨rfl, he⟩))))
    · obtain ⟨k, hk, hk2⟩ := tru _ t v t' s' hg hy hs
      refine wpAny_bind (wpAny_holding (hk.run ?_))
      refine wpAny_bind (wpAny_letGo ?_)
      cases k with
      | false =>
        simp only [Bool.false_eq_true, if_false]
        have := D.dec _ _ _ hy
        exact wpAny_pure ⟨plainId_quiet F.plain_any_loop _, ih t' s' (by omega) (D.sp0 _ _ _ _ h0 hs) (hk2 rfl) fun b t2 s2 ha he => hR b t2 s2 (.go hy hk ha) he⟩
      | true =>
        simp only [if_true]
        exact wpAny_bind (wpAny_rule (wpAny_pure (hR true t' s' (.hit hy hk) (.inr ⟨rfl, D.sp0 _ _ _ _ h0 hs⟩))))
/-- to the end -/
inductive ToEnd (Yd : τ → Value → τ → Prop) (nd : τ → Prop) : τ → List Value → τ → Prop
  | fin {t : τ} : nd t → ToEnd Yd nd t [] t
  | go {t t' t2 : τ} {v : Value} {vs : List Value} : Yd t v t' → ToEnd Yd nd t' vs t2 → ToEnd Yd nd t (v :: vs) t2
theorem lst_nocell {vs : Array Value} {c : Nat} : NoCell { cls := .type "list", dict := none, data := .seq vs c, slots := #[] } := fun v e => by cases e
theorem sum_loop (D : Drv prog w A.in1 I St En Sp Yd nd Gd μ rd Up Sm ly) (hr1 : ∀ S o, rd [(S, o)]) (hu : ∀ o v o', Up o v o') (hv : ∀ P t v t' s', Gd t → Yd t v t' → Sp P t v t' s' → (∃ i tk, v = .int i tk) ∧ Gd t') (S : Addr) : ∀ (m : Nat) (t : τ) (s : Shared) (z : Int) (tA : Tok) (c : Nat) (st : Int), (st = 0 ∨ st = 2) → μ t ≤ m → St [(S, { cls := .type "list", dict := none, data := .seq #[.int z tA] c, slots := #[] })] t s → Gd t →
    (∀ vs o t' s' r tk, ToEnd Yd nd t vs t' → En [(S, o)] t' s' → (∀ ns : List Int, IntsAre vs ns → r = z + ns.sum) → R (.ok (.ret (.int r tk))) s') → codeAny (model prog w) A (.builtin "sum.loop" ⟨[.ref I, .ref S, rawInt st, rawInt 0], []⟩) R s := by
  intro m
  have endd : ∀ {t : τ} {s : Shared} {z : Int} {tA : Tok} {o : Obj}, En [(S, o)] t s → (∀ vs o t' s' r tk, ToEnd Yd nd t vs t' → En [(S, o)] t' s' → (∀ ns : List Int, IntsAre vs ns → r = z + ns.sum) → R (.ok (.ret (.int r tk))) s') → R (.ok (.ret (.int z tA))) s := fun {t s z tA o} he hR =>
    hR [] o t s z tA (.fin (D.ende _ _ _ he)) he fun ns hn => by cases hn; simp
  have keep : ∀ (s : Shared) (f : Obj → Obj) (b : Addr), b ≠ S → ∀ u, s.heap.get? b = some u → (s.heap.update S f).get? b = some u := fun s f b hb u e => (Heap.get?_update_other _ _ (Ne.symm hb)).trans e
  induction m with
  | zero =>
    intro t s z tA c st hst2 hm hst hg hR
    have hS := D.pin _ _ _ _ hst
    refine codeAny_builtin F.entry_sum_loop ?_
    rw [Around.under_plainId F.plain_sum_loop _]
    show wpAny _ A.in1 (seqItems? (.ref S) >>= _) _ _ s
    refine wpAny_bind (wpAny_seqItems hS rfl ?_)
    show wpAny _ A.in1 (tryCatch (pyNext (.ref I)) _ >>= _) _ _ s
    refine wpAny_bind (wpAny_tryCatch (D.turn _ t s _ _ (hr1 _ _) hst hg (fun s' he => ?_) fun v s' t' hy hs => ?_))
    · exact wpAny_pure (endd he hR)
    · have := D.dec _ _ _ hy
      omega
  | succ m ih =>
    intro t s z tA c st hst2 hm hst hg hR
    have hS := D.pin _ _ _ _ hst
    refine codeAny_builtin F.entry_sum_loop ?_
    rw [Around.under_plainId F.plain_sum_loop _]
    show wpAny _ A.in1 (seqItems? (.ref S) >>= _) _ _ s
    refine wpAny_bind (wpAny_seqItems hS rfl ?_)
    show wpAny _ A.in1 (tryCatch (pyNext (.ref I)) _ >>= _) _ _ s
    refine wpAny_bind (wpAny_tryCatch (D.turn _ t s _ _ (hr1 _ _) hst hg (fun s' he => ?_) fun v s' t' hy hs => ?_))
    · exact wpAny_pure (endd he hR)
    · obtain ⟨⟨i, tk, rfl⟩, hg'⟩ := hv _ t _ t' s' hg hy hs
      have hdec := D.dec _ _ _ hy
      have hS' := D.pinS _ _ _ _ _ _ hs
      have next : ∀ (vs : List Value) (o : Obj) (t2 : τ) (s2 : Shared) (r : Int) (tk2 : Tok), ToEnd Yd nd t' vs t2 → En [(S, o)] t2 s2 → (∀ ns : List Int, IntsAre vs ns → r = z + i + ns.sum) → R (.ok (.ret (.int r tk2))) s2 := fun vs o t2 s2 r tk2 h1 h2 h3 =>
        hR (.int i tk :: vs) o t2 s2 r tk2 (.go hy h1) h2 fun ns hn => by
          cases hn with
          | cons _ _ hn => rw [h3 _ hn, List.sum_cons]; omega
      rcases hst2 with rfl | rfl
      · show wpAny _ A.in1 (if (_ : Bool) = true then (mkInt (z + i) >>= _) else _) _ _ _
        split
        · refine wpAny_bind (wpAny_mkInt ?_)
          show wpAny _ A.in1 (updateSeq S (fun _ => #[.int (z + i) s'.toks]) >>= _) _ _ _
          refine wpAny_bind ?_
          refine wpAny_updateSeq hS' rfl (wpAny_pure ⟨plainId_quiet F.plain_sum_loop _, ih t' _ (z + i) s'.toks _ 0 (.inl rfl) (by omega) (D.upd _ _ _ s' _ _ _ _ _ hs (hu _ _ _) lst_nocell (Heap.get?_update_self _ hS' rfl) fun b hb u e => keep s' _ b hb u e) hg' next⟩)
        · refine wpAny_bind (wpAny_rule ?_)
          refine wpAny_bind (wpAny_attempt (wpAny_holding (wpAny_add_int ?_)))
          show wpAny _ A.in1 (updateSeq S (fun _ => #[.int (z + i) s'.toks]) >>= _) _ _ _
          refine wpAny_bind (wpAny_updateSeq hS' rfl ?_)
          have hS₂ := Heap.get?_update_self (Obj.mapSeq fun _ => #[Value.int (z + i) s'.toks]) hS' rfl
          refine wpAny_bind (wpAny_letGo ?_)
          refine wpAny_bind (wpAny_updateSeq hS₂ rfl (wpAny_pure ⟨plainId_quiet F.plain_sum_loop _, ih t' _ (z + i) s'.toks _ 2 (.inr rfl) (by omega) (D.upd _ _ _ s' _ _ _ _ _ hs (hu _ _ _) lst_nocell (Heap.get?_update_self _ hS₂ rfl) fun b hb u e => (Heap.get?_update_other _ _ (Ne.symm hb)).trans (keep s' _ b hb u e)) hg' next⟩))
      · show wpAny _ A.in1 ((holding [Value.int i tk] (binaryOp .Add (.int z tA) (.int i tk))).attempt >>= _) _ _ _
        refine wpAny_bind (wpAny_attempt (wpAny_holding (wpAny_add_int ?_)))
        show wpAny _ A.in1 (updateSeq S (fun _ => #[.int (z + i) s'.toks]) >>= _) _ _ _
        refine wpAny_bind (wpAny_updateSeq hS' rfl ?_)
        have hS₂ := Heap.get?_update_self (Obj.mapSeq fun _ => #[Value.int (z + i) s'.toks]) hS' rfl
        refine wpAny_bind (wpAny_letGo ?_)
        refine wpAny_bind (wpAny_updateSeq hS₂ rfl (wpAny_pure ⟨plainId_quiet F.plain_sum_loop _, ih t' _ (z + i) s'.toks _ 2 (.inr rfl) (by omega) (D.upd _ _ _ s' _ _ _ _ _ hs (hu _ _ _) lst_nocell (Heap.get?_update_self _ hS₂ rfl) fun b hb u e => (Heap.get?_update_other _ _ (Ne.symm hb)).trans (keep s' _ b hb u e)) hg' next⟩))
theorem extend_loop (D : Drv prog w A.in1 I St En Sp Yd nd Gd μ rd Up Sm ly) (hr1 : ∀ S o, rd [(S, o)]) (hu : ∀ acc c v c', Up { cls := .type "list", dict := none, data := .seq acc c, slots := #[] } v { cls := .type "list", dict := none, data := .seq (acc.push v) c', slots := #[] }) (hv : ∀ t v t', Gd t → Yd t v t' → Gd t') (S : Addr) (res : Value) : ∀ (m : Nat) (t : τ) (s : Shared) (acc : Array Value) (c : Nat), acc.size + m ≤ sizeLine → μ t ≤ m → St [(S, { cls := .type "list", dict := none, data := .seq acc c, slots := #[] })] t s → Gd t →
    (∀ vs c' t' s', ToEnd Yd nd t vs t' → En [(S, { cls := .type "list", dict := none, data := .seq (acc ++ vs.toArray) c', slots := #[] })] t' s' → R (.ok (.ret res)) s') → codeAny (model prog w) A (.builtin "list.extend.loop" ⟨[.ref S, .ref I, res], []⟩) R s := by
  intro m
  induction m with
  | zero =>
    intro t s acc c hz hm hst hg hR
    refine codeAny_builtin F.entry_extend_loop ?_
    rw [Around.under_plainId F.plain_extend_loop _]
    show wpAny _ A.in1 (pyNext (.ref I) >>= _) _ _ s
    refine wpAny_bind (D.turn _ t s _ _ (hr1 _ _) hst hg (fun s' he => ?_) fun v s' t' hy hs => ?_)
    · exact wpAny_pure (hR [] c t s' (.fin (D.ende _ _ _ he)) (by simpa using he))
    · have := D.dec _ _ _ hy
      omega
  | succ m ih =>
    intro t s acc c hz hm hst hg hR
    refine codeAny_builtin F.entry_extend_loop ?_
    rw [Around.under_plainId F.plain_extend_loop _]
    show wpAny _ A.in1 (pyNext (.ref I) >>= _) _ _ s
    refine wpAny_bind (D.turn _ t s _ _ (hr1 _ _) hst hg (fun s' he => ?_) fun v s' t' hy hs => ?_)
    · exact wpAny_pure (hR [] c t s' (.fin (D.ende _ _ _ he)) (by simpa using he))
    · have hdec := D.dec _ _ _ hy
      have hS' := D.pinS _ _ _ _ _ _ hs
      show wpAny _ A.in1 (updateSeq S (·.push v) >>= _) _ _ _
      refine wpAny_bind ?_
      refine wpAny_updateSeq hS' rfl (wpAny_pure ⟨plainId_quiet F.plain_extend_loop _, ih t' _ (acc.push v) _ (by rw [Array.size_push]; omega) (by omega) (D.upd _ _ _ s' _ _ _ _ s'.toks hs (hu _ _ _ _) lst_nocell (Heap.get?_update_self _ hS' rfl) fun b hb u e => (Heap.get?_update_other _ _ (Ne.symm hb)).trans e) (hv _ _ _ hg hy) fun vs c' t2 s2 h1 h2 => ?_⟩)
        (by omega) (by show (acc.push v).size ≤ sizeLine + 1; rw [Array.size_push]; omega)
      refine hR (v :: vs) c' t2 s2 (.go hy h1) ?_
      have e : acc ++ (v :: vs).toArray = acc.push v ++ vs.toArray := by
        apply Array.ext'
        simp
      rw [e]
      exact h2
end
/-! ### the calls -/
section
variable {τ : Type} {prog : Program} {w : World} {A : Around} {I : Addr} {St En : List (Addr × Obj) → τ → Shared → Prop} {Sp : List (Addr × Obj) → τ → Value → τ → Shared → Prop} {Yd : τ → Value → τ → Prop} {nd Gd : τ → Prop} {μ : τ → Nat} {rd : List (Addr × Obj) → Prop} {Up : Obj → Value → Obj → Prop} {Sm : Obj → Obj → Prop} {ly : Prop} {E : Value → Shared → Prop} {s : Shared} {t : τ}
theorem call_all_drv {Q : Value → Shared → Prop} (D : Drv prog w A.in1 I St En Sp Yd nd Gd μ rd Up Sm ly) (h0 : rd []) (tru : ∀ P t v t' s', Gd t → Yd t v t' → Sp P t v t' s' → ∃ k, Tru v k ∧ (k = true → Gd t')) (hst : St [] t s) (hg : Gd t)
    (hQ : ∀ b t' s', AllG Yd nd false t b t' → ((b = true ∧ En [] t' s') ∨ (b = false ∧ St [] t' s')) → Q (.bool b) s') : wpAny (model prog w) A (PySem.call (.builtin "all") [.ref I]) Q E s := by
  refine call_function_tree F.kind_all F.plain_all F.entry_all (F.args_all1 _) ?_
  unfold Builtin.«all»
  refine wpAny_bind (m := oneArg "all" _) (wpAny_pure ?_)
  refine wpAny_bind (D.iter hst ?_)
  exact wpAny_pure ⟨plainId_quiet F.plain_all_loop _, all_loop D h0 tru (μ t) t s (Nat.le_refl _) hst hg hQ⟩
theorem call_any_drv {Q : Value → Shared → Prop} (D : Drv prog w A.in1 I St En Sp Yd nd Gd μ rd Up Sm ly) (h0 : rd []) (tru : ∀ P t v t' s', Gd t → Yd t v t' → Sp P t v t' s' → ∃ k, Tru v k ∧ (k = false → Gd t')) (hst : St [] t s) (hg : Gd t)
    (hQ : ∀ b t' s', AllG Yd nd true t b t' → ((b = false ∧ En [] t' s') ∨ (b = true ∧ St [] t' s')) → Q (.bool b) s') : wpAny (model prog w) A (PySem.call (.builtin "any") [.ref I]) Q E s := by
  refine call_function_tree F.kind_any F.plain_any F.entry_any (F.args_any1 _) ?_
  unfold Builtin.«any»
  refine wpAny_bind (m := oneArg "any" _) (wpAny_pure ?_)
  refine wpAny_bind (D.iter hst ?_)
  exact wpAny_pure ⟨plainId_quiet F.plain_any_loop _, any_loop D h0 tru (μ t) t s (Nat.le_refl _) hst hg hQ⟩
theorem call_sum_drv {Q : Value → Shared → Prop} (D : Drv prog w A.in1 I St En Sp Yd nd Gd μ rd Up Sm ly) (hly : ly) (hr1 : ∀ S o, rd [(S, o)]) (hu : ∀ o v o', Up o v o') (hv : ∀ P t v t' s', Gd t → Yd t v t' → Sp P t v t' s' → (∃ i tk, v = .int i tk) ∧ Gd t') (hs : ∀ o o', Sm o o') (hst : St [] t s) (hg : Gd t)
    (hQ : ∀ vs S o t' s' r tk, s.heap.objs.size ≤ S → ToEnd Yd nd t vs t' → En [(S, o)] t' s' → (∀ ns : List Int, IntsAre vs ns → r = ns.sum) → Q (.int r tk) s') : wpAny (model prog w) A (PySem.call (.builtin "sum") [.ref I]) Q E s := by
  refine call_function_tree F.kind_sum F.plain_sum F.entry_sum (F.args_sum1 _) ?_
  unfold Builtin.«sum»
  simp only [List.length_cons, List.length_nil]
  rw [if_neg (by decide)]
  refine wpAny_bind (wpAny_of_eq (show Builtin.Builtins.bindParams "sum" ["start"] 0 { } = pure [none] from rfl) ?_)
  refine wpAny_bind (D.iter hst ?_)
  refine wpAny_bind (wpAny_mkInt ?_)
  refine wpAny_bind (wpAny_pure ?_)
  simp only [List.forIn_cons, List.forIn_nil]
  refine wpAny_bind (wpAny_bind (wpAny_bind (wpAny_isInstance (T := "int") (b := false) (typeIs_int _ _ _) PySem.sub_int_str ?_)))
  simp only [Bool.false_eq_true, if_false]
  refine wpAny_pure (wpAny_bind (wpAny_bind (wpAny_isInstance (T := "int") (b := false) (typeIs_int _ _ _) sub_int_bytes ?_)))
  simp only [Bool.false_eq_true, if_false]
  refine wpAny_pure (wpAny_bind (wpAny_bind (wpAny_isInstance (T := "int") (b := false) (typeIs_int _ _ _) sub_int_bytearray ?_)))
  simp only [Bool.false_eq_true, if_false]
  refine wpAny_pure (wpAny_pure ?_)
  refine wpAny_bind (wpAny_newObj_type ?_)
  refine wpAny_pure ⟨plainId_quiet F.plain_sum_loop _, sum_loop D hr1 hu hv s.heap.objs.size (μ t) t _ 0 s.toks 0 0 (.inl rfl) (Nat.le_refl _) (D.lay t s _ _ hly hst rfl lst_nocell (hs _ _)) hg fun vs o t' s' r tk h1 h2 h3 => hQ vs _ o t' s' r tk (Nat.le_refl _) h1 h2 fun ns hn => by rw [h3 ns hn]; omega⟩
theorem collect_drv {Q : List Value → Shared → Prop} (D : Drv prog w A.in1 I St En Sp Yd nd Gd μ rd Up Sm ly) (hly : ly) (hr1 : ∀ S o, rd [(S, o)]) (hu : ∀ acc c v c', Up { cls := .type "list", dict := none, data := .seq acc c, slots := #[] } v { cls := .type "list", dict := none, data := .seq (acc.push v) c', slots := #[] }) (hs : ∀ acc c c', Sm { cls := .type "list", dict := none, data := .seq acc c, slots := #[] } { cls := .type "list", dict := none, data := .seq acc c', slots := #[] }) (hv : ∀ t v t', Gd t → Yd t v t' → Gd t') (hst : St [] t s) (hg : Gd t) (hz : μ t ≤ sizeLine)
    (hQ : ∀ vs S c t' s', s.heap.objs.size ≤ S → ToEnd Yd nd t vs t' → En [(S, { cls := .type "list", dict := none, data := .seq vs.toArray c, slots := #[] })] t' s' → Q vs s') : wpAny (model prog w) A (collect (.ref I)) Q E s := by
  have hSI : s.heap.objs.size ≠ I := fun e => by
    obtain ⟨g, o, _, _, ho, _⟩ := D.gen _ _ _ hst
    rw [← e] at ho
    exact absurd (Heap.lt_size ho) (Nat.lt_irrefl _)
  unfold collect
  refine wpAny_bind (wpAny_runValue (codeAny_builtin F.entry_proto_collect ?_))
  rw [Around.under_plainId F.plain_proto_collect _]
  show wpAny _ A.in1 (newList [] >>= fun l => again (.builtin "list.__iadd__" ⟨[l, .ref I], []⟩)) _ _ s
  refine wpAny_bind (wpAny_newObj_type ?_)
  refine wpAny_pure ⟨plainId_quiet F.plain_list_iadd _, codeAny_builtin F.entry_list_iadd ?_⟩
  rw [Around.under_plainId F.plain_list_iadd _]
  have hst₁ : St [(s.heap.objs.size, { cls := .type "list", data := .seq ([] : List Value).toArray })] t { s with heap := s.heap.push { cls := .type "list", data := .seq ([] : List Value).toArray } } := D.lay t s s.toks _ hly hst rfl lst_nocell (hs _ _ _)
  show wpAny _ A.in1 (Builtin.List.listExtendWith (.ref s.heap.objs.size) (.ref I) (.ref s.heap.objs.size)) _ _ _
  unfold Builtin.List.listExtendWith
  refine wpAny_bind (wpAny_typeOf (D.ty hst₁) ?_)
  have h1 : Builtin.List.listSameRef (.ref s.heap.objs.size) (.ref I) = false := by simp [Builtin.List.listSameRef, hSI]
  have h2 : (Value.type "generator" == Value.type "list") = false := by decide
  have h3 : (Value.type "generator" == Value.type "tuple") = false := by decide
  simp only [h1, h2, h3, Bool.or_false, Bool.false_eq_true, if_false]
  refine wpAny_bind (D.iter hst₁ ?_)
  refine wpAny_bind (wpAny_holding ?_)
  unfold Builtin.List.listLengthHint
  refine wpAny_bind (wpAny_specialOf (D.ty hst₁) F.gen_no_len ?_)
  show wpAny _ A.in1 (specialOf (Value.ref I) (Str.ofString "__length_hint__") >>= _) _ _ _
  refine wpAny_bind (wpAny_specialOf (D.ty hst₁) F.gen_no_hint ?_)
  refine wpAny_pure ?_
  show wpAny _ A.in1 (rule "list.extend.makes-room" >>= fun _ => Builtin.List.listTouch (.ref s.heap.objs.size) >>= fun _ =>
    again (.builtin "list.extend.loop" ⟨[.ref s.heap.objs.size, .ref I, .ref s.heap.objs.size], []⟩)) _ _ _
  refine wpAny_bind (wpAny_rule ?_)
  have hS₁ : (s.heap.push { cls := .type "list", data := .seq ([] : List Value).toArray }).get? s.heap.objs.size = some { cls := .type "list", data := .seq ([] : List Value).toArray } := Heap.get?_push_size _ rfl
  refine wpAny_bind ?_
  show wpAny _ A.in1 (updateSeq s.heap.objs.size (·.push .none) >>= fun _ => updateSeq s.heap.objs.size (·.pop)) _ _ _
  refine wpAny_bind (wpAny_updateSeq hS₁ rfl ?_)
  have hS₂ := Heap.get?_update_self (Obj.mapSeq (·.push Value.none)) hS₁ rfl
  refine wpAny_updateSeq hS₂ rfl ?_
  have hS₃ := Heap.get?_update_self (Obj.mapSeq (·.pop)) hS₂ rfl
  have hst₃ := D.same t _ _ _ _ _ s.toks hst₁ (hs _ _ _) lst_nocell hS₃ fun b hb o e => (Heap.get?_update_other _ _ (Ne.symm hb)).trans ((Heap.get?_update_other _ _ (Ne.symm hb)).trans e)
  refine wpAny_pure ⟨plainId_quiet F.plain_extend_loop _, extend_loop D hr1 hu hv _ _ (μ t) t _ _ _ (by show 0 + μ t ≤ sizeLine; omega) (Nat.le_refl _) hst₃ hg fun vs c' t' s' h4 h5 => ?_⟩
  have hS' := D.pinE _ _ _ _ h5
  show wpAny _ A (load s.heap.objs.size >>= _) _ _ s'
  refine wpAny_bind (wpAny_load hS' ?_)
  have e : (#[] : Array Value) ++ vs.toArray = vs.toArray := by simp
  refine wpAny_pure ?_
  show Q ((((#[] : Array Value).push Value.none).pop ++ vs.toArray)).toList s'
  have e2 : (((#[] : Array Value).push Value.none).pop ++ vs.toArray) = vs.toArray := by simp
  rw [e2]
  refine hQ vs _ c' t' s' (Nat.le_refl _) h4 ?_
  rw [← e2]
  exact h5
theorem call_tuple_drv {Q : Value → Shared → Prop} (D : Drv prog w A.in1.in1.in1 I St En Sp Yd nd Gd μ rd Up Sm ly) (hly : ly) (hr1 : ∀ S o, rd [(S, o)]) (hu : ∀ acc c v c', Up { cls := .type "list", dict := none, data := .seq acc c, slots := #[] } v { cls := .type "list", dict := none, data := .seq (acc.push v) c', slots := #[] }) (hs : ∀ acc c c', Sm { cls := .type "list", dict := none, data := .seq acc c, slots := #[] } { cls := .type "list", dict := none, data := .seq acc c', slots := #[] }) (hv : ∀ t v t', Gd t → Yd t v t' → Gd t') (hst : St [] t s) (hg : Gd t) (hz : μ t ≤ sizeLine) (hlen : ∀ vs t', ToEnd Yd nd t vs t' → vs.length ≤ sizeLine)
    (hQ : ∀ vs S c t' s', s.heap.objs.size ≤ S → ToEnd Yd nd t vs t' → En [(S, { cls := .type "list", dict := none, data := .seq vs.toArray c, slots := #[] })] t' s' → Q (.ref s'.heap.objs.size) { s' with heap := s'.heap.push { cls := .type "tuple", data := .seq vs.toArray } }) :
    wpAny (model prog w) A (PySem.call (.type "tuple") [.ref I]) Q E s := by
  refine callType_codes (Q₁ := fun obj s₁ => s₁.TypeIs obj "tuple" ∧ Q obj s₁) F.called_tuple (F.typeCall_tuple_1 _) F.entry_object_init ?_ fun obj s₁ h₁ => ?_
  · refine codeAny_of_tree ?_
    show wpAny _ A.in1.in1 (do checkBuiltinCall "tuple.__new__" ⟨[.type "tuple", .ref I], []⟩; again (.builtin "tuple.__new__" ⟨[.type "tuple", .ref I], []⟩)) _ _ s
    refine wpAny_bind (wpAny_of_eq (F.newCall_tuple_1 _) (wpAny_pure ⟨plainId_quiet F.plain_tuple_new _, codeAny_builtin F.entry_tuple_new ?_⟩))
    rw [Around.under_plainId F.plain_tuple_new _]
    have hsub := sub_tuple_self
    have hinit := init_tuple_lookup
    have hmh := madeHere_tuple
    have hTI := D.ty hst
    wp_walk using wpAny_typeOf hTI, collect_drv D hly hr1 hu hs hv hst hg hz
    intro vs S c t' s' h1 h2 h3
    show wpAny _ _ (Builtin.Tuple.tupleExact vs.toArray >>= fun v => ret v) _ _ _
    unfold Builtin.Tuple.tupleExact
    refine wpAny_bind (wpAny_newObj_type ?_ (by show vs.toArray.size ≤ sizeLine; rw [List.size_toArray]; exact hlen vs t' h2))
    refine wpAny_pure ?_
    exact ⟨⟨_, Heap.get?_push_size _ rfl, rfl⟩, hQ vs S c t' s' h1 h2 h3⟩
  · exact ⟨h₁.1, F.args_object_init_2 obj _, object_init_meets F.called_tuple.init.lookup F.called_tuple.made (by decide) prog w A.in1 _ s₁ ⟨h₁.1, rfl, h₁.2⟩⟩
end
end PI

set_option Elab.async false
set_option linter.all false
set_option maxRecDepth 100000
set_option maxHeartbeats 4000000
set_option autoImplicit false
namespace PI
open PySem PySem.Spec PyProof.Rows L2

/-- the context of a generator expression's own frame, resumed in the around A -/
abbrev gcx (X : Cx) (A : Around) (s : Shared) (H : Hp) (cenv : Env) (fp : List Addr) (pn : List (Addr × Obj)) : Cx :=
  { X with A := A.deeper cenv, s_0 := s, H_0 := H, env := cenv, outer := X.stack, stack := cenv :: X.stack, ex := fp, fn := fun _ => false, pn := pn, xe := fun _ _ => False }
section
variable {X : Cx} {pins : List (Addr × Obj)} {σ : L2.St} {H : Hp} {s : Shared}
theorem gen_start {A : Around} {scope : Scope} {own : List (Str × Nat)} {fp : List Addr} {h' : Heap} {g' : Array GenState} {t' : Nat} {code : Value} {bi : Addr} {m : Str → Option Value} {a : Addr} {oa : Obj} (hbi : bi = builtinsNs) (hA : A.handled = none) (hf : A.frames = some X.stack) (I : Inv X pins σ H s)
    (ok : BlkOk X.N X.env.scope scope own) (hN : X.N.Nodup) (hc : ∀ y ∈ scope.names, y.2 ≠ .cell) (hfp : ∀ b ∈ fp, FpOk X pins H b ∧ b < s.heap.objs.size) (hm : h'.Ns s.heap.objs.size m) (kp : ∀ b o, s.heap.get? b = some o → h'.get? b = some o) (hb : AllBare g')
    (ha : s.heap.objs.size < a) (ga : h'.get? a = some oa) (na : NoCell oa) :
    Inv (gcx X A s H (genEnv scope (cloFrom X.env.cells scope.names []) s.heap.objs.size code bi X.env) fp [(a, oa)]) [] (wipe σ (own.map (·.2))) H { s with heap := h', gens := g', toks := t' } := by
  have hfree : ∀ y ∈ scope.names, y.2 = .free → ∃ c, X.env.cells.lookup y.1 = some c := fun y hy e => by
    rcases ok.free y hy e with k | k
    · exact I.ok.has _ (.inl k)
    · exact I.ok.has _ (.inr k)
  generalize hcenv : genEnv scope (cloFrom X.env.cells scope.names []) s.heap.objs.size code bi X.env = cenv
  have hL : cenv.locals = s.heap.objs.size := by rw [← hcenv]; rfl
  have hcl : cenv.cells = cloFrom X.env.cells scope.names [] := by rw [← hcenv]; rfl
  have hsc : cenv.scope = scope := by rw [← hcenv]; rfl
  have cm : ∀ {y c}, (y, c) ∈ cloFrom X.env.cells scope.names [] → X.env.cells.lookup y = some c ∧ c < s.heap.objs.size := fun {y c} hm => by
    rcases cloFrom_mem hm with hm | ⟨h1, rfl⟩
    · cases hm
    · obtain ⟨c, hc⟩ := hfree _ h1 rfl
      rw [hc]
      obtain ⟨w, z⟩ := I.cell _ _ hc
      exact ⟨rfl, z.lt⟩
  have mem : ∀ {y c}, cenv.cells.lookup y = some c → X.env.cells.lookup y = some c ∧ c < s.heap.objs.size := fun {y c} e => by
    rw [hcl] at e
    exact cm (PySem.mem_of_lookup e)
  have look : ∀ {y}, scope.names.lookup y = some .free → ∃ c, cenv.cells.lookup y = some c ∧ X.env.cells.lookup y = some c := fun {y} hl => by
    have hy : (y, NameKind.free) ∈ scope.names := PySem.mem_of_lookup hl
    obtain ⟨c', e'⟩ := mem_lookup (cloFrom_has (cells := X.env.cells) (acc := []) hy)
    rw [← hcl] at e'
    exact ⟨c', e', (mem e').1⟩
  have okB : (gcx X A s H cenv fp [(a, oa)]).Ok := by
    refine ⟨I.ok.mod, by show cenv.scope.kind = _; rw [hsc]; exact ok.kind, by show cenv.globals = _; rw [← hcenv]; exact I.ok.glob, by show cenv.builtins = _; rw [← hcenv]; exact hbi, by show s.heap.objs.size ≤ cenv.locals; rw [hL]; exact Nat.le_refl _,
      fun y z c e1 e2 => ?_, fun y hy => ?_, fun y c z e => ?_, fun _ => hA, Around.frames_deeper hf, .inr ⟨rfl, ?_⟩, fun b hb => ⟨?_, fun y c e z => ?_⟩, I.bs, Nat.le_trans I.ok.bsz I.sz, fun b o e hb => ?_, fun b hb z => ?_, I.stack, I.stkFree⟩
    · exact I.ok.inj y z c (mem e1).1 (mem e2).1
    · have hy : scope.names.lookup y = some .cell ∨ scope.names.lookup y = some .free := by
        have hy : cenv.scope.names.lookup y = some .cell ∨ cenv.scope.names.lookup y = some .free := hy
        rw [hsc] at hy; exact hy
      rcases hy with hy | hy
      · exact absurd rfl (hc _ (PySem.mem_of_lookup hy))
      · obtain ⟨c, h1, _⟩ := look hy
        exact ⟨c, h1⟩
    · cases z
    · rw [← hcenv]; rfl
    · show b ≠ cenv.locals
      rw [hL]; exact Nat.ne_of_lt (hfp b hb).2
    · exact (hfp b hb).1.2.2.2.2.1 y c (mem e).1 z
    · rcases (hfp b hb).1.2.2.2.1 with z | z
      · exact I.ok.noex b o e z
      · exact absurd (Nat.lt_of_lt_of_le (Heap.lt_size e) (Nat.le_trans I.ok.bsz z)) (Nat.lt_irrefl _)
    · rcases List.mem_cons.mp (I.stkSub b z) with z | z
      · exact (hfp b hb).1.2.1 z
      · exact (hfp b hb).1.2.2.1 z
  refine ⟨okB, rfl, hb, Un.kept kp, ⟨m, by show h'.Ns cenv.locals m; rw [hL]; exact hm, fun i y av e1 e2 e3 => ?_⟩, fun y c e => ?_, by show H cenv.locals = none; rw [hL]; exact I.hok.fresh (Nat.le_refl _), fun y c e => I.freeC y c (mem e).1, fun p hp => ?_, I.hok.kept kp, by rw [wipe_length]; exact I.len⟩
  · obtain ⟨e2, hne⟩ := wipe_some e2
    have e3 : Vis scope y := by
      have e3 : Vis cenv.scope y := e3
      rw [hsc] at e3; exact e3
    have no : ∀ k, scope.names.lookup y = some k → ¬ (k = .local ∨ k = .cell) := fun k e hh => by
      rcases ok.own _ (PySem.mem_of_lookup e) hh with e' | e'
      · obtain ⟨p, hp, hpy⟩ := List.mem_map.mp e'
        have e4 := ok.ix p hp
        have : p.1 = y := hpy
        rw [this] at e4
        exact hne (List.mem_map.mpr ⟨p, hp, nodup_ix hN e4 e1⟩)
      · exact e' (List.mem_of_getElem? e1)
    have hfr : scope.names.lookup y = some .free := by
      rcases e3 with e3 | e3 | e3
      · exact absurd (.inl rfl) (no _ e3)
      · exact absurd (.inr rfl) (no _ e3)
      · exact e3
    obtain ⟨m0, hn, hl⟩ := I.loc
    have hvis : Vis X.env.scope y := (ok.free _ (PySem.mem_of_lookup hfr) rfl).elim (fun k => .inr (.inl k)) (fun k => .inr (.inr k))
    obtain ⟨w, r, q⟩ := hl i y av e1 e2 hvis
    refine ⟨w, r, .inr ⟨.inr ?_, ?_⟩⟩
    · show cenv.scope.names.lookup y = some .free
      rw [hsc]; exact hfr
    obtain ⟨c, h1, h2⟩ := look hfr
    rcases q with ⟨k, _⟩ | ⟨_, c', e', z⟩
    · have k : X.env.scope.names.lookup y = some .local := k
      rcases ok.free _ (PySem.mem_of_lookup hfr) rfl with k' | k' <;> rw [show X.env.scope.names.lookup y = _ from k'] at k <;> cases k
    · rw [h2] at e'; cases e'
      exact ⟨c, h1, z.keeps kp⟩
  · obtain ⟨w, z⟩ := I.cell y c (mem e).1
    exact ⟨w, z.keeps kp⟩
  · have hp : p = (a, oa) := by simpa using hp
    subst hp
    refine ⟨ga, I.hok.fresh (Nat.le_of_lt ha), by show a ≠ cenv.locals; rw [hL]; exact Nat.ne_of_gt ha, fun z => ?_, na⟩
    have z : a ∈ frs X.stack := z
    rcases List.mem_cons.mp (I.stkSub a z) with z | z
    · have := I.lt
      rw [← z] at this
      exact absurd (Nat.lt_trans this ha) (Nat.lt_irrefl _)
    · exact I.nofs (Nat.le_of_lt ha) z
end

/-! ### how it goes, in data -/
abbrev TuF := D → PH → R1 (Option D)
/-- up to the next item that is handed out -/
def nextL (f : TuF) : List D → PH → Option (Option (D × List D) × PH)
  | [], h => some (none, h)
  | x :: xs, h => (f x h).bind fun r => match r with
    | (some y, h') => some (some (y, xs), h')
    | (none, h') => nextL f xs h'
structure Ts where
  xs : List D
  h : PH
  ds : List D
/-- where it stands behind k items -/
def trj (f : TuF) (xs : List D) (h : PH) : Nat → Option Ts
  | 0 => some ⟨xs, h, []⟩
  | k + 1 => (trj f xs h k).bind fun t => (nextL f t.xs t.h).bind fun r => match r with
    | (some (y, r), h') => some ⟨r, h', t.ds ++ [y]⟩
    | (none, _) => none
theorem nextL_len {f : TuF} : ∀ {xs : List D} {h : PH} {y : D} {r : List D} {h' : PH}, nextL f xs h = some (some (y, r), h') → r.length < xs.length
  | [], _, _, _, _, e => by simp [nextL] at e
  | x :: xs, h, y, r, h', e => by
    unfold nextL at e
    obtain ⟨⟨o, h1⟩, e1, e2⟩ := Option.bind_eq_some_iff.mp e
    cases o with
    | some z => cases e2; simp
    | none =>
      have := nextL_len (show nextL f xs h1 = some (some (y, r), h') from e2)
      simp; omega
theorem trj_succ {f : TuF} {xs : List D} {h : PH} {k : Nat} {t : Ts} {y : D} {r : List D} {h' : PH} (e : trj f xs h k = some t) (n : nextL f t.xs t.h = some (some (y, r), h')) : trj f xs h (k + 1) = some ⟨r, h', t.ds ++ [y]⟩ := by
  show ((trj f xs h k).bind _) = _
  rw [e, Option.bind_some, n, Option.bind_some]
theorem trj_inv {f : TuF} {xs : List D} {h : PH} {k : Nat} {t' : Ts} (e : trj f xs h (k + 1) = some t') : ∃ t y r h', trj f xs h k = some t ∧ nextL f t.xs t.h = some (some (y, r), h') ∧ t' = ⟨r, h', t.ds ++ [y]⟩ := by
  have e : ((trj f xs h k).bind fun t => (nextL f t.xs t.h).bind fun r => match r with
    | (some (y, r), h') => some ⟨r, h', t.ds ++ [y]⟩
    | (none, _) => none) = some t' := e
  obtain ⟨t, e1, e⟩ := Option.bind_eq_some_iff.mp e
  obtain ⟨⟨o, h'⟩, e2, e⟩ := Option.bind_eq_some_iff.mp e
  cases o with
  | none => cases e
  | some z =>
    obtain ⟨y, r⟩ := z
    cases e
    exact ⟨t, y, r, h', e1, e2, rfl⟩
theorem trj_len {f : TuF} {xs : List D} {h : PH} : ∀ {k : Nat} {t : Ts}, trj f xs h k = some t → t.xs.length + k ≤ xs.length
  | 0, t, e => by
    have e : (⟨xs, h, []⟩ : Ts) = t := Option.some.inj e
    subst e
    exact Nat.le_refl _
  | k + 1, t', e => by
    obtain ⟨t, y, r, h', e1, e2, rfl⟩ := trj_inv e
    have := trj_len e1
    have := nextL_len e2
    show r.length + (k + 1) ≤ _
    omega
theorem nextL_drop {f : TuF} : ∀ {xs : List D} {h : PH} {y : D} {r : List D} {h' : PH}, nextL f xs h = some (some (y, r), h') → ∃ i, r = xs.drop i
  | [], _, _, _, _, e => by simp [nextL] at e
  | x :: xs, h, y, r, h', e => by
    unfold nextL at e
    obtain ⟨⟨o, h1⟩, e1, e2⟩ := Option.bind_eq_some_iff.mp e
    cases o with
    | some z => cases e2; exact ⟨1, rfl⟩
    | none =>
      obtain ⟨i, hi⟩ := nextL_drop (show nextL f xs h1 = some (some (y, r), h') from e2)
      exact ⟨i + 1, by rw [hi]; rfl⟩
theorem trj_drop {f : TuF} {xs : List D} {h : PH} : ∀ {k : Nat} {t : Ts}, trj f xs h k = some t → t.xs = xs.drop (xs.length - t.xs.length)
  | 0, t, e => by
    have e : (⟨xs, h, []⟩ : Ts) = t := Option.some.inj e
    subst e
    simp
  | k + 1, t', e => by
    obtain ⟨t, y, r, h', e1, e2, rfl⟩ := trj_inv e
    obtain ⟨i, hi⟩ := nextL_drop e2
    have hl := trj_len e1
    have h2 := nextL_len e2
    have ih := trj_drop e1
    show r = xs.drop (xs.length - r.length)
    have h3 : r = xs.drop ((xs.length - t.xs.length) + i) := by
      rw [hi, ← List.drop_drop, ← ih]
    have h4 : r.length = xs.length - ((xs.length - t.xs.length) + i) := by rw [h3, List.length_drop]
    rw [h4]
    by_cases hle : (xs.length - t.xs.length) + i ≤ xs.length
    · have : xs.length - (xs.length - ((xs.length - t.xs.length) + i)) = (xs.length - t.xs.length) + i := by omega
      rw [this]; exact h3
    · have e0 : r = [] := by rw [h3]; exact List.drop_of_length_le (by omega)
      have : xs.length - (xs.length - ((xs.length - t.xs.length) + i)) = xs.length := by omega
      rw [this, e0]; simp
end PI

set_option Elab.async false
set_option linter.all false
set_option maxRecDepth 100000
set_option maxHeartbeats 4000000
set_option autoImplicit false
namespace PI
open PySem PySem.Spec PyProof.Rows L2

def lstO (acc : Array Value) (c : Nat) : Obj := { cls := .type "list", dict := none, data := .seq acc c, slots := #[] }
/-- what is pinned for the consumer -/
def pinO (S : Option Addr) (s : Shared) : List (Addr × Obj) := match S with
  | none => []
  | some S => match s.heap.get? S with
    | some o => [(S, o)]
    | none => []
/-- the consumer's list holds what was handed out -/
def Lk (md : Bool) (P : List (Addr × Obj)) (vs : List V) : Prop := if md = true then ((P = [] ∧ vs = []) ∨ ∃ S acc c, P = [(S, lstO acc c)] ∧ Vals vs acc.toList) else vs = []
def dsm (md : Bool) (t : Ts) : List D := if md = true then t.ds else []
theorem _root_.L2.Inv.regen {X : Cx} {pins : List (Addr × Obj)} {σ : L2.St} {H : Hp} {s : Shared} {g' : Array GenState} (I : Inv X pins σ H s) (h : AllBare g') : Inv X pins σ H { s with gens := g' } := ⟨I.ok, I.os, h, I.base, I.loc, I.cell, I.free, I.freeC, I.pin, I.hok, I.len⟩
theorem allBare_set {s : Shared} {g : Nat} {gs : GenState} (h : AllBare s.gens) (hb : gs.bare = true) : AllBare (s.setGen g gs).gens := by
  intro y hy
  unfold Shared.setGen at hy
  obtain ⟨i, hi, e⟩ := Array.mem_iff_getElem.mp hy
  simp only [Array.size_setIfInBounds] at hi
  rw [Array.getElem_setIfInBounds] at e
  split at e
  · rw [← e]; exact hb
  · rw [← e]; exact h _ (Array.getElem_mem hi)
  exact hi

section
variable (C : Calls) (tb : List Addr) (X : Cx) (A : Around) (s₀g : Shared) (H₀ : Hp) (cenv : Env) (fp : List Addr) (pn : List (Addr × Obj)) (w1 : Wd) (h1 : PH) (σ0 : L2.St) (tn : Nat → Heap → Prop) (f : TuF) (xs : List D) (md : Bool) (S : Option Addr)
abbrev gX : Cx := gcx X A s₀g H₀ cenv fp pn
/-- asleep behind k items -/
def Cr (P : List (Addr × Obj)) (k : Nat) (s : Shared) : Prop := ∃ w vs t, trj f xs h1 k = some t ∧ Inv (gX X A s₀g H₀ cenv fp pn) P σ0 w.H s ∧ tn (xs.length - t.xs.length) s.heap ∧ (∀ b ∈ fp, w.H b = none) ∧ Rel X.K tb w t.h ∧ Ext w1 w ∧ Lk md P vs ∧ RDs X.K w (dsm md t) vs
/-- it hands out v -/
def Yv (P : List (Addr × Obj)) (k : Nat) (v : Value) (s : Shared) : Prop := ∃ w vs t y r h' x, trj f xs h1 k = some t ∧ nextL f t.xs t.h = some (some (y, r), h') ∧ RelV x v ∧ RD X.K w y x ∧ Inv (gX X A s₀g H₀ cenv fp pn) P σ0 w.H s ∧ tn (xs.length - r.length) s.heap ∧ (∀ b ∈ fp, w.H b = none) ∧
  Rel X.K tb w h' ∧ Ext w1 w ∧ Lk md P vs ∧ RDs X.K w (dsm md t) vs
def EnC (P : List (Addr × Obj)) (k : Nat) (s : Shared) : Prop := ∃ w vs t h', trj f xs h1 k = some t ∧ nextL f t.xs t.h = some (none, h') ∧ Inv (gX X A s₀g H₀ cenv fp pn) P σ0 w.H s ∧ Rel X.K tb w h' ∧ Ext w1 w ∧ Lk md P vs ∧ RDs X.K w (dsm md t) vs
def GdT (k : Nat) : Prop := ∃ t r, trj f xs h1 k = some t ∧ nextL f t.xs t.h = some r
def gY : Protocol := fun n s₀ v s₁ kap => ∃ k, n + (k + 1) = xs.length ∧ Yv tb X A s₀g H₀ cenv fp pn w1 h1 σ0 tn f xs md (pinO S s₀) k v s₁ ∧ ∀ s'', Cr tb X A s₀g H₀ cenv fp pn w1 h1 σ0 tn f xs md (pinO S s'') (k + 1) s'' → GdT h1 f xs (k + 1) → kap (.send .none) s''
def gR : Nat → Shared → Shared → Prop := fun n s₀ s₁ => ∃ k, n + k = xs.length ∧ EnC tb X A s₀g H₀ cenv fp pn w1 h1 σ0 f xs md (pinO S s₀) k s₁
end

section
variable {C : Calls} {tb : List Addr} {X : Cx} {A : Around} {s₀g : Shared} {H₀ : Hp} {cenv : Env} {fp : List Addr} {pn : List (Addr × Obj)} {w1 : Wd} {h1 : PH} {σ : L2.St} {tn : Nat → Heap → Prop} {xs : List D} {md : Bool} {S : Option Addr}
variable {p : P} {own : List Nat} {te : Eo} {m : E} {ρ : Rho} {J : L2.It} {it : Addr} {elt tg iter : Expr} {ifs : List Expr} {scope : Scope} {pos : Pos}
theorem gen_loop (hc : X.calm = true) (hA : A.handled = none) (hs : subOwn p own = true) (hco : scope.isCoroutine = false) (hcs : cenv.scope = scope) (r1 : Rel X.K tb w1 h1) (rs : RS X.K w1 ρ σ) (T : Turn X.prog X.w X.K tg J fp it tn) (W : Wk X.K tb Ext J w1 xs)
    (pg : PG (gX X A s₀g H₀ cenv fp pn) tg (Tg X.K tb p)) (pt : PTs (gX X A s₀g H₀ cenv fp pn) ifs (Tt X.K tb (evOT C te))) (pe : PE (gX X A s₀g H₀ cenv fp pn) elt (Tx X.K tb (ev C m)))
    (hfp : ∀ b ∈ fp, ∀ q ∈ pn, q.1 ≠ b) (hfS : ∀ b ∈ fp, ∀ S', S = some S' → S' ≠ b) :
    ∀ (rem : List D) (n k : Nat) (s₀ s : Shared) (w : Wd) (h : PH) (vs : List V) (t : Ts), trj (turnF C p own te m ρ) xs h1 k = some t → nextL (turnF C p own te m ρ) t.xs t.h = nextL (turnF C p own te m ρ) rem h → (∃ r, nextL (turnF C p own te m ρ) rem h = some r) →
      rem = xs.drop (xs.length - rem.length) → rem.length ≤ xs.length → rem.length ≤ n → n + k = xs.length → Inv (gX X A s₀g H₀ cenv fp pn) (pinO S s₀) (L2.wipe σ own) w.H s → tn (xs.length - rem.length) s.heap → (∀ b ∈ fp, w.H b = none) →
      Rel X.K tb w h → Ext w1 w → Lk md (pinO S s₀) vs → RDs X.K w (dsm md t) vs →
      Seg (model X.prog X.w) A (fun n s₀ r s₁ => r = .ok .next ∧ gR tb X A s₀g H₀ cenv fp pn w1 h1 (L2.wipe σ own) (turnF C p own te m ρ) xs md S n s₀ s₁) (gY tb X A s₀g H₀ cenv fp pn w1 h1 (L2.wipe σ own) tn (turnF C p own te m ρ) xs md S) n s₀
        (.compLoop (.GeneratorExp elt [⟨tg, iter, ifs, 0⟩] scope pos) 0 (.ref it) .none cenv) ((model X.prog X.w).den (.compLoop (.GeneratorExp elt [⟨tg, iter, ifs, 0⟩] scope pos) 0 (.ref it) .none cenv)) [] s := by
  have hov : A.over (.compLoop (.GeneratorExp elt [⟨tg, iter, ifs, 0⟩] scope pos) 0 (.ref it) .none cenv) [] = A.deeper cenv := rfl
  have stat : ∀ {σ' : L2.St} {H' : Hp} {s' s₀ : Shared}, Inv (gX X A s₀g H₀ cenv fp pn) (pinO S s₀) σ' H' s' → (∀ b ∈ fp, H' b = none) → ∀ b ∈ fp, FpOk (gX X A s₀g H₀ cenv fp pn) (pinO S s₀) H' b := fun {σ' H' s' s₀} I' hn b hb =>
    ⟨hn b hb, (I'.ok.exf b hb).1, I'.ok.exfs b hb, .inl hb, fun x c e => (I'.ok.exf b hb).2 x c e, fun q hq => by
      rcases List.mem_append.mp hq with hq | hq
      · exact hfp b hb q hq
      · unfold pinO at hq
        cases S with
        | none => cases hq
        | some S' =>
          dsimp only at hq
          split at hq
          · rw [List.mem_singleton.mp hq]
            exact hfS b hb _ rfl
          · cases hq⟩
  intro rem
  induction rem with
  | nil =>
    intro n k s₀ s w h vs t et en hd hrem hrl hrn hnk I st nfp rl ex lk rv
    show Seg _ A _ _ _ s₀ _ ((compTurn (.GeneratorExp elt [⟨tg, iter, ifs, 0⟩] scope pos) 0 (.ref it) .none cenv).onRaise (leaving cenv)) [] s
    rw [compTurn_gen, Sem.onRaise_eq_wrap]
    refine seg_bind_wrap (wpAny_standAt ?_)
    refine seg_bind_wrap ?_
    rw [hov]
    have td := T.done (gX X A s₀g H₀ cenv fp pn) rfl rfl rfl hc (xs.length - ([] : List D).length) _ s _ w.H (fun _ _ => False) I (stat I nfp) st (W.stop _ w h ex rl (by simp))
    refine thnF td fun r s6 ⟨hr, I6⟩ => ?_
    subst hr
    exact seg_end (.ok .next) ⟨rfl, k, hnk, w, vs, t, h, et, en, I6, rl, ex, lk, rv⟩
  | cons x rest ih =>
    intro n k s₀ s w h vs t et en hd hrem hrl hrn hnk I st nfp rl ex lk rv
    have hlt : xs.length - (x :: rest).length < xs.length := by simp only [List.length_cons] at hrl ⊢; omega
    have hi1 : xs.length - (x :: rest).length + 1 = xs.length - rest.length := by simp only [List.length_cons] at hrl ⊢; omega
    have hx : xs[xs.length - (x :: rest).length]? = some x := by
      have e : (xs.drop (xs.length - (x :: rest).length))[0]? = some x := by rw [← hrem]; rfl
      rw [List.getElem?_drop] at e
      exact e
    have hrest : rest = xs.drop (xs.length - rest.length) := by
      have e : (xs.drop (xs.length - (x :: rest).length)).drop 1 = rest := by rw [← hrem]; rfl
      rw [List.drop_drop, hi1] at e
      exact e.symm
    show Seg _ A _ _ _ s₀ _ ((compTurn (.GeneratorExp elt [⟨tg, iter, ifs, 0⟩] scope pos) 0 (.ref it) .none cenv).onRaise (leaving cenv)) [] s
    rw [compTurn_gen, Sem.onRaise_eq_wrap]
    refine seg_bind_wrap (wpAny_standAt ?_)
    refine seg_bind_wrap ?_
    rw [hov]
    have ti := T.item (gX X A s₀g H₀ cenv fp pn) rfl rfl rfl hc (xs.length - (x :: rest).length) _ s _ w.H (fun _ _ => False) I (stat I nfp) st (W.go _ w h ex rl hlt)
    refine thnF ti fun r s6 ⟨u, hr, h6⟩ => ?_
    subst hr
    refine seg_bind_wrap ?_
    rw [hov]
    refine thnF h6 fun _ s7 ⟨xv, H7, I7, r7, y7, st7, n7⟩ => ?_
    obtain ⟨w2, d, e2, rfl, r2, rd, ex2⟩ := W.yld _ w h xv H7 hlt ex rl y7
    rw [hx] at e2
    cases e2
    have ex12 := ex.trans ex2
    have I7' := I7.pinned (stat I7 n7) (T.obj _ _ st7)
    -- what the turn computes
    obtain ⟨rr, hd⟩ := hd
    have hd0 := hd
    unfold nextL at hd
    obtain ⟨⟨o, h5⟩, ef, hd⟩ := Option.bind_eq_some_iff.mp hd
    have ef' := ef
    unfold turnF at ef'
    obtain ⟨ρ', b1, ef'⟩ := Option.bind_eq_some_iff.mp ef'
    obtain ⟨⟨b, h4⟩, b2, ef'⟩ := Option.bind_eq_some_iff.mp ef'
    refine seg_bind_wrap ?_
    rw [hov]
    have tgt : Tg X.K tb p xv (L2.wipe σ own) w2.H fun σ8 H8 => H8 = w2.H ∧ RS X.K w2 ρ' σ8 ∧ ∀ j, j ∉ slotsP p → σ8[j]? = (L2.wipe σ own)[j]? :=
      ⟨w2, wipeS ρ own, h, _, ρ', rfl, r2, (rs.ext ex12 r1).wipe own, rd, b1, fun σ8 rs8 ag => ⟨rfl, rs8, ag⟩⟩
    refine thnF (pg.run _ s7 _ w2.H xv u _ I7' r7 tgt) fun _ s8 ⟨σ8, H8, I8, e8, rs8, ag⟩ => ?_
    subst e8
    have hw8 : L2.wipe σ8 own = L2.wipe σ own := by
      have hl : σ8.length = σ.length := by rw [I8.len, ← rs.len, rs.len, ← I.len, wipe_length]
      refine wipe_eq hl fun j hj => ag j fun hm => hj ?_
      exact of_decide_eq_true (List.all_eq_true.mp hs j hm)
    refine seg_bind_wrap ?_
    rw [hov]
    have tst : Tt X.K tb (evOT C te) σ8 w2.H fun b' H9 => b' = b ∧ ∃ w3, w3.H = H9 ∧ Rel X.K tb w3 h4 ∧ Ext w2 w3 := ⟨w2, ρ', h, b, h4, rfl, r2, rs8, b2, fun w3 r3 ex3 => ⟨rfl, w3, rfl, r3, ex3⟩⟩
    refine thnF (pt.run _ s8 σ8 w2.H _ I8 tst) fun b' s9 ⟨H9, I9, eb, w3, e9, r3, ex3⟩ => ?_
    subst eb e9
    have ex13 := ex12.trans ex3
    -- behind the turn
    have fin : ∀ {s' : Shared} {wz : Wd}, Inv (gX X A s₀g H₀ cenv fp pn) (pinO S s₀ ++ pinsAt fp s7.heap) σ8 wz.H s' → Inv (gX X A s₀g H₀ cenv fp pn) (pinO S s₀) (L2.wipe σ own) wz.H s' ∧ tn (xs.length - rest.length) s'.heap ∧ ∀ b ∈ fp, wz.H b = none := fun {s' wz} I' => by
      have pin' : ∀ b ∈ fp, ∀ o, s7.heap.get? b = some o → s'.heap.get? b = some o ∧ wz.H b = none := fun b hb o e =>
        let z := I'.pin (b, o) (List.mem_append_right _ (List.mem_append_right _ (mem_pinsAt hb e)))
        ⟨z.1, z.2.1⟩
      have hl : (L2.wipe σ own).length = σ8.length := by rw [← hw8, wipe_length]
      refine ⟨I'.unpinned.weak hl (fun j v e => ?_), ?_, fun b hb => ?_⟩
      · rw [← hw8] at e
        exact (wipe_some e).1
      · rw [← hi1]
        exact T.keep _ _ _ st7 fun b hb o e => (pin' b hb o e).1
      · obtain ⟨o, e, _⟩ := T.obj _ _ st7 b hb
        exact (pin' b hb o e).2
    cases b' with
    | false =>
      simp only [Bool.false_eq_true, if_false] at ef' ⊢
      cases ef'
      obtain ⟨I10, st10, n10⟩ := fin I9
      have en2 : nextL (turnF C p own te m ρ) t.xs t.h = nextL (turnF C p own te m ρ) rest h5 := by
        rw [en]
        show ((turnF C p own te m ρ x h).bind _) = _
        rw [ef, Option.bind_some]
      exact seg_again rfl (ih n k s₀ s9 w3 h5 vs t et en2 ⟨rr, hd⟩ hrest (by simp only [List.length_cons] at hrl; omega) (by simp only [List.length_cons] at hrn; omega) hnk I10 st10 n10 r3 ex13 lk ((rv.ext ex2 rl).ext ex3 r2))
    | true =>
      simp only [if_true] at ef' ⊢
      obtain ⟨⟨y, h5'⟩, b3, ef'⟩ := Option.map_eq_some_iff.mp ef'
      cases ef'
      have hy : ∀ v, yieldOut cenv v = yieldValue v := fun v => by simp only [yieldOut, hcs, hco, Bool.false_eq_true, if_false]
      simp only [hy]
      rw [Sem.bind_eq_wrap', Sem.bind_eq_wrap', Sem.wrap_wrap, Sem.wrap_wrap]
      refine seg_wrap ?_
      rw [hov]
      have tel : Tx X.K tb (ev C m) σ8 w3.H fun v H10 => ∃ w4, w4.H = H10 ∧ Rel X.K tb w4 h5' ∧ RD X.K w4 y v ∧ Ext w3 w4 := ⟨w3, ρ', h4, y, h5', rfl, r3, rs8.ext ex3 r2, b3, fun w4 v r4 rv4 ex4 => ⟨w4, rfl, r4, rv4, ex4⟩⟩
      refine thnF (pe.run _ s9 σ8 w3.H _ I9 tel) fun v s10 ⟨xv10, H10, I10, r10, w4, e10, r4, rd4, ex4⟩ => ?_
      subst e10
      obtain ⟨I11, st11, n11⟩ := fin I10
      have en2 : nextL (turnF C p own te m ρ) t.xs t.h = some (some (y, rest), h5') := by
        rw [en]
        show ((turnF C p own te m ρ x h).bind _) = _
        rw [ef, Option.bind_some]
      obtain ⟨n, rfl⟩ : ∃ n', n = n' + 1 := ⟨n - 1, by simp only [List.length_cons] at hrn; omega⟩
      refine seg_at (seg_yield rfl rfl rfl ⟨k, by omega, ⟨w4, vs, t, y, rest, h5', xv10, et, en2, r10, rd4, I11, st11, n11, r4, ex13.trans ex4, lk, ((rv.ext ex2 rl).ext ex3 r2).ext ex4 r3⟩, fun s'' hal hg => ?_⟩)
      obtain ⟨w5, vs5, t5, et5, I5, st5, n5, r5, ex5, lk5, rv5⟩ := hal
      have et6 := trj_succ et en2
      rw [et6] at et5
      cases et5
      obtain ⟨t6, rr6, et7, en7⟩ := hg
      rw [et6] at et7
      cases et7
      exact seg_again rfl (ih n (k + 1) s'' s'' w5 h5' vs5 _ et6 rfl ⟨rr6, en7⟩ hrest (by simp only [List.length_cons] at hrl; omega) (by simp only [List.length_cons] at hrn; omega) (by omega) I5 st5 n5 r5 ex5 lk5 rv5)
end
end PI

set_option Elab.async false
set_option linter.all false
set_option maxRecDepth 100000
set_option maxHeartbeats 4000000
set_option autoImplicit false
namespace PI
open PySem PySem.Spec PyProof.Rows L2

/-- a value that does not ask the heap, in data -/
def PlainV (y : D) (v : Value) : Prop := (∀ b, y = .bl b → v = .bool b) ∧ ∀ i, y = .int i → ∃ t, v = .int i t
theorem plainV {K : PySem.W.Frag} {w : Wd} {y : D} {x : V} {v : Value} (r : RelV x v) (q : RD K w y x) : PlainV y v := by
  refine ⟨fun b e => ?_, fun i e => ?_⟩
  · subst e; cases q; exact r
  · subst e; cases q; exact r
theorem inv_repin {X : Cx} {σ : L2.St} {H : Hp} {s : Shared} {S : Addr} {o o' : Obj} {h' : Heap} {t' : Nat} (I : Inv X [(S, o)] σ H s) (h0 : X.s_0.heap.objs.size ≤ S) (hp : ∀ q ∈ X.pn, q.1 ≠ S) (no : NoCell o') (e : h'.get? S = some o') (k : ∀ b, b ≠ S → ∀ u, s.heap.get? b = some u → h'.get? b = some u) :
    Inv X [(S, o')] σ H { s with heap := h', toks := t' } := by
  obtain ⟨g1, g2, g3, g4, g5⟩ := I.pin (S, o) (List.mem_append_right _ (List.mem_singleton.mpr rfl))
  have I0 : Inv X [] σ H s := I.pins_of fun q hq => by cases hq
  have I1 : Inv X [] σ H { s with heap := h', toks := t' } := I0.turned (it := S) (fun b u hb e => k b hb u e) g2 g3 (.inr h0) (fun x c ec z => ?_) fun q hq => hp q (by simpa using hq)
  · refine I1.pins_of fun q hq => ?_
    rw [List.mem_singleton.mp hq]
    exact ⟨e, g2, g3, g4, no⟩
  · obtain ⟨v, hv⟩ := I.cell x c ec
    obtain ⟨oc, h1, h2⟩ := hv
    rw [z, g1] at h1
    cases h1
    exact g5 _ h2

section
variable {C : Calls} {tb : List Addr} {X : Cx} {Ap : Around} {s₀g : Shared} {H₀ : Hp} {cenv : Env} {fp : List Addr} {w1 : Wd} {h1 : PH} {σ0 : L2.St} {tn : Nat → Heap → Prop} {f : TuF} {xs : List D} {md : Bool} {S : Option Addr}
variable {a : Addr} {g : Nat} {oa : Obj} {tg : Expr} {J : L2.It} {it : Addr}
def PinS (S : Option Addr) (P : List (Addr × Obj)) (s : Shared) : Prop := (P = [] ∧ ∀ S0, S = some S0 → s.heap.objs.size = S0) ∨ ∃ S0 o, S = some S0 ∧ P = [(S0, o)]
section
variable (tb X Ap s₀g H₀ cenv fp w1 h1 σ0 tn f xs md S a g oa)
def Gz (k : Nat) (s : Shared) (gs : GenState) : Prop := ∀ s'', Cr tb X Ap.in1 s₀g H₀ cenv fp [(a, oa)] w1 h1 σ0 tn f xs md (pinO S s'') k s'' → GdT h1 f xs k → gs.Goes (model X.prog X.w) Ap.in1 (fun n s₀ r s₁ => r = .ok .next ∧ gR tb X Ap.in1 s₀g H₀ cenv fp [(a, oa)] w1 h1 σ0 f xs md S n s₀ s₁) (gY tb X Ap.in1 s₀g H₀ cenv fp [(a, oa)] w1 h1 σ0 tn f xs md S) (xs.length - k) (.send .none) s''
def gSt (P : List (Addr × Obj)) (k : Nat) (s : Shared) : Prop := PinS S P s ∧ Cr tb X Ap.in1 s₀g H₀ cenv fp [(a, oa)] w1 h1 σ0 tn f xs md P k s ∧ ∃ gs, s.gens[g]? = some gs ∧ Gz tb X Ap s₀g H₀ cenv fp w1 h1 σ0 tn f xs md S a oa k s gs
def gSp (P : List (Addr × Obj)) (k : Nat) (v : Value) (k' : Nat) (s : Shared) : Prop := k' = k + 1 ∧ ((P = [] ∧ S = none) ∨ ∃ S0 o, S = some S0 ∧ P = [(S0, o)]) ∧ Yv tb X Ap.in1 s₀g H₀ cenv fp [(a, oa)] w1 h1 σ0 tn f xs md P k v s ∧ ∃ gs, s.gens[g]? = some gs ∧ Gz tb X Ap s₀g H₀ cenv fp w1 h1 σ0 tn f xs md S a oa (k + 1) s gs
def gEn (P : List (Addr × Obj)) (k : Nat) (s : Shared) : Prop := EnC tb X Ap.in1 s₀g H₀ cenv fp [(a, oa)] w1 h1 σ0 f xs md P k s
def gYd (k : Nat) (v : Value) (k' : Nat) : Prop := k' = k + 1 ∧ ∃ t y r h', trj f xs h1 k = some t ∧ nextL f t.xs t.h = some (some (y, r), h') ∧ PlainV y v
def gnd (k : Nat) : Prop := ∃ t h', trj f xs h1 k = some t ∧ nextL f t.xs t.h = some (none, h')
def gmu (k : Nat) : Nat := match trj f xs h1 k with
  | some t => t.xs.length
  | none => 0
def grd (P : List (Addr × Obj)) : Prop := S = none ∨ P ≠ []
def gUp (o : Obj) (v : Value) (o' : Obj) : Prop := md = true → ∃ acc c c', o = lstO acc c ∧ o' = lstO (acc.push v) c'
def gSm (o o' : Obj) : Prop := md = true → ∃ acc c c', o = lstO acc c ∧ o' = lstO acc c'
end
theorem pinO_of {P : List (Addr × Obj)} {s : Shared} {k : Nat} (h : PinS S P s) (rd : grd S P) (c : Cr tb X Ap.in1 s₀g H₀ cenv fp [(a, oa)] w1 h1 σ0 tn f xs md P k s) : P = pinO S s := by
  rcases h with ⟨rfl, h⟩ | ⟨S0, o, rfl, rfl⟩
  · rcases rd with rfl | rd
    · rfl
    · exact absurd rfl rd
  · obtain ⟨w, vs, t, _, I, _⟩ := c
    have g1 := (I.pin (S0, o) (List.mem_append_right _ (List.mem_singleton.mpr rfl))).1
    unfold pinO
    dsimp only
    rw [g1]
theorem pinO_shape (S : Option Addr) (s : Shared) : (S = none ∧ pinO S s = []) ∨ (∃ S0, S = some S0 ∧ s.heap.get? S0 = none ∧ pinO S s = []) ∨ ∃ S0 o, S = some S0 ∧ s.heap.get? S0 = some o ∧ pinO S s = [(S0, o)] := by
  cases S with
  | none => exact .inl ⟨rfl, rfl⟩
  | some S0 =>
    cases e : s.heap.get? S0 with
    | none => exact .inr (.inl ⟨S0, rfl, e, by unfold pinO; dsimp only; rw [e]⟩)
    | some o => exact .inr (.inr ⟨S0, o, rfl, e, by unfold pinO; dsimp only; rw [e]⟩)
theorem pinO_keep {s s' : Shared} {pins : List (Addr × Obj)} {σ : L2.St} {H : Hp} {X' : Cx} (I : Inv X' pins σ H s') (hp : pins = pinO S s) (ne : S = none ∨ pinO S s ≠ []) : pinO S s' = pinO S s := by
  rcases pinO_shape S s with ⟨rfl, _⟩ | ⟨S0, rfl, h, e⟩ | ⟨S0, o, rfl, h, e⟩
  · rfl
  · rcases ne with ne | ne
    · cases ne
    · exact absurd e ne
  · rw [e] at hp
    subst hp
    have g1 := (I.pin (S0, o) (List.mem_append_right _ (List.mem_singleton.mpr rfl))).1
    rw [e]
    unfold pinO
    dsimp only
    rw [g1]
theorem gen_drv (hA : Ap.handled = none) (hd : Ap.depth < recursionLimit) (hoa : oa.cls = .type "generator" ∧ (∃ nm qn, oa.data = .fields #[.int g 0, nm, qn]) ∧ oa.slots = #[]) (T : Turn X.prog X.w X.K tg J fp it tn)
    (hS : ∀ S0, S = some S0 → s₀g.heap.objs.size ≤ S0 ∧ a ≠ S0 ∧ ∀ b ∈ fp, b ≠ S0) (hmd : md = true → S ≠ none) :
    Drv X.prog X.w Ap a (gSt tb X Ap s₀g H₀ cenv fp w1 h1 σ0 tn f xs md S a g oa) (gEn tb X Ap s₀g H₀ cenv fp w1 h1 σ0 f xs md a oa) (gSp tb X Ap s₀g H₀ cenv fp w1 h1 σ0 tn f xs md S a g oa) (gYd h1 f xs) (gnd h1 f xs) (GdT h1 f xs) (gmu h1 f xs) (grd S) (gUp md) (gSm md) (S ≠ none) where
  turn := fun P k s Q E rd hst hg hE hY => by
    obtain ⟨po, cr, gs, hgs, gz⟩ := hst
    have hP := pinO_of po rd cr
    have cr0 := cr
    obtain ⟨w, vs, t, et, I, st, nfp, rl, ex, lk, rv⟩ := cr
    have hpin := (I.pin (a, oa) (List.mem_append_left _ (List.mem_singleton.mpr rfl))).1
    have hkl := trj_len et
    have hsz : g + 1 ≤ s.gens.size := by
      obtain ⟨hlt, _⟩ := Array.getElem?_eq_some_iff.mp hgs
      exact hlt
    have crr : Cr tb X Ap.in1 s₀g H₀ cenv fp [(a, oa)] w1 h1 σ0 tn f xs md (pinO S (s.setGen g .running)) k (s.setGen g .running) := by
      rw [hP] at I lk
      exact ⟨w, vs, t, et, I.regen (allBare_set I.bare rfl), st, nfp, rl, ex, lk, rv⟩
    refine GenW.wpAny_gsz hsz ?_
    refine wpAny_pyNext_genexpQ (P := gR tb X Ap.in1 s₀g H₀ cenv fp [(a, oa)] w1 h1 σ0 f xs md S) (Y := gY tb X Ap.in1 s₀g H₀ cenv fp [(a, oa)] w1 h1 σ0 tn f xs md S) hA I.nolimit hd
      (let ⟨c1, ⟨nm, qn, c2⟩, c3⟩ := hoa; ⟨oa, nm, qn, hpin, c1, c2, c3⟩) hgs (gz _ crr hg) (fun v s₁ gs' hb hy hz => ?_) fun s₁ hr h' keep hz => ?_
    · obtain ⟨k', hk', yv, kap⟩ := hy
      have hn : ∃ m, xs.length - k = m + 1 := by
        cases e : xs.length - k with
        | succ m => exact ⟨m, rfl⟩
        | zero =>
          rw [e] at kap hk'
          have hk2 : k' + 1 = k := by omega
          rw [hk2] at kap
          exact (kap _ crr hg).elim
      obtain ⟨m, hm⟩ := hn
      rw [hm] at kap hk'
      have hk2 : k' = k := by omega
      subst hk2
      have hm2 : m = xs.length - (k' + 1) := by omega
      have hkp : pinO S (s.setGen g .running) = P := hP.symm
      rw [hkp] at yv
      have hgs' : (s₁.setGen g gs').gens[g]? = some gs' := by
        unfold Shared.setGen at hz ⊢
        simp only [Array.size_setIfInBounds] at hz
        simp [show g < s₁.gens.size from hz]
      obtain ⟨w2, vs2, t2, y, r, h2, x, q1, q2, q3, q4, q5, q6, q7, q8, q9, q10, q11⟩ := yv
      refine hY v _ (k' + 1) ⟨rfl, t2, y, r, h2, q1, q2, plainV q3 q4⟩ ⟨rfl, ?_, ⟨w2, vs2, t2, y, r, h2, x, q1, q2, q3, q4, q5.regen (allBare_set q5.bare hb), q6, q7, q8, q9, q10, q11⟩, gs', hgs', fun s'' c'' g'' => ?_⟩
      · rcases po with ⟨p1, p2⟩ | p1
        · rcases rd with rd | rd
          · exact .inl ⟨p1, rd⟩
          · exact absurd p1 rd
        · exact .inr p1
      · rw [← hm2]
        exact kap s'' c'' g''
    · obtain ⟨k', hk', w2, vs2, t2, h2, q1, q2, q3, q4, q5, q6, q7⟩ := hr
      have hk2 : k' = k := by omega
      subst hk2
      have hkp : pinO S (s.setGen g .running) = P := hP.symm
      rw [hkp] at q3 q6
      exact hE _ ⟨w2, vs2, t2, h2, q1, q2, (q3.regen (allBare_set (gs := .finished) q3.bare rfl)).kept (t' := s₁.toks) keep, q4, q5, q6, q7⟩
  gen := fun P k s hst => by
    obtain ⟨_, ⟨w, vs, t, _, I, _⟩, _⟩ := hst
    have hpin := (I.pin (a, oa) (List.mem_append_left _ (List.mem_singleton.mpr rfl))).1
    obtain ⟨c1, ⟨nm, qn, c2⟩, c3⟩ := hoa
    exact ⟨g, oa, nm, qn, hpin, c1, c2, c3⟩
  sp0 := fun k v k' s rd hsp => by
    obtain ⟨rfl, po, ⟨w, vs, t, y, r, h', x, q1, q2, q3, q4, q5, q6, q7, q8, q9, q10, q11⟩, gs, hgs, gz⟩ := hsp
    have hSn : S = none := rd.elim id fun z => absurd rfl z
    have hmf : md = false := by
      cases md with
      | false => rfl
      | true => exact absurd hSn (hmd rfl)
    subst hmf
    exact ⟨.inl ⟨rfl, fun S0 e => by rw [hSn] at e; cases e⟩, ⟨w, vs, _, trj_succ q1 q2, q5, q6, q7, q8, q9, q10, q11⟩, gs, hgs, gz⟩
  lay := fun k s tk o hly hst hf no sm => by
    obtain ⟨po, ⟨w, vs, t, et, I, st, nfp, rl, ex, lk, rv⟩, gs, hgs, gz⟩ := hst
    obtain ⟨S0, hS0⟩ : ∃ S0, S = some S0 := by
      cases S with
      | none => exact absurd rfl hly
      | some S0 => exact ⟨S0, rfl⟩
    have hsz : s.heap.objs.size = S0 := by
      rcases po with ⟨_, p⟩ | ⟨_, _, _, p⟩
      · exact p S0 hS0
      · cases p
    refine ⟨.inr ⟨S0, o, hS0, by rw [hsz]⟩, ⟨w, vs, t, et, ?_, T.keep _ _ _ st fun b _ u e => Heap.get?_push_of_some _ e, nfp, rl, ex, ?_, rv⟩, gs, hgs, gz⟩
    · refine (I.kept (t' := tk) fun b u e => Heap.get?_push_of_some _ e).pins_of fun q hq => ?_
      rw [List.mem_singleton.mp hq]
      exact ⟨Heap.get?_push_size _ hf, I.hok.fresh (Nat.le_refl _), Nat.ne_of_gt I.lt, I.nofs (Nat.le_refl _), no⟩
    · unfold Lk at lk ⊢
      by_cases hm : md = true
      · rw [if_pos hm] at lk ⊢
        obtain ⟨acc, c, c', e1, e2⟩ := sm hm
        refine .inr ⟨_, acc, c', by rw [e2], ?_⟩
        have ea : acc = #[] := by
          unfold lstO at e1
          cases e1
          rfl
        subst ea
        rcases lk with ⟨_, e⟩ | ⟨_, _, _, e, _⟩
        · subst e; exact .nil
        · cases e
      · rw [if_neg hm] at lk ⊢
        exact lk
  upd := fun k v k' s S1 o o' h2 tk hsp up no e2 keep => by
    obtain ⟨rfl, po, ⟨w, vs, t, y, r, h', x, q1, q2, q3, q4, q5, q6, q7, q8, q9, q10, q11⟩, gs, hgs, gz⟩ := hsp
    have hS1 : S = some S1 := by
      rcases po with ⟨z, _⟩ | ⟨S0, o0, z, e⟩
      · cases z
      · cases e; exact z
    obtain ⟨z1, z2, z3⟩ := hS S1 hS1
    have I2 := inv_repin (t' := tk) q5 z1 (fun q hq => by rw [List.mem_singleton.mp hq]; exact z2) no e2 keep
    refine ⟨.inr ⟨S1, o', hS1, rfl⟩, ⟨w, if md = true then vs ++ [x] else vs, _, trj_succ q1 q2, I2, ?_, q7, q8, q9, ?_, ?_⟩, gs, hgs, gz⟩
    · exact T.keep _ _ _ q6 fun b hb u e => keep b (z3 b hb) u e
    · unfold Lk at q10 ⊢
      by_cases hm : md = true
      · rw [if_pos hm] at q10 ⊢
        rw [if_pos hm]
        obtain ⟨acc, c, c', e1, e3⟩ := up hm
        refine .inr ⟨S1, acc.push v, c', by rw [e3], ?_⟩
        rw [Array.toList_push]
        rcases q10 with ⟨e, _⟩ | ⟨_, acc2, c2, e, q10⟩
        · cases e
        · cases e
          unfold lstO at e1
          cases e1
          exact q10.append (.cons q3 .nil)
      · rw [if_neg hm] at q10 ⊢
        rw [if_neg hm]
        exact q10
    · by_cases hm : md = true
      · unfold dsm at q11 ⊢
        rw [if_pos hm] at q11 ⊢
        rw [if_pos hm]
        exact q11.append (.cons q4 .nil)
      · unfold dsm at q11 ⊢
        rw [if_neg hm] at q11 ⊢
        rw [if_neg hm]
        exact q11
  same := fun k s S1 o o' h2 tk hst sm no e2 keep => by
    obtain ⟨po, ⟨w, vs, t, et, I, st, nfp, rl, ex, lk, rv⟩, gs, hgs, gz⟩ := hst
    have hS1 : S = some S1 := by
      rcases po with ⟨z, _⟩ | ⟨S0, o0, z, e⟩
      · cases z
      · cases e; exact z
    obtain ⟨z1, z2, z3⟩ := hS S1 hS1
    have I2 := inv_repin (t' := tk) I z1 (fun q hq => by rw [List.mem_singleton.mp hq]; exact z2) no e2 keep
    refine ⟨.inr ⟨S1, o', hS1, rfl⟩, ⟨w, vs, t, et, I2, T.keep _ _ _ st fun b hb u e => keep b (z3 b hb) u e, nfp, rl, ex, ?_, rv⟩, gs, hgs, gz⟩
    unfold Lk at lk ⊢
    by_cases hm : md = true
    · rw [if_pos hm] at lk ⊢
      obtain ⟨acc, c, c', e1, e3⟩ := sm hm
      refine .inr ⟨S1, acc, c', by rw [e3], ?_⟩
      rcases lk with ⟨e, _⟩ | ⟨_, acc2, c2, e, lk⟩
      · cases e
      · cases e
        unfold lstO at e1
        cases e1
        exact lk
    · rw [if_neg hm] at lk ⊢
      exact lk
  pin := fun k s S1 o hst => by
    obtain ⟨_, ⟨w, vs, t, et, I, _⟩, _⟩ := hst
    exact (I.pin (S1, o) (List.mem_append_right _ (List.mem_singleton.mpr rfl))).1
  pinS := fun k v k' s S1 o hsp => by
    obtain ⟨_, _, ⟨w, vs, t, y, r, h', x, _, _, _, _, I, _⟩, _⟩ := hsp
    exact (I.pin (S1, o) (List.mem_append_right _ (List.mem_singleton.mpr rfl))).1
  pinE := fun k s S1 o he => by
    obtain ⟨w, vs, t, h', _, _, I, _⟩ := he
    exact (I.pin (S1, o) (List.mem_append_right _ (List.mem_singleton.mpr rfl))).1
  ende := fun P k s he => by
    obtain ⟨w, vs, t, h', q1, q2, _⟩ := he
    exact ⟨t, h', q1, q2⟩
  dec := fun k v k' hy => by
    obtain ⟨rfl, t, y, r, h', q1, q2, _⟩ := hy
    unfold gmu
    rw [q1, trj_succ q1 q2]
    exact nextL_len q2
end
end PI

set_option Elab.async false
set_option linter.all false
set_option maxRecDepth 100000
set_option maxHeartbeats 4000000
set_option autoImplicit false
namespace PI
open PySem PySem.Spec PyProof.Rows L2
section
variable {C : Calls} {tb : List Addr} {X : Cx} {A : Around} {s₀g : Shared} {H₀ : Hp} {cenv : Env} {fp : List Addr} {pn : List (Addr × Obj)} {w1 : Wd} {h1 : PH} {σ : L2.St} {tn : Nat → Heap → Prop} {xs : List D} {md : Bool} {S : Option Addr}
variable {p : P} {own : List Nat} {te : Eo} {m : E} {ρ : Rho} {J : L2.It} {it : Addr} {elt tg iter : Expr} {ifs : List Expr} {scope : Scope} {pos : Pos}
theorem gen_st (hc : X.calm = true) (hA : A.handled = none) (hs : subOwn p own = true) (hco : scope.isCoroutine = false) (hcs : cenv.scope = scope) (r1 : Rel X.K tb w1 h1) (rs : RS X.K w1 ρ σ) (T : Turn X.prog X.w X.K tg J fp it tn) (W : Wk X.K tb Ext J w1 xs)
    (pg : PG (gX X A s₀g H₀ cenv fp pn) tg (Tg X.K tb p)) (pt : PTs (gX X A s₀g H₀ cenv fp pn) ifs (Tt X.K tb (evOT C te))) (pe : PE (gX X A s₀g H₀ cenv fp pn) elt (Tx X.K tb (ev C m)))
    (hfp : ∀ b ∈ fp, ∀ q ∈ pn, q.1 ≠ b) (hfS : ∀ b ∈ fp, ∀ S', S = some S' → S' ≠ b) (s : Shared) (cr : Cr tb X A s₀g H₀ cenv fp pn w1 h1 (L2.wipe σ own) tn (turnF C p own te m ρ) xs md (pinO S s) 0 s) (gd : GdT h1 (turnF C p own te m ρ) xs 0) :
    Seg (model X.prog X.w) A (fun n s₀ r s₁ => r = .ok .next ∧ gR tb X A s₀g H₀ cenv fp pn w1 h1 (L2.wipe σ own) (turnF C p own te m ρ) xs md S n s₀ s₁) (gY tb X A s₀g H₀ cenv fp pn w1 h1 (L2.wipe σ own) tn (turnF C p own te m ρ) xs md S) (xs.length - 0) s
        (.compStart (.GeneratorExp elt [⟨tg, iter, ifs, 0⟩] scope pos) 0 (.ref it) .none cenv) ((model X.prog X.w).den (.compStart (.GeneratorExp elt [⟨tg, iter, ifs, 0⟩] scope pos) 0 (.ref it) .none cenv)) [] s := by
  obtain ⟨w, vs, t, et, I, st, nfp, rl, ex, lk, rv⟩ := cr
  obtain ⟨t2, r2, et2, en2⟩ := gd
  have et0 : trj (turnF C p own te m ρ) xs h1 0 = some ⟨xs, h1, []⟩ := rfl
  rw [et0] at et et2
  cases et
  cases et2
  have loop := gen_loop (iter := iter) (scope := scope) (pos := pos) (md := md) hc hA hs hco hcs r1 rs T W pg pt pe hfp hfS xs xs.length 0 s s w h1 vs _ et0 rfl ⟨r2, en2⟩ (by simp) (Nat.le_refl _) (Nat.le_refl _) (by omega) I st nfp rl ex lk rv
  have st0 : tn 0 s.heap := by
    have st' : tn (xs.length - xs.length) s.heap := st
    rw [Nat.sub_self] at st'
    exact st'
  show Seg _ A _ _ _ s _ ((compStart (.GeneratorExp elt [⟨tg, iter, ifs, 0⟩] scope pos) 0 (.ref it) .none cenv).onRaise (leaving cenv)) [] s
  unfold compStart
  rw [Sem.onRaise_eq_wrap, Nat.sub_zero]
  show Seg _ A _ _ _ s _ ((ask >>= _).wrap _ _ _ _) [] s
  refine seg_bind_wrap (wpAny_askSetting ?_)
  split
  · exact seg_again rfl loop
  · first
      | exact seg_bind_wrap (wpAny_rule (seg_bind_wrap (wpAny_standAt (seg_bind_wrap (T.self _ 0 s _ _ st0 (seg_again rfl loop))))))
      | (refine seg_bind_wrap (wpAny_rule ?_); show Seg _ A _ _ _ s _ ((standAt iter.pos >>= _).wrap _ _ _ _) [] s; exact seg_bind_wrap (wpAny_standAt (seg_bind_wrap (T.self _ 0 s _ _ st0 (seg_again rfl loop)))))
end
end PI

set_option Elab.async false
set_option linter.all false
set_option maxRecDepth 100000
set_option maxHeartbeats 4000000
set_option autoImplicit false
namespace PI
open PySem PySem.Spec PyProof.Rows L2

/-- a table of code objects has grown -/
theorem Rel.tab {K : PySem.W.Frag} {tb : List Addr} {w : Wd} {h : PH} (r : Rel K tb w h) {P : Addr} {ps ps' : Array Value} (hP : w.H P = some (.tbl ps)) (ht : TriplesOk ps'.toList) : Rel K tb (w.put P (.tbl ps')) h := by
  have nt : ∀ a o, w.H a = some o → ¬ isTbl o → a ≠ P := fun a o e n z => by rw [z, hP] at e; cases e; exact n trivial
  have k : ∀ a o, w.H a = some o → ¬ isTbl o → upd w.H P (.tbl ps') a = some o := fun a o e n => by rw [upd_ne (nt a o e n)]; exact e
  have l : Le w (w.put P (.tbl ps')) := ⟨List.prefix_refl _, fun _ f => f, fun a f o e => by
    obtain ⟨o', e', t⟩ := r.ft a f
    rw [e] at e'; cases e'
    exact k a o e t⟩
  refine ⟨r.len, r.nd, fun n c e => ?_, fun a m => ?_, r.nf, fun a f => ?_, fun P' hP' => ?_⟩
  · obtain ⟨a, g1, g2⟩ := r.cell n c e
    obtain ⟨o, e2, t⟩ := r.io a (List.mem_of_getElem? g1)
    refine ⟨a, g1, g2.le l fun o' e' => ?_⟩
    rw [e2] at e'; cases e'
    exact k a o e2 t
  · obtain ⟨o, e, t⟩ := r.io a m
    exact ⟨o, k a o e t, t⟩
  · obtain ⟨o, e, t⟩ := r.ft a f
    exact ⟨o, k a o e t, t⟩
  · by_cases z : P' = P
    · subst z
      exact ⟨ps', upd_same, ht⟩
    · obtain ⟨p2, e, t⟩ := r.tabs P' hP'
      exact ⟨p2, (upd_ne z).trans e, t⟩
theorem ext_tab {w : Wd} {P : Addr} {ps ps' : Array Value} (hP : w.H P = some (.tbl ps)) : Ext w (w.put P (.tbl ps')) where
  ip := List.prefix_refl _
  fz := fun _ f => f
  fn := fun _ f => .inl f
  ino := fun _ m => .inl m
  keep := fun a o e n _ => by
    show upd w.H P (.tbl ps') a = some o
    rw [upd_ne fun z => by rw [z, hP] at e; cases e; exact n trivial]
    exact e
  there := fun a e => upd_thr e
theorem Wk.ext {K : PySem.W.Frag} {tb : List Addr} {J : L2.It} {w w' : Wd} {xs : List D} (W : Wk K tb Ext J w xs) (x : Ext w w') : Wk K tb Ext J w' xs := ⟨fun i u h l r hi => W.go i u h (x.trans l) r hi, fun i u h y H' hi l r q => W.yld i u h y H' hi (x.trans l) r q, fun i u h l r hi => W.stop i u h (x.trans l) r hi⟩

section
variable {C : Calls} {tb : List Addr} {n : Nat} {c : Ck} {X : Cx} {pins : List (Addr × Obj)} {σ : L2.St} {s : Shared} {w : Wd} {ρ : Rho} {h h1 : PH} {xs : List D}
variable {p : P} {own : List Nat} {te : Eo} {m : E} {itm : It} {elt tg iter : Expr} {ifs : List Expr} {scope : Scope} {gpos : Pos}
/-- the generator at a stands ready in s5 -/
def GenReady (C : Calls) (tb : List Addr) (n : Nat) (X : Cx) (pins : List (Addr × Obj)) (σ : L2.St) (w : Wd) (ρ : Rho) (h1 : PH) (xs : List D) (p : P) (own : List Nat) (te : Eo) (m : E) (a : Addr) (s5 : Shared) : Prop :=
  ∀ (Ap : Around) (md : Bool) (S : Option Addr), Ap.handled = none → Ap.frames = some X.stack → (∀ e, Room n (Ap.in1.deeper e)) → Ap.depth < recursionLimit → (md = true → S ≠ none) → (∀ S0, S = some S0 → s5.heap.objs.size = S0) →
    ∃ (g : Nat) (oa : Obj) (s₀g : Shared) (H₀ : Hp) (cenv : Env) (fp : List Addr) (w1 : Wd) (tn : Nat → Heap → Prop) (σ0 : L2.St),
      Drv X.prog X.w Ap a (gSt tb X Ap s₀g H₀ cenv fp w1 h1 σ0 tn (turnF C p own te m ρ) xs md S a g oa) (gEn tb X Ap s₀g H₀ cenv fp w1 h1 σ0 (turnF C p own te m ρ) xs md a oa) (gSp tb X Ap s₀g H₀ cenv fp w1 h1 σ0 tn (turnF C p own te m ρ) xs md S a g oa)
        (gYd h1 (turnF C p own te m ρ) xs) (gnd h1 (turnF C p own te m ρ) xs) (GdT h1 (turnF C p own te m ρ) xs) (gmu h1 (turnF C p own te m ρ) xs) (grd S) (gUp md) (gSm md) (S ≠ none) ∧
      gSt tb X Ap s₀g H₀ cenv fp w1 h1 σ0 tn (turnF C p own te m ρ) xs md S a g oa [] 0 s5 ∧ Ext w w1 ∧
      ∀ P H' s', Inv (gX X Ap.in1 s₀g H₀ cenv fp [(a, oa)]) P σ0 H' s' → Inv X pins σ H' s'
theorem notset_fold {iter : Expr} {env : Env} (h1 : notSet iter = true) (h2 : notList iter = true) : ∀ x, genFold iter env x = pure x := by
  intro x
  cases iter <;> first | rfl | exact absurd h1 Bool.false_ne_true | exact absurd h2 Bool.false_ne_true
theorem gen_make (g : Good C tb n c X) (hgd : 0 < c.gd) (hi : PI X tg iter (Ti X.K tb Ext (evI C itm))) (k1 : notSet iter = true) (k2 : notList iter = true) (hb : blkC c.N c.sc scope (ownN c.N own) = true) (hnc : noCellS scope = true) (hco : scope.isCoroutine = false) (h0 : scope.names.lookup (".0" : Str) = some NameKind.local)
    (hs : subOwn p own = true) (hp : okP (c.gen scope) p tg = true) (ht : ∀ X', X'.K = X.K → Good C tb n (c.gen scope) X' → PTs X' ifs (Tt X.K tb (evOT C te))) (he : ∀ X', X'.K = X.K → Good C tb n (c.gen scope) X' → PE X' elt (Tx X.K tb (ev C m)))
    (I : Inv X pins σ w.H s) (r : Rel X.K tb w h) (rs : RS X.K w ρ σ) (ev0 : evI C itm ρ h = some (xs, h1)) {Q' : Value → Shared → Prop} (hQ : ∀ a s5, GenReady C tb n X pins σ w ρ h1 xs p own te m a s5 → Q' (.ref a) s5) :
    wpAny (model X.prog X.w) X.A (eval (.GeneratorExp elt [⟨tg, iter, ifs, 0⟩] scope gpos) X.env) Q' X.xe s := by
  obtain ⟨cc, P, hcode, TB, hPt⟩ := g.cod hgd
  have ok : BlkOk X.N X.env.scope scope (ownN c.N own) := by rw [g.hN, g.sc]; exact blkOk_by hb
  have hnd : X.N.Nodup := by rw [g.hN]; exact g.nd
  have hfree : ∀ y ∈ scope.names, y.2 = .free → ∃ c, X.env.cells.lookup y.1 = some c := fun y hy e => by
    rcases ok.free y hy e with k | k
    · exact I.ok.has _ (.inl k)
    · exact I.ok.has _ (.inr k)
  have hcell : ∀ y ∈ scope.names, y.2 ≠ .cell := fun y hy e => by
    have := List.all_eq_true.mp hnc y hy
    rw [e] at this; cases this
  have hdep : X.A.depth < recursionLimit := by have := g.room.dp; omega
  refine wpAny_GeneratorExp_make hco (closure_ok hfree) hcell h0 ok.kind hdep ?_ (notset_fold k1 k2)
  have hTi : Ti X.K tb Ext (evI C itm) σ w.H fun J H' => ∃ w', w'.H = H' ∧ Rel X.K tb w' h1 ∧ Ext w w' ∧ Wk X.K tb Ext J w' xs := ⟨w, ρ, h, xs, h1, rfl, r, rs, ev0, fun w' J r' ex W => ⟨w', rfl, r', ex, W⟩⟩
  refine wpAny_mono (hi.run pins s σ w.H _ I hTi) (fun xv s1 hx => wpAny_mono hx (fun itv s2 h2 => ?_) fun _ _ z => z) fun _ _ z => z
  obtain ⟨it, fp, tn, J, H2, e, I2, T, st2, f2, w', e2, r2, ex2, W⟩ := h2
  subst e e2
  refine ⟨I2.nolimit, ?_⟩
  obtain ⟨ps, hP, htr⟩ := r2.tabs P hPt
  have hPs : s2.heap.get? P = some { cls := .none, data := .fields ps } := I2.hok P _ hP
  have cd : PySem.W.CodeHd s2.heap cc P := TB.code.keeps I2.bk
  have cont : ∀ (code : Value) (h3 : Heap) (tk : Nat) (more : Array Value), Heap.ExtBut P s2.heap h3 → s2.heap.objs.size ≤ h3.objs.size → h3.get? P = some { cls := .none, data := .fields (ps ++ more) } → TriplesOk (ps ++ more).toList →
      wpAny (model X.prog X.w) X.A (builtinsFor X.env.globals X.env.builtins) (fun bi s₄ =>
        ∀ h', h'.Ns s₄.heap.objs.size (fun y => if y = ".0" then some (.ref it) else none) → Heap.SameBut s₄.heap.objs.size (s₄.heap.push { cls := .type "frame", data := .dict #[] }) h' →
          Q' (.ref h'.objs.size) { s₄ with
            gens := s₄.gens.push (.fresh (.compStart (.GeneratorExp elt [⟨tg, iter, ifs, 0⟩] scope gpos) 0 (.ref it) .none (genEnv scope (cloFrom X.env.cells scope.names []) s₄.heap.objs.size code bi X.env))),
            toks := s₄.toks + 1 + 1 + 1,
            heap := h'.push { cls := .type "generator", data := .fields #[.int s₄.gens.size 0, .str "<genexpr>" (s₄.toks + 1), .str (X.env.qual ++ "<genexpr>") (s₄.toks + 1 + 1)] } }) X.xe { s2 with heap := h3, toks := tk } := by
    intro code h3 tk more hx hsz hP3 htr3
    obtain ⟨bm, ob, b1, b2, b3, b4, b5, b6, b7, b8⟩ := TB.bm
    have keep3 : ∀ b u, b ≠ P → s2.heap.get? b = some u → h3.get? b = some u := fun b u hb e => hx b u hb e
    refine wpAny_builtinsFor (m := X.mg) (by rw [I2.ok.glob]; exact (I2.mod.glob.keeps I2.bk).extBut hx TB.gP) b1 b2 (keep3 _ _ b4 (I2.bk _ _ b5)) b6 b7 b8 ?_
    intro h' hn' hs'
    dsimp only at hn' hs' ⊢
    -- the state ahead of the frame
    have I4 : Inv X pins σ (w'.put P (.tbl (ps ++ more))).H { s2 with heap := h3, toks := tk } := GxR.inv_tab (h' := h3) (g' := s2.gens) (d' := s2.drawn) (t' := tk) I2 hP keep3 hP3 I2.bare
    have r4 := r2.tab hP htr3
    have ex4 : Ext w' (w'.put P (.tbl (ps ++ more))) := ext_tab hP
    have h3' : h'.objs.size = h3.objs.size + 1 := by rw [hs'.1, Heap.size_push]
    have kp : ∀ b o, h3.get? b = some o → h'.get? b = some o := fun b o e => hs'.extBut b o (Nat.ne_of_lt (Heap.lt_size e)) (Heap.get?_push_of_some _ e)
    have fpP : ∀ b ∈ fp, b ≠ P := fun b hb z => by
      have := (f2 b hb).1
      rw [z, hP] at this; cases this
    have fpO : ∀ b ∈ fp, ∃ o, s2.heap.get? b = some o ∧ ∀ v, o.data ≠ .cell v := T.obj _ _ st2
    have fp4 : ∀ b ∈ fp, FpOk X pins (w'.put P (.tbl (ps ++ more))).H b ∧ b < h3.objs.size := fun b hb => by
      obtain ⟨o, eo, _⟩ := fpO b hb
      exact ⟨⟨(upd_ne (fpP b hb)).trans (f2 b hb).1, (f2 b hb).2⟩, Nat.lt_of_lt_of_le (Heap.lt_size eo) hsz⟩
    generalize hoa : ({ cls := .type "generator", data := .fields #[.int s2.gens.size 0, .str "<genexpr>" (tk + 1), .str (X.env.qual ++ "<genexpr>") (tk + 1 + 1)] } : Obj) = oa
    refine hQ _ _ fun Ap md S hA hf hr hd hmd hS => ?_
    dsimp only at hS
    have kp5 : ∀ b o, h3.get? b = some o → (h'.push oa).get? b = some o := fun b o e => Heap.get?_push_of_some _ (kp b o e)
    have ga : (h'.push oa).get? h'.objs.size = some oa := Heap.get?_push_size _ (by rw [← hoa]; rfl)
    have na : NoCell oa := fun v z => by rw [← hoa] at z; cases z
    have bare5 : AllBare (s2.gens.push (.fresh (.compStart (.GeneratorExp elt [⟨tg, iter, ifs, 0⟩] scope gpos) 0 (.ref it) .none (genEnv scope (cloFrom X.env.cells scope.names []) h3.objs.size code builtinsNs X.env)))) := I2.bare.push rfl
    have gst := gen_start (A := Ap.in1) (own := ownN c.N own) (code := code) (bi := builtinsNs) (t' := tk + 1 + 1 + 1) rfl hA hf I4 ok hnd hcell fp4 (hn'.push oa) kp5 bare5 (a := h'.objs.size) (show h3.objs.size < h'.objs.size by rw [h3']; exact Nat.lt_succ_self _) ga na
    rw [show (ownN c.N own).map (·.2) = own from by unfold ownN; rw [List.map_map]; exact List.map_id' own] at gst
    generalize hce : genEnv scope (cloFrom X.env.cells scope.names []) h3.objs.size code builtinsNs X.env = cenv at gst bare5 ⊢
    have hcs : cenv.scope = scope := by rw [← hce]; rfl
    generalize hs0 : ({ s2 with heap := h3, toks := tk } : Shared) = s₀g at I4 gst ⊢
    have gG : Good C tb n (c.gen scope) (gX X Ap.in1 s₀g (w'.put P (.tbl (ps ++ more))).H cenv fp [(h'.objs.size, oa)]) := ⟨g.hN, g.nd, hcs, g.calm, rfl, hr cenv, rfl, g.cs, fun z => absurd z (Nat.lt_irrefl _)⟩
    have pg : PG (gX X Ap.in1 s₀g (w'.put P (.tbl (ps ++ more))).H cenv fp [(h'.objs.size, oa)]) tg (Tg X.K tb p) := sP gG p tg hp
    have pt := ht (gX X Ap.in1 s₀g (w'.put P (.tbl (ps ++ more))).H cenv fp [(h'.objs.size, oa)]) rfl gG
    have pe := he (gX X Ap.in1 s₀g (w'.put P (.tbl (ps ++ more))).H cenv fp [(h'.objs.size, oa)]) rfl gG
    have rs4 : RS X.K (w'.put P (.tbl (ps ++ more))) ρ σ := (rs.ext ex2 r).ext ex4 r2
    have W4 := W.ext ex4
    have szs : ∀ b ∈ fp, b < h'.objs.size := fun b hb => Nat.lt_of_lt_of_le (fp4 b hb).2 (by rw [h3']; exact Nat.le_succ _)
    have hsS : ∀ S0, S = some S0 → s₀g.heap.objs.size ≤ S0 ∧ h'.objs.size ≠ S0 ∧ ∀ b ∈ fp, b ≠ S0 := fun S0 e => by
      have z := hS S0 e
      have z2 : (h'.push oa).objs.size = S0 := z
      rw [Heap.size_push] at z2
      refine ⟨?_, by rw [← z2]; exact Nat.ne_of_lt (Nat.lt_succ_self _), fun b hb => by rw [← z2]; exact Nat.ne_of_lt (Nat.lt_succ_of_lt (szs b hb))⟩
      rw [← hs0, ← z2, h3']
      exact Nat.le_trans (Nat.le_succ _) (Nat.le_succ _)
    refine ⟨s2.gens.size, oa, s₀g, (w'.put P (.tbl (ps ++ more))).H, cenv, fp, w'.put P (.tbl (ps ++ more)), tn, L2.wipe σ own, gen_drv hA hd (by rw [← hoa]; exact ⟨rfl, ⟨_, _, rfl⟩, rfl⟩) T hsS hmd, ⟨.inl ⟨rfl, fun S0 e => hS S0 e⟩, ⟨w'.put P (.tbl (ps ++ more)), [], ⟨xs, h1, []⟩, rfl, ?_, ?_, fun b hb => (fp4 b hb).1.1, r4, Ext.refl _, ?_, ?_⟩, _, Array.getElem?_push_size .., fun s'' cr gd => ⟨rfl, ?_⟩⟩, ex2.trans ex4, fun P' H' s' I' => ?_⟩
    · rw [← hs0] at gst ⊢
      exact gst
    · show tn (xs.length - xs.length) _
      rw [Nat.sub_self]
      exact T.keep _ _ _ st2 fun b hb o e => kp5 b o (keep3 b o (fpP b hb) e)
    · unfold Lk
      cases md with
      | true => rw [if_pos rfl]; exact .inl ⟨rfl, rfl⟩
      | false => rw [if_neg Bool.false_ne_true]
    · have e0 : dsm md ⟨xs, h1, []⟩ = [] := by unfold dsm; cases md <;> rfl
      rw [e0]
      exact .nil
    · refine gen_st (A := Ap.in1) g.calm hA hs hco hcs r4 rs4 T W4 pg pt pe (fun b hb q hq => ?_) (fun b hb S' e => (hsS S' e).2.2 b hb |>.symm) s'' cr gd
      rw [List.mem_singleton.mp hq]
      have := szs b hb
      exact Nat.ne_of_gt this
    · exact I4.call' (ch := fp) I'.os I'.base I'.hok I'.bare fun b hb => ⟨(fp4 b hb).1.2.2.2.1, (fp4 b hb).1.2.1, (fp4 b hb).1.2.2.2.2.1, (fp4 b hb).1.2.2.2.2.2⟩
  cases hf : codeAmong gpos ps.toList with
  | none =>
    refine wpAny_genexprCodeX hcode (cd.code hPs htr) (cd.tab hPs) hf fun c' h' tk hx hge hlt hco' _ htab' _ => ?_
    obtain ⟨o1, vs, q1, q2, fl, q3, inF, tx, tt, op, _, _, _, _, _, _, _, _, _, htr', _⟩ := hco'
    exact cont _ h' tk _ hx (Nat.le_trans hge (Nat.le_of_lt hlt)) htab'.2 htr'
  | some cv =>
    refine wpAny_genexprCode_hit hcode (cd.code hPs htr) hf ?_
    have e : ps ++ #[] = ps := by simp
    exact cont cv s2.heap s2.toks #[] (Heap.ExtBut.refl _ _) (Nat.le_refl _) (by rw [e]; exact hPs) (by rw [e]; exact htr)
end
end PI

set_option Elab.async false
set_option linter.all false
set_option maxRecDepth 100000
set_option maxHeartbeats 4000000
set_option autoImplicit false
namespace PI
open PySem PySem.Spec PyProof.Rows L2

/-! ### in data -/
theorem allL_next {f : TuF} {stop : Bool} : ∀ {xs : List D} {h : PH} {b : Bool} {h' : PH}, allL f stop xs h = some (b, h') → (nextL f xs h = some (none, h') ∧ b = !stop) ∨ ∃ y r h2 k, nextL f xs h = some (some (y, r), h2) ∧ plainB y = some k ∧ ((k = stop ∧ b = stop ∧ h' = h2) ∨ (k = (!stop) ∧ allL f stop r h2 = some (b, h')))
  | [], h, b, h', e => by
    unfold allL at e
    cases e
    exact .inl ⟨rfl, rfl⟩
  | x :: xs, h, b, h', e => by
    unfold allL at e
    obtain ⟨⟨o, h1⟩, e1, e2⟩ := Option.bind_eq_some_iff.mp e
    cases o with
    | none =>
      have e2 : allL f stop xs h1 = some (b, h') := e2
      have en : nextL f (x :: xs) h = nextL f xs h1 := by
        show (f x h).bind _ = _
        rw [e1, Option.bind_some]
      rw [en]
      exact allL_next e2
    | some y =>
      dsimp only at e2
      split at e2
      · rename_i k hk
        have en : nextL f (x :: xs) h = some (some (y, xs), h1) := by
          show (f x h).bind _ = _
          rw [e1, Option.bind_some]
        refine .inr ⟨y, xs, h1, k, en, hk, ?_⟩
        split at e2
        · rename_i hs
          cases e2
          exact .inl ⟨hs, rfl, rfl⟩
        · rename_i hs
          refine .inr ⟨?_, e2⟩
          cases k <;> cases stop <;> simp at hs ⊢
      · cases e2
theorem compL_next {f : TuF} : ∀ {xs acc : List D} {h : PH} {ys : List D} {h' : PH}, compL f xs acc h = some (ys, h') → (nextL f xs h = some (none, h') ∧ ys = acc ∧ acc.length ≤ sizeLine) ∨ ∃ y r h2, nextL f xs h = some (some (y, r), h2) ∧ compL f r (acc ++ [y]) h2 = some (ys, h')
  | [], acc, h, ys, h', e => by
    unfold compL at e
    split at e
    · rename_i hz
      cases e
      exact .inl ⟨rfl, rfl, hz⟩
    · cases e
  | x :: xs, acc, h, ys, h', e => by
    unfold compL at e
    obtain ⟨⟨o, h1⟩, e1, e2⟩ := Option.bind_eq_some_iff.mp e
    cases o with
    | none =>
      have e2 : compL f xs acc h1 = some (ys, h') := e2
      have en : nextL f (x :: xs) h = nextL f xs h1 := by
        show (f x h).bind _ = _
        rw [e1, Option.bind_some]
      rw [en]
      exact compL_next e2
    | some y =>
      dsimp only at e2
      split at e2
      · have en : nextL f (x :: xs) h = some (some (y, xs), h1) := by
          show (f x h).bind _ = _
          rw [e1, Option.bind_some]
        exact .inr ⟨y, xs, h1, en, e2⟩
      · cases e2
theorem compL_pre {f : TuF} : ∀ {xs acc : List D} {h : PH} {ys : List D} {h' : PH}, compL f xs acc h = some (ys, h') → ∃ r, ys = acc ++ r
  | [], acc, h, ys, h', e => by
    unfold compL at e
    split at e
    · cases e; exact ⟨[], by simp⟩
    · cases e
  | x :: xs, acc, h, ys, h', e => by
    unfold compL at e
    obtain ⟨⟨o, h1⟩, e1, e2⟩ := Option.bind_eq_some_iff.mp e
    cases o with
    | none => exact compL_pre (show compL f xs acc h1 = some (ys, h') from e2)
    | some y =>
      dsimp only at e2
      split at e2
      · obtain ⟨r, hr⟩ := compL_pre e2
        exact ⟨y :: r, by rw [hr]; simp⟩
      · cases e2
def GdA (h1 : PH) (f : TuF) (xs : List D) (stop : Bool) (k : Nat) : Prop := ∃ t b h', trj f xs h1 k = some t ∧ allL f stop t.xs t.h = some (b, h')
theorem gdA_T {h1 : PH} {f : TuF} {xs : List D} {stop : Bool} {k : Nat} (g : GdA h1 f xs stop k) : GdT h1 f xs k := by
  obtain ⟨t, b, h', e1, e2⟩ := g
  rcases allL_next e2 with ⟨z, _⟩ | ⟨y, r, h2, j, z, _⟩
  · exact ⟨t, _, e1, z⟩
  · exact ⟨t, _, e1, z⟩
theorem plainB_tru {y : D} {v : Value} {k : Bool} (e : plainB y = some k) (p : PlainV y v) : Tru v k := by
  cases y with
  | bl b => cases e; exact .inl (p.1 _ rfl)
  | int i =>
    cases e
    obtain ⟨t, ht⟩ := p.2 _ rfl
    exact .inr ⟨i, t, ht, rfl⟩
  | _ => cases e
theorem gdA_step {h1 : PH} {f : TuF} {xs : List D} {stop : Bool} {k k' : Nat} {v : Value} (g : GdA h1 f xs stop k) (y0 : gYd h1 f xs k v k') : ∃ j, Tru v j ∧ (j = (!stop) → GdA h1 f xs stop k') := by
  obtain ⟨t, b, h', e1, e2⟩ := g
  obtain ⟨rfl, t2, y, r, h2, q1, q2, q3⟩ := y0
  rw [e1] at q1; cases q1
  rcases allL_next e2 with ⟨z, _⟩ | ⟨y', r', h2', j, z, z2, z3⟩
  · rw [z] at q2; cases q2
  · rw [z] at q2; cases q2
    refine ⟨j, plainB_tru z2 q3, fun hj => ?_⟩
    rcases z3 with ⟨a, _⟩ | ⟨_, a⟩
    · subst a; cases j <;> cases hj
    · exact ⟨_, b, h', trj_succ e1 z, a⟩
theorem allG_end {h1 : PH} {f : TuF} {xs : List D} {stop : Bool} {k k' : Nat} {b : Bool} (a : AllG (gYd h1 f xs) (gnd h1 f xs) stop k b k') : ∀ {t : Ts} {b0 : Bool} {h0 : PH}, trj f xs h1 k = some t → allL f stop t.xs t.h = some (b0, h0) →
    b = b0 ∧ ∃ t', trj f xs h1 k' = some t' ∧ ((b = (!stop) ∧ nextL f t'.xs t'.h = some (none, h0)) ∨ (b = stop ∧ t'.h = h0)) := by
  induction a with
  | fin hn =>
    intro t b0 h0 e1 e2
    obtain ⟨t2, h2, q1, q2⟩ := hn
    rw [e1] at q1; cases q1
    rcases allL_next e2 with ⟨z, z2⟩ | ⟨y', r', h2', j, z, _⟩
    · exact ⟨z2.symm, t, e1, .inl ⟨rfl, z⟩⟩
    · rw [z] at q2; cases q2
  | hit hy ht =>
    intro t b0 h0 e1 e2
    obtain ⟨rfl, t2, y, r, h2, q1, q2, q3⟩ := hy
    rw [e1] at q1; cases q1
    rcases allL_next e2 with ⟨z, z2⟩ | ⟨y', r', h2', j, z, z2, z3⟩
    · rw [z] at q2; cases q2
    · rw [z] at q2; cases q2
      have ej := (plainB_tru z2 q3).uniq ht
      rcases z3 with ⟨_, a2, a3⟩ | ⟨a, _⟩
      · exact ⟨a2.symm, _, trj_succ e1 z, .inr ⟨rfl, a3.symm⟩⟩
      · rw [ej] at a; cases stop <;> cases a
  | go hy ht _ ih =>
    intro t b0 h0 e1 e2
    obtain ⟨rfl, t2, y, r, h2, q1, q2, q3⟩ := hy
    rw [e1] at q1; cases q1
    rcases allL_next e2 with ⟨z, z2⟩ | ⟨y', r', h2', j, z, z2, z3⟩
    · rw [z] at q2; cases q2
    · rw [z] at q2; cases q2
      have ej := (plainB_tru z2 q3).uniq ht
      rcases z3 with ⟨a, _⟩ | ⟨_, a⟩
      · rw [ej] at a; cases stop <;> cases a
      · exact ih (trj_succ e1 z) a
def GdC (h1 : PH) (f : TuF) (xs : List D) (ok : D → Prop) (k : Nat) : Prop := ∃ t acc ys h', trj f xs h1 k = some t ∧ compL f t.xs acc t.h = some (ys, h') ∧ ∀ y ∈ ys, ok y
theorem gdC_T {h1 : PH} {f : TuF} {xs : List D} {ok : D → Prop} {k : Nat} (g : GdC h1 f xs ok k) : GdT h1 f xs k := by
  obtain ⟨t, acc, ys, h', e1, e2, _⟩ := g
  rcases compL_next e2 with ⟨z, _⟩ | ⟨y, r, h2, z, _⟩
  · exact ⟨t, _, e1, z⟩
  · exact ⟨t, _, e1, z⟩
theorem gdC_step {h1 : PH} {f : TuF} {xs : List D} {ok : D → Prop} {k k' : Nat} {v : Value} (g : GdC h1 f xs ok k) (y0 : gYd h1 f xs k v k') : (∃ y, ok y ∧ PlainV y v) ∧ GdC h1 f xs ok k' := by
  obtain ⟨t, acc, ys, h', e1, e2, e3⟩ := g
  obtain ⟨rfl, t2, y, r, h2, q1, q2, q3⟩ := y0
  rw [e1] at q1; cases q1
  rcases compL_next e2 with ⟨z, _⟩ | ⟨y', r', h2', z, z2⟩
  · rw [z] at q2; cases q2
  · rw [z] at q2; cases q2
    obtain ⟨rr, hr⟩ := compL_pre z2
    refine ⟨⟨y, e3 y (by rw [hr]; simp), q3⟩, _, _, ys, h', trj_succ e1 z, z2, e3⟩
inductive PlainVs : List D → List Value → Prop
  | nil : PlainVs [] []
  | cons {y : D} {v : Value} {ys : List D} {vs : List Value} : PlainV y v → PlainVs ys vs → PlainVs (y :: ys) (v :: vs)
theorem PlainVs.length {ys : List D} {vs : List Value} (h : PlainVs ys vs) : ys.length = vs.length := by
  induction h with
  | nil => rfl
  | cons _ _ ih => simp [ih]
theorem toEnd_end {h1 : PH} {f : TuF} {xs : List D} {k k' : Nat} {vs : List Value} (a : ToEnd (gYd h1 f xs) (gnd h1 f xs) k vs k') : ∀ {t : Ts} {acc ys : List D} {h0 : PH}, trj f xs h1 k = some t → compL f t.xs acc t.h = some (ys, h0) →
    ∃ rest t', ys = acc ++ rest ∧ PlainVs rest vs ∧ trj f xs h1 k' = some t' ∧ nextL f t'.xs t'.h = some (none, h0) ∧ t'.ds = t.ds ++ rest ∧ ys.length ≤ sizeLine := by
  induction a with
  | fin hn =>
    intro t acc ys h0 e1 e2
    obtain ⟨t2, h2, q1, q2⟩ := hn
    rw [e1] at q1; cases q1
    rcases compL_next e2 with ⟨z, z2, z3⟩ | ⟨y', r', h2', z, _⟩
    · exact ⟨[], t, by rw [z2]; simp, .nil, e1, z, by simp, by rw [z2]; exact z3⟩
    · rw [z] at q2; cases q2
  | go hy _ ih =>
    intro t acc ys h0 e1 e2
    obtain ⟨rfl, t2, y, r, h2, q1, q2, q3⟩ := hy
    rw [e1] at q1; cases q1
    rcases compL_next e2 with ⟨z, _⟩ | ⟨y', r', h2', z, z2⟩
    · rw [z] at q2; cases q2
    · rw [z] at q2; cases q2
      obtain ⟨rest, t', g1, g2, g3, g4, g5, g6⟩ := ih (trj_succ e1 z) z2
      exact ⟨y :: rest, t', by rw [g1]; simp, .cons q3 g2, g3, g4, by rw [g5]; simp, g6⟩
theorem ints_are {ys : List D} {vs : List Value} {ns : List Int} (p : PlainVs ys vs) (e : intsD ys = some ns) : IntsAre vs ns := by
  induction p generalizing ns with
  | nil =>
    simp only [intsD, Option.some.injEq] at e
    subst e; exact .nil
  | cons h _ ih =>
    rename_i y v ys vs _
    cases y with
    | int i =>
      simp only [intsD, Option.map_eq_some_iff] at e
      obtain ⟨ms, e1, rfl⟩ := e
      obtain ⟨t, rfl⟩ := h.2 i rfl
      exact .cons _ _ (ih e1)
    | _ => simp [intsD] at e
theorem ints_mem {ys : List D} {ns : List Int} (e : intsD ys = some ns) : ∀ y ∈ ys, ∃ i, y = .int i := by
  rw [intsD_eq e]
  intro y hy
  obtain ⟨i, _, rfl⟩ := List.mem_map.mp hy
  exact ⟨i, rfl⟩

/-! ### the rule -/
section
variable {C : Calls} {tb : List Addr} {n : Nat} {c : Ck} {X : Cx}
variable {p : P} {own : List Nat} {te : Eo} {m : E} {itm : It} {elt tg iter : Expr} {ifs : List Expr} {scope : Scope} {gpos : Pos}
theorem room_gen {n : Nat} {c : Ck} {A : Around} (hr : Room (n + c.gd) A) (hgd : 0 < c.gd) (e : Env) : Room n (A.in1.in1.deeper e) ∧ Room n (A.in1.in1.in1.in1.deeper e) := by
  obtain ⟨h1, h2, h3⟩ := hr
  refine ⟨⟨h1, ?_, ?_⟩, ⟨h1, ?_, ?_⟩⟩
  · show A.depth + 1 + 3 * n + 5 < _; omega
  · show A.units + 1 + 1 + 3 + 16 * n + 200 < _; omega
  · show A.depth + 1 + 3 * n + 5 < _; omega
  · show A.units + 1 + 1 + 1 + 1 + 3 + 16 * n + 200 < _; omega
theorem r_gen (g : Good C tb n c X) {gg : G} {pn pos : Pos} (hx : c.glob gg.name = true) (hgd : 0 < c.gd) (hi : PI X tg iter (Ti X.K tb Ext (evI C itm))) (k1 : notSet iter = true) (k2 : notList iter = true) (hb : blkC c.N c.sc scope (ownN c.N own) = true) (hnc : noCellS scope = true) (hco : scope.isCoroutine = false) (h0 : scope.names.lookup (".0" : Str) = some NameKind.local)
    (hs : subOwn p own = true) (hp : okP (c.gen scope) p tg = true) (ht : ∀ X', X'.K = X.K → Good C tb n (c.gen scope) X' → PTs X' ifs (Tt X.K tb (evOT C te))) (he : ∀ X', X'.K = X.K → Good C tb n (c.gen scope) X' → PE X' elt (Tx X.K tb (ev C m))) :
    PE X (.Call (.Name gg.name pn) [.GeneratorExp elt [⟨tg, iter, ifs, 0⟩] scope gpos] [] pos) (Tx X.K tb (ev C (.gen gg p itm own te m))) := by
  have hst : starEach [.GeneratorExp elt [⟨tg, iter, ifs, 0⟩] scope gpos] X.env = (false, eval (.GeneratorExp elt [⟨tg, iter, ifs, 0⟩] scope gpos) X.env) :: starEach [] X.env := rfl
  have rr := fun e => room_gen g.roomG hgd e
  refine ⟨fun pins s σ H Q I ⟨w, ρ, h, d, h', e, r, rs, hv, q⟩ => ?_⟩
  subst e
  simp only [ev] at hv
  obtain ⟨⟨xs, h1⟩, ev0, hv⟩ := Option.bind_eq_some_iff.mp hv
  have hA : X.A.handled = none := I.ok.hd g.calm
  have hdep : X.A.depth < recursionLimit := by have := g.room.dp; omega
  have et0 : trj (turnF C p own te m ρ) xs h1 0 = some ⟨xs, h1, []⟩ := rfl
  cases gg with
  | all =>
    obtain ⟨⟨b0, h2⟩, e1, hv⟩ := Option.map_eq_some_iff.mp hv
    cases hv
    have e1 : allL (turnF C p own te m ρ) false xs h1 = some (b0, h2) := e1
    refine wpAny_Call_Name_kw (ld_blt I (g.gl hx) (g.cs.bl _ (by decide)) PyProof.Rows.boot_all ?_)
    refine PyProof.Rows.callWith_builtin1 ?_ hst rfl
    rw [hst]
    show wpAny _ _ (spliced ((false, eval (.GeneratorExp elt [⟨tg, iter, ifs, 0⟩] scope gpos) X.env) :: backTo pos (starEach [] X.env))) _ _ s
    refine Calls.spliced_cons (gen_make g hgd hi k1 k2 hb hnc hco h0 hs hp ht he I r rs ev0 fun a s5 hG => ?_)
    refine Calls.spliced_nil ?_
    obtain ⟨gi, oa, s₀g, H₀, cenv, fp, w1, tn, σ0, D, st, ex1, back⟩ := hG X.A.in1 false none hA I.ok.frames (fun e => (rr e).1) hdep (fun z => by cases z) (fun _ z => by cases z)
    refine call_all_drv (D.gd (Gd' := GdA h1 (turnF C p own te m ρ) xs false) fun _ => gdA_T) (.inl rfl) (fun P t v t' s' hg hy _ => gdA_step hg hy) st ⟨_, _, _, et0, e1⟩ fun b k' s' ag hes => ?_
    obtain ⟨rfl, t', et', hh⟩ := allG_end ag et0 e1
    rcases hes with ⟨rfl, w2, vs, t2, h9, q1, q2, q3, q4, q5, _⟩ | ⟨rfl, _, ⟨w2, vs, t2, q1, q3, _, _, q4, q5, _⟩, _⟩
    · rw [et'] at q1; cases q1
      rcases hh with ⟨_, hh⟩ | ⟨z, _⟩
      · rw [hh] at q2; cases q2
        exact ⟨.bl true, w2.H, back _ _ _ q3, rfl, q w2 _ q4 (.bl _) (ex1.trans q5)⟩
      · cases z
    · rw [et'] at q1; cases q1
      rcases hh with ⟨z, _⟩ | ⟨_, hh⟩
      · cases z
      · rw [hh] at q4
        exact ⟨.bl false, w2.H, back _ _ _ q3, rfl, q w2 _ q4 (.bl _) (ex1.trans q5)⟩
  | any =>
    obtain ⟨⟨b0, h2⟩, e1, hv⟩ := Option.map_eq_some_iff.mp hv
    cases hv
    have e1 : allL (turnF C p own te m ρ) true xs h1 = some (b0, h2) := e1
    refine wpAny_Call_Name_kw (ld_blt I (g.gl hx) (g.cs.bl _ (by decide)) PyProof.Rows.boot_any ?_)
    refine PyProof.Rows.callWith_builtin1 ?_ hst rfl
    rw [hst]
    show wpAny _ _ (spliced ((false, eval (.GeneratorExp elt [⟨tg, iter, ifs, 0⟩] scope gpos) X.env) :: backTo pos (starEach [] X.env))) _ _ s
    refine Calls.spliced_cons (gen_make g hgd hi k1 k2 hb hnc hco h0 hs hp ht he I r rs ev0 fun a s5 hG => ?_)
    refine Calls.spliced_nil ?_
    obtain ⟨gi, oa, s₀g, H₀, cenv, fp, w1, tn, σ0, D, st, ex1, back⟩ := hG X.A.in1 false none hA I.ok.frames (fun e => (rr e).1) hdep (fun z => by cases z) (fun _ z => by cases z)
    refine call_any_drv (D.gd (Gd' := GdA h1 (turnF C p own te m ρ) xs true) fun _ => gdA_T) (.inl rfl) (fun P t v t' s' hg hy _ => gdA_step hg hy) st ⟨_, _, _, et0, e1⟩ fun b k' s' ag hes => ?_
    obtain ⟨rfl, t', et', hh⟩ := allG_end ag et0 e1
    rcases hes with ⟨rfl, w2, vs, t2, h9, q1, q2, q3, q4, q5, _⟩ | ⟨rfl, _, ⟨w2, vs, t2, q1, q3, _, _, q4, q5, _⟩, _⟩
    · rw [et'] at q1; cases q1
      rcases hh with ⟨_, hh⟩ | ⟨z, _⟩
      · rw [hh] at q2; cases q2
        exact ⟨.bl false, w2.H, back _ _ _ q3, rfl, q w2 _ q4 (.bl _) (ex1.trans q5)⟩
      · cases z
    · rw [et'] at q1; cases q1
      rcases hh with ⟨z, _⟩ | ⟨_, hh⟩
      · cases z
      · rw [hh] at q4
        exact ⟨.bl true, w2.H, back _ _ _ q3, rfl, q w2 _ q4 (.bl _) (ex1.trans q5)⟩
  | sum =>
    obtain ⟨⟨ys, h2⟩, e1, hv⟩ := Option.bind_eq_some_iff.mp hv
    obtain ⟨ns, e2, hv⟩ := Option.map_eq_some_iff.mp hv
    cases hv
    have e1 : compL (turnF C p own te m ρ) xs [] h1 = some (ys, h2) := e1
    refine wpAny_Call_Name_kw (ld_blt I (g.gl hx) (g.cs.bl _ (by decide)) PyProof.Rows.boot_sum ?_)
    refine PyProof.Rows.callWith_builtin1 ?_ hst rfl
    rw [hst]
    show wpAny _ _ (spliced ((false, eval (.GeneratorExp elt [⟨tg, iter, ifs, 0⟩] scope gpos) X.env) :: backTo pos (starEach [] X.env))) _ _ s
    refine Calls.spliced_cons (gen_make g hgd hi k1 k2 hb hnc hco h0 hs hp ht he I r rs ev0 fun a s5 hG => ?_)
    refine Calls.spliced_nil ?_
    obtain ⟨gi, oa, s₀g, H₀, cenv, fp, w1, tn, σ0, D, st, ex1, back⟩ := hG X.A.in1 false (some s5.heap.objs.size) hA I.ok.frames (fun e => (rr e).1) hdep (fun z => by cases z) (fun _ z => by cases z; rfl)
    refine call_sum_drv (D.gd (Gd' := GdC h1 (turnF C p own te m ρ) xs fun y => ∃ i, y = .int i) fun _ => gdC_T) (by simp) (fun _ _ => .inr (by simp)) (fun _ _ _ z => by cases z) (fun P t v t' s' hg hy _ => ?_) (fun _ _ z => by cases z) st ⟨_, [], ys, h2, et0, e1, ints_mem e2⟩ fun vs S o k' s' rz tk _ te' he' hr => ?_
    · obtain ⟨⟨y, ⟨i, rfl⟩, pv⟩, hg'⟩ := gdC_step hg hy
      exact ⟨by obtain ⟨t, ht⟩ := pv.2 i rfl; exact ⟨i, t, ht⟩, hg'⟩
    · obtain ⟨rest, t', g1, g2, g3, g4, _⟩ := toEnd_end te' et0 e1
      simp only [List.nil_append] at g1
      subst g1
      obtain ⟨w2, vs2, t2, h9, q1, q2, q3, q4, q5, _⟩ := he'
      rw [g3] at q1; cases q1
      rw [g4] at q2; cases q2
      have er := hr ns (ints_are g2 e2)
      subst er
      exact ⟨.int _, w2.H, back _ _ _ q3, ⟨tk, rfl⟩, q w2 _ q4 (.int _) (ex1.trans q5)⟩
  | tuple =>
    dsimp only at hv
    split at hv
    case isFalse => cases hv
    rename_i hz
    obtain ⟨⟨ys, h2⟩, e1, hv⟩ := Option.map_eq_some_iff.mp hv
    cases hv
    have e1 : compL (turnF C p own te m ρ) xs [] h1 = some (ys, h2) := e1
    refine wpAny_Call_Name_kw (ld_blt I (g.gl hx) (g.cs.bl _ (by decide)) PyProof.Rows.boot_tuple ?_)
    refine PyProof.Rows.callWith_type1 ?_ hst rfl
    rw [hst]
    show wpAny _ _ (spliced ((false, eval (.GeneratorExp elt [⟨tg, iter, ifs, 0⟩] scope gpos) X.env) :: backTo pos (starEach [] X.env))) _ _ s
    refine Calls.spliced_cons (gen_make g hgd hi k1 k2 hb hnc hco h0 hs hp ht he I r rs ev0 fun a s5 hG => ?_)
    refine Calls.spliced_nil ?_
    obtain ⟨gi, oa, s₀g, H₀, cenv, fp, w1, tn, σ0, D, st, ex1, back⟩ := hG X.A.in1.in1.in1 true (some s5.heap.objs.size) hA I.ok.frames (fun e => (rr e).2) hdep (fun _ => by simp) (fun _ z => by cases z; rfl)
    refine call_tuple_drv (D.gd (Gd' := GdC h1 (turnF C p own te m ρ) xs fun _ => True) fun _ => gdC_T) (by simp) (fun _ _ => .inr (by simp)) (fun acc c v c' _ => ⟨acc, c, c', rfl, rfl⟩) (fun acc c c' _ => ⟨acc, c, c', rfl, rfl⟩) (fun t v t' hg hy => (gdC_step hg hy).2) st ⟨_, [], ys, h2, et0, e1, fun _ _ => trivial⟩ hz (fun vs t' te' => ?_) fun vs S cc k' s' _ te' he' => ?_
    · obtain ⟨rest, t', g1, g2, _, _, _, g6⟩ := toEnd_end te' et0 e1
      simp only [List.nil_append] at g1
      rw [← g2.length, ← g1]; exact g6
    · obtain ⟨rest, t', g1, g2, g3, g4, g5, g6⟩ := toEnd_end te' et0 e1
      simp only [List.nil_append] at g1 g5
      subst g1
      obtain ⟨w2, vs2, t2, h9, q1, q2, q3, q4, q5, q6, q7⟩ := he'
      rw [g3] at q1; cases q1
      rw [g4] at q2; cases q2
      have I9 := back _ _ _ q3
      have e7 : dsm true t' = ys := g5
      rw [e7] at q7
      have e6 : Vals vs2 vs := by
        unfold Lk at q6
        rw [if_pos rfl] at q6
        rcases q6 with ⟨z, _⟩ | ⟨S', acc, c', z, q6⟩
        · cases z
        · unfold lstO at z
          cases z
          exact q6
      have hf : w2.H s'.heap.objs.size = none := I9.hok.fresh (Nat.le_refl _)
      refine ⟨.ref s'.heap.objs.size, upd w2.H s'.heap.objs.size (.tup vs2), I9.laid (t' := s'.toks) (fun b u e => Heap.get?_push_of_some _ e) (Nat.le_refl _) ?_, rfl, (q.aft (ex1.trans q5)).tup q4 q7 hf⟩
      exact ⟨by rw [← q7.length]; exact g6, vs, e6, ⟨_, Heap.get?_push_size _ rfl, rfl, _, rfl⟩⟩
end
end PI

set_option Elab.async false
set_option linter.all false
set_option maxRecDepth 100000
set_option maxHeartbeats 4000000
set_option autoImplicit false
namespace PI
open PySem PySem.Spec PyProof.Rows L2
section
variable {C : Calls} {tb : List Addr} {n : Nat}

/-! ### and, or -/
section
variable {c : Ck} {X : Cx}
theorem r_and1 {m : E} {e : Expr} {pos : Pos} (ha : PE X e (Tx X.K tb (ev C m))) : PE X (.BoolOp .And [e] pos) (Tx X.K tb (evAnd C (.cons m .nil))) := by
  have e : evAnd C (.cons m .nil) = ev C m := by funext ρ h; simp only [evAnd]
  rw [e]; exact pe_one ha
theorem r_or1 {m : E} {e : Expr} {pos : Pos} (ha : PE X e (Tx X.K tb (ev C m))) : PE X (.BoolOp .Or [e] pos) (Tx X.K tb (evOr C (.cons m .nil))) := by
  have e : evOr C (.cons m .nil) = ev C m := by funext ρ h; simp only [evOr]
  rw [e]; exact pe_one ha
theorem r_and {m m2 : E} {ms : Es} {e e2 : Expr} {es : List Expr} {pos : Pos} (ha : PE X e (Tx X.K tb (ev C m))) (hb : PE X (.BoolOp .And (e2 :: es) pos) (Tx X.K tb (evAnd C (.cons m2 ms)))) : PE X (.BoolOp .And (e :: e2 :: es) pos) (Tx X.K tb (evAnd C (.cons m (.cons m2 ms)))) :=
  (pe_and ha hb).imp fun σ H Q ⟨w, ρ, h, d, h', e, r, rs, hv, q⟩ => by
    simp only [evAnd] at hv
    obtain ⟨⟨dx, h1⟩, e1, hv⟩ := Option.bind_eq_some_iff.mp hv
    refine ⟨w, ρ, h, _, _, e, r, rs, e1, fun w1 v r1 rv ex => ?_⟩
    dsimp only at hv
    split at hv
    · cases rv
      refine ⟨true, rfl, ?_⟩
      rw [if_pos rfl]
      exact ⟨w1, ρ, _, d, h', rfl, r1, rs.ext ex r, by simpa only [evAnd] using hv, q.aft ex⟩
    · cases rv
      cases hv
      refine ⟨false, rfl, ?_⟩
      rw [if_neg Bool.false_ne_true]
      exact (q.aft ex).now r1 (.bl _)
    · cases hv
theorem r_or {m m2 : E} {ms : Es} {e e2 : Expr} {es : List Expr} {pos : Pos} (ha : PE X e (Tx X.K tb (ev C m))) (hb : PE X (.BoolOp .Or (e2 :: es) pos) (Tx X.K tb (evOr C (.cons m2 ms)))) : PE X (.BoolOp .Or (e :: e2 :: es) pos) (Tx X.K tb (evOr C (.cons m (.cons m2 ms)))) :=
  (pe_or ha hb).imp fun σ H Q ⟨w, ρ, h, d, h', e, r, rs, hv, q⟩ => by
    simp only [evOr] at hv
    obtain ⟨⟨dx, h1⟩, e1, hv⟩ := Option.bind_eq_some_iff.mp hv
    refine ⟨w, ρ, h, _, _, e, r, rs, e1, fun w1 v r1 rv ex => ?_⟩
    dsimp only at hv
    split at hv
    · cases rv
      refine ⟨false, rfl, ?_⟩
      rw [if_neg Bool.false_ne_true]
      exact ⟨w1, ρ, _, d, h', rfl, r1, rs.ext ex r, by simpa only [evOr] using hv, q.aft ex⟩
    · cases rv
      cases hv
      refine ⟨true, rfl, ?_⟩
      rw [if_pos rfl]
      exact (q.aft ex).now r1 (.bl _)
    · cases hv
theorem r_ta1 {m : E} {e : Expr} {pos : Pos} (ha : PT X e (Tt X.K tb (evT C m))) : PW X (.BoolOp .And [e] pos) (Tt X.K tb (evTA C (.cons m .nil))) := by
  have e : evTA C (.cons m .nil) = evT C m := by funext ρ h; simp only [evTA]
  rw [e]; exact pw_and1 ha
theorem r_to1 {m : E} {e : Expr} {pos : Pos} (ha : PT X e (Tt X.K tb (evT C m))) : PW X (.BoolOp .Or [e] pos) (Tt X.K tb (evTO C (.cons m .nil))) := by
  have e : evTO C (.cons m .nil) = evT C m := by funext ρ h; simp only [evTO]
  rw [e]; exact pw_or1 ha
theorem r_ta {m m2 : E} {ms : Es} {e e2 : Expr} {es : List Expr} {pos : Pos} (ha : PT X e (Tt X.K tb (evT C m))) (hb : PW X (.BoolOp .And (e2 :: es) pos) (Tt X.K tb (evTA C (.cons m2 ms)))) : PW X (.BoolOp .And (e :: e2 :: es) pos) (Tt X.K tb (evTA C (.cons m (.cons m2 ms)))) :=
  (pw_and ha hb).imp fun σ H Q ⟨w, ρ, h, d, h', e, r, rs, hv, q⟩ => by
    simp only [evTA] at hv
    obtain ⟨⟨k, h1⟩, e1, hv⟩ := Option.bind_eq_some_iff.mp hv
    refine ⟨w, ρ, h, _, _, e, r, rs, e1, fun w1 r1 ex => ?_⟩
    cases k with
    | true =>
      rw [if_pos rfl] at hv ⊢
      exact ⟨w1, ρ, _, d, h', rfl, r1, rs.ext ex r, by simpa only [evTA] using hv, fun w2 r2 ex2 => q w2 r2 (ex.trans ex2)⟩
    | false =>
      rw [if_neg Bool.false_ne_true] at hv ⊢
      cases hv
      exact q w1 r1 ex
theorem r_to {m m2 : E} {ms : Es} {e e2 : Expr} {es : List Expr} {pos : Pos} (ha : PT X e (Tt X.K tb (evT C m))) (hb : PW X (.BoolOp .Or (e2 :: es) pos) (Tt X.K tb (evTO C (.cons m2 ms)))) : PW X (.BoolOp .Or (e :: e2 :: es) pos) (Tt X.K tb (evTO C (.cons m (.cons m2 ms)))) :=
  (pw_or ha hb).imp fun σ H Q ⟨w, ρ, h, d, h', e, r, rs, hv, q⟩ => by
    simp only [evTO] at hv
    obtain ⟨⟨k, h1⟩, e1, hv⟩ := Option.bind_eq_some_iff.mp hv
    refine ⟨w, ρ, h, _, _, e, r, rs, e1, fun w1 r1 ex => ?_⟩
    cases k with
    | false =>
      rw [if_neg Bool.false_ne_true] at hv ⊢
      exact ⟨w1, ρ, _, d, h', rfl, r1, rs.ext ex r, by simpa only [evTO] using hv, fun w2 r2 ex2 => q w2 r2 (ex.trans ex2)⟩
    | true =>
      rw [if_pos rfl] at hv ⊢
      cases hv
      exact q w1 r1 ex
theorem own_snd (N : List Str) (own : List Nat) : (ownN N own).map (·.2) = own := by
  unfold ownN
  rw [List.map_map]
  exact List.map_id' own
theorem set_plain {iter : Expr} {env : Env} (h : notSet iter = true) : ∀ x, foldedSetIterable iter env x = pure x := by
  intro x
  cases iter <;> first | rfl | exact absurd h Bool.false_ne_true
theorem r_comp (g : Good C tb n c X) {p : P} {it : It} {own : List Nat} {t : Eo} {m : E} {elt tg iter : Expr} {ifs : List Expr} {scope : Scope} {pos : Pos} (hs : notSet iter = true) (hb : blkC c.N c.sc scope (ownN c.N own) = true) (ho : subOwn p own = true) (hp : okP (c.blk scope) p tg = true)
    (hi : PI X tg iter (Ti X.K tb Ext (evI C it)))
    (ht : ∀ (s : Shared) (H : Hp) (Ca : Addr) (cl : List (Str × Addr)) (fp : List Addr), PTs (X.blk s H scope (compEnvC scope cl Ca X.env) fp) ifs (Tt X.K tb (evOT C t)))
    (he : ∀ (s : Shared) (H : Hp) (Ca : Addr) (cl : List (Str × Addr)) (fp : List Addr), PE (X.blk s H scope (compEnvC scope cl Ca X.env) fp) elt (Tx X.K tb (ev C m))) :
    PE X (.ListComp elt [⟨tg, iter, ifs, 0⟩] scope pos) (Tl X.K tb (evL C (.comp p it own t m))) := by
  have ok : BlkOk X.N X.env.scope scope (ownN c.N own) := by rw [g.hN, g.sc]; exact blkOk_by hb
  have hg : ∀ (s : Shared) (H : Hp) (Ca : Addr) (cl : List (Str × Addr)) (fp : List Addr), PG (X.blk s H scope (compEnvC scope cl Ca X.env) fp) tg (Tg X.K tb p) := fun s H Ca cl fp => sP (X := X.blk s H scope (compEnvC scope cl Ca X.env) fp) g.blk p tg hp
  refine (pe_lc g.calm (by rw [g.hN]; exact g.nd) hi ok hg ht he (set_plain hs)).imp fun σ H Q ⟨w, ρ, h, d, h', e, r, rs, hv, q⟩ => ?_
  simp only [evL] at hv
  obtain ⟨⟨xs, h1⟩, e1, hv⟩ := Option.bind_eq_some_iff.mp hv
  rw [own_snd]
  exact ⟨w, ρ, h, xs, h1, e, r, rs, e1, fun w1 J r1 ex W => comp_ok (t := t) (e := m) ho r1 (rs.ext ex r) W hv (q.aft ex)⟩
theorem r_tsnone {ifs : List Expr} (h : ifs = []) : PTs X ifs (Tt X.K tb (evOT C .none)) := by
  subst h
  exact ⟨fun pins s σ H Q I ⟨w, ρ, h, d, h', e, r, rs, hv, q⟩ => pts_nil.run pins s σ H Q I (by
    subst e
    simp only [evOT, Option.some.injEq] at hv
    cases hv
    exact q w r (Ext.refl w))⟩
theorem r_tssome {m : E} {e : Expr} (ha : PT X e (Tt X.K tb (evT C m))) : PTs X [e] (Tt X.K tb (evOT C (.some m))) := by
  have e : evOT C (.some m) = evT C m := by funext ρ h; simp only [evOT]
  rw [e]; exact pts_one ha
end

section
variable {X : Cx}
theorem r_knil : PK X [] (Tas X.K tb (evs C .nil)) := ⟨fun pos pins s σ H Q I ⟨w, ρ, h, d, h', e, r, rs, hv, q⟩ => pk_nil.run pos pins s σ H Q I (by
  subst e
  simp only [evs, Option.some.injEq] at hv
  cases hv
  exact q w _ r .nil (Ext.refl w))⟩
theorem r_kcons {m : E} {ms : Es} {nm : Option Str} {e : Expr} {kp : Pos} {ks : List Keyword} (ha : PE X e (Tx X.K tb (ev C m))) (hb : PK X ks (Tas X.K tb (evs C ms))) : PK X (⟨nm, e, kp⟩ :: ks) (Tas X.K tb (evs C (.cons m ms))) :=
  ⟨fun pos pins s σ H Q I ⟨w, ρ, h, d, h', e, r, rs, hv, q⟩ => (pk_cons ha hb).run pos pins s σ H Q I (by
    simp only [evs] at hv
    obtain ⟨⟨dx, h1⟩, e1, hv⟩ := Option.bind_eq_some_iff.mp hv
    obtain ⟨⟨dy, h2⟩, e2, hv⟩ := Option.map_eq_some_iff.mp hv
    cases hv
    exact ⟨w, ρ, h, dx, h1, e, r, rs, e1, fun w1 vx r1 rx ex1 => ⟨w1, ρ, h1, dy, h2, rfl, r1, rs.ext ex1 r, e2, fun w2 vy r2 ry ex2 => q w2 _ r2 (.cons (rx.ext ex2 r1) ry) (ex1.trans ex2)⟩⟩)⟩
end
/-! ### all of it -/
def SE (C : Calls) (tb : List Addr) (md : Nat) (X : Cx) (e : Expr) (m : E) : Prop := match md with
  | 0 => PE X e (Tx X.K tb (ev C m))
  | 1 => PE X e (Tb X.K tb (ev C m))
  | 2 => PT X e (Tt X.K tb (evT C m))
  | _ => True
def AllE (C : Calls) (tb : List Addr) (n : Nat) (m : E) : Prop := ∀ (c : Ck) (X : Cx), Good C tb n c X → ∀ (md : Nat) (e : Expr), okE md c m e = true → SE C tb md X e m
structure AllEs (C : Calls) (tb : List Addr) (n : Nat) (ms : Es) : Prop where
  a0 : ∀ (c : Ck) (X : Cx), Good C tb n c X → ∀ (es : List Expr), okEs 0 c ms es = true → PA X es (Tas X.K tb (evs C ms))
  a1 : ∀ (c : Ck) (X : Cx), Good C tb n c X → ∀ (es : List Expr), okEs 1 c ms es = true → PA X es (Tbs X.K tb (evs C ms))
  va : ∀ (c : Ck) (X : Cx), Good C tb n c X → ∀ (es : List Expr) (pos : Pos), okEs 0 c ms es = true → PE X (.BoolOp .And es pos) (Tx X.K tb (evAnd C ms))
  vo : ∀ (c : Ck) (X : Cx), Good C tb n c X → ∀ (es : List Expr) (pos : Pos), okEs 0 c ms es = true → PE X (.BoolOp .Or es pos) (Tx X.K tb (evOr C ms))
  ta : ∀ (c : Ck) (X : Cx), Good C tb n c X → ∀ (es : List Expr) (pos : Pos), okEs 2 c ms es = true → PW X (.BoolOp .And es pos) (Tt X.K tb (evTA C ms))
  to : ∀ (c : Ck) (X : Cx), Good C tb n c X → ∀ (es : List Expr) (pos : Pos), okEs 2 c ms es = true → PW X (.BoolOp .Or es pos) (Tt X.K tb (evTO C ms))
  k0 : ∀ (c : Ck) (X : Cx), Good C tb n c X → ∀ (ks : List Keyword), okKs c ms ks = true → PK X ks (Tas X.K tb (evs C ms))
structure AllO (C : Calls) (tb : List Addr) (n : Nat) (m : Eo) : Prop where
  o : ∀ (c : Ck) (X : Cx), Good C tb n c X → ∀ (e : Option Expr), okO c m e = true → PO X e (To X.K tb (evo C m))
  t : ∀ (c : Ck) (X : Cx), Good C tb n c X → ∀ (e : List Expr), okTs c m e = true → PTs X e (Tt X.K tb (evOT C m))
def AllL (C : Calls) (tb : List Addr) (n : Nat) (m : L) : Prop := ∀ (c : Ck) (X : Cx), Good C tb n c X → ∀ (e : Expr), okL c m e = true → PE X e (Tl X.K tb (evL C m))
structure AllI (C : Calls) (tb : List Addr) (n : Nat) (m : It) : Prop where
  i0 : ∀ (c : Ck) (X : Cx), Good C tb n c X → ∀ (tg e : Expr), okI 0 c m tg e = true → PI X tg e (Ti X.K tb Le (evI C m))
  i1 : ∀ (c : Ck) (X : Cx), Good C tb n c X → ∀ (tg e : Expr), okI 1 c m tg e = true → PI X tg e (Ti X.K tb Ext (evI C m))
section
variable {c : Ck} {X : Cx}
theorem SE.of {md : Nat} {e : Expr} {m : E} (g : Good C tb n c X) (hx : PE X e (Tx X.K tb (ev C m))) (hp : truPlain e = true) (ht : ∀ ρ h, evT C m ρ h = trF (ev C m) ρ h) : SE C tb md X e m := by
  match md with
  | 0 => exact hx
  | 1 => exact xs_of g hx
  | 2 =>
    show PT X e (Tt X.K tb (evT C m))
    have : evT C m = trF (ev C m) := funext fun ρ => funext fun h => ht ρ h
    rw [this]
    exact r_tru (xs_of g hx) hp
  | _ + 3 => trivial
theorem SE.of2 {md : Nat} {e : Expr} {m : E} (g : Good C tb n c X) (hx : md < 2 → PE X e (Tx X.K tb (ev C m))) (ht : md = 2 → PT X e (Tt X.K tb (evT C m))) : SE C tb md X e m := by
  match md with
  | 0 => exact hx (by decide)
  | 1 => exact xs_of g (hx (by decide))
  | 2 => exact ht rfl
  | _ + 3 => trivial
end
theorem L_plain {m : L} {c : Ck} {e : Expr} (h : okL c m e = true) : truPlain e = true := by
  cases m <;> cases e <;> first | rfl | exact absurd h Bool.false_ne_true
theorem okL_as {c : Ck} {p : P} {it : It} {own : List Nat} {t : Eo} {m : E} {elt tg iter : Expr} {ifs : List Expr} {scope : Scope} {pos : Pos} {k : Int} (hz : ¬ k = 0) : ¬ okL c (.comp p it own t m) (.ListComp elt [⟨tg, iter, ifs, k⟩] scope pos) = true := by
  intro h
  cases k with
  | ofNat n => cases n with
    | zero => exact hz rfl
    | succ n => exact Bool.false_ne_true h
  | negSucc n => exact Bool.false_ne_true h
theorem okL_gens {c : Ck} {p : P} {it : It} {own : List Nat} {t : Eo} {m : E} {elt : Expr} {a b : Comprehension} {r : List Comprehension} {scope : Scope} {pos : Pos} : ¬ okL c (.comp p it own t m) (.ListComp elt (a :: b :: r) scope pos) = true := by
  intro h
  obtain ⟨tg, it, ifs, k⟩ := a
  cases k with
  | ofNat n => cases n with
    | zero => exact Bool.false_ne_true h
    | succ n => exact Bool.false_ne_true h
  | negSucc n => exact Bool.false_ne_true h
theorem okE_isi {c : Ck} {a : E} {t : Ty} {md : Nat} {f : Expr} {x y z : Expr} {r : List Expr} {k : List Keyword} {pos : Pos} : ¬ okE md c (.isi a t) (.Call f (x :: y :: z :: r) k pos) = true := by cases f <;> cases y <;> simp [okE]
theorem inv_gen {c : Ck} {md : Nat} {gg : G} {p : P} {it : It} {own : List Nat} {t : Eo} {m : E} {e : Expr} (h : okE md c (.gen gg p it own t m) e = true) : ∃ x pn elt tg iter ifs scope gp pos, e = .Call (.Name x pn) [.GeneratorExp elt [⟨tg, iter, ifs, 0⟩] scope gp] [] pos ∧
    (c.glob x && decide (x = gg.name) && decide (0 < c.gd) && okI 1 c it tg iter && notSet iter && notList iter && blkC c.N c.sc scope (ownN c.N own) && noCellS scope && !scope.isCoroutine && decide (scope.names.lookup (".0" : Str) = some NameKind.local) && subOwn p own && okP (c.gen scope) p tg && okTs (c.gen scope) t ifs && okE 0 (c.gen scope) m elt) = true := by
  cases e with
  | Call fn xs ks pos =>
    cases fn with
    | Name x pn =>
      rcases xs with _ | ⟨a, _ | ⟨b, xs⟩⟩
      · exact absurd h Bool.false_ne_true
      · cases a with
        | GeneratorExp elt gens scope gp =>
          rcases gens with _ | ⟨⟨tg, iter, ifs, k⟩, _ | ⟨b, gens⟩⟩
          · exact absurd h Bool.false_ne_true
          · cases ks with
            | nil =>
              cases k with
              | ofNat k =>
                cases k with
                | zero => exact ⟨_, _, _, _, _, _, _, _, _, rfl, h⟩
                | succ k => exact absurd h Bool.false_ne_true
              | negSucc k => exact absurd h Bool.false_ne_true
            | cons _ _ =>
              cases k with
              | ofNat k => cases k <;> exact absurd h Bool.false_ne_true
              | negSucc k => exact absurd h Bool.false_ne_true
          · cases k with
            | ofNat k => cases k <;> exact absurd h Bool.false_ne_true
            | negSucc k => exact absurd h Bool.false_ne_true
        | _ => exact absurd h Bool.false_ne_true
      · cases a with
        | GeneratorExp elt gens scope gp =>
          rcases gens with _ | ⟨⟨tg, iter, ifs, k⟩, _ | ⟨b, gens⟩⟩
          · exact absurd h Bool.false_ne_true
          · cases k with
            | ofNat k => cases k <;> exact absurd h Bool.false_ne_true
            | negSucc k => exact absurd h Bool.false_ne_true
          · cases k with
            | ofNat k => cases k <;> exact absurd h Bool.false_ne_true
            | negSucc k => exact absurd h Bool.false_ne_true
        | _ => exact absurd h Bool.false_ne_true
    | _ => exact absurd h Bool.false_ne_true
  | _ => exact absurd h Bool.false_ne_true
mutual
theorem sE : ∀ (m : E), AllE C tb n m
  | .var i, c, X, g, md, e, hk => by
    cases e with
    | Name x p => exact SE.of g (r_var g hk) rfl fun _ _ => by simp only [evT, trF]
    | _ => exact absurd hk Bool.false_ne_true
  | .own i, c, X, g, md, e, hk => by
    cases e with
    | Name x p =>
      have hk' : (decide (0 < md) && c.var i x) = true := hk
      rw [Bool.and_eq_true, decide_eq_true_eq] at hk'
      match md with
      | 0 => exact absurd hk'.1 (by omega)
      | 1 => exact r_own g hk'.2
      | 2 =>
        have e : evT C (.own i) = trF (ev C (.own i)) := by funext ρ h; simp only [evT, trF]
        show PT X _ (Tt X.K tb (evT C (.own i)))
        rw [e]
        exact r_tru (r_own g hk'.2) rfl
      | _ + 3 => trivial
    | _ => exact absurd hk Bool.false_ne_true
  | .cst k, c, X, g, md, e, hk => by
    cases e with
    | Constant v kd p => exact SE.of g (r_cst hk) rfl fun _ _ => by simp only [evT, trF]
    | _ => exact absurd hk Bool.false_ne_true
  | .tup es, c, X, g, md, e, hk => by
    cases e with
    | Tuple xs k p => exact SE.of g (r_tup ((sEs es).a0 c X g xs hk)) rfl fun _ _ => by simp only [evT, trF]
    | _ => exact absurd hk Bool.false_ne_true
  | .ofL l, c, X, g, md, e, hk => by
    have hk' : okL c l e = true := by cases e <;> exact hk
    exact SE.of g (r_ofL (sL l c X g e hk')) (L_plain hk') fun _ _ => by simp only [evT, trF]
  | .celL l, c, X, g, md, e, hk => by
    have hk' : okL c l e = true := by cases e <;> exact hk
    exact SE.of g (r_celL (sL l c X g e hk')) (L_plain hk') fun _ _ => by simp only [evT, trF]
  | .neg a, c, X, g, md, e, hk => by
    cases e with
    | UnaryOp o x p =>
      cases o with
      | USub => exact SE.of g (r_neg (sE a c X g 0 x hk)) rfl fun _ _ => by simp only [evT, trF]
      | _ => exact absurd hk Bool.false_ne_true
    | _ => exact absurd hk Bool.false_ne_true
  | .bin o a b, c, X, g, md, e, hk => by
    cases e with
    | BinOp x p y pos =>
      have hk' : (opOk o p && okE 1 c a x && okE 1 c b y) = true := hk
      simp only [Bool.and_eq_true] at hk'
      exact SE.of g (r_bin hk'.1.1 (sE a c X g 1 x hk'.1.2) (sE b c X g 1 y hk'.2)) rfl fun _ _ => by simp only [evT, trF]
    | _ => exact absurd hk Bool.false_ne_true
  | .cmp o a b, c, X, g, md, e, hk => by
    cases e with
    | Compare x ps ys pos =>
      match ps, ys with
      | [p], [y] =>
        have hk' : (cmOk o p && okE 1 c a x && okE 1 c b y && !behindInMarks p y) = true := hk
        simp only [Bool.and_eq_true, Bool.not_eq_true'] at hk'
        exact SE.of2 g (fun _ => r_cmp g hk'.1.1.1 (sE a c X g 1 x hk'.1.1.2) (sE b c X g 1 y hk'.1.2) hk'.2) fun _ => r_cmpT g hk'.1.1.1 (sE a c X g 1 x hk'.1.1.2) (sE b c X g 1 y hk'.1.2) hk'.2
      | [], _ => exact absurd hk Bool.false_ne_true
      | _ :: _ :: _, _ => exact absurd hk Bool.false_ne_true
      | [_], [] => exact absurd hk Bool.false_ne_true
      | [_], _ :: _ :: _ => exact absurd hk Bool.false_ne_true
    | _ => exact absurd hk Bool.false_ne_true
  | .chn o o' a b d, c, X, g, md, e, hk => by
    cases e with
    | Compare x ps ys pos =>
      match ps, ys with
      | [p, p'], [y, z] =>
        have hk' : (cmOk o p && cmOk o' p' && okE 1 c a x && okE 1 c b y && okE 1 c d z && !lastMarks [p, p'] [y, z]) = true := hk
        simp only [Bool.and_eq_true, Bool.not_eq_true'] at hk'
        exact SE.of2 g (fun _ => r_chn g hk'.1.1.1.1.1 hk'.1.1.1.1.2 (sE a c X g 1 x hk'.1.1.1.2) (sE b c X g 1 y hk'.1.1.2) (sE d c X g 1 z hk'.1.2) hk'.2)
          fun _ => r_chnT g hk'.1.1.1.1.1 hk'.1.1.1.1.2 (sE a c X g 1 x hk'.1.1.1.2) (sE b c X g 1 y hk'.1.1.2) (sE d c X g 1 z hk'.1.2) hk'.2
      | [], _ => exact absurd hk Bool.false_ne_true
      | [_], _ => exact absurd hk Bool.false_ne_true
      | _ :: _ :: _ :: _, _ => exact absurd hk Bool.false_ne_true
      | [_, _], [] => exact absurd hk Bool.false_ne_true
      | [_, _], [_] => exact absurd hk Bool.false_ne_true
      | [_, _], _ :: _ :: _ :: _ => exact absurd hk Bool.false_ne_true
    | _ => exact absurd hk Bool.false_ne_true
  | .nt a, c, X, g, md, e, hk => by
    cases e with
    | UnaryOp o x p =>
      cases o with
      | Not =>
        have hk' : (if md = 2 then okE 2 c a x else okE 1 c a x) = true := hk
        refine SE.of2 g (fun h => ?_) fun h => ?_
        · rw [if_neg (by omega)] at hk'
          exact r_nt (sE a c X g 1 x hk')
        · rw [if_pos h] at hk'
          exact r_ntT (sE a c X g 2 x hk')
      | _ => exact absurd hk Bool.false_ne_true
    | _ => exact absurd hk Bool.false_ne_true
  | .an es, c, X, g, md, e, hk => by
    cases e with
    | BoolOp o xs p =>
      cases o with
      | And =>
        have hk' : (if md = 2 then okEs 2 c es xs else okEs 0 c es xs) = true := hk
        refine SE.of2 g (fun h => ?_) fun h => ?_
        · rw [if_neg (by omega)] at hk'
          have e : ev C (.an es) = evAnd C es := by funext ρ h; simp only [ev]
          rw [e]
          exact (sEs es).va c X g xs p hk'
        · rw [if_pos h] at hk'
          have e : evT C (.an es) = evTA C es := by funext ρ h; simp only [evT]
          rw [e]
          exact ((sEs es).ta c X g xs p hk').pt
      | _ => exact absurd hk Bool.false_ne_true
    | _ => exact absurd hk Bool.false_ne_true
  | .or es, c, X, g, md, e, hk => by
    cases e with
    | BoolOp o xs p =>
      cases o with
      | Or =>
        have hk' : (if md = 2 then okEs 2 c es xs else okEs 0 c es xs) = true := hk
        refine SE.of2 g (fun h => ?_) fun h => ?_
        · rw [if_neg (by omega)] at hk'
          have e : ev C (.or es) = evOr C es := by funext ρ h; simp only [ev]
          rw [e]
          exact (sEs es).vo c X g xs p hk'
        · rw [if_pos h] at hk'
          have e : evT C (.or es) = evTO C es := by funext ρ h; simp only [evT]
          rw [e]
          exact ((sEs es).to c X g xs p hk').pt
      | _ => exact absurd hk Bool.false_ne_true
    | _ => exact absurd hk Bool.false_ne_true
  | .ite t a b, c, X, g, md, e, hk => by
    cases e with
    | IfExp d x y p =>
      have hk' : (decide (md < 2) && okE 2 c t d && okE 0 c a x && okE 0 c b y) = true := hk
      simp only [Bool.and_eq_true, decide_eq_true_eq] at hk'
      exact SE.of2 g (fun _ => r_ite (sE t c X g 2 d hk'.1.1.2) (sE a c X g 0 x hk'.1.2) (sE b c X g 0 y hk'.2)) fun h => by omega
    | _ => exact absurd hk Bool.false_ne_true
  | .idx a i, c, X, g, md, e, hk => by
    cases e with
    | Subscript x y p =>
      have hk' : (okE 1 c a x && okE 0 c i y && notSlice y) = true := by
        cases y <;> first | exact hk | exact absurd hk Bool.false_ne_true
      simp only [Bool.and_eq_true] at hk'
      exact SE.of g (r_idx g (sE a c X g 1 x hk'.1.1) (xs_of g (sE i c X g 0 y hk'.1.2)) hk'.2) rfl fun _ _ => by simp only [evT, trF]
    | _ => exact absurd hk Bool.false_ne_true
  | .slc a lo hi, c, X, g, md, e, hk => by
    cases e with
    | Subscript x y p =>
      cases y with
      | Slice l u st p2 =>
        cases st with
        | none =>
          have hk' : (okE 1 c a x && okO c lo l && okO c hi u) = true := hk
          simp only [Bool.and_eq_true] at hk'
          exact SE.of g (r_slc (sE a c X g 1 x hk'.1.1) ((sEo lo).o c X g l hk'.1.2) ((sEo hi).o c X g u hk'.2)) rfl fun _ _ => by simp only [evT, trF]
        | some _ => exact absurd hk Bool.false_ne_true
      | _ => exact absurd hk Bool.false_ne_true
    | _ => exact absurd hk Bool.false_ne_true
  | .call f es, c, X, g, md, e, hk => by
    cases e with
    | Call fn xs ks p =>
      cases fn with
      | Name x p2 =>
        match xs, ks with
        | y :: ys, [] =>
          have hk' : (c.glob x && decide ((c.nms[f]?).map (·.name) = some x) && !(x == ("__debug__" : Str)) && okEs 0 c es (y :: ys)) = true := hk
          simp only [Bool.and_eq_true, decide_eq_true_eq, Bool.not_eq_true'] at hk'
          have ih := (sEs es).a0 c X g _ hk'.2
          obtain ⟨m, r, _, q1, q2, q3⟩ := ns_head hk'.2
          exact SE.of g (r_call g hk'.1.1.1 hk'.1.1.2 hk'.1.2 ih q1 (ns_any q3)) rfl fun _ _ => by simp only [evT, trF]
        | [], [] => exact absurd hk Bool.false_ne_true
        | [], _ :: _ => exact absurd hk Bool.false_ne_true
        | _ :: _, _ :: _ => exact absurd hk Bool.false_ne_true
      | _ => exact absurd hk Bool.false_ne_true
    | _ => exact absurd hk Bool.false_ne_true
  | .callK f pm ks, c, X, g, md, e, hk => by
    cases e with
    | Call fn xs kws p =>
      cases fn with
      | Name x p2 =>
        cases xs with
        | nil =>
          have hk' : (c.glob x && decide ((c.nms[f]?).map (·.name) = some x) && !(x == ("__debug__" : Str)) && okKs c ks kws && c.kc f (kwNames kws) pm) = true := by
            cases kws <;> exact hk
          rw [Bool.and_eq_true, Bool.and_eq_true, Bool.and_eq_true, Bool.and_eq_true, decide_eq_true_eq, Bool.not_eq_true'] at hk'
          obtain ⟨⟨⟨⟨k1, k2⟩, k3⟩, k4⟩, k5⟩ := hk'
          exact SE.of g (r_callK g k1 k2 k3 k4 k5 ((sEs ks).k0 c X g kws k4)) rfl fun _ _ => by simp only [evT, trF]
        | cons _ _ => exact absurd hk Bool.false_ne_true
      | _ => exact absurd hk Bool.false_ne_true
    | _ => exact absurd hk Bool.false_ne_true
  | .bi b es, c, X, g, md, e, hk => by
    cases e with
    | Call fn xs ks p =>
      cases fn with
      | Name x p2 =>
        match xs, ks with
        | y :: ys, [] =>
          have hk' : (c.glob x && decide (x = b.name) && okEs 1 c es (y :: ys)) = true := hk
          simp only [Bool.and_eq_true, decide_eq_true_eq] at hk'
          obtain ⟨⟨k1, k2⟩, k3⟩ := hk'
          subst k2
          have ih := (sEs es).a1 c X g _ k3
          obtain ⟨m, r, _, q1, q2, q3⟩ := ns_head k3
          exact SE.of g (r_bi g k1 ih q1 (ns_any q3)) rfl fun _ _ => by simp only [evT, trF]
        | [], [] => exact absurd hk Bool.false_ne_true
        | [], _ :: _ => exact absurd hk Bool.false_ne_true
        | _ :: _, _ :: _ => exact absurd hk Bool.false_ne_true
      | _ => exact absurd hk Bool.false_ne_true
    | _ => exact absurd hk Bool.false_ne_true
  | .isi a t, c, X, g, md, e, hk => by
    cases e with
    | Call fn xs ks p =>
      cases fn with
      | Name x p2 =>
        match xs, ks with
        | [], _ => exact absurd hk Bool.false_ne_true
        | [_], _ => exact absurd hk Bool.false_ne_true
        | _ :: _ :: _ :: _, _ => exact absurd hk okE_isi
        | [_, z], _ :: _ => cases z <;> exact absurd hk Bool.false_ne_true
        | [_, z], [] =>
          cases z with
          | Name z p3 =>
            rename_i y
            have hk' : (c.glob x && decide (x = ("isinstance" : Str)) && c.glob z && decide (z = Str.ofString (tyName t)) && okE 1 c a y && notStar y) = true := hk
            simp only [Bool.and_eq_true, decide_eq_true_eq] at hk'
            obtain ⟨⟨⟨⟨⟨k1, k2⟩, k3⟩, k4⟩, k5⟩, k6⟩ := hk'
            subst k2 k4
            exact SE.of g (r_isi g k1 k3 (sE a c X g 1 y k5) k6) rfl fun _ _ => by simp only [evT, trF]
          | _ => exact absurd hk Bool.false_ne_true
      | _ => exact absurd hk Bool.false_ne_true
    | _ => exact absurd hk Bool.false_ne_true
  | .gen gg p it own t m, c, X, g, md, e, hk => by
    have hi := (sI it).i1 c X g
    have hto := (sEo t).t
    have hm := sE m
    obtain ⟨x, pn, elt, tg, iter, ifs, scope, gp, pos, rfl, h⟩ := inv_gen hk
    rw [Bool.and_eq_true, Bool.and_eq_true, Bool.and_eq_true, Bool.and_eq_true, Bool.and_eq_true, Bool.and_eq_true, Bool.and_eq_true, Bool.and_eq_true, Bool.and_eq_true, Bool.and_eq_true, Bool.and_eq_true, Bool.and_eq_true, Bool.and_eq_true, decide_eq_true_eq, decide_eq_true_eq, decide_eq_true_eq, Bool.not_eq_true'] at h
    obtain ⟨⟨⟨⟨⟨⟨⟨⟨⟨⟨⟨⟨⟨h1, h2⟩, h3⟩, h4⟩, h5⟩, h6⟩, h7⟩, h8⟩, h9⟩, h10⟩, h11⟩, h12⟩, h13⟩, h14⟩ := h
    subst h2
    exact SE.of g (r_gen g h1 h3 (hi tg iter h4) h5 h6 h7 h8 h9 h10 h11 h12 (fun X' hK g' => by
      have z := hto (c.gen scope) X' g' ifs h13
      rw [hK] at z
      exact z) fun X' hK g' => by
      have z : PE X' elt (Tx X'.K tb (ev C m)) := hm (c.gen scope) X' g' 0 elt h14
      rw [hK] at z
      exact z) rfl fun _ _ => by simp only [evT, trF]
theorem sEs : ∀ (ms : Es), AllEs C tb n ms
  | .nil => by
    refine ⟨fun c X g es hk => ?_, fun c X g es hk => ?_, fun c X g es pos hk => ?_, fun c X g es pos hk => ?_, fun c X g es pos hk => ?_, fun c X g es pos hk => ?_, fun c X g es hk => ?_⟩ <;> cases es <;> first | exact absurd hk Bool.false_ne_true | skip
    · exact r_nil
    · exact r_nilB
    · exact pe_false.imp fun σ H Q ⟨w, ρ, h, d, h', e, r, rs, hv, q⟩ => by simp [evAnd] at hv
    · exact pe_false.imp fun σ H Q ⟨w, ρ, h, d, h', e, r, rs, hv, q⟩ => by simp [evOr] at hv
    · exact pw_false.imp fun σ H Q ⟨w, ρ, h, d, h', e, r, rs, hv, q⟩ => by simp [evTA] at hv
    · exact pw_false.imp fun σ H Q ⟨w, ρ, h, d, h', e, r, rs, hv, q⟩ => by simp [evTO] at hv
    · exact r_knil
  | .cons m ms => by
    have ih := sEs ms
    have hm := sE m
    refine ⟨fun c X g es hk => ?_, fun c X g es hk => ?_, fun c X g es pos hk => ?_, fun c X g es pos hk => ?_, fun c X g es pos hk => ?_, fun c X g es pos hk => ?_, fun c X g es hk => ?_⟩ <;> cases es <;> first | exact absurd hk Bool.false_ne_true | skip
    · rename_i e es
      have hk' : (notStar e && okE 0 c m e && okEs 0 c ms es) = true := hk
      simp only [Bool.and_eq_true] at hk'
      exact r_cons hk'.1.1 (hm c X g 0 e hk'.1.2) (ih.a0 c X g es hk'.2)
    · rename_i e es
      have hk' : (notStar e && okE 1 c m e && okEs 1 c ms es) = true := hk
      simp only [Bool.and_eq_true] at hk'
      exact r_consB hk'.1.1 (hm c X g 1 e hk'.1.2) (ih.a1 c X g es hk'.2)
    · rename_i e es
      have hk' : (notStar e && okE 0 c m e && okEs 0 c ms es) = true := hk
      simp only [Bool.and_eq_true] at hk'
      have h1 := hm c X g 0 e hk'.1.2
      have h2 := ih.va c X g es pos hk'.2
      cases ms with
      | nil =>
        cases es with
        | nil => exact r_and1 h1
        | cons _ _ => exact absurd hk'.2 Bool.false_ne_true
      | cons m2 ms =>
        cases es with
        | nil => exact absurd hk'.2 Bool.false_ne_true
        | cons _ _ => exact r_and h1 h2
    · rename_i e es
      have hk' : (notStar e && okE 0 c m e && okEs 0 c ms es) = true := hk
      simp only [Bool.and_eq_true] at hk'
      have h1 := hm c X g 0 e hk'.1.2
      have h2 := ih.vo c X g es pos hk'.2
      cases ms with
      | nil =>
        cases es with
        | nil => exact r_or1 h1
        | cons _ _ => exact absurd hk'.2 Bool.false_ne_true
      | cons m2 ms =>
        cases es with
        | nil => exact absurd hk'.2 Bool.false_ne_true
        | cons _ _ => exact r_or h1 h2
    · rename_i e es
      have hk' : (notStar e && okE 2 c m e && okEs 2 c ms es) = true := hk
      simp only [Bool.and_eq_true] at hk'
      have h1 := hm c X g 2 e hk'.1.2
      have h2 := ih.ta c X g es pos hk'.2
      cases ms with
      | nil =>
        cases es with
        | nil => exact r_ta1 h1
        | cons _ _ => exact absurd hk'.2 Bool.false_ne_true
      | cons m2 ms =>
        cases es with
        | nil => exact absurd hk'.2 Bool.false_ne_true
        | cons _ _ => exact r_ta h1 h2
    · rename_i e es
      have hk' : (notStar e && okE 2 c m e && okEs 2 c ms es) = true := hk
      simp only [Bool.and_eq_true] at hk'
      have h1 := hm c X g 2 e hk'.1.2
      have h2 := ih.to c X g es pos hk'.2
      cases ms with
      | nil =>
        cases es with
        | nil => exact r_to1 h1
        | cons _ _ => exact absurd hk'.2 Bool.false_ne_true
      | cons m2 ms =>
        cases es with
        | nil => exact absurd hk'.2 Bool.false_ne_true
        | cons _ _ => exact r_to h1 h2
    · rename_i kw es
      obtain ⟨nm, v, kp⟩ := kw
      have hk' : ((nm.isSome && okE 0 c m v) && okKs c ms es) = true := hk
      rw [Bool.and_eq_true, Bool.and_eq_true] at hk'
      exact r_kcons (hm c X g 0 v hk'.1.2) (ih.k0 c X g es hk'.2)
theorem sEo : ∀ (m : Eo), AllO C tb n m
  | .none => by
    refine ⟨fun c X g e hk => ?_, fun c X g e hk => ?_⟩
    · cases e with
      | none => exact r_onone
      | some _ => exact absurd hk Bool.false_ne_true
    · cases e with
      | nil => exact r_tsnone rfl
      | cons _ _ => exact absurd hk Bool.false_ne_true
  | .some m => by
    refine ⟨fun c X g e hk => ?_, fun c X g e hk => ?_⟩
    · cases e with
      | none => exact absurd hk Bool.false_ne_true
      | some e => exact r_osome (sE m c X g 0 e hk)
    · match e with
      | [] => exact absurd hk Bool.false_ne_true
      | [e] => exact r_tssome (sE m c X g 2 e hk)
      | _ :: _ :: _ => exact absurd hk Bool.false_ne_true
theorem sL : ∀ (m : L), AllL C tb n m
  | .disp es, c, X, g, e, hk => by
    cases e with
    | List xs p => exact r_disp ((sEs es).a0 c X g xs hk)
    | _ => exact absurd hk Bool.false_ne_true
  | .comp p it own t m, c, X, g, e, hk => by
    cases e with
    | ListComp elt gens scope pos =>
      match gens with
      | [⟨tg, iter, ifs, as_⟩] =>
        by_cases hz : as_ = 0
        case neg => exact absurd hk (okL_as hz)
        subst hz
        have hk' : (okI 1 c it tg iter && notSet iter && blkC c.N c.sc scope (ownN c.N own) && subOwn p own && okP (c.blk scope) p tg && okTs (c.blk scope) t ifs && okE 0 (c.blk scope) m elt) = true := hk
        simp only [Bool.and_eq_true] at hk'
        obtain ⟨⟨⟨⟨⟨⟨k1, k2⟩, k3⟩, k4⟩, k5⟩, k6⟩, k7⟩ := hk'
        exact r_comp g k2 k3 k4 k5 ((sI it).i1 c X g tg iter k1) (fun s H Ca cl fp => (sEo t).t (c.blk scope) _ g.blk ifs k6) fun s H Ca cl fp => sE m (c.blk scope) (X.blk s H scope (compEnvC scope cl Ca X.env) fp) g.blk 0 elt k7
      | [] => exact absurd hk Bool.false_ne_true
      | _ :: _ :: _ => exact absurd hk okL_gens
    | _ => exact absurd hk Bool.false_ne_true
  | .list m, c, X, g, e, hk => by
    cases e with
    | Call fn xs ks p =>
      cases fn with
      | Name x p2 =>
        match xs, ks with
        | [y], [] =>
          have hk' : (c.glob x && decide (x = ("list" : Str)) && okE 1 c m y && notStar y) = true := hk
          simp only [Bool.and_eq_true, decide_eq_true_eq] at hk'
          obtain ⟨⟨⟨k1, k2⟩, k3⟩, k4⟩ := hk'
          subst k2
          exact r_list g k1 (sE m c X g 1 y k3) k4
        | [], _ => exact absurd hk Bool.false_ne_true
        | [_], _ :: _ => exact absurd hk Bool.false_ne_true
        | _ :: _ :: _, _ => exact absurd hk Bool.false_ne_true
      | _ => exact absurd hk Bool.false_ne_true
    | _ => exact absurd hk Bool.false_ne_true
  | .sorted m, c, X, g, e, hk => by
    cases e with
    | Call fn xs ks p =>
      cases fn with
      | Name x p2 =>
        match xs, ks with
        | [y], [] =>
          have hk' : (c.glob x && decide (x = ("sorted" : Str)) && okE 1 c m y && notStar y) = true := hk
          simp only [Bool.and_eq_true, decide_eq_true_eq] at hk'
          obtain ⟨⟨⟨k1, k2⟩, k3⟩, k4⟩ := hk'
          subst k2
          exact r_sorted g k1 (sE m c X g 1 y k3) k4
        | [], _ => exact absurd hk Bool.false_ne_true
        | [_], _ :: _ => exact absurd hk Bool.false_ne_true
        | _ :: _ :: _, _ => exact absurd hk Bool.false_ne_true
      | _ => exact absurd hk Bool.false_ne_true
    | _ => exact absurd hk Bool.false_ne_true
theorem sI : ∀ (m : It), AllI C tb n m
  | .seq m => ⟨fun c X g tg e hk => i_seq md0 (sE m c X g 0 e (by cases e <;> exact hk)), fun c X g tg e hk => i_seq md1 (sE m c X g 1 e (by cases e <;> exact hk))⟩
  | .rng1 a => by
    have key : ∀ (R : Wd → Wd → Prop) (c : Ck) (X : Cx), Good C tb n c X → ∀ (tg e : Expr) (md : Nat), okI md c (.rng1 a) tg e = true → PI X tg e (Ti X.K tb R (evI C (.rng1 a))) := fun R c X g tg e md hk => by
      cases e with
      | Call fn xs ks p =>
        cases fn with
        | Name x p2 =>
          match xs, ks with
          | [y], [] =>
            have hk' : (c.glob x && decide (x = ("range" : Str)) && okE 0 c a y && notStar y) = true := hk
            simp only [Bool.and_eq_true, decide_eq_true_eq] at hk'
            obtain ⟨⟨⟨k1, k2⟩, k3⟩, k4⟩ := hk'
            subst k2
            exact i_rng1 g k1 (sE a c X g 0 y k3) k4
          | [], _ => exact absurd hk Bool.false_ne_true
          | [_], _ :: _ => exact absurd hk Bool.false_ne_true
          | _ :: _ :: _, _ => exact absurd hk Bool.false_ne_true
        | _ => exact absurd hk Bool.false_ne_true
      | _ => exact absurd hk Bool.false_ne_true
    exact ⟨fun c X g tg e hk => key Le c X g tg e 0 hk, fun c X g tg e hk => key Ext c X g tg e 1 hk⟩
  | .rng2 a b => by
    have key : ∀ (R : Wd → Wd → Prop) (c : Ck) (X : Cx), Good C tb n c X → ∀ (tg e : Expr) (md : Nat), okI md c (.rng2 a b) tg e = true → PI X tg e (Ti X.K tb R (evI C (.rng2 a b))) := fun R c X g tg e md hk => by
      cases e with
      | Call fn xs ks p =>
        cases fn with
        | Name x p2 =>
          match xs, ks with
          | [y, z], [] =>
            have hk' : (c.glob x && decide (x = ("range" : Str)) && okE 0 c a y && okE 0 c b z && notStar y && notStar z) = true := hk
            simp only [Bool.and_eq_true, decide_eq_true_eq] at hk'
            obtain ⟨⟨⟨⟨⟨k1, k2⟩, k3⟩, k4⟩, k5⟩, k6⟩ := hk'
            subst k2
            exact i_rng2 g k1 (sE a c X g 0 y k3) (sE b c X g 0 z k4) k5 k6
          | [], _ => exact absurd hk Bool.false_ne_true
          | [_], _ => exact absurd hk Bool.false_ne_true
          | [_, _], _ :: _ => exact absurd hk Bool.false_ne_true
          | _ :: _ :: _ :: _, _ => exact absurd hk Bool.false_ne_true
        | _ => exact absurd hk Bool.false_ne_true
      | _ => exact absurd hk Bool.false_ne_true
    exact ⟨fun c X g tg e hk => key Le c X g tg e 0 hk, fun c X g tg e hk => key Ext c X g tg e 1 hk⟩
  | .enum m => by
    have key : ∀ (R : Wd → Wd → Prop) (c : Ck) (X : Cx) (P0 : Wd → D → V → Prop) (md : Nat), MdOk X.K tb R P0 → Good C tb n c X → (∀ y, okE md c m y = true → PE X y (TP X.K tb P0 (ev C m))) → ∀ (tg e : Expr), okI md c (.enum m) tg e = true → PI X tg e (Ti X.K tb R (evI C (.enum m))) := fun R c X P0 md ok g hm tg e hk => by
      cases e with
      | Call fn xs ks p =>
        cases fn with
        | Name x p2 =>
          match xs, ks with
          | [y], [] =>
            have hk' : (c.glob x && decide (x = ("enumerate" : Str)) && okE md c m y && notStar y && isTupE tg) = true := hk
            simp only [Bool.and_eq_true, decide_eq_true_eq] at hk'
            obtain ⟨⟨⟨⟨k1, k2⟩, k3⟩, k4⟩, k5⟩ := hk'
            subst k2
            cases tg with
            | Tuple _ _ _ => exact i_enum g ok k1 (hm y k3) k4
            | _ => exact absurd k5 Bool.false_ne_true
          | [], _ => exact absurd hk Bool.false_ne_true
          | [_], _ :: _ => exact absurd hk Bool.false_ne_true
          | _ :: _ :: _, _ => exact absurd hk Bool.false_ne_true
        | _ => exact absurd hk Bool.false_ne_true
      | _ => exact absurd hk Bool.false_ne_true
    exact ⟨fun c X g tg e hk => key Le c X _ 0 md0 g (sE m c X g 0) tg e hk, fun c X g tg e hk => key Ext c X _ 1 md1 g (sE m c X g 1) tg e hk⟩
  | .zip a b => by
    have key : ∀ (R : Wd → Wd → Prop) (c : Ck) (X : Cx) (P0 : Wd → D → V → Prop) (md : Nat), MdOk X.K tb R P0 → (∀ {w w' : Wd} {h : PH} {d : D} {v : V}, Rel X.K tb w h → P0 w d v → Ext w w' → P0 w' d v) → Good C tb n c X → (∀ y, okE md c a y = true → PE X y (TP X.K tb P0 (ev C a))) → (∀ y, okE md c b y = true → PE X y (TP X.K tb P0 (ev C b))) → ∀ (tg e : Expr), okI md c (.zip a b) tg e = true → PI X tg e (Ti X.K tb R (evI C (.zip a b))) := fun R c X P0 md ok ok2 g ha hb tg e hk => by
      cases e with
      | Call fn xs ks p =>
        cases fn with
        | Name x p2 =>
          match xs, ks with
          | [y, z], [] =>
            have hk' : (c.glob x && decide (x = ("zip" : Str)) && okE md c a y && okE md c b z && notStar y && notStar z && isTupE tg) = true := hk
            simp only [Bool.and_eq_true, decide_eq_true_eq] at hk'
            obtain ⟨⟨⟨⟨⟨⟨k1, k2⟩, k3⟩, k4⟩, k5⟩, k6⟩, k7⟩ := hk'
            subst k2
            cases tg with
            | Tuple _ _ _ => exact i_zip g ok ok2 k1 (ha y k3) (hb z k4) k5 k6
            | _ => exact absurd k7 Bool.false_ne_true
          | [], _ => exact absurd hk Bool.false_ne_true
          | [_], _ => exact absurd hk Bool.false_ne_true
          | [_, _], _ :: _ => exact absurd hk Bool.false_ne_true
          | _ :: _ :: _ :: _, _ => exact absurd hk Bool.false_ne_true
        | _ => exact absurd hk Bool.false_ne_true
      | _ => exact absurd hk Bool.false_ne_true
    exact ⟨fun c X g tg e hk => key Le c X _ 0 md0 (fun r p x => p.ext x r) g (sE a c X g 0) (sE b c X g 0) tg e hk, fun c X g tg e hk => key Ext c X _ 1 md1 (fun r p x => p.ext x r) g (sE a c X g 1) (sE b c X g 1) tg e hk⟩
  | .rev m => by
    have key : ∀ (R : Wd → Wd → Prop) (c : Ck) (X : Cx) (P0 : Wd → D → V → Prop) (md : Nat), MdOk X.K tb R P0 → Good C tb n c X → (∀ y, okE md c m y = true → PE X y (TP X.K tb P0 (ev C m))) → ∀ (tg e : Expr), okI md c (.rev m) tg e = true → PI X tg e (Ti X.K tb R (evI C (.rev m))) := fun R c X P0 md ok g hm tg e hk => by
      cases e with
      | Call fn xs ks p =>
        cases fn with
        | Name x p2 =>
          match xs, ks with
          | [y], [] =>
            have hk' : (c.glob x && decide (x = ("reversed" : Str)) && okE md c m y && notStar y) = true := hk
            simp only [Bool.and_eq_true, decide_eq_true_eq] at hk'
            obtain ⟨⟨⟨k1, k2⟩, k3⟩, k4⟩ := hk'
            subst k2
            exact i_rev g ok k1 (hm y k3) k4
          | [], _ => exact absurd hk Bool.false_ne_true
          | [_], _ :: _ => exact absurd hk Bool.false_ne_true
          | _ :: _ :: _, _ => exact absurd hk Bool.false_ne_true
        | _ => exact absurd hk Bool.false_ne_true
      | _ => exact absurd hk Bool.false_ne_true
    exact ⟨fun c X g tg e hk => key Le c X _ 0 md0 g (sE m c X g 0) tg e hk, fun c X g tg e hk => key Ext c X _ 1 md1 g (sE m c X g 1) tg e hk⟩
end
end
end PI

set_option Elab.async false
set_option linter.all false
set_option maxRecDepth 100000
set_option maxHeartbeats 4000000
set_option autoImplicit false
namespace PI
open PySem PySem.Spec PyProof.Rows L2

def isComp : Expr → Bool
  | .ListComp .. => true
  | .SetComp .. => true
  | .DictComp .. => true
  | _ => false
def isLC : Expr → Bool
  | .ListComp .. => true
  | _ => false
def isName : Expr → Bool
  | .Name .. => true
  | _ => false
def isTup : Expr → Bool
  | .Tuple .. => true
  | _ => false
def notCall : Expr → Bool
  | .Call .. => false
  | _ => true
def augOk : Op → Operator → Bool
  | .add, .Add => true
  | .sub, .Sub => true
  | _, _ => false
def Ck.loc (c : Ck) (x : Str) : Bool := decide (c.kind x = some .local)
def isFun (s : Scope) : Bool := match s.kind with
  | .function => true
  | _ => false
mutual
def okS (c : Ck) : S → Stmt → Bool
  | .set i m, .Assign [.Name x _] e _ => c.store i x && okE 0 c m e && (!isComp e || (isLC e && isFun c.sc))
  | .setL i l, .Assign [.Name x _] e _ => c.store i x && okL c l e && (!isComp e || (isLC e && isFun c.sc))
  | .setD i, .Assign [.Name x _] (.Dict [] [] _) _ => c.store i x
  | .pat p m, .Assign [.Tuple ts k q] e _ => okP c p (.Tuple ts k q) && okE 0 c m e && !isComp e && (!isTup e || !(ts.length == 2 || ts.length == 3))
  | .par2 i j a b, .Assign [.Tuple [.Name x px, .Name y py] _ _] (.Tuple [e, f] _ _) _ => decide (c.N[i]? = some x) && decide (c.N[j]? = some y) && c.loc x && c.loc y && decide (i ≠ j) && isFun c.sc && px.line == py.line && !(x == y) && notStar e && notStar f && okE 0 c a e && okE 0 c b f && !(foldedForSure 8 e && foldedForSure 8 f) && !(constantsAlone 8 e && constantsAlone 8 f)
  | .aug i o m, .AugAssign (.Name x _) p e _ => c.store i x && augOk o p && okE 0 c m e
  | .augI o k p m, .AugAssign (.Subscript a b _) q e _ => augOk p q && okE 0 c o a && okE 0 c k b && notSlice b && okE 0 c m e
  | .augO i k p m, .AugAssign (.Subscript (.Name x _) b _) q e _ => c.var i x && augOk p q && okE 0 c k b && notSlice b && okE 0 c m e
  | .putI o k m, .Assign [.Subscript a b _] e _ => okE 0 c o a && okE 0 c k b && notSlice b && okE 0 c m e && !isComp e
  | .putO i k m, .Assign [.Subscript (.Name x _) b _] e _ => c.var i x && okE 0 c k b && notSlice b && okE 0 c m e && !isComp e
  | .app i m, .Expr (.Call (.Attribute (.Name x _) f ap) [e] [] cp) _ => c.var i x && decide (f = ("append" : Str)) && (ap.endLine == cp.line) && okE 0 c m e && notStar e
  | .appC o m, .Expr (.Call (.Attribute a f ap) [e] [] cp) _ => okE 0 c o a && notCall a && decide (f = ("append" : Str)) && (ap.endLine == cp.line) && okE 0 c m e && notStar e
  | .expr m, .Expr e _ => okE 0 c m e && !isComp e
  | .ret m, .Return (some e) _ => okE 0 c m e
  | .retN, .Return none _ => true
  | .iff t a b, .If e x y _ => okE 2 c t e && okSs c a x && okSs c b y
  | .whil t a, .While e x [] _ => okE 2 c t e && okSs c a x
  | .forr p it a, .For tg e x [] _ => okI 0 c it tg e && notSet e && okP c p tg && okSs c a x
  | .brk, .Break _ => true
  | .cont, .Continue _ => true
  | .pass, .Pass _ => true
  | _, _ => false
def okSs (c : Ck) : List S → List Stmt → Bool
  | [], [] => true
  | s :: r, sts => match s with
    | .frz _ => okSs c r sts
    | s => match sts with
      | [] => false
      | st :: sts => okS c s st && okSs c r sts
  | [], _ :: _ => false
end

/-- the state in a body that was entered at we -/
structure SI (K : PySem.W.Frag) (tb : List Addr) (we w : Wd) (ρ : Rho) (σ : L2.St) (h : PH) : Prop where
  rel : Rel K tb w h
  rs : RS K w ρ σ
  ext : Ext we w
  fr : ∀ (i : Nat) (s : Sl) (a : Addr), ρ[i]? = some (some s) → s.isOwn = true → σ[i]? = some (some (.ref a)) → we.H a = none
def FinS (K : PySem.W.Frag) (tb : List Addr) (we w : Wd) (Dn : Ends) : Out → Prop
  | .nx ρ h => ∀ w' σ', SI K tb we w' ρ σ' h → Le w w' → Dn.nx σ' w'.H
  | .bk ρ h => ∀ w' σ', SI K tb we w' ρ σ' h → Le w w' → Dn.bk σ' w'.H
  | .ct ρ h => ∀ w' σ', SI K tb we w' ρ σ' h → Le w w' → Dn.ct σ' w'.H
  | .rt d h => ∀ w' v, Rel K tb w' h → RD K w' d v → Ext we w' → Dn.rt v w'.H
def Tst (K : PySem.W.Frag) (tb : List Addr) (we : Wd) (f : Rho → PH → Option Out) : TS := fun Dn σ H => ∃ w ρ h o, w.H = H ∧ SI K tb we w ρ σ h ∧ f ρ h = some o ∧ FinS K tb we w Dn o
section
variable {K : PySem.W.Frag} {tb : List Addr} {we w w' : Wd} {ρ ρ' : Rho} {σ σ' : L2.St} {h h' : PH} {Dn : Ends} {o : Out} {s : Sl} {i : Nat} {a : Addr}
theorem SI.step (q : SI K tb we w ρ σ h) (x : Ext w w') (r : Rel K tb w' h') : SI K tb we w' ρ σ h' := ⟨r, q.rs.ext x q.rel, q.ext.trans x, q.fr⟩
theorem FinS.aft (q : FinS K tb we w Dn o) (l : Le w w') : FinS K tb we w' Dn o := by
  cases o with
  | nx ρ h => exact fun w2 σ2 s2 l2 => q w2 σ2 s2 (l.trans l2)
  | bk ρ h => exact fun w2 σ2 s2 l2 => q w2 σ2 s2 (l.trans l2)
  | ct ρ h => exact fun w2 σ2 s2 l2 => q w2 σ2 s2 (l.trans l2)
  | rt d h => exact q
theorem SI.setd (q : SI K tb we w ρ σ h) {d : D} {v : V} (hv : RD K w d v) : SI K tb we w (setS ρ i (.val d)) (σ.set i (some v)) h := ⟨q.rel, q.rs.setd hv, q.ext, fun j t b e1 e2 e3 => by
  unfold setS at e1
  rcases set_at e1 with ⟨_, z⟩ | ⟨hj, e1⟩
  · cases z; cases e2
  · rw [List.getElem?_set_ne (Ne.symm hj)] at e3
    exact q.fr j t b e1 e2 e3⟩
/-- a new thing of one's own goes into a slot -/
theorem SI.seto (q : SI K tb we w ρ σ h) (x : Ext w w') (r : Rel K tb w' h') (hs : RSl K w' s (.ref a)) (hn : w.H a = none) : SI K tb we w' (setS ρ i s) (σ.set i (some (.ref a))) h' := by
  refine ⟨r, (q.rs.ext x q.rel).setv hs fun _ j t hj e1 e2 e3 => ?_, q.ext.trans x, fun j t b e1 e2 e3 => ?_⟩
  · obtain ⟨v, h1, h2⟩ := q.rs.at_ j t e1
    rw [e3] at h1; cases h1
    cases t with
    | val d => cases e2
    | own xs => obtain ⟨b, vs, z1, z2, _⟩ := h2; cases z1; rw [hn] at z2; cases z2
    | ownD ks vs => obtain ⟨b, kk, us, z1, z2, _⟩ := h2; cases z1; rw [hn] at z2; cases z2
  · unfold setS at e1
    rcases set_at e1 with ⟨rfl, z⟩ | ⟨hj, e1⟩
    · obtain ⟨z, _⟩ := List.getElem?_eq_some_iff.mp e3
      rw [List.getElem?_set_self (by simpa using z)] at e3
      cases e3
      cases e : we.H a with
      | none => rfl
      | some o => exact absurd hn (q.ext.there a (by rw [e]; simp))
    · rw [List.getElem?_set_ne (Ne.symm hj)] at e3
      exact q.fr j t b e1 e2 e3
/-- what is one's own changes -/
theorem SI.mut (q : SI K tb we w ρ σ h) {s0 : Sl} {o : HO} (h0 : ρ[i]? = some (some s0)) (o0 : s0.isOwn = true) (ha : σ[i]? = some (some (.ref a))) (hs : RSl K (w.put a o) s (.ref a)) (hw : s.isOwn = true) (pv : Priv w a) (ht : ∃ o', w.H a = some o' ∧ ¬ isTbl o') :
    SI K tb we (w.put a o) (setS ρ i s) σ h ∧ Le w (w.put a o) := by
  have l := le_put (o := o) q.rel pv.2
  have hn : we.H a = none := q.fr i s0 a h0 o0 ha
  refine ⟨⟨q.rel.pput pv ht, ⟨?_, fun j t e => ?_, fun j k t u v e1 e2 o1 o2 f1 f2 => ?_⟩, ext_pput q.ext hn, fun j t b e1 e2 e3 => ?_⟩, l⟩
  · unfold setS; rw [List.length_set]; exact q.rs.len
  · unfold setS at e
    rcases set_at e with ⟨rfl, z⟩ | ⟨hj, e⟩
    · cases z; exact ⟨_, ha, hs⟩
    · obtain ⟨v, h1, h2⟩ := q.rs.at_ j t e
      refine ⟨v, h1, ?_⟩
      have nab : ∀ b, v = .ref b → t.isOwn = true → b ≠ a := fun b z1 z2 z3 => by
        subst z1 z3
        exact hj (q.rs.dis j i t s0 _ e h0 z2 o0 h1 ha)
      cases t with
      | val d => exact RD.le l h2
      | own xs =>
        obtain ⟨b, vs, z1, z2, z3, z4⟩ := h2
        exact ⟨b, vs, z1, by show upd w.H a o b = _; rw [upd_ne (nab b z1 rfl)]; exact z2, z3.le l, z4⟩
      | ownD ks vs =>
        obtain ⟨b, kk, us, z1, z2, z3, z4, z5, z6⟩ := h2
        exact ⟨b, kk, us, z1, by show upd w.H a o b = _; rw [upd_ne (nab b z1 rfl)]; exact z2, z3, z4, z5.le l, z6⟩
  · have key : ∀ (j : Nat) (t : Sl), (setS ρ i s)[j]? = some (some t) → t.isOwn = true → ∃ t', ρ[j]? = some (some t') ∧ t'.isOwn = true := fun j t e ot => by
      unfold setS at e
      rcases set_at e with ⟨rfl, z⟩ | ⟨hj, e⟩
      · exact ⟨s0, h0, o0⟩
      · exact ⟨t, e, ot⟩
    obtain ⟨t', g1, g2⟩ := key j t e1 o1
    obtain ⟨u', g3, g4⟩ := key k u e2 o2
    exact q.rs.dis j k t' u' v g1 g3 g2 g4 f1 f2
  · unfold setS at e1
    rcases set_at e1 with ⟨rfl, z⟩ | ⟨hj, e1⟩
    · rw [ha] at e3; cases e3; exact hn
    · exact q.fr j t b e1 e2 e3
/-- freezing -/
def Wd.fz (w : Wd) (a : Addr) : Wd := ⟨w.H, w.ι, fun b => w.F b ∨ b = a⟩
theorem le_fz : Le w (w.fz a) := ⟨List.prefix_refl _, fun b f => Or.inl f, fun _ _ _ e => e⟩
theorem Rel.fz (r : Rel K tb w h) {o : HO} (p : Priv w a) (e : w.H a = some o) (t : ¬ isTbl o) : Rel K tb (w.fz a) h := ⟨r.len, r.nd, fun n c hc => by
    obtain ⟨b, h1, h2⟩ := r.cell n c hc
    exact ⟨b, h1, h2.le le_fz fun _ e => e⟩, r.io, fun b m f => by
    rcases f with f | f
    · exact r.nf b m f
    · subst f; exact p.1 m, fun b f => by
    rcases f with f | f
    · exact r.ft b f
    · subst f; exact ⟨_, e, t⟩, r.tabs⟩
theorem SI.fz (q : SI K tb we w ρ σ h) {s0 : Sl} {d : D} {o : HO} (h0 : ρ[i]? = some (some s0)) (o0 : s0.isOwn = true) (ha : σ[i]? = some (some (.ref a))) (pv : Priv w a) (eo : w.H a = some o) (t : ¬ isTbl o) (hd : RD K (w.fz a) d (.ref a)) :
    SI K tb we (w.fz a) (setS ρ i (.val d)) σ h := by
  have hn : we.H a = none := q.fr i s0 a h0 o0 ha
  refine ⟨q.rel.fz pv eo t, ⟨?_, fun j t e => ?_, fun j k t u v e1 e2 o1 o2 f1 f2 => ?_⟩, ⟨q.ext.ip, fun b f => Or.inl (q.ext.fz b f), fun b f => ?_, q.ext.ino, q.ext.keep, q.ext.there⟩, fun j t b e1 e2 e3 => ?_⟩
  · unfold setS; rw [List.length_set]; exact q.rs.len
  · unfold setS at e
    rcases set_at e with ⟨rfl, z⟩ | ⟨hj, e⟩
    · cases z; exact ⟨_, ha, hd⟩
    · obtain ⟨v, h1, h2⟩ := q.rs.at_ j t e
      refine ⟨v, h1, ?_⟩
      have nab : ∀ b, v = .ref b → t.isOwn = true → b ≠ a := fun b z1 z2 z3 => by
        subst z1 z3
        exact hj (q.rs.dis j i t s0 _ e h0 z2 o0 h1 ha)
      cases t with
      | val d => exact RD.le le_fz h2
      | own xs =>
        obtain ⟨b, vs, z1, z2, z3, z4⟩ := h2
        exact ⟨b, vs, z1, z2, z3.le le_fz, z4.1, fun f => f.elim z4.2 (nab b z1 rfl)⟩
      | ownD ks vs =>
        obtain ⟨b, kk, us, z1, z2, z3, z4, z5, z6⟩ := h2
        exact ⟨b, kk, us, z1, z2, z3, z4, z5.le le_fz, z6.1, fun f => f.elim z6.2 (nab b z1 rfl)⟩
  · have key : ∀ (j : Nat) (t : Sl), (setS ρ i (.val d))[j]? = some (some t) → t.isOwn = true → ρ[j]? = some (some t) := fun j t e ot => by
      unfold setS at e
      rcases set_at e with ⟨rfl, z⟩ | ⟨hj, e⟩
      · cases z; cases ot
      · exact e
    exact q.rs.dis j k t u v (key j t e1 o1) (key k u e2 o2) o1 o2 f1 f2
  · rcases f with f | f
    · exact q.ext.fn b f
    · subst f; exact .inr hn
  · unfold setS at e1
    rcases set_at e1 with ⟨rfl, z⟩ | ⟨hj, e1⟩
    · cases z; cases e2
    · exact q.fr j t b e1 e2 e3
mutual
theorem bindP_own : ∀ (p : P) {d : D} {ρ ρ' : Rho}, bindP p d ρ = some ρ' → ∀ (j : Nat) (s : Sl), ρ'[j]? = some (some s) → s.isOwn = true → ρ[j]? = some (some s) ∧ j ∉ slotsP p
  | .nm i, d, ρ, ρ', e, j, s, h1, h2 => by
    simp only [bindP, Option.some.injEq] at e
    subst e
    unfold setS at h1
    rcases set_at h1 with ⟨rfl, z⟩ | ⟨hj, h1⟩
    · cases z; cases h2
    · exact ⟨h1, by simpa [slotsP] using hj⟩
  | .tu ps, d, ρ, ρ', e, j, s, h1, h2 => by
    cases d with
    | tup xs => simp only [bindP] at e; simpa only [slotsP] using bindPs_own ps e j s h1 h2
    | lst xs => simp only [bindP] at e; simpa only [slotsP] using bindPs_own ps e j s h1 h2
    | _ => simp [bindP] at e
theorem bindPs_own : ∀ (ps : List P) {ds : List D} {ρ ρ' : Rho}, bindPs ps ds ρ = some ρ' → ∀ (j : Nat) (s : Sl), ρ'[j]? = some (some s) → s.isOwn = true → ρ[j]? = some (some s) ∧ j ∉ slotsPs ps
  | [], ds, ρ, ρ', e, j, s, h1, h2 => by
    cases ds with
    | nil => simp only [bindPs, Option.some.injEq] at e; subst e; exact ⟨h1, by simp [slotsPs]⟩
    | cons _ _ => simp [bindPs] at e
  | p :: ps, ds, ρ, ρ', e, j, s, h1, h2 => by
    cases ds with
    | nil => simp [bindPs] at e
    | cons d ds =>
      simp only [bindPs] at e
      obtain ⟨ρ1, e1, e2⟩ := Option.bind_eq_some_iff.mp e
      obtain ⟨g1, g2⟩ := bindPs_own ps e2 j s h1 h2
      obtain ⟨g3, g4⟩ := bindP_own p e1 j s g1 h2
      exact ⟨g3, by simp only [slotsPs, List.mem_append, not_or]; exact ⟨g4, g2⟩⟩
end
theorem SI.bound (q : SI K tb we w ρ σ h) {p : P} {d : D} (b : bindP p d ρ = some ρ') (rs : RS K w ρ' σ') (ag : ∀ j, j ∉ slotsP p → σ'[j]? = σ[j]?) : SI K tb we w ρ' σ' h := ⟨q.rel, rs, q.ext, fun i s a e1 e2 e3 => by
  obtain ⟨g1, g2⟩ := bindP_own p b i s e1 e2
  rw [ag i g2] at e3
  exact q.fr i s a g1 e2 e3⟩
end
end PI

set_option Elab.async false
set_option linter.all false
set_option maxRecDepth 100000
set_option maxHeartbeats 4000000
set_option autoImplicit false
namespace PI
open PySem PySem.Spec PyProof.Rows L2
section
variable {C : Calls} {tb : List Addr} {n : Nat} {c : Ck} {X : Cx} {K : PySem.W.Frag} {we w w1 w' : Wd} {h h1 h' : PH} {ρ : Rho} {σ : L2.St} {Q : VK}

/-! ### stores on one line -/
theorem swp_plain {e : Expr} {t : Option Expr} {l : Nat} {env : Env} (h : isComp e = false) : swapsWith e t l env = pure false := by
  cases e <;> first | rfl | cases h
theorem sws_plain {e t : Expr} {l : Nat} {env : Env} (h : isComp e = false) : swapsWithSole [t] e l env = pure false := (show swapsWith e (some t) l env = pure false from swp_plain h)
theorem swp_lc {elt : Expr} {gens : List Comprehension} {scope : Scope} {pos px : Pos} {x : Str} {l : Nat} {env : Env} (hb : env.blockKind = .function) : ∃ b : Bool, swapsWith (.ListComp elt gens scope pos) (some (.Name x px)) l env = pure b ∧ (b = true → env.kindOf x = some .local) := by
  refine ⟨_, rfl, fun h => ?_⟩
  simp only [Bool.and_eq_true] at h
  have h2 := h.1.1.2
  exact eq_of_beq h2
theorem blk_fun {env : Env} (h : isFun env.scope = true) : env.blockKind = .function := by
  unfold Env.blockKind
  unfold isFun at h
  cases e : env.scope.kind <;> rw [e] at h <;> first | rfl | cases h
theorem Good.blkk (g : Good C tb n c X) (h : isFun c.sc = true) : X.env.blockKind = .function := blk_fun (by rw [g.sc]; exact h)

/-- from a slot's value to the reading of a store -/
theorem set_of {m : E} {i : Nat} {T : TE} (hT : ∀ σ H Q, Tx X.K tb (ev C m) σ H Q → T σ H Q) : ∀ D σ H, Tst X.K tb we (ex C (.set i m)) D σ H → tAsg T (gName i) D σ H := fun Dn σ H ⟨w, ρ, h, o, e, si, hv, q⟩ => by
  simp only [ex] at hv
  obtain ⟨⟨d, h1⟩, e1, hv⟩ := Option.map_eq_some_iff.mp hv
  cases hv
  exact hT _ _ _ ⟨w, ρ, h, d, h1, e, si.rel, si.rs, e1, fun w1 v r1 rv ex1 => q w1 _ ((si.step ex1 r1).setd rv) (ex1.le si.rel)⟩
theorem setL_of {l : L} {i : Nat} {T : TE} (hT : ∀ σ H Q, Tl X.K tb (evL C l) σ H Q → T σ H Q) : ∀ D σ H, Tst X.K tb we (ex C (.setL i l)) D σ H → tAsg T (gName i) D σ H := fun Dn σ H ⟨w, ρ, h, o, e, si, hv, q⟩ => by
  simp only [ex] at hv
  obtain ⟨⟨d, h1⟩, e1, hv⟩ := Option.map_eq_some_iff.mp hv
  cases hv
  exact hT _ _ _ ⟨w, ρ, h, d, h1, e, si.rel, si.rs, e1, fun w1 a vs r1 ha rv pv ex1 hn => q w1 _ (si.seto (s := .own d) ex1 r1 ⟨a, vs, rfl, ha, rv, pv⟩ hn) (ex1.le si.rel)⟩
theorem asg_name (g : Good C tb n c X) {i : Nat} {x : Str} {e : Expr} {p pos : Pos} {te : TE} (hst : c.store i x = true) (he : PE X e te) (hs : swapsWith e (some (.Name x p)) pos.line X.env = pure false) : PS X (.Assign [.Name x p] e pos) (tAsg te (gName i)) :=
  ps_asg he (g.pgn hst) hs rfl rfl
theorem asg_lc (g : Good C tb n c X) {i : Nat} {x : Str} {p : P} {it : It} {own : List Nat} {t : Eo} {m : E} {elt tg iter : Expr} {ifs : List Expr} {scope : Scope} {pos px spos : Pos} (hst : c.store i x = true) (hf : isFun c.sc = true)
    (hk : okL c (.comp p it own t m) (.ListComp elt [⟨tg, iter, ifs, 0⟩] scope pos) = true) : ∃ T : TE, (∀ σ H Q, Tl X.K tb (evL C (.comp p it own t m)) σ H Q → T σ H Q) ∧ PS X (.Assign [.Name x px] (.ListComp elt [⟨tg, iter, ifs, 0⟩] scope pos) spos) (tAsg T (gName i)) := by
  obtain ⟨b, hb, hl⟩ := swp_lc (elt := elt) (gens := [⟨tg, iter, ifs, 0⟩]) (scope := scope) (pos := pos) (px := px) (x := x) (l := spos.line) (g.blkk hf)
  cases b with
  | false => exact ⟨_, fun _ _ _ h => h, asg_name g hst (sL _ c X g _ hk) hb⟩
  | true =>
    have hk' : (okI 1 c it tg iter && notSet iter && blkC c.N c.sc scope (ownN c.N own) && subOwn p own && okP (c.blk scope) p tg && okTs (c.blk scope) t ifs && okE 0 (c.blk scope) m elt) = true := hk
    simp only [Bool.and_eq_true] at hk'
    obtain ⟨⟨⟨⟨⟨⟨k1, k2⟩, k3⟩, k4⟩, k5⟩, k6⟩, k7⟩ := hk'
    have ok : BlkOk X.N X.env.scope scope (ownN c.N own) := by rw [g.hN, g.sc]; exact blkOk_by k3
    have hg : ∀ (s : Shared) (H : Hp) (Ca : Addr) (cl : List (Str × Addr)) (fp : List Addr), PG (X.blk s H scope (compEnvC scope cl Ca X.env) fp) tg (Tg X.K tb p) := fun s H Ca cl fp => sP (X := X.blk s H scope (compEnvC scope cl Ca X.env) fp) g.blk p tg k5
    have hloc : X.env.scope.names.lookup x = some .local := hl rfl
    have hN : X.N[i]? = some x := by
      unfold Ck.store at hst
      simp only [Bool.and_eq_true, decide_eq_true_eq] at hst
      rw [g.hN]; exact hst.1
    have ht : ∀ (s : Shared) (H : Hp) (Ca : Addr) (cl : List (Str × Addr)) (fp : List Addr), PTs (X.blk s H scope (compEnvC scope cl Ca X.env) fp) ifs (Tt X.K tb (evOT C t)) := fun s H Ca cl fp => (sEo (C := C) (tb := tb) (n := n) t).t (c.blk scope) (X.blk s H scope (compEnvC scope cl Ca X.env) fp) g.blk ifs k6
    have he : ∀ (s : Shared) (H : Hp) (Ca : Addr) (cl : List (Str × Addr)) (fp : List Addr), PE (X.blk s H scope (compEnvC scope cl Ca X.env) fp) elt (Tx X.K tb (ev C m)) := fun s H Ca cl fp => sE (C := C) (tb := tb) (n := n) m (c.blk scope) (X.blk s H scope (compEnvC scope cl Ca X.env) fp) g.blk 0 elt k7
    refine ⟨_, ?_, ps_setLc g.calm (by rw [g.hN]; exact g.nd) hN hloc hb ((sI (C := C) (tb := tb) (n := n) it).i1 c X g tg iter k1) ok hg ht he (set_plain k2)⟩
    intro σ H Q ⟨w, ρ, h, d, h', e, r, rs, hv, q⟩
    simp only [evL] at hv
    obtain ⟨⟨xs, h1⟩, e1, hv⟩ := Option.bind_eq_some_iff.mp hv
    rw [own_snd]
    exact ⟨w, ρ, h, xs, h1, e, r, rs, e1, fun w1 J r1 ex W => comp_ok (t := t) (e := m) k4 r1 (rs.ext ex r) W hv (q.aft ex)⟩
theorem ofL_tl {l : L} : ∀ σ H Q, Tx X.K tb (ev C (.ofL l)) σ H Q → Tl X.K tb (evL C l) σ H Q := fun σ H Q ⟨w, ρ, h, d, h', e, r, rs, hv, q⟩ => by
  simp only [ev] at hv
  obtain ⟨⟨ds, h1⟩, e1, e2⟩ := Option.map_eq_some_iff.mp hv
  cases e2
  exact ⟨w, ρ, h, ds, h1, e, r, rs, e1, FinL.of1 q⟩
theorem celL_tl {l : L} : ∀ σ H Q, Tx X.K tb (ev C (.celL l)) σ H Q → Tl X.K tb (evL C l) σ H Q := fun σ H Q ⟨w, ρ, h, d, h', e, r, rs, hv, q⟩ => by
  simp only [ev] at hv
  obtain ⟨⟨ds, h1⟩, e1, e2⟩ := Option.map_eq_some_iff.mp hv
  cases e2
  refine ⟨w, ρ, h, ds, h1, e, r, rs, e1, fun w2 a vs r2 ha rv pv ex hn => ?_⟩
  refine q (w2.add a) (.ref a) (r2.adopt pv ha (fun z => z) ⟨vs, ha, rv.le le_add⟩) (.ref ?_) (ext_add ex hn)
  show (w2.ι ++ [a])[h1.length]? = _
  rw [List.getElem?_append_right (by rw [r2.len]; exact Nat.le_refl _), r2.len]
  simp
theorem okL_lc {l : L} {elt : Expr} {gens : List Comprehension} {scope : Scope} {pos : Pos} (h : okL c l (.ListComp elt gens scope pos) = true) : ∃ p it own t m tg iter ifs, l = .comp p it own t m ∧ gens = [⟨tg, iter, ifs, 0⟩] := by
  cases l with
  | comp p it own t m =>
    match gens with
    | [⟨tg, iter, ifs, as_⟩] =>
      by_cases hz : as_ = 0
      case neg => exact absurd h (okL_as hz)
      subst hz
      exact ⟨p, it, own, t, m, tg, iter, ifs, rfl, rfl⟩
    | [] => exact absurd h Bool.false_ne_true
    | _ :: _ :: _ => exact absurd h okL_gens
  | _ => exact absurd h Bool.false_ne_true
theorem s_set (g : Good C tb n c X) {i : Nat} {m : E} {x : Str} {e : Expr} {p pos : Pos} (hst : c.store i x = true) (hk : okE 0 c m e = true) (hc : isComp e = false ∨ (isLC e = true ∧ isFun c.sc = true)) : PS X (.Assign [.Name x p] e pos) (Tst X.K tb we (ex C (.set i m))) := by
  have he : PE X e (Tx X.K tb (ev C m)) := sE m c X g 0 e hk
  rcases hc with hc | ⟨hl, hf⟩
  · exact (asg_name g hst he (swp_plain hc)).imp (set_of fun _ _ _ h => h)
  · cases e with
    | ListComp elt gens scope epos =>
      cases m with
      | ofL l =>
        have hk' : okL c l (.ListComp elt gens scope epos) = true := hk
        obtain ⟨p1, it, own, t, m1, tg, iter, ifs, rfl, rfl⟩ := okL_lc hk'
        obtain ⟨T, h1, h2⟩ := asg_lc (C := C) (px := p) (spos := pos) g hst hf hk'
        exact h2.imp (set_of fun σ H Q h => h1 σ H Q (ofL_tl σ H Q h))
      | celL l =>
        have hk' : okL c l (.ListComp elt gens scope epos) = true := hk
        obtain ⟨p1, it, own, t, m1, tg, iter, ifs, rfl, rfl⟩ := okL_lc hk'
        obtain ⟨T, h1, h2⟩ := asg_lc (C := C) (px := p) (spos := pos) g hst hf hk'
        exact h2.imp (set_of fun σ H Q h => h1 σ H Q (celL_tl σ H Q h))
      | _ => exact absurd hk Bool.false_ne_true
    | _ => cases hl
theorem s_setL (g : Good C tb n c X) {i : Nat} {l : L} {x : Str} {e : Expr} {p pos : Pos} (hst : c.store i x = true) (hk : okL c l e = true) (hc : isComp e = false ∨ (isLC e = true ∧ isFun c.sc = true)) : PS X (.Assign [.Name x p] e pos) (Tst X.K tb we (ex C (.setL i l))) := by
  rcases hc with hc | ⟨hl, hf⟩
  · exact (asg_name g hst (sL l c X g e hk) (swp_plain hc)).imp (setL_of fun _ _ _ h => h)
  · cases e with
    | ListComp elt gens scope epos =>
      obtain ⟨p1, it, own, t, m1, tg, iter, ifs, rfl, rfl⟩ := okL_lc hk
      obtain ⟨T, h1, h2⟩ := asg_lc (C := C) (px := p) (spos := pos) g hst hf hk
      exact h2.imp (setL_of h1)
    | _ => cases hl
theorem s_setD (g : Good C tb n c X) {i : Nat} {x : Str} {p q pos : Pos} (hst : c.store i x = true) : PS X (.Assign [.Name x p] (.Dict [] [] q) pos) (Tst X.K tb we (ex C (.setD i))) :=
  (asg_name g hst pe_dnewK rfl).imp fun Dn σ H ⟨w, ρ, h, o, e, si, hv, q⟩ => by
    subst e
    simp only [ex, Option.some.injEq] at hv
    cases hv
    intro a ha
    have pv := priv_new si.rel ha
    refine q (w.raw a (.dK [])) _ (si.seto (s := .ownD [] []) (ext_raw ha) (si.rel.raw ha) ⟨a, [], [], rfl, upd_same, rfl, rfl, .nil, pv.1, pv.2⟩ ha) ((ext_raw ha).le si.rel)

/-! ### several targets -/
theorem ae_one {ts : List Expr} {k : Nat} {q : Pos} {env : Env} : (assignEach [.Tuple ts k q] env).map (·.2) = [assign (.Tuple ts k q) env] := rfl
theorem ss_none {ts : List Expr} {k : Nat} {q : Pos} {e : Expr} {env : Env} (h : isTup e = false ∨ (ts.length == 2 || ts.length == 3) = false) : swappedStores [.Tuple ts k q] e env = pure none := by
  rcases h with h | h
  · cases e <;> first | rfl | cases h
  · cases e with
    | Tuple vs k2 q2 =>
      unfold swappedStores
      simp [h]
    | _ => rfl
theorem s_pat (g : Good C tb n c X) {p : P} {m : E} {ts : List Expr} {k : Nat} {q pos : Pos} {e : Expr} (hp : okP c p (.Tuple ts k q) = true) (hk : okE 0 c m e = true) (hc : isComp e = false) (hs : isTup e = false ∨ (ts.length == 2 || ts.length == 3) = false) :
    PS X (.Assign [.Tuple ts k q] e pos) (Tst X.K tb we (ex C (.pat p m))) :=
  (ps_asg (pos := pos) (show PE X e (Tx X.K tb (ev C m)) from sE (C := C) (tb := tb) (n := n) m c X g 0 e hk) (sP (tb := tb) g p _ hp) (sws_plain hc) (ss_none hs) ae_one).imp fun Dn σ H ⟨w, ρ, h, o, e, si, hv, q⟩ => by
    simp only [ex] at hv
    obtain ⟨⟨d, h1⟩, e1, hv⟩ := Option.bind_eq_some_iff.mp hv
    obtain ⟨ρ', e2, hv⟩ := Option.map_eq_some_iff.mp hv
    cases hv
    refine ⟨w, ρ, h, d, h1, e, si.rel, si.rs, e1, fun w1 v r1 rv ex1 => ?_⟩
    have s1 := si.step ex1 r1
    exact ⟨w1, ρ, h1, d, ρ', rfl, r1, s1.rs, rv, e2, fun σ' rs ag => q w1 σ' (s1.bound e2 rs ag) (ex1.le si.rel)⟩
theorem ss_two {x y : Str} {px py q q2 : Pos} {k k2 : Nat} {a b : Expr} {env : Env} (hb : env.blockKind = .function) (hx : env.kindOf x = some .local) (hy : env.kindOf y = some .local) (hl : (px.line == py.line) = true) (hxy : (x == y) = false)
    (ha : notStar a = true) (hb2 : notStar b = true) (h1 : (foldedForSure 8 a && foldedForSure 8 b) = false) (h2 : (constantsAlone 8 a && constantsAlone 8 b) = false) : swappedStores [.Tuple [.Name x px, .Name y py] k q] (.Tuple [a, b] k2 q2) env = pure (some [x, y]) := by
  have lyx : (py.line == px.line) = true := by rw [beq_iff_eq] at hl ⊢; exact hl.symm
  have hyx : (y == x) = false := by
    cases e : (y == x) with
    | false => rfl
    | true => rw [beq_iff_eq] at e; subst e; simp at hxy
  unfold swappedStores
  have e1 : (some NameKind.local == some NameKind.local) = true := rfl
  have e2 : (Expr.Name x px).pos = px := rfl
  have e3 : (px.line == px.line) = true := by simp
  simp only [List.length_cons, List.length_nil, hb, List.any_cons, List.any_nil, List.filterMap_cons, List.filterMap_nil, List.head?_cons, Option.map_some, Option.getD_some, hx, hy, e1, e2, e3, lyx, Bool.and_self, if_true]
  refine (if_neg (by decide)).trans ?_
  refine (if_neg ?_).trans ?_
  · intro h
    rw [Bool.or_eq_true, Bool.or_eq_true] at h
    rcases h with h | h | h
    · cases a <;> first | exact absurd h Bool.false_ne_true | exact absurd ha Bool.false_ne_true
    · cases b <;> first | exact absurd h Bool.false_ne_true | exact absurd hb2 Bool.false_ne_true
    · exact absurd h Bool.false_ne_true
  refine (if_neg ?_).trans ?_
  · simp [List.eraseDups, List.eraseDupsBy, List.eraseDupsBy.loop, hxy, hyx]
  refine (if_neg ?_).trans ?_
  · simp only [List.all_cons, List.all_nil, Bool.and_true, h1]; decide
  refine (if_neg ?_).trans ?_
  · simp only [List.all_cons, List.all_nil, Bool.and_true, h2]; decide
  rfl
end
end PI

set_option Elab.async false
set_option linter.all false
set_option maxRecDepth 100000
set_option maxHeartbeats 4000000
set_option autoImplicit false
namespace PI
open PySem PySem.Spec PyProof.Rows L2
section
variable {C : Calls} {tb : List Addr} {n : Nat} {c : Ck} {X : Cx} {K : PySem.W.Frag} {we w w1 w' : Wd} {h h1 h' : PH} {ρ : Rho} {σ : L2.St} {Q : VK}

/-! ### what stands at an address -/
def Cont (K : PySem.W.Frag) (w : Wd) (a : Addr) : D → Prop
  | .lst xs => ∃ vs, w.H a = some (.lst vs) ∧ RDs K w xs vs
  | .dct ks vs => ∃ kk us, w.H a = some (.dK (kk.zip us)) ∧ keysD ks = some kk ∧ kk.length = us.length ∧ RDs K w vs us
  | _ => False
theorem Cont.ext {a : Addr} {y : D} (q : Cont K w a y) (e : ∀ o, w.H a = some o → ¬ isTbl o → w'.H a = some o) (l : Le w w') : Cont K w' a y := by
  cases y with
  | lst xs => obtain ⟨vs, h1, h2⟩ := q; exact ⟨vs, e _ h1 (fun z => z), h2.le l⟩
  | dct ks vs => obtain ⟨kk, us, h1, h2, h3, h4⟩ := q; exact ⟨kk, us, e _ h1 (fun z => z), h2, h3, h4.le l⟩
  | _ => exact q
theorem Cont.some {a : Addr} {y : D} (q : Cont K w a y) : ∃ o, w.H a = some o ∧ ¬ isTbl o := by
  cases y with
  | lst xs => obtain ⟨vs, h1, h2⟩ := q; exact ⟨_, h1, fun z => z⟩
  | dct ks vs => obtain ⟨kk, us, h1, h2, h3, h4⟩ := q; exact ⟨_, h1, fun z => z⟩
  | _ => exact q.elim
theorem Cont.own {s : Sl} {v : V} {y : D} (r : RSl K w s v) (e : ofOwn s = .some y) : ∃ a, v = .ref a ∧ Cont K w a y ∧ Priv w a := by
  cases s with
  | val d => cases e
  | own xs => cases e; obtain ⟨a, vs, h1, h2, h3, h4⟩ := r; exact ⟨a, h1, ⟨vs, h2, h3⟩, h4⟩
  | ownD ks vs => cases e; obtain ⟨a, kk, us, h1, h2, h3, h4, h5, h6⟩ := r; exact ⟨a, h1, ⟨kk, us, h2, h3, h4, h5⟩, h6⟩
theorem Cont.toOwn {s : Sl} {a : Addr} {y : D} (r : Cont K w a y) (p : Priv w a) (e : toOwn y = .some s) : RSl K w s (.ref a) ∧ s.isOwn = true := by
  cases y with
  | lst xs => cases e; obtain ⟨vs, h2, h3⟩ := r; exact ⟨⟨a, vs, rfl, h2, h3, p⟩, rfl⟩
  | dct ks vs => cases e; obtain ⟨kk, us, h2, h3, h4, h5⟩ := r; exact ⟨⟨a, kk, us, rfl, h2, h3, h4, h5, p⟩, rfl⟩
  | _ => cases e
theorem Cont.cell {cc : Cell} {a : Addr} {y : D} (r : RC K w a cc) (e : ofCell cc = .some y) : Cont K w a y := by
  cases cc with
  | lst xs => cases e; exact r
  | dct ks vs => cases e; exact r
  | _ => cases e
theorem Cont.toCell {cc : Cell} {a : Addr} {y : D} (r : Cont K w a y) (e : toCell y = .some cc) : RC K w a cc := by
  cases y with
  | lst xs => cases e; exact r
  | dct ks vs => cases e; exact r
  | _ => cases e
theorem ofOwn_is {s : Sl} {y : D} (e : ofOwn s = some y) : s.isOwn = true := by cases s <;> first | rfl | cases e

/-! ### y[k] = x -/
theorem PSet.or {t t' : TSet} (h : PSet X t) (h' : PSet X t') : PSet X (fun o i v H Q => t o i v H Q ∨ t' o i v H Q) := by
  intro pins s σ H o i v ov iv u Q I ro ri rv q
  rcases q with q | q
  · exact h pins s σ H o i v ov iv u Q I ro ri rv q
  · exact h' pins s σ H o i v ov iv u Q I ro ri rv q
theorem PGet.or {t t' : V → V → Hp → VK → Prop} (h : PGet X t) (h' : PGet X t') : PGet X (fun o i H Q => t o i H Q ∨ t' o i H Q) := by
  intro pins s σ H o i ov iv Q I ro ri q
  rcases q with q | q
  · exact h pins s σ H o i ov iv Q I ro ri q
  · exact h' pins s σ H o i ov iv Q I ro ri q
def rSetA : TSet := fun o i v H Q => rSetL o i v H Q ∨ rSetD o i v H Q
theorem set_any (hu : X.A.units + 1 < cLine) : PSet X rSetA := PSet.or set_list (set_dict hu)
def rGetA (K : PySem.W.Frag) : V → V → Hp → VK → Prop := fun o i H Q => rIxL K o i H Q ∨ ∃ a v, o = .ref a ∧ DGet H a i (some v) ∧ Q v H
theorem get_list : PGet X (rIxL X.K) := by
  intro pins s σ H o i ov iv Q I ro ri h
  obtain ⟨p, xs, k, z, rfl, rfl, hq, he, q⟩ := h
  cases ro
  obtain ⟨t, rfl⟩ := ri
  obtain ⟨its, r, pl, hz⟩ := I.list hq
  obtain ⟨j, h1, h2, h3, h4, h5⟩ := atI_get he
  obtain ⟨u, eu, ru⟩ := r.get h2
  have hl := r.length
  have hn := line63
  have fin : EP X pins σ Q u s := ⟨z, H, I, ru, q⟩
  by_cases h0 : 0 ≤ k
  · have hj : k.toNat = j := by
      rw [seqIndex_of h0 h5] at h1
      exact Option.some.inj h1
    exact wpAny_getItem_list pl.isList h0 (by omega) (by rw [hj]; simpa using eu) fin
  · have hj : (k + (its.toArray.size : Int)).toNat = j := by
      rw [seqIndex_neg (by omega) h4] at h1
      rw [List.size_toArray, ← hl]
      exact Option.some.inj h1
    exact wpAny_getItem_list_neg pl.isList (by omega) (by rw [List.size_toArray] <;> omega) (by omega) (by rw [hj]; simpa using eu) fin
theorem get_any (hu : X.A.units + 1 < cLine) : PGet X (rGetA X.K) := PGet.or get_list (by
  intro pins s σ H o i ov iv Q I ro ri h
  obtain ⟨a, v, rfl, g, q⟩ := h
  obtain rfl : ov = Value.ref a := ro
  exact d_getItem hu I g ri fun w' s3 I3 rw' => ⟨v, H, I3, rw', q⟩)
theorem idxC {a : Addr} {y k d : D} {vk : V} (q : Cont K w a y) (rk : RD K w k vk) (e : idxD y k = some d) : ∃ v, RD K w d v ∧ ∀ Q : VK, Q v w.H → rGetA K (.ref a) vk w.H Q := by
  cases y with
  | lst xs =>
    obtain ⟨vs, h1, h2⟩ := q
    cases k with
    | int i =>
      obtain ⟨v, g1, g2⟩ := h2.atI (show L2.atI xs i = some d from e)
      cases rk
      exact ⟨v, g2, fun Q hq => .inl ⟨a, vs, i, v, rfl, rfl, SqL.of h1, g1, hq⟩⟩
    | _ => simp [idxD] at e
  | dct ks vs =>
    obtain ⟨kk, us, h1, h2, h3, h4⟩ := q
    unfold idxD at e
    dsimp only at e
    split at e
    · rename_i kk' k' hk hq
      rw [h2] at hk; cases hk
      obtain ⟨u, g1, g2⟩ := getK_val h4 e
      refine ⟨u, g2, fun Q hQ => .inr ⟨a, u, rfl, ?_, hQ⟩⟩
      rw [keyD_v hq (.inl rk), ← g1]
      exact DGet.k h1
    · cases e
  | _ => exact q.elim
theorem RDs.zipW {x : D} {vx : V} {q : Key} (rx : RD K w x vx) : ∀ {kk : List Key} {ds : List D} {us : List V}, RDs K w ds us → RDs K w (List.zipWith (fun j v => if j = q then x else v) kk ds) (List.zipWith (fun j v => if j = q then vx else v) kk us)
  | [], _, _, _ => .nil
  | _ :: _, _, _, .nil => .nil
  | j :: kk, _, _, .cons a r => by
    rw [List.zipWith_cons_cons, List.zipWith_cons_cons]
    refine .cons ?_ (RDs.zipW rx r)
    by_cases h : j = q
    · rw [if_pos h, if_pos h]; exact rx
    · rw [if_neg h, if_neg h]; exact a
theorem putK_zip {kk : List Key} {us : List V} {q : Key} {v : V} (h : kk.length = us.length) : putK (kk.zip us) q v = if (kk.any fun j => decide (j = q)) = true then kk.zip (List.zipWith (fun j u => if j = q then v else u) kk us) else (kk ++ [q]).zip (us ++ [v]) := by
  have e1 : ((kk.zip us).any fun kv => decide (kv.1 = q)) = kk.any fun j => decide (j = q) := by rw [valV_any]; exact any_key kk us q h
  unfold putK
  rw [e1]
  split
  · clear e1
    rename_i hc
    clear hc
    induction kk generalizing us with
    | nil => rfl
    | cons j kk ih =>
      cases us with
      | nil => simp at h
      | cons u us =>
        rw [List.zip_cons_cons, List.map_cons, List.zipWith_cons_cons, List.zip_cons_cons, ih (by simpa using h)]
        by_cases hj : j = q
        · simp [hj]
        · simp [hj]
  · rw [List.zip_append h]; rfl
theorem keysD_append : ∀ {ks : List D} {kk : List Key} {k : D} {q : Key}, keysD ks = some kk → keyD k = some q → keysD (ks ++ [k]) = some (kk ++ [q])
  | [], _, k, q, h1, h2 => by
    simp only [keysD, Option.some.injEq] at h1
    subst h1
    simp [keysD, h2]
  | d :: r, _, k, q, h1, h2 => by
    rw [keysD, Option.bind_eq_some_iff] at h1
    obtain ⟨k0, g1, g2⟩ := h1
    obtain ⟨k1, g3, rfl⟩ := Option.map_eq_some_iff.mp g2
    rw [List.cons_append, keysD, g1, Option.bind_some, keysD_append g3 h2]
    rfl
theorem putC {a : Addr} {y y' k x : D} {vk vx : V} (q : Cont K w a y) (rk : RD K w k vk) (rx : RD K w x vx) (e : putD y k x = some y') : ∃ o, ¬ isTbl o ∧ (∀ Q : Hp → Prop, Q (upd w.H a o) → rSetA (.ref a) vk vx w.H Q) ∧ (Le w (w.put a o) → Cont K (w.put a o) a y') := by
  cases y with
  | lst xs =>
    obtain ⟨vs, h1, h2⟩ := q
    obtain ⟨ys, e1, rfl⟩ := Option.map_eq_some_iff.mp (show (lputD xs k x).map D.lst = some y' from e)
    cases k with
    | int i =>
      obtain ⟨j, e2, rfl⟩ := Option.map_eq_some_iff.mp (show (L2.ixN xs.length i).map (fun j => xs.set j x) = some ys from e1)
      cases rk
      exact ⟨.lst (vs.set j vx), fun z => z, fun Q hq => .inl ⟨a, vs, i, j, rfl, rfl, h1, by rw [← h2.length]; exact e2, hq⟩, fun l => ⟨_, upd_same, RDs.set (rx.le l) j (h2.le l)⟩⟩
    | _ => simp [lputD] at e1
  | dct ks vs =>
    obtain ⟨kk, us, h1, h2, h3, h4⟩ := q
    obtain ⟨⟨ks', vs'⟩, e1, rfl⟩ := Option.map_eq_some_iff.mp (show (dputD ks vs k x).map (fun r => D.dct r.1 r.2) = some y' from e)
    unfold dputD at e1
    split at e1
    · rename_i kk' k' hk hq
      rw [h2] at hk; cases hk
      split at e1
      · rename_i hz
        have hz' : (kk.zip us).length < sizeLine := by rw [List.length_zip, ← h3, Nat.min_self, ← keysD_len h2]; exact hz
        refine ⟨.dK (putK (kk.zip us) k' vx), fun z => z, fun Q hQ => .inr ⟨a, _, rfl, ?_, hQ⟩, fun l => ?_⟩
        · rw [keyD_v hq (.inl rk)]
          exact DPut.k h1 hz'
        · rw [putK_zip h3] at l ⊢
          split at e1
          · rename_i hc
            cases e1
            rw [if_pos hc] at l ⊢
            exact ⟨kk, _, upd_same, h2, by rw [List.length_zipWith]; omega, RDs.zipW (rx.le l) (h4.le l)⟩
          · rename_i hc
            cases e1
            rw [if_neg hc] at l ⊢
            exact ⟨_, _, upd_same, keysD_append h2 hq, by simp [h3], (h4.le l).append (.cons (rx.le l) .nil)⟩
      · cases e1
    · cases e1
  | _ => exact q.elim

/-- a cell is written -/
theorem SI.putc (q : SI K tb we w ρ σ h) {m : Nat} {k x : D} {vk vx vo : V} (ro : RD K w (.ref m) vo) (rk : RD K w k vk) (rx : RD K w x vx) (e : cputD h (.ref m) k x = some h') {R : Hp → Prop} (fin : ∀ w', SI K tb we w' ρ σ h' → Le w w' → R w'.H) : rSetA vo vk vx w.H R := by
  simp only [cputD] at e
  obtain ⟨cc, e1, e⟩ := Option.bind_eq_some_iff.mp e
  obtain ⟨y, e2, e⟩ := Option.bind_eq_some_iff.mp e
  obtain ⟨y', e3, e⟩ := Option.bind_eq_some_iff.mp e
  obtain ⟨c', e4, e⟩ := Option.map_eq_some_iff.mp e
  subst e
  obtain ⟨a, f1, f2⟩ := q.rel.cell m cc e1
  cases ro with
  | ref f3 =>
    rw [f1] at f3; cases f3
    obtain ⟨o, g1, g2, g3⟩ := putC (Cont.cell f2 e2) rk rx e3
    have l := le_put (o := o) q.rel (q.rel.nf a (List.mem_of_getElem? f1))
    have xx := ext_put (o := o) q.rel f1
    exact g2 R (fin (w.put a o) (q.step xx (q.rel.put f1 g1 ((g3 l).toCell e4))) l)
/-- .. one's own -/
theorem SI.puto (q : SI K tb we w ρ σ h) {i : Nat} {k x : D} {vk vx vo : V} {ρ' : Rho} (ho : σ[i]? = some (some vo)) (rk : RD K w k vk) (rx : RD K w x vx) (e : oputD ρ i k x = some ρ') {R : Hp → Prop} (fin : ∀ w', SI K tb we w' ρ' σ h → Le w w' → R w'.H) : rSetA vo vk vx w.H R := by
  unfold oputD at e
  obtain ⟨s, e1, e⟩ := Option.bind_eq_some_iff.mp e
  obtain ⟨y, e2, e⟩ := Option.bind_eq_some_iff.mp e
  obtain ⟨y', e3, e⟩ := Option.bind_eq_some_iff.mp e
  obtain ⟨s', e4, e⟩ := Option.map_eq_some_iff.mp e
  subst e
  obtain ⟨v, f1, f2⟩ := q.rs.at_ i s (lookS_at e1)
  rw [ho] at f1; cases f1
  obtain ⟨a, rfl, f3, f4⟩ := Cont.own f2 e2
  obtain ⟨o, g1, g2, g3⟩ := putC f3 rk rx e3
  have l := le_put (o := o) q.rel f4.2
  obtain ⟨z1, z2⟩ := (g3 l).toOwn (w := w.put a o) ⟨f4.1, f4.2⟩ e4
  obtain ⟨s2, _⟩ := q.mut (lookS_at e1) (ofOwn_is e2) ho z1 z2 f4 f3.some
  exact g2 R (fin (w.put a o) s2 l)
end
end PI

set_option Elab.async false
set_option linter.all false
set_option maxRecDepth 100000
set_option maxHeartbeats 4000000
set_option autoImplicit false
namespace PI
open PySem PySem.Spec PyProof.Rows L2
section
variable {C : Calls} {tb : List Addr} {n : Nat} {c : Ck} {X : Cx} {K : PySem.W.Frag} {we w w1 w' : Wd} {h h1 h' : PH} {ρ : Rho} {σ : L2.St} {Q : VK}

theorem store_at {i : Nat} {x : Str} (h : c.store i x = true) : c.N[i]? = some x ∧ (c.kind x = some .local ∨ (c.kind x = some .cell ∧ c.fs x = true)) := by
  unfold Ck.store at h
  simp only [Bool.and_eq_true, decide_eq_true_eq, Bool.or_eq_true] at h
  exact h
theorem Good.locs (g : Good C tb n c X) {i : Nat} {x : Str} (h : c.store i x = true) : L2.Loc X.env.scope x ∧ (X.fn x = true ∨ X.env.scope.names.lookup x = some .local) := by
  obtain ⟨_, h2⟩ := store_at h
  unfold L2.Loc
  rw [g.sc, g.fn]
  rcases h2 with h2 | ⟨h2, h3⟩
  · exact ⟨.inl h2, .inr h2⟩
  · exact ⟨.inr h2, .inl h3⟩
theorem s_par2 (g : Good C tb n c X) {i j : Nat} {a b : E} {x y : Str} {e f : Expr} {px py q1 q2 pos : Pos} {k1 k2 : Nat} (hi : c.N[i]? = some x) (hj : c.N[j]? = some y) (hx : c.loc x = true) (hy : c.loc y = true) (hij : i ≠ j) (hf : isFun c.sc = true) (hl : (px.line == py.line) = true) (hxy : (x == y) = false)
    (se : notStar e = true) (sf : notStar f = true) (ka : okE 0 c a e = true) (kb : okE 0 c b f = true) (c1 : (foldedForSure 8 e && foldedForSure 8 f) = false) (c2 : (constantsAlone 8 e && constantsAlone 8 f) = false) :
    PS X (.Assign [.Tuple [.Name x px, .Name y py] k1 q1] (.Tuple [e, f] k2 q2) pos) (Tst X.K tb we (ex C (.par2 i j a b))) := by
  have lx : X.env.scope.names.lookup x = some .local := by rw [g.sc]; exact of_decide_eq_true hx
  have ly : X.env.scope.names.lookup y = some .local := by rw [g.sc]; exact of_decide_eq_true hy
  have pa : PE X e (Tx X.K tb (ev C a)) := sE a c X g 0 e ka
  have pb : PE X f (Tx X.K tb (ev C b)) := sE b c X g 0 f kb
  refine (ps_par g.calm (by rw [g.hN]; exact g.nd) (by rw [g.hN]; exact hi) (by rw [g.hN]; exact hj) hij lx ly (pa_cons pa (pa_cons pb pa_nil (starEach_cons sf)) (starEach_cons se)) (ss_two (g.blkk hf) lx ly hl hxy se sf c1 c2) rfl).imp fun Dn σ H ⟨w, ρ, h, o, e, si, hv, q⟩ => ?_
  simp only [ex] at hv
  obtain ⟨⟨dx, h1⟩, e1, hv⟩ := Option.bind_eq_some_iff.mp hv
  obtain ⟨⟨dy, h2⟩, e2, hv⟩ := Option.map_eq_some_iff.mp hv
  cases hv
  refine ⟨w, ρ, h, dx, h1, e, si.rel, si.rs, e1, fun w1 v r1 rv ex1 => ⟨w1, ρ, h1, dy, h2, rfl, r1, si.rs.ext ex1 si.rel, e2, fun w2 u r2 ru ex2 => ⟨v, u, rfl, ?_⟩⟩⟩
  have s2 := si.step (ex1.trans ex2) r2
  exact q w2 _ ((s2.setd (rv.ext ex2 r1)).setd ru) ((ex1.trans ex2).le si.rel)
def Op.i : Op → Int → Int → Int
  | .sub => fun i j => i - j
  | _ => fun i j => i + j
theorem aug_ip {o : Op} {p : Operator} (h : augOk o p = true) : PIp X p (ipI o.i) ∧ ∀ i j, o.f (.int i) (.int j) = some (.int (o.i i j)) := by
  cases o <;> cases p <;> first
    | exact absurd h Bool.false_ne_true
    | exact ⟨ip_add, fun _ _ => rfl⟩
    | exact ⟨ip_sub, fun _ _ => rfl⟩
theorem s_aug (g : Good C tb n c X) {i : Nat} {o : Op} {m : E} {x : Str} {p : Operator} {e : Expr} {q pos : Pos} (hst : c.store i x = true) (ho : augOk o p = true) (hk : okE 0 c m e = true) : PS X (.AugAssign (.Name x q) p e pos) (Tst X.K tb we (ex C (.aug i o m))) := by
  have pe : PE X e (Tx X.K tb (ev C m)) := sE m c X g 0 e hk
  obtain ⟨ip, hf⟩ := aug_ip (X := X) ho
  refine (ps_aug (by rw [g.hN]; exact g.nd) (by rw [g.hN]; exact (store_at hst).1) (g.locs hst).1 pe ip (g.locs hst).2).imp fun Dn σ H ⟨w, ρ, h, ot, e, si, hv, q⟩ => ?_
  simp only [ex] at hv
  obtain ⟨dx, e1, hv⟩ := Option.bind_eq_some_iff.mp hv
  obtain ⟨⟨dy, h1⟩, e2, hv⟩ := Option.bind_eq_some_iff.mp hv
  dsimp only at hv
  split at hv
  · rename_i a b _
    rw [hf] at hv
    cases hv
    obtain ⟨v, h3, h4⟩ := si.rs.at_ i _ (lookS_at (varS_at e1))
    cases h4
    refine ⟨_, h3, w, ρ, h, _, h1, e, si.rel, si.rs, e2, fun w1 v r1 rv ex1 => ?_⟩
    cases rv
    exact ⟨a, b, rfl, rfl, q w1 _ ((si.step ex1 r1).setd (.int _)) (ex1.le si.rel)⟩
  · cases hv
theorem sub_ha {b : Expr} (h : notSlice b = true) {a : Expr} {env : Env} {pos : Pos} : ∀ v, assign (.Subscript a b pos) env v = (do
      let ov ← holding [v] (eval a env)
      let iv ← holding [v, ov] (eval b env)
      standAt pos
      holding [v, ov, iv] (setItem ov iv v)
      release [v, ov, iv] []) := by
  intro v
  cases b <;> first | exact absurd h Bool.false_ne_true | rfl
theorem aug_ha {b : Expr} (h : notSlice b = true) : ∀ ov iv new, augStore b ov iv new = (do holding [new, ov, iv] (setItem ov iv new); release [new, ov, iv] []; pure .next) := by
  intro ov iv new
  cases b <;> first | exact absurd h Bool.false_ne_true | rfl
theorem isCell_of {d y : D} (e : isCell h d = some y) : ∃ m cc, d = .ref m ∧ h[m]? = some cc ∧ ofCell cc = some y := by
  cases d with
  | ref m =>
    unfold isCell at e
    dsimp only at e
    split at e
    · rename_i xs hx; cases e; exact ⟨m, _, rfl, hx, rfl⟩
    · rename_i ks vs hx; cases e; exact ⟨m, _, rfl, hx, rfl⟩
    · cases e
  | _ => simp [isCell] at e
theorem s_augI (g : Good C tb n c X) {o k m : E} {p : Op} {a b e : Expr} {pp : Operator} {q pos : Pos} (ho : augOk p pp = true) (ka : okE 0 c o a = true) (kb : okE 0 c k b = true) (hs : notSlice b = true) (km : okE 0 c m e = true) :
    PS X (.AugAssign (.Subscript a b q) pp e pos) (Tst X.K tb we (ex C (.augI o k p m))) := by
  have pa : PE X a (Tx X.K tb (ev C o)) := sE o c X g 0 a ka
  have pb : PE X b (Tx X.K tb (ev C k)) := sE k c X g 0 b kb
  have pe : PE X e (Tx X.K tb (ev C m)) := sE m c X g 0 e km
  obtain ⟨ip, hf⟩ := aug_ip (X := X) ho
  refine (ps_augS pa pb (get_any (hu_of g.room)) pe ip (set_any (hu_of g.room)) (aug_ha hs)).imp fun Dn σ H ⟨w, ρ, h, ot, e, si, hv, q⟩ => ?_
  simp only [ex] at hv
  obtain ⟨⟨dx, h1⟩, e1, hv⟩ := Option.bind_eq_some_iff.mp hv
  obtain ⟨⟨dk, h2⟩, e2, hv⟩ := Option.bind_eq_some_iff.mp hv
  obtain ⟨y, e3, hv⟩ := Option.bind_eq_some_iff.mp hv
  obtain ⟨dv, e4, hv⟩ := Option.bind_eq_some_iff.mp hv
  obtain ⟨⟨de, h3⟩, e5, hv⟩ := Option.bind_eq_some_iff.mp hv
  obtain ⟨mm, cc, ey, ec, eo⟩ := isCell_of e3
  dsimp only at ey ec
  subst ey
  refine ⟨w, ρ, h, _, h1, e, si.rel, si.rs, e1, fun w1 vo r1 ro ex1 => ⟨w1, ρ, h1, dk, h2, rfl, r1, si.rs.ext ex1 si.rel, e2, fun w2 vk r2 rk ex2 => ?_⟩⟩
  have s2 := si.step (ex1.trans ex2) r2
  obtain ⟨ad, f1, f2⟩ := r2.cell mm cc ec
  have ro2 := ro.ext ex2 r1
  have ro2' := ro2
  cases ro2 with
  | ref f3 =>
    rw [f1] at f3; cases f3
    obtain ⟨vv, g1, g2⟩ := idxC (Cont.cell f2 eo) rk e4
    refine g2 _ ⟨w2, ρ, h2, de, h3, rfl, r2, s2.rs, e5, fun w3 ve r3 re ex3 => ?_⟩
    dsimp only at hv
    split at hv
    · rename_i i j _
      rw [hf, Option.bind_some] at hv
      obtain ⟨h4, e6, hv⟩ := Option.map_eq_some_iff.mp hv
      cases hv
      have s3 := s2.step ex3 r3
      cases g1
      cases re
      refine ⟨i, j, rfl, rfl, ?_⟩
      exact s3.putc (ro2'.ext ex3 r2) (rk.ext ex3 r2) (.int _) e6 fun w4 s4 l4 => q w4 σ s4 ((((ex1.trans ex2).trans ex3).le si.rel).trans l4)
    · cases hv
theorem s_augO (g : Good C tb n c X) {i : Nat} {k m : E} {p : Op} {x : Str} {b e : Expr} {pp : Operator} {q pn pos : Pos} (hx : c.var i x = true) (ho : augOk p pp = true) (kb : okE 0 c k b = true) (hs : notSlice b = true) (km : okE 0 c m e = true) :
    PS X (.AugAssign (.Subscript (.Name x pn) b q) pp e pos) (Tst X.K tb we (ex C (.augO i k p m))) := by
  have pb : PE X b (Tx X.K tb (ev C k)) := sE k c X g 0 b kb
  have pe : PE X e (Tx X.K tb (ev C m)) := sE m c X g 0 e km
  obtain ⟨ip, hf⟩ := aug_ip (X := X) ho
  refine (ps_augS (g.pv hx) pb (get_any (hu_of g.room)) pe ip (set_any (hu_of g.room)) (aug_ha hs)).imp fun Dn σ H ⟨w, ρ, h, ot, e, si, hv, q⟩ => ?_
  subst e
  simp only [ex] at hv
  obtain ⟨⟨dk, h2⟩, e2, hv⟩ := Option.bind_eq_some_iff.mp hv
  obtain ⟨y, e3, hv⟩ := Option.bind_eq_some_iff.mp hv
  obtain ⟨dv, e4, hv⟩ := Option.bind_eq_some_iff.mp hv
  obtain ⟨⟨de, h3⟩, e5, hv⟩ := Option.bind_eq_some_iff.mp hv
  obtain ⟨sl, e6, e7⟩ := Option.bind_eq_some_iff.mp e3
  obtain ⟨vo, z1, z2⟩ := si.rs.at_ i sl (lookS_at e6)
  refine ⟨vo, z1, w, ρ, h, dk, h2, rfl, si.rel, si.rs, e2, fun w2 vk r2 rk ex2 => ?_⟩
  have s2 := si.step ex2 r2
  obtain ⟨ad, rfl, f3, f4⟩ := Cont.own (z2.ext ex2 si.rel) e7
  obtain ⟨vv, g1, g2⟩ := idxC f3 rk e4
  refine g2 _ ⟨w2, ρ, h2, de, h3, rfl, r2, s2.rs, e5, fun w3 ve r3 re ex3 => ?_⟩
  dsimp only at hv
  split at hv
  · rename_i i j _
    rw [hf, Option.bind_some] at hv
    obtain ⟨ρ', e8, hv⟩ := Option.map_eq_some_iff.mp hv
    cases hv
    have s3 := s2.step ex3 r3
    cases g1
    cases re
    refine ⟨i, j, rfl, rfl, ?_⟩
    exact s3.puto z1 (rk.ext ex3 r2) (.int _) e8 fun w4 s4 l4 => q w4 σ s4 (((ex2.trans ex3).le si.rel).trans l4)
  · cases hv
theorem ae_sub {a b : Expr} {p : Pos} {env : Env} : (assignEach [.Subscript a b p] env).map (·.2) = [assign (.Subscript a b p) env] := rfl
theorem ss_sub {a b e : Expr} {p : Pos} {env : Env} : swappedStores [.Subscript a b p] e env = pure none := by cases e <;> rfl
theorem s_putI (g : Good C tb n c X) {o k m : E} {a b e : Expr} {q pos : Pos} (ka : okE 0 c o a = true) (kb : okE 0 c k b = true) (hs : notSlice b = true) (km : okE 0 c m e = true) (hc : isComp e = false) :
    PS X (.Assign [.Subscript a b q] e pos) (Tst X.K tb we (ex C (.putI o k m))) := by
  have pa : PE X a (Tx X.K tb (ev C o)) := sE o c X g 0 a ka
  have pb : PE X b (Tx X.K tb (ev C k)) := sE k c X g 0 b kb
  have pe : PE X e (Tx X.K tb (ev C m)) := sE m c X g 0 e km
  refine (ps_asg pe (pg_sub pa pb (set_any (hu_of g.room)) (sub_ha hs)) (sws_plain hc) ss_sub ae_sub).imp fun Dn σ H ⟨w, ρ, h, ot, e, si, hv, q⟩ => ?_
  simp only [ex] at hv
  obtain ⟨⟨dx, h1⟩, e1, hv⟩ := Option.bind_eq_some_iff.mp hv
  obtain ⟨⟨dk, h2⟩, e2, hv⟩ := Option.bind_eq_some_iff.mp hv
  obtain ⟨⟨dv, h3⟩, e3, hv⟩ := Option.bind_eq_some_iff.mp hv
  obtain ⟨h4, e4, hv⟩ := Option.map_eq_some_iff.mp hv
  cases hv
  refine ⟨w, ρ, h, _, h1, e, si.rel, si.rs, e1, fun w1 vx r1 rx ex1 => ⟨w1, ρ, h1, dk, h2, rfl, r1, si.rs.ext ex1 si.rel, e2, fun w2 vo r2 ro ex2 => ⟨w2, ρ, h2, dv, h3, rfl, r2, (si.step (ex1.trans ex2) r2).rs, e3, fun w3 vk r3 rk ex3 => ?_⟩⟩⟩
  have s3 := si.step ((ex1.trans ex2).trans ex3) r3
  cases dk with
  | ref mm => exact s3.putc (ro.ext ex3 r2) rk ((rx.ext ex2 r1).ext ex3 r2) e4 fun w4 s4 l4 => q w4 σ s4 ((((ex1.trans ex2).trans ex3).le si.rel).trans l4)
  | _ => simp [cputD] at e4
theorem s_putO (g : Good C tb n c X) {i : Nat} {k m : E} {x : Str} {b e : Expr} {q pn pos : Pos} (hx : c.var i x = true) (kb : okE 0 c k b = true) (hs : notSlice b = true) (km : okE 0 c m e = true) (hc : isComp e = false) :
    PS X (.Assign [.Subscript (.Name x pn) b q] e pos) (Tst X.K tb we (ex C (.putO i k m))) := by
  have pb : PE X b (Tx X.K tb (ev C k)) := sE k c X g 0 b kb
  have pe : PE X e (Tx X.K tb (ev C m)) := sE m c X g 0 e km
  refine (ps_asg pe (pg_sub (g.pv hx) pb (set_any (hu_of g.room)) (sub_ha hs)) (sws_plain hc) ss_sub ae_sub).imp fun Dn σ H ⟨w, ρ, h, ot, e, si, hv, q⟩ => ?_
  simp only [ex] at hv
  obtain ⟨⟨dx, h1⟩, e1, hv⟩ := Option.bind_eq_some_iff.mp hv
  obtain ⟨⟨dk, h2⟩, e2, hv⟩ := Option.bind_eq_some_iff.mp hv
  obtain ⟨ρ', e3, hv⟩ := Option.map_eq_some_iff.mp hv
  cases hv
  have e3' := e3
  unfold oputD at e3'
  obtain ⟨sl, e6, _⟩ := Option.bind_eq_some_iff.mp e3'
  obtain ⟨vo, z1, z2⟩ := si.rs.at_ i sl (lookS_at e6)
  refine ⟨w, ρ, h, _, h1, e, si.rel, si.rs, e1, fun w1 vx r1 rx ex1 => ⟨vo, z1, w1, ρ, h1, dk, h2, rfl, r1, si.rs.ext ex1 si.rel, e2, fun w2 vk r2 rk ex2 => ?_⟩⟩
  have s2 := si.step (ex1.trans ex2) r2
  exact s2.puto z1 rk (rx.ext ex2 r1) e3 fun w4 s4 l4 => q w4 σ s4 (((ex1.trans ex2).le si.rel).trans l4)
theorem ab_name {o : Expr} {f : Str} {env : Env} {s : Sem Value} (h : notCall o = true) : attributeBase o f env s = s := by
  cases o <;> first | rfl | exact absurd h Bool.false_ne_true
theorem few1 {e : Expr} {env : Env} {cp : Pos} (h : notStar e = true) : ((backTo cp (starEach [e] env)).all (fun x => !x.1) && (backToKw cp (keywordEach [] env)).all (fun x => x.1.isSome)
      && decide (([e] : List Expr).length + ([] : List Keyword).length + (if ([] : List Keyword).isEmpty then 0 else 1) < 30)) = true := by
  rw [starEach_cons h]; rfl
theorem s_app (g : Good C tb n c X) {i : Nat} {m : E} {x : Str} {e : Expr} {pn ap cp pos : Pos} (hx : c.var i x = true) (hl : (ap.endLine == cp.line) = true) (km : okE 0 c m e = true) (se : notStar e = true) :
    PS X (.Expr (.Call (.Attribute (.Name x pn) ("append" : Str) ap) [e] [] cp) pos) (Tst X.K tb we (ex C (.app i m))) := by
  have pe : PE X e (Tx X.K tb (ev C m)) := sE m c X g 0 e km
  refine (ps_expr (pe_bm PySem.F.plainAttrs_list PySem.F.slot_list_append PySem.F.type_list_append mt_append (g.pv hx) (pa_cons pe pa_nil (starEach_cons se)) rfl (few1 se) hl (starEach_cons se) rfl) rfl).imp fun Dn σ H ⟨w, ρ, h, ot, e, si, hv, q⟩ => ?_
  subst e
  simp only [ex] at hv
  obtain ⟨⟨dx, h1⟩, e1, hv⟩ := Option.bind_eq_some_iff.mp hv
  dsimp only at hv
  split at hv
  · rename_i xs hlk
    split at hv
    · rename_i hz
      cases hv
      obtain ⟨v, f1, a, vs, rfl, f3, f4, f5⟩ := si.rs.at_ i _ (lookS_at hlk)
      refine ⟨_, f1, .inl ⟨rfl, _, SqL.of f3⟩, w, ρ, h, _, _, rfl, si.rel, si.rs, e1, fun w1 v r1 rv ex1 => ?_⟩
      have s1 := si.step ex1 r1
      have g3 : w1.H a = some (.lst vs) := ex1.keep a _ f3 (fun z => z) f5.1
      have g4 := f4.ext ex1 si.rel
      have g5 := f5.ext ex1 (by rw [f3]; simp)
      have l := le_put (o := HO.lst (vs ++ [v])) r1 g5.2
      obtain ⟨s2, _⟩ := s1.mut (s := .own (xs ++ [_])) (lookS_at hlk) rfl f1 ⟨a, vs ++ [v], rfl, upd_same, (g4.le l).append (.cons (rv.le l) .nil), g5.1, g5.2⟩ rfl g5 ⟨_, g3, fun z => z⟩
      exact ⟨a, vs, v, rfl, rfl, g3, by rw [← g4.length]; exact hz, q _ σ s2 ((ex1.le si.rel).trans l)⟩
    · cases hv
  · cases hv
theorem s_appC (g : Good C tb n c X) {o m : E} {a e : Expr} {ap cp pos : Pos} (ka : okE 0 c o a = true) (hc : notCall a = true) (hl : (ap.endLine == cp.line) = true) (km : okE 0 c m e = true) (se : notStar e = true) :
    PS X (.Expr (.Call (.Attribute a ("append" : Str) ap) [e] [] cp) pos) (Tst X.K tb we (ex C (.appC o m))) := by
  have pa : PE X a (Tx X.K tb (ev C o)) := sE o c X g 0 a ka
  have pe : PE X e (Tx X.K tb (ev C m)) := sE m c X g 0 e km
  refine (ps_expr (pe_bm PySem.F.plainAttrs_list PySem.F.slot_list_append PySem.F.type_list_append mt_append pa (pa_cons pe pa_nil (starEach_cons se)) (ab_name hc) (few1 se) hl (starEach_cons se) rfl) rfl).imp fun Dn σ H ⟨w, ρ, h, ot, e, si, hv, q⟩ => ?_
  subst e
  simp only [ex] at hv
  obtain ⟨⟨dx, h1⟩, e1, hv⟩ := Option.bind_eq_some_iff.mp hv
  obtain ⟨⟨dy, h2⟩, e2, hv⟩ := Option.bind_eq_some_iff.mp hv
  dsimp only at hv
  cases dx with
  | ref mm =>
    dsimp only at hv
    split at hv
    · rename_i ys xs c1 c2
      split at hv
      · rename_i hz
        cases hv
        refine ⟨w, ρ, h, _, _, rfl, si.rel, si.rs, e1, fun w1 v r1 rv ex1 => ?_⟩
        obtain ⟨b, f1, us, f2, _⟩ := r1.cell mm _ c1
        have rv' := rv
        cases rv with
        | ref f3 =>
          rw [f1] at f3; cases f3
          refine ⟨.inl ⟨rfl, _, SqL.of f2⟩, w1, ρ, _, _, _, rfl, r1, si.rs.ext ex1 si.rel, e2, fun w2 u r2 ru ex2 => ?_⟩
          obtain ⟨b', g1, vs, g2, g3⟩ := r2.cell mm _ c2
          have hb : b' = b := by
            have := (ex2.le r1).ix f1
            rw [g1] at this; exact Option.some.inj this
          subst hb
          have s2 := si.step (ex1.trans ex2) r2
          have l := le_put (o := HO.lst (vs ++ [u])) r2 (r2.nf b' (List.mem_of_getElem? g1))
          have xx := ext_put (o := HO.lst (vs ++ [u])) r2 g1
          exact ⟨b', vs, u, rfl, rfl, g2, by rw [← g3.length]; exact hz, q _ σ (s2.step xx (r2.put g1 (fun z => z) ⟨_, upd_same, (g3.le l).append (.cons (ru.le l) .nil)⟩)) (((ex1.trans ex2).le si.rel).trans l)⟩
      · cases hv
    · cases hv
  | _ => cases hv
theorem s_expr (g : Good C tb n c X) {m : E} {e : Expr} {pos : Pos} (km : okE 0 c m e = true) (hc : isComp e = false) : PS X (.Expr e pos) (Tst X.K tb we (ex C (.expr m))) := by
  have pe : PE X e (Tx X.K tb (ev C m)) := sE m c X g 0 e km
  refine (ps_expr pe (swp_plain hc)).imp fun Dn σ H ⟨w, ρ, h, ot, e, si, hv, q⟩ => ?_
  simp only [ex] at hv
  obtain ⟨⟨dx, h1⟩, e1, hv⟩ := Option.map_eq_some_iff.mp hv
  cases hv
  exact ⟨w, ρ, h, _, _, e, si.rel, si.rs, e1, fun w1 v r1 rv ex1 => q w1 σ (si.step ex1 r1) (ex1.le si.rel)⟩
theorem s_ret (g : Good C tb n c X) {m : E} {e : Expr} {pos : Pos} (km : okE 0 c m e = true) : PS X (.Return (some e) pos) (Tst X.K tb we (ex C (.ret m))) := by
  have pe : PE X e (Tx X.K tb (ev C m)) := sE m c X g 0 e km
  refine (ps_ret pe).imp fun Dn σ H ⟨w, ρ, h, ot, e, si, hv, q⟩ => ?_
  simp only [ex] at hv
  obtain ⟨⟨dx, h1⟩, e1, hv⟩ := Option.map_eq_some_iff.mp hv
  cases hv
  exact ⟨w, ρ, h, _, _, e, si.rel, si.rs, e1, fun w1 v r1 rv ex1 => q w1 v r1 rv (si.ext.trans ex1)⟩
theorem s_retN {pos : Pos} : PS X (.Return none pos) (Tst X.K tb we (ex C .retN)) := ps_retN.imp fun Dn σ H ⟨w, ρ, h, ot, e, si, hv, q⟩ => by
  subst e
  simp only [ex, Option.some.injEq] at hv
  cases hv
  exact q w .non si.rel .non si.ext
theorem s_brk {pos : Pos} : PS X (.Break pos) (Tst X.K tb we (ex C .brk)) := ps_break.imp fun Dn σ H ⟨w, ρ, h, ot, e, si, hv, q⟩ => by
  subst e
  simp only [ex, Option.some.injEq] at hv
  cases hv
  exact q w σ si (Le.refl w)
theorem s_cont {pos : Pos} : PS X (.Continue pos) (Tst X.K tb we (ex C .cont)) := ps_continue.imp fun Dn σ H ⟨w, ρ, h, ot, e, si, hv, q⟩ => by
  subst e
  simp only [ex, Option.some.injEq] at hv
  cases hv
  exact q w σ si (Le.refl w)
theorem s_pass {pos : Pos} : PS X (.Pass pos) (Tst X.K tb we (ex C .pass)) := ps_pass.imp fun Dn σ H ⟨w, ρ, h, ot, e, si, hv, q⟩ => by
  subst e
  simp only [ex, Option.some.injEq] at hv
  cases hv
  exact q w σ si (Le.refl w)
theorem s_iff (g : Good C tb n c X) {t : E} {a b : List S} {e : Expr} {xs ys : List Stmt} {pos : Pos} (kt : okE 2 c t e = true) (ha : PSs X xs (Tst X.K tb we (exs C a))) (hb : PSs X ys (Tst X.K tb we (exs C b))) : PS X (.If e xs ys pos) (Tst X.K tb we (ex C (.iff t a b))) := by
  have pt : PT X e (Tt X.K tb (evT C t)) := sE t c X g 2 e kt
  refine (ps_if pt ha hb).imp fun Dn σ H ⟨w, ρ, h, ot, e, si, hv, q⟩ => ?_
  simp only [ex] at hv
  obtain ⟨⟨k, h1⟩, e1, hv⟩ := Option.bind_eq_some_iff.mp hv
  refine ⟨w, ρ, h, _, _, e, si.rel, si.rs, e1, fun w1 r1 ex1 => ?_⟩
  have s1 := si.step ex1 r1
  cases k with
  | true =>
    simp only [if_true] at hv ⊢
    exact ⟨w1, ρ, _, ot, rfl, s1, hv, q.aft (ex1.le si.rel)⟩
  | false =>
    simp only [Bool.false_eq_true, if_false] at hv ⊢
    exact ⟨w1, ρ, _, ot, rfl, s1, hv, q.aft (ex1.le si.rel)⟩
theorem whileS_spec {cf : Rho → PH → R1 Bool} {bf : Rho → PH → Option Out} {o : Out} (e : whileS cf bf ρ h = some o) : ∃ m, whileO cf bf m ρ h = some o := by
  unfold whileS at e
  split at e
  · rename_i x
    cases e
    exact ⟨Classical.choose x, Classical.choose_spec (Classical.choose_spec x)⟩
  · cases e
theorem s_whil (g : Good C tb n c X) {t : E} {a : List S} {e : Expr} {xs : List Stmt} {pos : Pos} (kt : okE 2 c t e = true) (ha : PSs X xs (Tst X.K tb we (exs C a))) : PS X (.While e xs [] pos) (Tst X.K tb we (ex C (.whil t a))) := by
  have pt : PT X e (Tt X.K tb (evT C t)) := sE t c X g 2 e kt
  refine (ps_while (by rw [g.xe]; exact PassesOwn.never) pt ha).imp fun Dn σ H ⟨w0, ρ0, h0, ot, e0, si0, hv, q⟩ => ?_
  simp only [ex] at hv
  obtain ⟨m0, hv⟩ := whileS_spec hv
  refine ⟨fun m σ H => ∃ w ρ h, w.H = H ∧ SI X.K tb we w ρ σ h ∧ Le w0 w ∧ whileO (evT C t) (exs C a) m ρ h = some ot, ⟨m0, w0, ρ0, h0, e0, si0, Le.refl w0, hv⟩, ?_⟩
  rintro m σ H ⟨w, ρ, h, rfl, si, le, hv⟩
  cases m with
  | zero => cases hv
  | succ m =>
    unfold whileO at hv
    obtain ⟨⟨k, h1⟩, e1, hv⟩ := Option.bind_eq_some_iff.mp hv
    refine ⟨w, ρ, h, k, h1, rfl, si.rel, si.rs, e1, fun w1 r1 ex1 => ?_⟩
    have s1 := si.step ex1 r1
    have l1 := le.trans (ex1.le si.rel)
    cases k with
    | false =>
      simp only [Bool.false_eq_true, if_false] at hv ⊢
      cases hv
      exact q w1 σ s1 l1
    | true =>
      simp only [if_true] at hv ⊢
      obtain ⟨o1, e2, hv⟩ := Option.bind_eq_some_iff.mp hv
      refine ⟨fun σ' H' => ∃ w ρ h, w.H = H' ∧ SI X.K tb we w ρ σ' h ∧ Le w0 w ∧ whileO (evT C t) (exs C a) m ρ h = some ot, fun σ' H' hx => ⟨m, Nat.lt_succ_self m, hx⟩, w1, ρ, _, o1, rfl, s1, e2, ?_⟩
      cases o1 with
      | nx ρ' h' => exact fun w2 σ2 s2 l2 => ⟨w2, ρ', h', rfl, s2, l1.trans l2, hv⟩
      | ct ρ' h' => exact fun w2 σ2 s2 l2 => ⟨w2, ρ', h', rfl, s2, l1.trans l2, hv⟩
      | bk ρ' h' => cases hv; exact fun w2 σ2 s2 l2 => q w2 σ2 s2 (l1.trans l2)
      | rt d h' => cases hv; exact q
theorem s_forr (g : Good C tb n c X) {p : P} {it : It} {a : List S} {tg e : Expr} {xs : List Stmt} {pos : Pos} (ki : okI 0 c it tg e = true) (hs : notSet e = true) (kp : okP c p tg = true) (ha : PSs X xs (Tst X.K tb we (exs C a))) : PS X (.For tg e xs [] pos) (Tst X.K tb we (ex C (.forr p it a))) := by
  have pi := (sI (C := C) (tb := tb) (n := n) it).i0 c X g tg e ki
  refine (ps_for (by rw [g.xe]; exact PassesOwn.never) g.calm pi (sP (tb := tb) g p tg kp) ha (set_plain hs)).imp fun Dn σ H ⟨w0, ρ0, h0, ot, e0, si0, hv, q⟩ => ?_
  simp only [ex] at hv
  obtain ⟨⟨ds, h1⟩, e1, hv⟩ := Option.bind_eq_some_iff.mp hv
  refine ⟨w0, ρ0, h0, ds, h1, e0, si0.rel, si0.rs, e1, fun w1 J r1 ex1 W => ?_⟩
  have l01 := ex1.le si0.rel
  refine ⟨fun i m σ H => m = ds.length - i ∧ i ≤ ds.length ∧ ∃ w ρ h, w.H = H ∧ SI X.K tb we w ρ σ h ∧ Le w1 w ∧ forS (bindP p) (exs C a) (ds.drop i) ρ h = some ot, ⟨_, rfl, Nat.zero_le _, w1, ρ0, h1, rfl, si0.step ex1 r1, Le.refl w1, hv⟩, ?_⟩
  rintro i m σ H ⟨rfl, hi, w, ρ, h, rfl, si, le, hv⟩
  by_cases hlt : i < ds.length
  · refine .inr ⟨W.go i w h le si.rel hlt, fun σ' H' => ∃ w ρ h, w.H = H' ∧ SI X.K tb we w ρ σ' h ∧ Le w1 w ∧ forS (bindP p) (exs C a) (ds.drop (i + 1)) ρ h = some ot, fun σ' H' hx => ⟨ds.length - (i + 1), by omega, rfl, hlt, hx⟩, fun x H' hy => ?_⟩
    obtain ⟨w2, d, f1, rfl, r2, rd, ex2⟩ := W.yld i w h x H' hlt le si.rel hy
    have hdr : ds.drop i = d :: ds.drop (i + 1) := by
      rw [List.drop_eq_getElem_cons hlt]
      rw [List.getElem?_eq_getElem hlt] at f1
      rw [Option.some.inj f1]
    rw [hdr] at hv
    unfold forS at hv
    obtain ⟨ρ', b1, hv⟩ := Option.bind_eq_some_iff.mp hv
    obtain ⟨o1, b2, hv⟩ := Option.bind_eq_some_iff.mp hv
    have s2 := si.step ex2 r2
    have l12 := le.trans (ex2.le si.rel)
    refine ⟨w2, ρ, h, d, ρ', rfl, r2, s2.rs, rd, b1, fun σ2 rs2 ag => ⟨w2, ρ', h, o1, rfl, s2.bound b1 rs2 ag, b2, ?_⟩⟩
    cases o1 with
    | nx ρ' h' => exact fun w3 σ3 s3 l3 => ⟨w3, ρ', h', rfl, s3, l12.trans l3, hv⟩
    | ct ρ' h' => exact fun w3 σ3 s3 l3 => ⟨w3, ρ', h', rfl, s3, l12.trans l3, hv⟩
    | bk ρ' h' => cases hv; exact fun w3 σ3 s3 l3 => q w3 σ3 s3 (l01.trans (l12.trans l3))
    | rt d h' => cases hv; exact q
  · have e : i = ds.length := by omega
    subst e
    rw [List.drop_length] at hv
    unfold forS at hv
    cases hv
    exact .inl ⟨W.stop _ w _ le si.rel (Nat.le_refl _), q w σ si (l01.trans le)⟩
theorem ss_frz {i : Nat} {r : List S} {sts : List Stmt} (hr : PSs X sts (Tst X.K tb we (exs C r))) : PSs X sts (Tst X.K tb we (exs C (.frz i :: r))) := hr.imp fun Dn σ H ⟨w, ρ, h, ot, e, si, hv, q⟩ => by
  subst e
  simp only [exs] at hv
  obtain ⟨o1, e1, hv⟩ := Option.bind_eq_some_iff.mp hv
  simp only [ex] at e1
  split at e1
  · rename_i xs hl
    cases e1
    obtain ⟨v, f1, a, vs, rfl, f2, f3, f4⟩ := si.rs.at_ i _ (lookS_at hl)
    exact ⟨w.fz a, _, h, ot, rfl, si.fz (lookS_at hl) rfl f1 f4 f2 (fun z => z) (.lst (Or.inr rfl) f2 (f3.le le_fz)), hv, q.aft le_fz⟩
  · rename_i ks vs hl
    cases e1
    obtain ⟨v, f1, a, kk, us, rfl, f2, f3, f4, f5, f6⟩ := si.rs.at_ i _ (lookS_at hl)
    exact ⟨w.fz a, _, h, ot, rfl, si.fz (lookS_at hl) rfl f1 f6 f2 (fun z => z) (.dctK (Or.inr rfl) f2 f3 f4 (f5.le le_fz)), hv, q.aft le_fz⟩
  · cases e1
theorem ss_nil : PSs X [] (Tst X.K tb we (exs C [])) := pss_nil.imp fun Dn σ H ⟨w, ρ, h, ot, e, si, hv, q⟩ => by
  subst e
  simp only [exs, Option.some.injEq] at hv
  cases hv
  exact q w σ si (Le.refl w)
theorem ss_cons {s : S} {r : List S} {st : Stmt} {sts : List Stmt} (h1 : PS X st (Tst X.K tb we (ex C s))) (h2 : PSs X sts (Tst X.K tb we (exs C r))) : PSs X (st :: sts) (Tst X.K tb we (exs C (s :: r))) := (pss_cons h1 h2).imp fun Dn σ H ⟨w, ρ, h, ot, e, si, hv, q⟩ => by
  simp only [exs] at hv
  obtain ⟨o1, e1, hv⟩ := Option.bind_eq_some_iff.mp hv
  refine ⟨w, ρ, h, o1, e, si, e1, ?_⟩
  cases o1 with
  | nx ρ' h' => exact fun w1 σ1 s1 l1 => ⟨w1, ρ', h', ot, rfl, s1, hv, q.aft l1⟩
  | bk ρ' h' => cases hv; exact q
  | ct ρ' h' => cases hv; exact q
  | rt d h' => cases hv; exact q
end
end PI

set_option Elab.async false
set_option linter.all false
set_option maxRecDepth 100000
set_option maxHeartbeats 4000000
set_option autoImplicit false
namespace PI
open PySem PySem.Spec PyProof.Rows L2
section
variable {c : Ck} {i j : Nat} {m o k t a b : E} {l : L} {p : P} {op : Op} {st : Stmt} {it : It} {r r2 : List S}
theorem inv_set (h : okS c (.set i m) st = true) : ∃ x p e pos, st = .Assign [.Name x p] e pos ∧ (c.store i x && okE 0 c m e && (!isComp e || (isLC e && isFun c.sc))) = true := by
  cases st with
  | Assign ts e pos =>
    rcases ts with _ | ⟨t, _ | ⟨t2, ts⟩⟩
    · exact absurd h Bool.false_ne_true
    · cases t <;> first | exact absurd h Bool.false_ne_true | exact ⟨_, _, _, _, rfl, h⟩
    · cases t <;> exact absurd h Bool.false_ne_true
  | _ => exact absurd h Bool.false_ne_true
theorem inv_setL (h : okS c (.setL i l) st = true) : ∃ x p e pos, st = .Assign [.Name x p] e pos ∧ (c.store i x && okL c l e && (!isComp e || (isLC e && isFun c.sc))) = true := by
  cases st with
  | Assign ts e pos =>
    rcases ts with _ | ⟨t, _ | ⟨t2, ts⟩⟩
    · exact absurd h Bool.false_ne_true
    · cases t <;> first | exact absurd h Bool.false_ne_true | exact ⟨_, _, _, _, rfl, h⟩
    · cases t <;> exact absurd h Bool.false_ne_true
  | _ => exact absurd h Bool.false_ne_true
theorem inv_setD (h : okS c (.setD i) st = true) : ∃ x p q pos, st = .Assign [.Name x p] (.Dict [] [] q) pos ∧ c.store i x = true := by
  cases st with
  | Assign ts e pos =>
    rcases ts with _ | ⟨t, _ | ⟨t2, ts⟩⟩
    · exact absurd h Bool.false_ne_true
    · cases t with
      | Name x p =>
        cases e with
        | Dict ks vs q =>
          cases ks with
          | nil =>
            cases vs with
            | nil => exact ⟨_, _, _, _, rfl, h⟩
            | cons _ _ => exact absurd h Bool.false_ne_true
          | cons _ _ => exact absurd h Bool.false_ne_true
        | _ => exact absurd h Bool.false_ne_true
      | _ => exact absurd h Bool.false_ne_true
    · cases t <;> exact absurd h Bool.false_ne_true
  | _ => exact absurd h Bool.false_ne_true
theorem inv_pat (h : okS c (.pat p m) st = true) : ∃ ts k q e pos, st = .Assign [.Tuple ts k q] e pos ∧ (okP c p (.Tuple ts k q) && okE 0 c m e && !isComp e && (!isTup e || !(ts.length == 2 || ts.length == 3))) = true := by
  cases st with
  | Assign ts e pos =>
    rcases ts with _ | ⟨t, _ | ⟨t2, ts⟩⟩
    · exact absurd h Bool.false_ne_true
    · cases t <;> first | exact absurd h Bool.false_ne_true | exact ⟨_, _, _, _, _, rfl, h⟩
    · cases t <;> exact absurd h Bool.false_ne_true
  | _ => exact absurd h Bool.false_ne_true
theorem inv_par2 (h : okS c (.par2 i j a b) st = true) : ∃ x px y py k1 q1 e f k2 q2 pos, st = .Assign [.Tuple [.Name x px, .Name y py] k1 q1] (.Tuple [e, f] k2 q2) pos ∧
    (decide (c.N[i]? = some x) && decide (c.N[j]? = some y) && c.loc x && c.loc y && decide (i ≠ j) && isFun c.sc && px.line == py.line && !(x == y) && notStar e && notStar f && okE 0 c a e && okE 0 c b f && !(foldedForSure 8 e && foldedForSure 8 f) && !(constantsAlone 8 e && constantsAlone 8 f)) = true := by
  cases st with
  | Assign ts e pos =>
    rcases ts with _ | ⟨t, _ | ⟨t2, ts⟩⟩
    · exact absurd h Bool.false_ne_true
    · cases t with
      | Tuple es k q =>
        rcases es with _ | ⟨e1, _ | ⟨e2, _ | ⟨e3, es⟩⟩⟩
        · exact absurd h Bool.false_ne_true
        · cases e1 <;> exact absurd h Bool.false_ne_true
        · cases e1 with
          | Name x px =>
            cases e2 with
            | Name y py =>
              cases e with
              | Tuple vs k2 q2 =>
                rcases vs with _ | ⟨v1, _ | ⟨v2, _ | ⟨v3, vs⟩⟩⟩
                · exact absurd h Bool.false_ne_true
                · exact absurd h Bool.false_ne_true
                · exact ⟨_, _, _, _, _, _, _, _, _, _, _, rfl, h⟩
                · exact absurd h Bool.false_ne_true
              | _ => exact absurd h Bool.false_ne_true
            | _ => exact absurd h Bool.false_ne_true
          | _ => exact absurd h Bool.false_ne_true
        · cases e1 with
          | Name _ _ => cases e2 <;> exact absurd h Bool.false_ne_true
          | _ => exact absurd h Bool.false_ne_true
      | _ => exact absurd h Bool.false_ne_true
    · cases t with
      | Tuple es k q =>
        rcases es with _ | ⟨e1, _ | ⟨e2, _ | ⟨e3, es⟩⟩⟩
        · exact absurd h Bool.false_ne_true
        · cases e1 <;> exact absurd h Bool.false_ne_true
        · cases e1 with
          | Name _ _ => cases e2 <;> exact absurd h Bool.false_ne_true
          | _ => exact absurd h Bool.false_ne_true
        · cases e1 with
          | Name _ _ => cases e2 <;> exact absurd h Bool.false_ne_true
          | _ => exact absurd h Bool.false_ne_true
      | _ => exact absurd h Bool.false_ne_true
  | _ => exact absurd h Bool.false_ne_true
theorem inv_aug (h : okS c (.aug i op m) st = true) : ∃ x q p e pos, st = .AugAssign (.Name x q) p e pos ∧ (c.store i x && augOk op p && okE 0 c m e) = true := by
  cases st with
  | AugAssign t p e pos => cases t <;> first | exact absurd h Bool.false_ne_true | exact ⟨_, _, _, _, _, rfl, h⟩
  | _ => exact absurd h Bool.false_ne_true
theorem inv_augI (h : okS c (.augI o k op m) st = true) : ∃ x y q p e pos, st = .AugAssign (.Subscript x y q) p e pos ∧ (augOk op p && okE 0 c o x && okE 0 c k y && notSlice y && okE 0 c m e) = true := by
  cases st with
  | AugAssign t p e pos => cases t <;> first | exact absurd h Bool.false_ne_true | exact ⟨_, _, _, _, _, _, rfl, h⟩
  | _ => exact absurd h Bool.false_ne_true
theorem inv_augO (h : okS c (.augO i k op m) st = true) : ∃ x pn y q p e pos, st = .AugAssign (.Subscript (.Name x pn) y q) p e pos ∧ (c.var i x && augOk op p && okE 0 c k y && notSlice y && okE 0 c m e) = true := by
  cases st with
  | AugAssign t p e pos =>
    cases t with
    | Subscript x y q => cases x <;> first | exact absurd h Bool.false_ne_true | exact ⟨_, _, _, _, _, _, _, rfl, h⟩
    | _ => exact absurd h Bool.false_ne_true
  | _ => exact absurd h Bool.false_ne_true
theorem inv_putI (h : okS c (.putI o k m) st = true) : ∃ x y q e pos, st = .Assign [.Subscript x y q] e pos ∧ (okE 0 c o x && okE 0 c k y && notSlice y && okE 0 c m e && !isComp e) = true := by
  cases st with
  | Assign ts e pos =>
    rcases ts with _ | ⟨t, _ | ⟨t2, ts⟩⟩
    · exact absurd h Bool.false_ne_true
    · cases t <;> first | exact absurd h Bool.false_ne_true | exact ⟨_, _, _, _, _, rfl, h⟩
    · cases t <;> exact absurd h Bool.false_ne_true
  | _ => exact absurd h Bool.false_ne_true
theorem inv_putO (h : okS c (.putO i k m) st = true) : ∃ x pn y q e pos, st = .Assign [.Subscript (.Name x pn) y q] e pos ∧ (c.var i x && okE 0 c k y && notSlice y && okE 0 c m e && !isComp e) = true := by
  cases st with
  | Assign ts e pos =>
    rcases ts with _ | ⟨t, _ | ⟨t2, ts⟩⟩
    · exact absurd h Bool.false_ne_true
    · cases t with
      | Subscript x y q => cases x <;> first | exact absurd h Bool.false_ne_true | exact ⟨_, _, _, _, _, _, rfl, h⟩
      | _ => exact absurd h Bool.false_ne_true
    · cases t with
      | Subscript x y q => cases x <;> exact absurd h Bool.false_ne_true
      | _ => exact absurd h Bool.false_ne_true
  | _ => exact absurd h Bool.false_ne_true
theorem inv_app (h : okS c (.app i m) st = true) : ∃ x pn f ap e cp pos, st = .Expr (.Call (.Attribute (.Name x pn) f ap) [e] [] cp) pos ∧ (c.var i x && decide (f = ("append" : Str)) && (ap.endLine == cp.line) && okE 0 c m e && notStar e) = true := by
  cases st with
  | Expr e pos =>
    cases e with
    | Call fn xs ks cp =>
      cases fn with
      | Attribute o f ap =>
        cases o with
        | Name x pn =>
          rcases xs with _ | ⟨x1, _ | ⟨x2, xs⟩⟩
          · exact absurd h Bool.false_ne_true
          · cases ks with
            | nil => exact ⟨_, _, _, _, _, _, _, rfl, h⟩
            | cons _ _ => exact absurd h Bool.false_ne_true
          · exact absurd h Bool.false_ne_true
        | _ => exact absurd h Bool.false_ne_true
      | _ => exact absurd h Bool.false_ne_true
    | _ => exact absurd h Bool.false_ne_true
  | _ => exact absurd h Bool.false_ne_true
theorem inv_appC (h : okS c (.appC o m) st = true) : ∃ x f ap e cp pos, st = .Expr (.Call (.Attribute x f ap) [e] [] cp) pos ∧ (okE 0 c o x && notCall x && decide (f = ("append" : Str)) && (ap.endLine == cp.line) && okE 0 c m e && notStar e) = true := by
  cases st with
  | Expr e pos =>
    cases e with
    | Call fn xs ks cp =>
      cases fn with
      | Attribute o f ap =>
        rcases xs with _ | ⟨x1, _ | ⟨x2, xs⟩⟩
        · exact absurd h Bool.false_ne_true
        · cases ks with
          | nil => exact ⟨_, _, _, _, _, _, rfl, h⟩
          | cons _ _ => exact absurd h Bool.false_ne_true
        · exact absurd h Bool.false_ne_true
      | _ => exact absurd h Bool.false_ne_true
    | _ => exact absurd h Bool.false_ne_true
  | _ => exact absurd h Bool.false_ne_true
theorem inv_expr (h : okS c (.expr m) st = true) : ∃ e pos, st = .Expr e pos ∧ (okE 0 c m e && !isComp e) = true := by
  cases st <;> first | exact absurd h Bool.false_ne_true | exact ⟨_, _, rfl, h⟩
theorem inv_ret (h : okS c (.ret m) st = true) : ∃ e pos, st = .Return (some e) pos ∧ okE 0 c m e = true := by
  cases st with
  | Return e pos => cases e <;> first | exact absurd h Bool.false_ne_true | exact ⟨_, _, rfl, h⟩
  | _ => exact absurd h Bool.false_ne_true
theorem inv_retN (h : okS c .retN st = true) : ∃ pos, st = .Return none pos := by
  cases st with
  | Return e pos => cases e <;> first | exact absurd h Bool.false_ne_true | exact ⟨_, rfl⟩
  | _ => exact absurd h Bool.false_ne_true
theorem inv_iff (h : okS c (.iff t r r2) st = true) : ∃ e x y pos, st = .If e x y pos ∧ (okE 2 c t e && okSs c r x && okSs c r2 y) = true := by
  cases st <;> first | exact absurd h Bool.false_ne_true | exact ⟨_, _, _, _, rfl, h⟩
theorem inv_whil (h : okS c (.whil t r) st = true) : ∃ e x pos, st = .While e x [] pos ∧ (okE 2 c t e && okSs c r x) = true := by
  cases st with
  | While e x y pos => cases y <;> first | exact absurd h Bool.false_ne_true | exact ⟨_, _, _, rfl, h⟩
  | _ => exact absurd h Bool.false_ne_true
theorem inv_forr (h : okS c (.forr p it r) st = true) : ∃ tg e x pos, st = .For tg e x [] pos ∧ (okI 0 c it tg e && notSet e && okP c p tg && okSs c r x) = true := by
  cases st with
  | For tg e x y pos => cases y <;> first | exact absurd h Bool.false_ne_true | exact ⟨_, _, _, _, rfl, h⟩
  | _ => exact absurd h Bool.false_ne_true
theorem inv_brk (h : okS c .brk st = true) : ∃ pos, st = .Break pos := by
  cases st <;> first | exact absurd h Bool.false_ne_true | exact ⟨_, rfl⟩
theorem inv_cont (h : okS c .cont st = true) : ∃ pos, st = .Continue pos := by
  cases st <;> first | exact absurd h Bool.false_ne_true | exact ⟨_, rfl⟩
theorem inv_pass (h : okS c .pass st = true) : ∃ pos, st = .Pass pos := by
  cases st <;> first | exact absurd h Bool.false_ne_true | exact ⟨_, rfl⟩
theorem inv_frz (h : okS c (.frz i) st = true) : False := by
  cases st <;> exact absurd h Bool.false_ne_true
end
section
variable {C : Calls} {tb : List Addr} {n : Nat}
def AllS (C : Calls) (tb : List Addr) (n : Nat) (s : S) : Prop := ∀ (c : Ck) (X : Cx), Good C tb n c X → ∀ (we : Wd) (st : Stmt), okS c s st = true → PS X st (Tst X.K tb we (ex C s))
def AllSs (C : Calls) (tb : List Addr) (n : Nat) (r : List S) : Prop := ∀ (c : Ck) (X : Cx), Good C tb n c X → ∀ (we : Wd) (sts : List Stmt), okSs c r sts = true → PSs X sts (Tst X.K tb we (exs C r))
theorem comp_or {c : Ck} {e : Expr} (h : (!isComp e || (isLC e && isFun c.sc)) = true) : isComp e = false ∨ (isLC e = true ∧ isFun c.sc = true) := by
  simp only [Bool.or_eq_true, Bool.not_eq_true', Bool.and_eq_true] at h
  exact h
theorem tup_or {e : Expr} {ts : List Expr} (h : (!isTup e || !(ts.length == 2 || ts.length == 3)) = true) : isTup e = false ∨ (ts.length == 2 || ts.length == 3) = false := by
  rw [Bool.or_eq_true, Bool.not_eq_true', Bool.not_eq_true'] at h
  exact h
/-- all but a def's blocks -/
theorem sS0 (s : S) (hb : ∀ r, (∀ t r2, s ≠ .iff t r r2) ∧ (∀ t r2, s ≠ .iff t r2 r) ∧ (∀ t, s ≠ .whil t r) ∧ ∀ p it, s ≠ .forr p it r) : AllS C tb n s := by
  intro c X g we st hk
  cases s with
  | set i m =>
    obtain ⟨x, p, e, pos, rfl, h⟩ := inv_set hk
    simp only [Bool.and_eq_true] at h
    exact s_set g h.1.1 h.1.2 (comp_or h.2)
  | setL i m =>
    obtain ⟨x, p, e, pos, rfl, h⟩ := inv_setL hk
    simp only [Bool.and_eq_true] at h
    exact s_setL g h.1.1 h.1.2 (comp_or h.2)
  | setD i =>
    obtain ⟨x, p, q, pos, rfl, h⟩ := inv_setD hk
    exact s_setD g h
  | pat p m =>
    obtain ⟨ts, k, q, e, pos, rfl, h⟩ := inv_pat hk
    rw [Bool.and_eq_true, Bool.and_eq_true, Bool.and_eq_true, Bool.not_eq_true'] at h
    exact s_pat g h.1.1.1 h.1.1.2 h.1.2 (tup_or h.2)
  | par2 i j a b =>
    obtain ⟨x, px, y, py, k1, q1, e, f, k2, q2, pos, rfl, h⟩ := inv_par2 hk
    rw [Bool.and_eq_true, Bool.and_eq_true, Bool.and_eq_true, Bool.and_eq_true, Bool.and_eq_true, Bool.and_eq_true, Bool.and_eq_true, Bool.and_eq_true, Bool.and_eq_true, Bool.and_eq_true, Bool.and_eq_true, Bool.and_eq_true, Bool.and_eq_true, Bool.not_eq_true', Bool.not_eq_true', Bool.not_eq_true'] at h
    obtain ⟨⟨⟨⟨⟨⟨⟨⟨⟨⟨⟨⟨⟨h1, h2⟩, h3⟩, h4⟩, h5⟩, h6⟩, h7⟩, h8⟩, h9⟩, h10⟩, h11⟩, h12⟩, h13⟩, h14⟩ := h
    exact s_par2 g (of_decide_eq_true h1) (of_decide_eq_true h2) h3 h4 (of_decide_eq_true h5) h6 h7 h8 h9 h10 h11 h12 h13 h14
  | aug i o m =>
    obtain ⟨x, q, p, e, pos, rfl, h⟩ := inv_aug hk
    simp only [Bool.and_eq_true] at h
    exact s_aug g h.1.1 h.1.2 h.2
  | augI o k p m =>
    obtain ⟨x, y, q, p, e, pos, rfl, h⟩ := inv_augI hk
    simp only [Bool.and_eq_true] at h
    exact s_augI g h.1.1.1.1 h.1.1.1.2 h.1.1.2 h.1.2 h.2
  | augO i k p m =>
    obtain ⟨x, pn, y, q, p, e, pos, rfl, h⟩ := inv_augO hk
    simp only [Bool.and_eq_true] at h
    exact s_augO g h.1.1.1.1 h.1.1.1.2 h.1.1.2 h.1.2 h.2
  | putI o k m =>
    obtain ⟨x, y, q, e, pos, rfl, h⟩ := inv_putI hk
    simp only [Bool.and_eq_true, Bool.not_eq_true'] at h
    exact s_putI g h.1.1.1.1 h.1.1.1.2 h.1.1.2 h.1.2 h.2
  | putO i k m =>
    obtain ⟨x, pn, y, q, e, pos, rfl, h⟩ := inv_putO hk
    simp only [Bool.and_eq_true, Bool.not_eq_true'] at h
    exact s_putO g h.1.1.1.1 h.1.1.1.2 h.1.1.2 h.1.2 h.2
  | app i m =>
    obtain ⟨x, pn, f, ap, e, cp, pos, rfl, h⟩ := inv_app hk
    rw [Bool.and_eq_true, Bool.and_eq_true, Bool.and_eq_true, Bool.and_eq_true] at h
    obtain ⟨⟨⟨⟨h1, h2⟩, h3⟩, h4⟩, h5⟩ := h
    have h2 := of_decide_eq_true h2
    subst h2
    exact s_app g h1 h3 h4 h5
  | appC o m =>
    obtain ⟨x, f, ap, e, cp, pos, rfl, h⟩ := inv_appC hk
    rw [Bool.and_eq_true, Bool.and_eq_true, Bool.and_eq_true, Bool.and_eq_true, Bool.and_eq_true] at h
    obtain ⟨⟨⟨⟨⟨h1, h0⟩, h2⟩, h3⟩, h4⟩, h5⟩ := h
    have h2 := of_decide_eq_true h2
    subst h2
    exact s_appC g h1 h0 h3 h4 h5
  | expr m =>
    obtain ⟨e, pos, rfl, h⟩ := inv_expr hk
    simp only [Bool.and_eq_true, Bool.not_eq_true'] at h
    exact s_expr g h.1 h.2
  | ret m =>
    obtain ⟨e, pos, rfl, h⟩ := inv_ret hk
    exact s_ret g h
  | retN =>
    obtain ⟨pos, rfl⟩ := inv_retN hk
    exact s_retN
  | brk =>
    obtain ⟨pos, rfl⟩ := inv_brk hk
    exact s_brk
  | cont =>
    obtain ⟨pos, rfl⟩ := inv_cont hk
    exact s_cont
  | pass =>
    obtain ⟨pos, rfl⟩ := inv_pass hk
    exact s_pass
  | frz i => exact (inv_frz hk).elim
  | iff t r r2 => exact absurd rfl ((hb r).1 t r2)
  | whil t r => exact absurd rfl ((hb r).2.2.1 t)
  | forr p it r => exact absurd rfl ((hb r).2.2.2 p it)
mutual
theorem sS : ∀ (s : S), AllS C tb n s
  | .iff t r r2 => by
    intro c X g we st hk
    obtain ⟨e, x, y, pos, rfl, h⟩ := inv_iff hk
    rw [Bool.and_eq_true, Bool.and_eq_true] at h
    exact s_iff g h.1.1 (sSs r c X g we x h.1.2) (sSs r2 c X g we y h.2)
  | .whil t r => by
    intro c X g we st hk
    obtain ⟨e, x, pos, rfl, h⟩ := inv_whil hk
    rw [Bool.and_eq_true] at h
    exact s_whil g h.1 (sSs r c X g we x h.2)
  | .forr p it r => by
    intro c X g we st hk
    obtain ⟨tg, e, x, pos, rfl, h⟩ := inv_forr hk
    rw [Bool.and_eq_true, Bool.and_eq_true, Bool.and_eq_true] at h
    exact s_forr g h.1.1.1 h.1.1.2 h.1.2 (sSs r c X g we x h.2)
  | .set i m => sS0 _ fun r => ⟨fun _ _ => nofun, fun _ _ => nofun, fun _ => nofun, fun _ _ => nofun⟩
  | .setL i m => sS0 _ fun r => ⟨fun _ _ => nofun, fun _ _ => nofun, fun _ => nofun, fun _ _ => nofun⟩
  | .setD i => sS0 _ fun r => ⟨fun _ _ => nofun, fun _ _ => nofun, fun _ => nofun, fun _ _ => nofun⟩
  | .pat p m => sS0 _ fun r => ⟨fun _ _ => nofun, fun _ _ => nofun, fun _ => nofun, fun _ _ => nofun⟩
  | .par2 i j a b => sS0 _ fun r => ⟨fun _ _ => nofun, fun _ _ => nofun, fun _ => nofun, fun _ _ => nofun⟩
  | .aug i o m => sS0 _ fun r => ⟨fun _ _ => nofun, fun _ _ => nofun, fun _ => nofun, fun _ _ => nofun⟩
  | .augI o k p m => sS0 _ fun r => ⟨fun _ _ => nofun, fun _ _ => nofun, fun _ => nofun, fun _ _ => nofun⟩
  | .augO i k p m => sS0 _ fun r => ⟨fun _ _ => nofun, fun _ _ => nofun, fun _ => nofun, fun _ _ => nofun⟩
  | .putI o k m => sS0 _ fun r => ⟨fun _ _ => nofun, fun _ _ => nofun, fun _ => nofun, fun _ _ => nofun⟩
  | .putO i k m => sS0 _ fun r => ⟨fun _ _ => nofun, fun _ _ => nofun, fun _ => nofun, fun _ _ => nofun⟩
  | .app i m => sS0 _ fun r => ⟨fun _ _ => nofun, fun _ _ => nofun, fun _ => nofun, fun _ _ => nofun⟩
  | .appC o m => sS0 _ fun r => ⟨fun _ _ => nofun, fun _ _ => nofun, fun _ => nofun, fun _ _ => nofun⟩
  | .expr m => sS0 _ fun r => ⟨fun _ _ => nofun, fun _ _ => nofun, fun _ => nofun, fun _ _ => nofun⟩
  | .ret m => sS0 _ fun r => ⟨fun _ _ => nofun, fun _ _ => nofun, fun _ => nofun, fun _ _ => nofun⟩
  | .retN => sS0 _ fun r => ⟨fun _ _ => nofun, fun _ _ => nofun, fun _ => nofun, fun _ _ => nofun⟩
  | .brk => sS0 _ fun r => ⟨fun _ _ => nofun, fun _ _ => nofun, fun _ => nofun, fun _ _ => nofun⟩
  | .cont => sS0 _ fun r => ⟨fun _ _ => nofun, fun _ _ => nofun, fun _ => nofun, fun _ _ => nofun⟩
  | .pass => sS0 _ fun r => ⟨fun _ _ => nofun, fun _ _ => nofun, fun _ => nofun, fun _ _ => nofun⟩
  | .frz i => sS0 _ fun r => ⟨fun _ _ => nofun, fun _ _ => nofun, fun _ => nofun, fun _ _ => nofun⟩
theorem sSs : ∀ (r : List S), AllSs C tb n r
  | [] => by
    intro c X g we sts hk
    cases sts with
    | nil => exact ss_nil
    | cons _ _ => exact absurd hk Bool.false_ne_true
  | s :: r => by
    intro c X g we sts hk
    have h1 := sS s
    have h2 := sSs r
    by_cases hf : ∃ i, s = .frz i
    · obtain ⟨i, rfl⟩ := hf
      exact ss_frz (h2 c X g we sts hk)
    · cases sts with
      | nil => cases s <;> first | exact absurd hk Bool.false_ne_true | exact absurd ⟨_, rfl⟩ hf
      | cons st sts =>
        have hk' : (okS c s st && okSs c r sts) = true := by
          cases s with
          | frz i => exact absurd ⟨i, rfl⟩ hf
          | _ => exact hk
        rw [Bool.and_eq_true] at hk'
        exact ss_cons (h1 c X g we st hk'.1) (h2 c X g we sts hk'.2)
end
end
end PI

set_option Elab.async false
set_option linter.all false
set_option maxRecDepth 100000
set_option maxHeartbeats 4000000
set_option autoImplicit false
namespace PI
open PySem PySem.Spec PyProof.Rows L2

/-- a def of the text: its name, parameters, slots, its row, and what it is here -/
structure Df where
  name : Str
  ps : List Str
  N : List Str
  st : Stmt
  g : Nat
  body : List S
def Df.fd (d : Df) : Fd := ⟨d.N.length, d.ps.length, d.body⟩
def Df.i (d : Df) : DefI := ⟨d.name, d.ps⟩
def isLoc : Option NameKind → Bool
  | some .local => true
  | some .cell => true
  | _ => false
def notFree : NameKind → Bool
  | .free => false
  | _ => true
/-- the check of a def -/
def okD (nms : List DefI) (kcs : List KcI) (d : Df) : Bool :=
  decide (d.g ≤ 1) && isFun (defScope d.st) && !(defScope d.st).isCoroutine && !(defScope d.st).isGenerator && decide d.N.Nodup && decide (d.N.take d.ps.length = d.ps) && (d.ps.all fun x => isLoc ((defScope d.st).names.lookup x)) && ((defScope d.st).names.all fun y => notFree y.2) &&
    okSs ⟨d.N, defScope d.st, fun _ => true, nms, kcs, d.g⟩ d.body (defBody d.st)
section
variable {nms : List DefI} {kcs : List KcI} {d : Df}
theorem okD_scope (h : okD nms kcs d = true) : FnScope d.N d.ps (defScope d.st) := by
  unfold okD at h
  simp only [Bool.and_eq_true, Bool.not_eq_true', decide_eq_true_eq, List.all_eq_true] at h
  obtain ⟨⟨⟨⟨⟨⟨⟨⟨_, h1⟩, h2⟩, h3⟩, h4⟩, h5⟩, h6⟩, h7⟩, h8⟩ := h
  refine ⟨?_, h2, h3, h4, h5, fun x hx => ?_, fun y hy e => ?_⟩
  · unfold isFun at h1
    cases e : (defScope d.st).kind <;> rw [e] at h1 <;> first | rfl | cases h1
  · have := h6 x hx
    cases e : (defScope d.st).names.lookup x with
    | none => rw [e] at this; cases this
    | some k =>
      rw [e] at this
      cases k <;> first | exact .inl rfl | exact .inr rfl | cases this
  · have := h7 y hy
    rw [e] at this; cases this
theorem okD_g (h : okD nms kcs d = true) : d.g ≤ 1 := by
  unfold okD at h
  simp only [Bool.and_eq_true, decide_eq_true_eq] at h
  exact h.1.1.1.1.1.1.1.1
theorem okD_body (h : okD nms kcs d = true) : okSs ⟨d.N, defScope d.st, fun _ => true, nms, kcs, d.g⟩ d.body (defBody d.st) = true := by
  unfold okD at h
  rw [Bool.and_eq_true] at h
  exact h.2
end
section
variable {T : List Fd} {tb : List Addr} {P : Program} {w : World} {K : PySem.W.Frag} {mg : Str → Option Value} {base : Heap}
theorem rds_start {wd : Wd} {N ps : List Str} : ∀ {xs : List D} {vs : List V}, RDs K wd xs vs → RS K wd (xs.map (fun d => some (.val d))) (vs.map some)
  | _, _, .nil => ⟨rfl, fun i s e => by simp at e, fun i j s t v e1 => by simp at e1⟩
  | _, _, .cons a r => by
    have ih := rds_start (N := N) (ps := ps) r
    refine ⟨by simp [ih.len], fun i s e => ?_, fun i j s t v e1 e2 o1 => ?_⟩
    · cases i with
      | zero =>
        simp at e
        subst e
        exact ⟨_, rfl, a⟩
      | succ i => exact ih.at_ i s (by simpa using e)
    · exfalso
      have : ∀ (xs : List D) (i : Nat) (s : Sl), (xs.map (fun d => some (Sl.val d)))[i]? = some (some s) → s.isOwn = false := fun xs i s e => by
        rw [List.getElem?_map] at e
        obtain ⟨d, _, e⟩ := Option.map_eq_some_iff.mp e
        cases e; rfl
      have := this _ i s e1
      rw [o1] at this; cases this
theorem rs_more {wd : Wd} {ρ : Rho} {σ : L2.St} (q : RS K wd ρ σ) (k : Nat) : RS K wd (ρ ++ List.replicate k none) (σ ++ List.replicate k none) := by
  have key : ∀ (i : Nat) (s : Sl), (ρ ++ List.replicate k none)[i]? = some (some s) → ρ[i]? = some (some s) := fun i s e => by
    by_cases hi : i < ρ.length
    · rw [List.getElem?_append_left hi] at e; exact e
    · rw [List.getElem?_append_right (Nat.le_of_not_lt hi), List.getElem?_replicate] at e
      split at e <;> simp at e
  have key2 : ∀ (i : Nat) (s : Sl), ρ[i]? = some (some s) → (σ ++ List.replicate k none)[i]? = σ[i]? := fun i s e => by
    obtain ⟨hi, _⟩ := List.getElem?_eq_some_iff.mp e
    exact List.getElem?_append_left (by rw [← q.len]; exact hi)
  refine ⟨by simp [q.len], fun i s e => ?_, fun i j s t v e1 e2 o1 o2 f1 f2 => ?_⟩
  · obtain ⟨v, h1, h2⟩ := q.at_ i s (key i s e)
    exact ⟨v, by rw [key2 i s (key i s e)]; exact h1, h2⟩
  · have g1 := key i s e1
    have g2 := key j t e2
    rw [key2 i s g1] at f1
    rw [key2 j t g2] at f2
    exact q.dis i j s t v g1 g2 o1 o2 f1 f2

theorem call_len {n f : Nat} {fd : Fd} {xs : List D} {h : PH} {r : D × PH} (hT : T[f]? = some fd) (e : call T n f xs h = some r) : xs.length = fd.pars := by
  cases n with
  | zero => cases e
  | succ n =>
    unfold call at e
    rw [hT] at e
    dsimp only at e
    split at e
    · assumption
    · cases e
/-- what is told of the text's defs -/
structure Told (ds : List Df) (kcs : List KcI) (tb : List Addr) (K : PySem.W.Frag) (mg : Str → Option Value) (base : Heap) : Prop where
  ok : ∀ d ∈ ds, okD (ds.map Df.i) kcs d = true
  fn : ∀ d ∈ ds, ∃ (a : Addr) (fd : FuncData), mg d.name = some (.ref a) ∧ FunD K d.name d.name (defArgs d.st) (defBody d.st) (defScope d.st) [] [] a fd ∧ Binds K fd d.ps [] ∧ (∀ k ∈ kcs, (ds[k.f]?).map (·.name) = some d.name → KBn K fd d.ps 0 k.names (fun _ ws => permF k.perm ws) (fun _ zs => permF k.perm zs)) ∧
    (0 < d.g → ∃ cc P, fd.code = .ref cc ∧ GxR.TabB base mg cc P ∧ P ∈ tb)
  bl : ∀ x ∈ bnames, mg x = none
theorem calls1 {ds : List Df} {kcs : List KcI} (t : Told ds kcs tb K mg base) (n : Nat) : Calls1 (call (ds.map Df.fd) n) (ds.map Df.i) kcs tb (2 * n) P w K mg base := by
  induction n with
  | zero =>
    refine ⟨fun f d e => ?_, t.bl⟩
    rw [List.getElem?_map] at e
    obtain ⟨d', e', rfl⟩ := Option.map_eq_some_iff.mp e
    obtain ⟨a, fd, h1, h2, h3, h4, _⟩ := t.fn d' (List.mem_of_getElem? e')
    have hlk : ∃ oc od osl, K.lookup a = some ⟨oc, od, .func fd, osl⟩ := by
      obtain ⟨oc, od, dV, kV, doc, pm, an, cdv, ct, osl, e, lk, _⟩ := h2.ex
      exact ⟨oc, od, osl, lk⟩
    have h3 := And.intro h3 (And.intro (fun (k : KcI) (hk : k ∈ kcs) (e : k.f = f) => h4 k hk (by rw [e, e']; rfl)) hlk)
    refine ⟨a, fd, h1, h2.kp, ⟨fun vs H Q E q => ?_, fun A outer s H args us vs Q E _ _ _ _ q => ?_⟩, h3⟩
    · obtain ⟨_, _, _, _, _, _, _, _, z, _⟩ := q
      cases z
    · obtain ⟨_, _, _, _, _, _, _, _, z, _⟩ := q
      cases z
  | succ n ih =>
    refine ⟨fun f d e => ?_, t.bl⟩
    rw [List.getElem?_map] at e
    obtain ⟨d', e', rfl⟩ := Option.map_eq_some_iff.mp e
    have hm := List.mem_of_getElem? e'
    obtain ⟨a, fd, h1, h2, h3, h4, h5⟩ := t.fn d' hm
    have hlk : ∃ oc od osl, K.lookup a = some ⟨oc, od, .func fd, osl⟩ := by
      obtain ⟨oc, od, dV, kV, doc, pm, an, cdv, ct, osl, e, lk, _⟩ := h2.ex
      exact ⟨oc, od, osl, lk⟩
    have h3 := And.intro h3 (And.intro (fun (k : KcI) (hk : k ∈ kcs) (e : k.f = f) => h4 k hk (by rw [e, e']; rfl)) hlk)
    have hok := t.ok d' hm
    have hT : (ds.map Df.fd)[f]? = some d'.fd := by rw [List.getElem?_map, e']; rfl
    have S := okD_scope hok
    have hg := okD_g hok
    refine ⟨a, fd, h1, h2.kp, ?_, h3⟩
    obtain ⟨oc, od, dV, kV, doc, pm, an, cdv, ct, osl, rfl, lk, hcd, _, _⟩ := h2.ex
    refine fn_of (k := 2 * n + 1) lk hcd S (fun vs H Q E q => ?_) fun A outer s H vs Q E hr q => ?_
    · obtain ⟨wd, h, xs, dd, h', _, _, rx, z, _⟩ := q
      rw [← rx.length]
      exact call_len hT z
    · obtain ⟨wd, h, xs, dd, h', rfl, rel, rx, z, q⟩ := q
      have hl := call_len hT z
      have g : Good (call (ds.map Df.fd) n) tb (2 * n) ⟨d'.N, defScope d'.st, fun _ => true, ds.map Df.i, kcs, d'.g⟩ (cxOf CX0 P w K mg base d'.N d'.name (defScope d'.st) a cdv A outer s wd.H E).nox := ⟨rfl, S.nd, rfl, rfl, rfl, hr.mono (by show 2 * n + d'.g ≤ 2 * n + 1; omega), rfl, ih, fun z => by
        obtain ⟨cc, P', c1, c2, c3⟩ := h5 z
        exact ⟨cc, P', c1, c2, c3⟩⟩
      refine ⟨_, (sSs (C := call (ds.map Df.fd) n) (tb := tb) (n := 2 * n) d'.body _ _ g wd (defBody d'.st) (okD_body hok)).nox, ?_⟩
      unfold call at z
      rw [hT] at z
      dsimp only at z
      rw [if_pos hl] at z
      obtain ⟨o, z1, z2⟩ := Option.bind_eq_some_iff.mp z
      have hrs : RS K wd (startS d'.fd xs) (L2.start d'.N vs) := by
        have e1 : d'.fd.slots - d'.fd.pars = d'.N.length - vs.length := by
          have h5 : xs.length = d'.ps.length := hl
          show d'.N.length - d'.ps.length = _
          rw [← h5, rx.length]
        unfold startS L2.start
        rw [e1]
        exact rs_more (rds_start (N := d'.N) (ps := d'.ps) rx) _
      have nown : ∀ (i : Nat) (s : Sl), (startS d'.fd xs)[i]? = some (some s) → s.isOwn = false := fun i s e => by
        unfold startS at e
        by_cases hi : i < (xs.map (fun d => some (Sl.val d))).length
        · rw [List.getElem?_append_left hi, List.getElem?_map] at e
          obtain ⟨d, _, e⟩ := Option.map_eq_some_iff.mp e
          cases e; rfl
        · rw [List.getElem?_append_right (Nat.le_of_not_lt hi), List.getElem?_replicate] at e
          split at e <;> simp at e
      refine ⟨wd, _, h, o, rfl, ⟨rel, hrs, Ext.refl wd, fun i s b e1 e2 _ => ?_⟩, z1, ?_⟩
      · rw [nown i s e1] at e2; cases e2
      · cases o with
        | nx ρ' h2 =>
          cases z2
          exact fun w' σ' s' l' => q w' .non s'.rel .non s'.ext
        | rt d2 h2 =>
          cases z2
          exact fun w' v r' rv x' => q w' v r' rv x'
        | bk ρ' h2 => cases z2
        | ct ρ' h2 => cases z2
end
end PI

set_option Elab.async false
set_option linter.all false
set_option maxRecDepth 100000
set_option maxHeartbeats 4000000
set_option autoImplicit false
namespace PI
open PySem PySem.Spec PyProof.Rows L2

def Df.dd (d : Df) : He.DefD := ⟨(d.name, none), d.name, d.name, defArgs d.st, defBody d.st, defScope d.st, [], []⟩
def BindF (d : Df) : Prop := ∀ (kV doc pm : Value) (an : Option Addr) (cdv ct : Value) (us : List Value), us.length = d.ps.length → bindArgs (PySem.W.fnOf d.name d.name (defArgs d.st) (defBody d.st) (defScope d.st) .none kV doc pm an cdv ct) ⟨us, []⟩ = pure (d.ps.zip us)
def KBindF (d : Df) (k : KcI) : Prop := ∀ (kV doc pm : Value) (an : Option Addr) (cdv ct : Value) (ws : List Value), ws.length = k.names.length → bindArgs (PySem.W.fnOf d.name d.name (defArgs d.st) (defBody d.st) (defScope d.st) .none kV doc pm an cdv ct) ⟨[], k.names.zip ws⟩ = pure (d.ps.zip (permF k.perm ws))
theorem permF_vals {vs : List V} {us : List Value} (r : Vals vs us) : ∀ pm : List Nat, Vals (permF pm vs) (permF pm us)
  | [] => .nil
  | i :: pm => by
    unfold permF
    rw [List.filterMap_cons, List.filterMap_cons]
    cases e : vs[i]? with
    | none =>
      have : us[i]? = none := by
        rw [List.getElem?_eq_none_iff] at e ⊢
        rw [← r.length]; exact e
      rw [this]
      exact permF_vals r pm
    | some v =>
      obtain ⟨u, hu, ru⟩ := r.get e
      rw [hu]
      exact .cons ru (permF_vals r pm)
section
variable {ds : List Df} {kcs : List KcI} {K : PySem.W.Frag} {mg : Str → Option Value} {h : Heap} {w : World}
/-- facts of the head -/
def faL (ds : List Df) : List He.Fa := ds.map (fun d => He.Fa.glo d.name) ++ bnames.map He.Fa.free
def tfL (ds : List Df) : List He.Defn := (ds.filter fun d => decide (0 < d.g)).map fun d => (d.name, none)
theorem told (c : He.SaysX (faL ds) (ds.map Df.dd) [] (tfL ds) (fun _ => true) w h K) (X : K.In h) (G : h.Ns mainGlobals mg) (ok : (ds.all fun d => okD (ds.map Df.i) kcs d) = true) (hb : ∀ d ∈ ds, BindF d) (hk : ∀ k ∈ kcs, ∀ d, ds[k.f]? = some d → KBindF d k) (hn : (ds.map (·.name)).Nodup)
    {base : Heap} (TB : ∀ p ∈ (tfL ds).map (He.cT K), LamX.TabB base mg p.1 p.2) : Told ds kcs (((tfL ds).map (He.cT K)).map (·.2)) K mg base := by
  have cd : He.SaysD (faL ds) (ds.map Df.dd) K := congrArg (fun z : He.AlT => z.1) c.t
  refine ⟨fun d hd => List.all_eq_true.mp ok d hd, fun d hd => ?_, fun x hx => He.free_ok X G (cd.facts (List.mem_append_right _ (List.mem_map.mpr ⟨x, hx, rfl⟩)))⟩
  obtain ⟨fd, F⟩ := cd.defs (d := d.dd) (List.mem_map.mpr ⟨d, hd, rfl⟩)
  have hm : mg d.name = some (.ref (He.fAd K (d.name, none))) := He.glo_ok X G (cd.facts (List.mem_append_left _ (List.mem_map.mpr ⟨d, hd, rfl⟩)))
  refine ⟨_, fd, hm, F, FunD.bindsN (ps := d.ps) F (hb d hd), fun k hkm he => ?_, fun hg => ?_⟩
  · obtain ⟨d2, e2, e3⟩ := Option.map_eq_some_iff.mp he
    have hd2 : d2 = d := by
      have h1 := List.mem_of_getElem? e2
      obtain ⟨i, hi, ei⟩ := List.mem_iff_getElem.mp h1
      obtain ⟨j, hj, ej⟩ := List.mem_iff_getElem.mp hd
      have hi' : i < (ds.map (·.name)).length := by simpa using hi
      have hj' : j < (ds.map (·.name)).length := by simpa using hj
      have e : (ds.map (·.name))[i] = (ds.map (·.name))[j] := by
        rw [List.getElem_map, List.getElem_map, ei, ej, e3]
      have hij : i = j := (List.getElem_inj hn).mp e
      subst hij
      rw [← ei, ← ej]
    subst hd2
    have kb := hk k hkm d2 e2
    obtain ⟨oc, od, dV, kV, doc, pm, an, cdv, ct, osl, e, lk, hcd, hD, hK⟩ := F.ex
    rcases hD with ⟨_, rfl⟩ | ⟨z, _⟩
    · refine ⟨fun s us ws _ hu hw => ?_, fun r rz => permF_vals rz _⟩
      cases us with
      | nil => rw [e]; exact .of_eq (kb kV doc pm an cdv ct ws hw)
      | cons _ _ => simp at hu
    · exact absurd rfl z
  · have hp : (d.name, none) ∈ tfL ds := List.mem_map.mpr ⟨d, List.mem_filter.mpr ⟨hd, decide_eq_true hg⟩, rfl⟩
    have hc : He.cT K (d.name, none) ∈ (tfL ds).map (He.cT K) := List.mem_map.mpr ⟨_, hp, rfl⟩
    obtain ⟨oc, od, dV, kV, doc, pm, an, cdv, ct, osl, e, lk, hcd, hD, hK⟩ := F.ex
    obtain ⟨cc, hcc⟩ := He.codeIn_ref hcd
    have e1 : fd.code = .ref cc := by rw [e, ← hcc]
    have e2 : (He.cT K (d.name, none)).1 = cc := He.codeOf_eq (p := (d.name, none)) lk e1
    obtain ⟨t1, t2, t3⟩ := TB _ hc
    rw [e2] at t1
    exact ⟨cc, (He.cT K (d.name, none)).2, e1, ⟨t1, t2, t3⟩, List.mem_map.mpr ⟨_, hc, rfl⟩⟩
/-- the law's promise -/
theorem law_at {l : PySem.W.OpenLaw} {N ix : Nat} {dl : Df} {fa : Addr} {x : Str} (c : He.SaysX (faL ds) (ds.map Df.dd) [] (tfL ds) (fun _ => true) w h K) (X : K.In h) (G : h.Ns mainGlobals mg) (ok : (ds.all fun d => okD (ds.map Df.i) kcs d) = true) (hb : ∀ d ∈ ds, BindF d) (hk : ∀ k ∈ kcs, ∀ d, ds[k.f]? = some d → KBindF d k) (hn : (ds.map (·.name)).Nodup)
    (hl : ds[ix]? = some dl) (hx : dl.ps = [x]) (hm : mg dl.name = some (.ref fa)) (law : ∀ ns : List Int, ns.length ≤ 63 → (∀ z ∈ ns, Builtin.Int.intBits z ≤ 1048576) → ∃ h', call (ds.map Df.fd) N ix [.scr ns] [] = some (.bl true, h')) :
    LamX.LawAtS l w K CX0 (2 * N) 63 x mg fa h := by
  have cd : He.SaysD (faL ds) (ds.map Df.dd) K := congrArg (fun z : He.AlT => z.1) c.t
  have hd := List.mem_of_getElem? hl
  obtain ⟨fd, F⟩ := cd.defs (d := dl.dd) (List.mem_map.mpr ⟨dl, hd, rfl⟩)
  have hm' : mg dl.name = some (.ref (He.fAd K (dl.name, none))) := He.glo_ok X G (cd.facts (List.mem_append_left _ (List.mem_map.mpr ⟨dl, hd, rfl⟩)))
  have efa : He.fAd K (dl.name, none) = fa := Value.ref.inj (Option.some.inj (hm'.symm.trans hm))
  refine ⟨fd, (tfL ds).map (He.cT K), SpC (call (ds.map Df.fd) N) K (((tfL ds).map (He.cT K)).map (·.2)) ix, fun p hp => ?_, fun p hp => ?_, fun p hp => ?_, fun s u => ?_, fun H a ns hlen hbits hT hS => ?_, fun base KB GB TB => ?_⟩
  · obtain ⟨q, hq, rfl⟩ := List.mem_map.mp hp
    exact c.empty q hq
  · obtain ⟨q, hq, rfl⟩ := List.mem_map.mp hp
    exact c.out q hq
  · obtain ⟨q, hq, rfl⟩ := List.mem_map.mp hp
    exact PySem.W.codeHd_of_K X (c.hd q hq)
  · have := FunD.bindsA (ps := dl.ps) F (hb dl hd) s [u] (by rw [hx]; rfl)
    rw [hx] at this
    exact this
  · obtain ⟨h', hc⟩ := law ns hlen hbits
    have tabs : TabsOk (((tfL ds).map (He.cT K)).map (·.2)) H := fun P hP => by
      obtain ⟨p, hp, rfl⟩ := List.mem_map.mp hP
      exact ⟨#[], hT p hp, trivial⟩
    have fin : ∀ wd : Wd, Fin1 K (((tfL ds).map (He.cT K)).map (·.2)) wd h' (.bl true) (fun v _ => v = .bl true) := fun wd w' v r rv _ => by cases rv; rfl
    rcases hS with hS | hS
    · refine ⟨⟨H, [], fun b => b = a⟩, [], [.scr ns], .bl true, h', rfl, ⟨rfl, List.nodup_nil, fun n c e => by simp at e, fun b m => (by cases m), fun b m => (by cases m), fun b e => ?_, tabs⟩, .cons (.scr (.inl ⟨rfl, hS⟩)) .nil, hc, fin _⟩
      have e : b = a := e
      subst e
      rcases hS with e | ⟨o, e⟩
      · exact ⟨_, e, fun z => z⟩
      · exact ⟨_, e, fun z => z⟩
    · exact ⟨⟨H, [], fun _ => False⟩, [], [.scr ns], .bl true, h', rfl, ⟨rfl, List.nodup_nil, fun n c e => by simp at e, fun b m => (by cases m), fun b m => (by cases m), fun b e => e.elim, tabs⟩, .cons (.scr (.inr (.inr hS))) .nil, hc, fin _⟩
  · have t := told (base := base) c X G ok hb hk hn TB
    have c1 := calls1 (P := l.prog) (w := w) t N
    obtain ⟨a2, fd2, m1, m2, Fn, m3, _, oc2, od2, osl2, lk2⟩ := c1.fn ix dl.i (by rw [List.getElem?_map, hl]; rfl)
    have m1 : mg dl.name = some (.ref a2) := m1
    rw [hm] at m1; cases m1
    have e2 : fd2 = fd := by
      obtain ⟨oc, od, dV, kV, doc, pm, an, cdv, ct, osl, e, lk, _⟩ := F.ex
      have lk : K.lookup (He.fAd K (dl.name, none)) = _ := lk
      rw [efa, lk2] at lk
      cases lk
      rfl
    rw [e2] at Fn
    have hx' : dl.i.ps = [x] := hx
    rw [hx'] at Fn
    exact Fn
end
end PI

set_option Elab.async false
set_option linter.all false
set_option maxRecDepth 100000
set_option maxHeartbeats 4000000
set_option autoImplicit false
namespace PI
open PySem PySem.Spec PyProof.Rows L2

/-! ### what an answer keeps -/
inductive Tag {α : Type} (Q : α → Prop) : Type where
  | mk
/-- the tag keeps simp out of Q -/
def W {α : Type} (o : Option α) (Q : α → Prop) (_t : Tag Q := .mk) : Prop := ∃ a, o = some a ∧ Q a
section
variable {α β : Type} {o o' : Option α} {Q Q' : α → Prop} {a : α} {f : α → Option β} {g : α → β} {R : β → Prop}
theorem W_some : W (some a) Q = Q a := propext ⟨fun ⟨b, e, q⟩ => by cases e; exact q, fun q => ⟨a, rfl, q⟩⟩
theorem W_bind : W (o.bind f) R = W o fun a => W (f a) R := by
  apply propext
  constructor
  · rintro ⟨b, e, q⟩
    obtain ⟨a, e1, e2⟩ := Option.bind_eq_some_iff.mp e
    exact ⟨a, e1, b, e2, q⟩
  · rintro ⟨a, e1, b, e2, q⟩
    exact ⟨b, Option.bind_eq_some_iff.mpr ⟨a, e1, e2⟩, q⟩
theorem W_map : W (o.map g) R = W o fun a => R (g a) := by
  apply propext
  constructor
  · rintro ⟨b, e, q⟩
    obtain ⟨a, e1, rfl⟩ := Option.map_eq_some_iff.mp e
    exact ⟨a, e1, q⟩
  · rintro ⟨a, e1, q⟩
    exact ⟨g a, by rw [e1]; rfl, q⟩
theorem W.mono (h : W o Q) (q : ∀ a, Q a → Q' a) : W o Q' := by
  obtain ⟨a, e, z⟩ := h
  exact ⟨a, e, q a z⟩
theorem W.of_eq (e : o = some a) (q : Q a) : W o Q := ⟨a, e, q⟩
theorem W.get (h : W o Q) : ∃ a, o = some a ∧ Q a := h
theorem W_ite {c : Prop} [Decidable c] (h1 : c → W o Q) (h2 : ¬ c → W o' Q) : W (if c then o else o') Q := by
  by_cases h : c
  · rw [if_pos h]; exact h1 h
  · rw [if_neg h]; exact h2 h
end
/-! ### the slots -/
section
variable {ρ : Rho} {s s' : Option Sl} {d : D} {t : Sl} {i : Nat} {xs : List D} {ks vs : List D}
theorem varS_0 : varS (some (.val d) :: ρ) 0 = some d := rfl
theorem varS_s : varS (s :: ρ) (i + 1) = varS ρ i := rfl
theorem lookS_0 : lookS (s :: ρ) 0 = s := rfl
theorem lookS_s : lookS (s :: ρ) (i + 1) = lookS ρ i := rfl
theorem ownS_0v : ownS (some (.val d) :: ρ) 0 = some d := rfl
theorem ownS_0 : ownS (some (.own xs) :: ρ) 0 = some (.lst xs) := rfl
theorem ownS_0d : ownS (some (.ownD ks vs) :: ρ) 0 = some (.dct ks vs) := rfl
theorem ownS_s : ownS (s :: ρ) (i + 1) = ownS ρ i := rfl
theorem setS_0 : setS (s :: ρ) 0 t = some t :: ρ := rfl
theorem setS_s : setS (s :: ρ) (i + 1) t = s :: setS ρ i t := rfl
theorem set_0 {α : Type} {a b : α} {l : List α} : (a :: l).set 0 b = b :: l := rfl
theorem set_s {α : Type} {a b : α} {l : List α} {i : Nat} : (a :: l).set (i + 1) b = a :: l.set i b := rfl
theorem deref_int {h : PH} {i : Int} : deref h (.int i) = .int i := rfl
theorem deref_bl {h : PH} {i : Bool} : deref h (.bl i) = .bl i := rfl
theorem deref_non {h : PH} : deref h .non = .non := rfl
theorem deref_str {h : PH} {s : Str} : deref h (.str s) = .str s := rfl
theorem deref_tup {h : PH} {s : List D} : deref h (.tup s) = .tup s := rfl
theorem deref_lst {h : PH} {s : List D} : deref h (.lst s) = .lst s := rfl
theorem deref_scr {h : PH} {s : List Int} : deref h (.scr s) = .scr s := rfl
theorem deref_dct {h : PH} {s t : List D} : deref h (.dct s t) = .dct s t := rfl
theorem deref_ref0 {h : PH} {xs : List D} : deref (.lst xs :: h) (.ref 0) = .lst xs := rfl
theorem isCell_ref0 {h : PH} {xs : List D} : isCell (.lst xs :: h) (.ref 0) = some (.lst xs) := rfl
end
/-! ### calls, loops -/
def outQ (Q : D × PH → Prop) : Out → Prop
  | .rt d h => Q (d, h)
  | .nx _ h => Q (.non, h)
  | _ => False
section
variable {T : List Fd} {n i : Nat} {xs : List D} {h : PH} {Q : D × PH → Prop} {f : Fd}
theorem W_call (hf : T[i]? = some f) (hl : xs.length = f.pars) (hb : W (exs (call T n) f.body (startS f xs) h) (outQ Q)) : W (call T (n + 1) i xs h) Q := by
  obtain ⟨o, e, q⟩ := hb
  unfold call
  simp only [hf, if_pos hl, e, Option.bind_some]
  cases o with
  | rt d h' => exact ⟨_, rfl, q⟩
  | nx ρ h' => exact ⟨_, rfl, q⟩
  | bk _ _ => exact q.elim
  | ct _ _ => exact q.elim
end
def outL (I : Rho → PH → Prop) (Q : Out → Prop) : Out → Prop
  | .nx ρ h => I ρ h
  | .ct ρ h => I ρ h
  | .bk ρ h => Q (.nx ρ h)
  | .rt d h => Q (.rt d h)
theorem W_forS {g : D → Rho → Option Rho} {b : Rho → PH → Option Out} {Q : Out → Prop} (I : List D → Rho → PH → Prop)
    (hs : ∀ x r ρ h, I (x :: r) ρ h → W (g x ρ) fun ρ' => W (b ρ' h) (outL (I r) Q)) (he : ∀ ρ h, I [] ρ h → Q (.nx ρ h)) :
    ∀ {xs : List D} {ρ : Rho} {h : PH}, I xs ρ h → W (forS g b xs ρ h) Q
  | [], ρ, h, i => ⟨_, rfl, he ρ h i⟩
  | x :: r, ρ, h, i => by
    obtain ⟨ρ', e1, o, e2, q⟩ := hs x r ρ h i
    unfold forS
    rw [e1, Option.bind_some, e2, Option.bind_some]
    cases o with
    | nx ρ2 h2 => exact W_forS I hs he q
    | ct ρ2 h2 => exact W_forS I hs he q
    | bk ρ2 h2 => exact ⟨_, rfl, q⟩
    | rt d h2 => exact ⟨_, rfl, q⟩
theorem whileO_up {c : Rho → PH → R1 Bool} {b : Rho → PH → Option Out} : ∀ {n m : Nat} {ρ : Rho} {h : PH} {o : Out}, whileO c b n ρ h = some o → n ≤ m → whileO c b m ρ h = some o
  | 0, _, _, _, _, e, _ => by cases e
  | n + 1, 0, _, _, _, _, l => by omega
  | n + 1, m + 1, ρ, h, o, e, l => by
    unfold whileO at e ⊢
    obtain ⟨r, e1, e2⟩ := Option.bind_eq_some_iff.mp e
    rw [e1, Option.bind_some]
    by_cases hr : r.1 = true
    · rw [if_pos hr] at e2 ⊢
      obtain ⟨o2, e3, e4⟩ := Option.bind_eq_some_iff.mp e2
      rw [e3, Option.bind_some]
      cases o2 with
      | nx ρ2 h2 => exact whileO_up e4 (by omega)
      | ct ρ2 h2 => exact whileO_up e4 (by omega)
      | bk ρ2 h2 => exact e4
      | rt d h2 => exact e4
    · rw [if_neg hr] at e2 ⊢; exact e2
theorem whileS_of {c : Rho → PH → R1 Bool} {b : Rho → PH → Option Out} {n : Nat} {ρ : Rho} {h : PH} {o : Out} (e : whileO c b n ρ h = some o) : whileS c b ρ h = some o := by
  have x : ∃ n o, whileO c b n ρ h = some o := ⟨n, o, e⟩
  unfold whileS
  rw [dif_pos x]
  obtain ⟨m, hm⟩ : ∃ m, whileO c b m ρ h = some (Classical.choose (Classical.choose_spec x)) := ⟨_, Classical.choose_spec (Classical.choose_spec x)⟩
  have h1 := whileO_up e (Nat.le_max_left n m)
  have h2 := whileO_up hm (Nat.le_max_right n m)
  rw [h1] at h2
  exact h2.symm
theorem W_whileS {c : Rho → PH → R1 Bool} {b : Rho → PH → Option Out} {Q : Out → Prop} (I : Nat → Rho → PH → Prop)
    (hs : ∀ k ρ h, I k ρ h → W (c ρ h) fun r => if r.1 = true then W (b ρ r.2) (outL (fun ρ' h' => ∃ j, j < k ∧ I j ρ' h') Q) else Q (.nx ρ r.2)) {k : Nat} {ρ : Rho} {h : PH} (h0 : I k ρ h) : W (whileS c b ρ h) Q := by
  have key : ∀ k ρ h, I k ρ h → ∃ n, W (whileO c b n ρ h) Q := by
    intro k
    induction k using Nat.strongRecOn with
    | ind k ih =>
      intro ρ h i
      obtain ⟨r, e1, q⟩ := hs k ρ h i
      by_cases hr : r.1 = true
      · rw [if_pos hr] at q
        obtain ⟨o, e2, q⟩ := q
        cases o with
        | nx ρ2 h2 =>
          obtain ⟨j, hj, q⟩ := q
          obtain ⟨n, o, e3, q⟩ := ih j hj ρ2 h2 q
          refine ⟨n + 1, o, ?_, q⟩
          unfold whileO
          rw [e1, Option.bind_some, if_pos hr, e2, Option.bind_some]
          exact e3
        | ct ρ2 h2 =>
          obtain ⟨j, hj, q⟩ := q
          obtain ⟨n, o, e3, q⟩ := ih j hj ρ2 h2 q
          refine ⟨n + 1, o, ?_, q⟩
          unfold whileO
          rw [e1, Option.bind_some, if_pos hr, e2, Option.bind_some]
          exact e3
        | bk ρ2 h2 =>
          refine ⟨1, _, ?_, q⟩
          unfold whileO
          rw [e1, Option.bind_some, if_pos hr, e2, Option.bind_some]
        | rt d h2 =>
          refine ⟨1, _, ?_, q⟩
          unfold whileO
          rw [e1, Option.bind_some, if_pos hr, e2, Option.bind_some]
      · rw [if_neg hr] at q
        refine ⟨1, _, ?_, q⟩
        unfold whileO
        rw [e1, Option.bind_some, if_neg hr]
  obtain ⟨n, o, e, q⟩ := key k ρ h h0
  exact ⟨o, whileS_of e, q⟩
theorem W_compL {f : D → PH → R1 (Option D)} {Q : List D × PH → Prop} (I : List D → List D → PH → Prop)
    (hs : ∀ x r acc h, I (x :: r) acc h → W (f x h) fun y => match y.1 with
      | some z => I r (acc ++ [z]) y.2
      | none => I r acc y.2) (he : ∀ acc h, I [] acc h → Q (acc, h)) :
    ∀ {xs acc : List D} {h : PH}, acc.length + xs.length ≤ sizeLine → I xs acc h → W (compL f xs acc h) Q
  | [], acc, h, l, i => by
    unfold compL
    rw [if_pos (by simpa using l)]
    exact ⟨_, rfl, he acc h i⟩
  | x :: r, acc, h, l, i => by
    obtain ⟨⟨y, h2⟩, e, q⟩ := hs x r acc h i
    unfold compL
    rw [e, Option.bind_some]
    have l : acc.length + (r.length + 1) ≤ sizeLine := l
    cases y with
    | none =>
      exact W_compL I hs he (by omega) q
    | some z =>
      show W (if acc.length < sizeLine then compL f r (acc ++ [z]) h2 else none) Q
      rw [if_pos (by omega)]
      exact W_compL I hs he (by simp only [List.length_append, List.length_cons, List.length_nil]; omega) q
/-- a comprehension that changes nothing -/
theorem compL_pure {f : D → PH → R1 (Option D)} {g : D → Option D} {h : PH} : ∀ {xs acc : List D}, (∀ x ∈ xs, f x h = some (g x, h)) → acc.length + xs.length ≤ sizeLine → compL f xs acc h = some (acc ++ xs.filterMap g, h)
  | [], acc, hf, l => by
    unfold compL
    rw [if_pos (by simpa using l), List.filterMap_nil, List.append_nil]
  | x :: r, acc, hf, l => by
    have l : acc.length + (r.length + 1) ≤ sizeLine := l
    unfold compL
    rw [hf x (List.mem_cons_self ..), Option.bind_some, List.filterMap_cons]
    cases e : g x with
    | none => exact compL_pure (fun y hy => hf y (List.mem_cons_of_mem _ hy)) (by omega)
    | some z =>
      show (if acc.length < sizeLine then compL f r (acc ++ [z]) h else none) = _
      rw [if_pos (by omega), compL_pure (fun y hy => hf y (List.mem_cons_of_mem _ hy)) (by simp only [List.length_append, List.length_cons, List.length_nil]; omega)]
      simp
/-- .. all, any -/
theorem allL_pure {f : D → PH → R1 (Option D)} {g : D → Bool} {h : PH} {stop : Bool} : ∀ {xs : List D}, (∀ x ∈ xs, f x h = some (some (.bl (g x)), h)) → allL f stop xs h = some (if (xs.any fun x => g x == stop) = true then stop else !stop, h)
  | [], hf => by unfold allL; simp
  | x :: r, hf => by
    unfold allL
    rw [hf x (List.mem_cons_self ..), Option.bind_some]
    show (if g x = stop then some (stop, h) else allL f stop r h) = _
    by_cases e : g x = stop
    · rw [if_pos e]; simp [e]
    · rw [if_neg e, allL_pure fun y hy => hf y (List.mem_cons_of_mem _ hy)]
      simp [e]
/-! ### places -/
theorem idx_tup0 (x0 : D) (r : List D) : idxD (.tup (x0 :: r)) (.int 0) = some x0 := by
  show L2.atI (x0 :: r) 0 = some x0
  unfold L2.atI L2.ixN
  rw [if_pos (by omega), if_pos (by simp only [List.length_cons]; omega)]
  rfl
theorem idx_tup1 (x0 x1 : D) (r : List D) : idxD (.tup (x0 :: x1 :: r)) (.int 1) = some x1 := by
  show L2.atI (x0 :: x1 :: r) 1 = some x1
  unfold L2.atI L2.ixN
  rw [if_pos (by omega), if_pos (by simp only [List.length_cons]; omega)]
  rfl
theorem idx_tup2 (x0 x1 x2 : D) (r : List D) : idxD (.tup (x0 :: x1 :: x2 :: r)) (.int 2) = some x2 := by
  show L2.atI (x0 :: x1 :: x2 :: r) 2 = some x2
  unfold L2.atI L2.ixN
  rw [if_pos (by omega), if_pos (by simp only [List.length_cons]; omega)]
  rfl
theorem idx_tup3 (x0 x1 x2 x3 : D) (r : List D) : idxD (.tup (x0 :: x1 :: x2 :: x3 :: r)) (.int 3) = some x3 := by
  show L2.atI (x0 :: x1 :: x2 :: x3 :: r) 3 = some x3
  unfold L2.atI L2.ixN
  rw [if_pos (by omega), if_pos (by simp only [List.length_cons]; omega)]
  rfl
theorem idx_tup4 (x0 x1 x2 x3 x4 : D) (r : List D) : idxD (.tup (x0 :: x1 :: x2 :: x3 :: x4 :: r)) (.int 4) = some x4 := by
  show L2.atI (x0 :: x1 :: x2 :: x3 :: x4 :: r) 4 = some x4
  unfold L2.atI L2.ixN
  rw [if_pos (by omega), if_pos (by simp only [List.length_cons]; omega)]
  rfl
theorem idx_tup5 (x0 x1 x2 x3 x4 x5 : D) (r : List D) : idxD (.tup (x0 :: x1 :: x2 :: x3 :: x4 :: x5 :: r)) (.int 5) = some x5 := by
  show L2.atI (x0 :: x1 :: x2 :: x3 :: x4 :: x5 :: r) 5 = some x5
  unfold L2.atI L2.ixN
  rw [if_pos (by omega), if_pos (by simp only [List.length_cons]; omega)]
  rfl
theorem idx_tup6 (x0 x1 x2 x3 x4 x5 x6 : D) (r : List D) : idxD (.tup (x0 :: x1 :: x2 :: x3 :: x4 :: x5 :: x6 :: r)) (.int 6) = some x6 := by
  show L2.atI (x0 :: x1 :: x2 :: x3 :: x4 :: x5 :: x6 :: r) 6 = some x6
  unfold L2.atI L2.ixN
  rw [if_pos (by omega), if_pos (by simp only [List.length_cons]; omega)]
  rfl
theorem idx_tup7 (x0 x1 x2 x3 x4 x5 x6 x7 : D) (r : List D) : idxD (.tup (x0 :: x1 :: x2 :: x3 :: x4 :: x5 :: x6 :: x7 :: r)) (.int 7) = some x7 := by
  show L2.atI (x0 :: x1 :: x2 :: x3 :: x4 :: x5 :: x6 :: x7 :: r) 7 = some x7
  unfold L2.atI L2.ixN
  rw [if_pos (by omega), if_pos (by simp only [List.length_cons]; omega)]
  rfl
theorem idx_tup8 (x0 x1 x2 x3 x4 x5 x6 x7 x8 : D) (r : List D) : idxD (.tup (x0 :: x1 :: x2 :: x3 :: x4 :: x5 :: x6 :: x7 :: x8 :: r)) (.int 8) = some x8 := by
  show L2.atI (x0 :: x1 :: x2 :: x3 :: x4 :: x5 :: x6 :: x7 :: x8 :: r) 8 = some x8
  unfold L2.atI L2.ixN
  rw [if_pos (by omega), if_pos (by simp only [List.length_cons]; omega)]
  rfl
theorem idx_tup9 (x0 x1 x2 x3 x4 x5 x6 x7 x8 x9 : D) (r : List D) : idxD (.tup (x0 :: x1 :: x2 :: x3 :: x4 :: x5 :: x6 :: x7 :: x8 :: x9 :: r)) (.int 9) = some x9 := by
  show L2.atI (x0 :: x1 :: x2 :: x3 :: x4 :: x5 :: x6 :: x7 :: x8 :: x9 :: r) 9 = some x9
  unfold L2.atI L2.ixN
  rw [if_pos (by omega), if_pos (by simp only [List.length_cons]; omega)]
  rfl
theorem idx_lst0 (x0 : D) (r : List D) : idxD (.lst (x0 :: r)) (.int 0) = some x0 := by
  show L2.atI (x0 :: r) 0 = some x0
  unfold L2.atI L2.ixN
  rw [if_pos (by omega), if_pos (by simp only [List.length_cons]; omega)]
  rfl
theorem idx_lst1 (x0 x1 : D) (r : List D) : idxD (.lst (x0 :: x1 :: r)) (.int 1) = some x1 := by
  show L2.atI (x0 :: x1 :: r) 1 = some x1
  unfold L2.atI L2.ixN
  rw [if_pos (by omega), if_pos (by simp only [List.length_cons]; omega)]
  rfl
theorem idx_lst2 (x0 x1 x2 : D) (r : List D) : idxD (.lst (x0 :: x1 :: x2 :: r)) (.int 2) = some x2 := by
  show L2.atI (x0 :: x1 :: x2 :: r) 2 = some x2
  unfold L2.atI L2.ixN
  rw [if_pos (by omega), if_pos (by simp only [List.length_cons]; omega)]
  rfl
theorem idx_lst3 (x0 x1 x2 x3 : D) (r : List D) : idxD (.lst (x0 :: x1 :: x2 :: x3 :: r)) (.int 3) = some x3 := by
  show L2.atI (x0 :: x1 :: x2 :: x3 :: r) 3 = some x3
  unfold L2.atI L2.ixN
  rw [if_pos (by omega), if_pos (by simp only [List.length_cons]; omega)]
  rfl
theorem idx_lst4 (x0 x1 x2 x3 x4 : D) (r : List D) : idxD (.lst (x0 :: x1 :: x2 :: x3 :: x4 :: r)) (.int 4) = some x4 := by
  show L2.atI (x0 :: x1 :: x2 :: x3 :: x4 :: r) 4 = some x4
  unfold L2.atI L2.ixN
  rw [if_pos (by omega), if_pos (by simp only [List.length_cons]; omega)]
  rfl
theorem idx_lst5 (x0 x1 x2 x3 x4 x5 : D) (r : List D) : idxD (.lst (x0 :: x1 :: x2 :: x3 :: x4 :: x5 :: r)) (.int 5) = some x5 := by
  show L2.atI (x0 :: x1 :: x2 :: x3 :: x4 :: x5 :: r) 5 = some x5
  unfold L2.atI L2.ixN
  rw [if_pos (by omega), if_pos (by simp only [List.length_cons]; omega)]
  rfl
theorem idx_lst6 (x0 x1 x2 x3 x4 x5 x6 : D) (r : List D) : idxD (.lst (x0 :: x1 :: x2 :: x3 :: x4 :: x5 :: x6 :: r)) (.int 6) = some x6 := by
  show L2.atI (x0 :: x1 :: x2 :: x3 :: x4 :: x5 :: x6 :: r) 6 = some x6
  unfold L2.atI L2.ixN
  rw [if_pos (by omega), if_pos (by simp only [List.length_cons]; omega)]
  rfl
theorem idx_lst7 (x0 x1 x2 x3 x4 x5 x6 x7 : D) (r : List D) : idxD (.lst (x0 :: x1 :: x2 :: x3 :: x4 :: x5 :: x6 :: x7 :: r)) (.int 7) = some x7 := by
  show L2.atI (x0 :: x1 :: x2 :: x3 :: x4 :: x5 :: x6 :: x7 :: r) 7 = some x7
  unfold L2.atI L2.ixN
  rw [if_pos (by omega), if_pos (by simp only [List.length_cons]; omega)]
  rfl
theorem idx_lst8 (x0 x1 x2 x3 x4 x5 x6 x7 x8 : D) (r : List D) : idxD (.lst (x0 :: x1 :: x2 :: x3 :: x4 :: x5 :: x6 :: x7 :: x8 :: r)) (.int 8) = some x8 := by
  show L2.atI (x0 :: x1 :: x2 :: x3 :: x4 :: x5 :: x6 :: x7 :: x8 :: r) 8 = some x8
  unfold L2.atI L2.ixN
  rw [if_pos (by omega), if_pos (by simp only [List.length_cons]; omega)]
  rfl
theorem idx_lst9 (x0 x1 x2 x3 x4 x5 x6 x7 x8 x9 : D) (r : List D) : idxD (.lst (x0 :: x1 :: x2 :: x3 :: x4 :: x5 :: x6 :: x7 :: x8 :: x9 :: r)) (.int 9) = some x9 := by
  show L2.atI (x0 :: x1 :: x2 :: x3 :: x4 :: x5 :: x6 :: x7 :: x8 :: x9 :: r) 9 = some x9
  unfold L2.atI L2.ixN
  rw [if_pos (by omega), if_pos (by simp only [List.length_cons]; omega)]
  rfl
theorem atI_at {α : Type} {xs : List α} {i : Int} {j : Nat} {x : α} (hi : i = j) (e : xs[j]? = some x) : L2.atI xs i = some x := by
  obtain ⟨l, _⟩ := List.getElem?_eq_some_iff.mp e
  unfold L2.atI L2.ixN
  rw [if_pos (by omega), if_pos (by omega), hi]
  exact e
theorem ints_map : ∀ (ns : List Int), intsD (ns.map .int) = some ns
  | [] => rfl
  | n :: r => by
    show (intsD (r.map .int)).map (n :: ·) = _
    rw [ints_map r]; rfl
end PI

set_option Elab.async false
set_option linter.all false
set_option maxRecDepth 100000
set_option maxHeartbeats 4000000
set_option autoImplicit false
namespace PI
open PySem PySem.Spec PyProof.Rows L2

theorem W.eq {α : Type} {o : Option α} {a : α} (h : W o fun b => b = a) : o = some a := by
  obtain ⟨b, e, rfl⟩ := h
  exact e
theorem W_ext {α : Type} {o : Option α} {Q Q' : α → Prop} (h : ∀ a, Q a = Q' a) : W o Q = W o Q' := by
  have e : Q = Q' := funext h
  rw [e]
theorem szl : sizeLine = 16777216 := rfl
/-- a comprehension's turn -/
noncomputable def genF (C : Calls) (p : P) (own : List Nat) (t : Eo) (e : E) (ρ : Rho) (x : D) (h : PH) : R1 (Option D) := (bindP p x (wipeS ρ own)).bind fun ρ' => (evOT C t ρ' h).bind fun b => if b.1 = true then (ev C e ρ' b.2).map fun y => (some y.1, y.2) else some (none, b.2)
section
variable {C : Calls} {ρ : Rho} {h : PH} {Q : D × PH → Prop} {QT : Bool × PH → Prop} {QL : List D × PH → Prop} {QI : Option Int × PH → Prop} {QO : Out → Prop}
theorem w_var {i : Nat} : W (ev C (.var i) ρ h) Q = W (varS ρ i) fun d => Q (d, h) := by simp only [ev, W_bind, W_map, W_some] <;> repeat' (first | rfl | refine W_ext (fun _ => ?_) | simp only [W_bind, W_map, W_some])
theorem w_own {i : Nat} : W (ev C (.own i) ρ h) Q = W (ownS ρ i) fun d => Q (d, h) := by simp only [ev, W_bind, W_map, W_some] <;> repeat' (first | rfl | refine W_ext (fun _ => ?_) | simp only [W_bind, W_map, W_some])
theorem w_cst {c : Cst} : W (ev C (.cst c) ρ h) Q = Q (c.d, h) := by simp only [ev, W_bind, W_map, W_some] <;> repeat' (first | rfl | refine W_ext (fun _ => ?_) | simp only [W_bind, W_map, W_some])
theorem w_tup {es : Es} : W (ev C (.tup es) ρ h) Q = W (evs C es ρ h) fun r => W (if r.1.length ≤ sizeLine then some (.tup r.1, r.2) else none) Q := by simp only [ev, W_bind, W_map, W_some] <;> repeat' (first | rfl | refine W_ext (fun _ => ?_) | simp only [W_bind, W_map, W_some])
theorem w_ofL {l : L} : W (ev C (.ofL l) ρ h) Q = W (evL C l ρ h) fun r => Q (.lst r.1, r.2) := by simp only [ev, W_bind, W_map, W_some] <;> repeat' (first | rfl | refine W_ext (fun _ => ?_) | simp only [W_bind, W_map, W_some])
theorem w_celL {l : L} : W (ev C (.celL l) ρ h) Q = W (evL C l ρ h) fun r => Q (.ref r.2.length, r.2 ++ [.lst r.1]) := by simp only [ev, W_bind, W_map, W_some] <;> repeat' (first | rfl | refine W_ext (fun _ => ?_) | simp only [W_bind, W_map, W_some])
theorem w_neg {a : E} : W (ev C (.neg a) ρ h) Q = W (ev C a ρ h) fun r => W (match r.1 with
    | .int i => some (.int (-i), r.2)
    | _ => none) Q := by simp only [ev, W_bind, W_map, W_some] <;> repeat' (first | rfl | refine W_ext (fun _ => ?_) | simp only [W_bind, W_map, W_some])
theorem w_bin {o : Op} {a b : E} : W (ev C (.bin o a b) ρ h) Q = W (ev C a ρ h) fun r => W (ev C b ρ r.2) fun q => W (o.f (deref q.2 r.1) (deref q.2 q.1)) fun d => Q (d, q.2) := by simp only [ev, W_bind, W_map, W_some] <;> repeat' (first | rfl | refine W_ext (fun _ => ?_) | simp only [W_bind, W_map, W_some])
theorem w_cmp {o : Cm} {a b : E} : W (ev C (.cmp o a b) ρ h) Q = W (ev C a ρ h) fun r => W (ev C b ρ r.2) fun q => W (o.f (deref q.2 r.1) (deref q.2 q.1)) fun d => Q (d, q.2) := by simp only [ev, W_bind, W_map, W_some] <;> repeat' (first | rfl | refine W_ext (fun _ => ?_) | simp only [W_bind, W_map, W_some])
theorem w_chn {o p : Cm} {a b c : E} : W (ev C (.chn o p a b c) ρ h) Q = W (ev C a ρ h) fun r => W (ev C b ρ r.2) fun q => W (o.f (deref q.2 r.1) (deref q.2 q.1)) fun d => W (match d with
    | .bl true => (ev C c ρ q.2).bind fun s => (p.f (deref s.2 q.1) (deref s.2 s.1)).map fun d => (d, s.2)
    | .bl false => some (.bl false, q.2)
    | _ => none) Q := by simp only [ev, W_bind, W_map, W_some] <;> repeat' (first | rfl | refine W_ext (fun _ => ?_) | simp only [W_bind, W_map, W_some])
theorem w_nt {a : E} : W (ev C (.nt a) ρ h) Q = W (ev C a ρ h) fun r => W (truD (deref r.2 r.1)) fun b => Q (.bl (!b), r.2) := by simp only [ev, W_bind, W_map, W_some] <;> repeat' (first | rfl | refine W_ext (fun _ => ?_) | simp only [W_bind, W_map, W_some])
theorem w_an {es : Es} : W (ev C (.an es) ρ h) Q = W (evAnd C es ρ h) Q := by simp only [ev, W_bind, W_map, W_some] <;> repeat' (first | rfl | refine W_ext (fun _ => ?_) | simp only [W_bind, W_map, W_some])
theorem w_or {es : Es} : W (ev C (.or es) ρ h) Q = W (evOr C es ρ h) Q := by simp only [ev, W_bind, W_map, W_some] <;> repeat' (first | rfl | refine W_ext (fun _ => ?_) | simp only [W_bind, W_map, W_some])
theorem w_ite {t a b : E} : W (ev C (.ite t a b) ρ h) Q = W (evT C t ρ h) fun r => W (if r.1 = true then ev C a ρ r.2 else ev C b ρ r.2) Q := by simp only [ev, W_bind, W_map, W_some] <;> repeat' (first | rfl | refine W_ext (fun _ => ?_) | simp only [W_bind, W_map, W_some])
theorem w_idx {a i : E} : W (ev C (.idx a i) ρ h) Q = W (ev C a ρ h) fun r => W (ev C i ρ r.2) fun q => W (idxD (deref q.2 r.1) (deref q.2 q.1)) fun d => Q (d, q.2) := by simp only [ev, W_bind, W_map, W_some] <;> repeat' (first | rfl | refine W_ext (fun _ => ?_) | simp only [W_bind, W_map, W_some])
theorem w_slc {a : E} {lo hi : Eo} : W (ev C (.slc a lo hi) ρ h) Q = W (ev C a ρ h) fun r => W (evo C lo ρ r.2) fun q => W (evo C hi ρ q.2) fun s => W (sliceD (deref s.2 r.1) q.1 s.1) fun d => Q (d, s.2) := by simp only [ev, W_bind, W_map, W_some] <;> repeat' (first | rfl | refine W_ext (fun _ => ?_) | simp only [W_bind, W_map, W_some])
theorem w_call {f : Nat} {es : Es} : W (ev C (.call f es) ρ h) Q = W (evs C es ρ h) fun r => W (C f r.1 r.2) Q := by simp only [ev, W_bind, W_map, W_some] <;> repeat' (first | rfl | refine W_ext (fun _ => ?_) | simp only [W_bind, W_map, W_some])
theorem w_callK {f : Nat} {pm : List Nat} {es : Es} : W (ev C (.callK f pm es) ρ h) Q = W (evs C es ρ h) fun r => W (permD r.1 pm) fun xs => W (C f xs r.2) Q := by simp only [ev, W_bind, W_map, W_some] <;> repeat' (first | rfl | refine W_ext (fun _ => ?_) | simp only [W_bind, W_map, W_some])
theorem w_bi {b : B} {es : Es} : W (ev C (.bi b es) ρ h) Q = W (evs C es ρ h) fun r => W (biD b (r.1.map (deref r.2))) fun d => Q (d, r.2) := by simp only [ev, W_bind, W_map, W_some] <;> repeat' (first | rfl | refine W_ext (fun _ => ?_) | simp only [W_bind, W_map, W_some])
theorem w_isi {a : E} {t : Ty} : W (ev C (.isi a t) ρ h) Q = W (ev C a ρ h) fun r => W (tyB t (deref r.2 r.1)) fun b => Q (.bl b, r.2) := by simp only [ev, W_bind, W_map, W_some] <;> repeat' (first | rfl | refine W_ext (fun _ => ?_) | simp only [W_bind, W_map, W_some])
theorem w_gall {p : P} {it : It} {own : List Nat} {t : Eo} {e : E} : W (ev C (.gen .all p it own t e) ρ h) Q = W (evI C it ρ h) fun r => W (allL (genF C p own t e ρ) false r.1 r.2) fun b => Q (.bl b.1, b.2) := by simp only [ev, W_bind, W_map, W_some] <;> repeat' (first | rfl | refine W_ext (fun _ => ?_) | simp only [W_bind, W_map, W_some])
theorem w_gany {p : P} {it : It} {own : List Nat} {t : Eo} {e : E} : W (ev C (.gen .any p it own t e) ρ h) Q = W (evI C it ρ h) fun r => W (allL (genF C p own t e ρ) true r.1 r.2) fun b => Q (.bl b.1, b.2) := by simp only [ev, W_bind, W_map, W_some] <;> repeat' (first | rfl | refine W_ext (fun _ => ?_) | simp only [W_bind, W_map, W_some])
theorem w_gsum {p : P} {it : It} {own : List Nat} {t : Eo} {e : E} : W (ev C (.gen .sum p it own t e) ρ h) Q = W (evI C it ρ h) fun r => W (compL (genF C p own t e ρ) r.1 [] r.2) fun q => W (intsD q.1) fun ns => Q (.int ns.sum, q.2) := by simp only [ev, W_bind, W_map, W_some] <;> repeat' (first | rfl | refine W_ext (fun _ => ?_) | simp only [W_bind, W_map, W_some])
theorem w_gtup {p : P} {it : It} {own : List Nat} {t : Eo} {e : E} : W (ev C (.gen .tuple p it own t e) ρ h) Q = W (evI C it ρ h) fun r => W (if r.1.length ≤ sizeLine then some () else none) fun _ => W (compL (genF C p own t e ρ) r.1 [] r.2) fun q => Q (.tup q.1, q.2) := by
  simp only [ev, W_bind, W_map]
  refine W_ext fun r => ?_
  by_cases c : r.1.length ≤ sizeLine
  · simp only [if_pos c, W_some, W_map]; rfl
  · simp only [if_neg c]
    apply propext
    constructor
    · rintro ⟨_, e, _⟩; cases e
    · rintro ⟨_, e, _⟩; cases e
theorem w_genF {p : P} {own : List Nat} {t : Eo} {e : E} {x : D} {Q : Option D × PH → Prop} : W (genF C p own t e ρ x h) Q = W (bindP p x (wipeS ρ own)) fun ρ' => W (evOT C t ρ' h) fun b => W (if b.1 = true then (ev C e ρ' b.2).map fun y => (some y.1, y.2) else some (none, b.2)) Q := by simp only [genF, W_bind, W_map, W_some] <;> repeat' (first | rfl | refine W_ext (fun _ => ?_) | simp only [W_bind, W_map, W_some])
theorem w_nil : W (evs C .nil ρ h) QL = QL ([], h) := by simp only [evs, W_bind, W_map, W_some] <;> repeat' (first | rfl | refine W_ext (fun _ => ?_) | simp only [W_bind, W_map, W_some])
theorem w_cons {e : E} {es : Es} : W (evs C (.cons e es) ρ h) QL = W (ev C e ρ h) fun r => W (evs C es ρ r.2) fun q => QL (r.1 :: q.1, q.2) := by simp only [evs, W_bind, W_map, W_some] <;> repeat' (first | rfl | refine W_ext (fun _ => ?_) | simp only [W_bind, W_map, W_some])
theorem w_onone : W (evo C .none ρ h) QI = QI (none, h) := by simp only [evo, W_bind, W_map, W_some] <;> repeat' (first | rfl | refine W_ext (fun _ => ?_) | simp only [W_bind, W_map, W_some])
theorem w_osome {e : E} : W (evo C (.some e) ρ h) QI = W (ev C e ρ h) fun r => W (match r.1 with
    | .int i => some (some i, r.2)
    | _ => none) QI := by simp only [evo, W_bind, W_map, W_some] <;> repeat' (first | rfl | refine W_ext (fun _ => ?_) | simp only [W_bind, W_map, W_some])
theorem w_otnone : W (evOT C .none ρ h) QT = QT (true, h) := by simp only [evOT, W_bind, W_map, W_some] <;> repeat' (first | rfl | refine W_ext (fun _ => ?_) | simp only [W_bind, W_map, W_some])
theorem w_otsome {e : E} : W (evOT C (.some e) ρ h) QT = W (evT C e ρ h) QT := by simp only [evOT, W_bind, W_map, W_some] <;> repeat' (first | rfl | refine W_ext (fun _ => ?_) | simp only [W_bind, W_map, W_some])
theorem w_and1 {e : E} : W (evAnd C (.cons e .nil) ρ h) Q = W (ev C e ρ h) Q := by simp only [evAnd, W_bind, W_map, W_some] <;> repeat' (first | rfl | refine W_ext (fun _ => ?_) | simp only [W_bind, W_map, W_some])
theorem w_and {e f : E} {es : Es} : W (evAnd C (.cons e (.cons f es)) ρ h) Q = W (ev C e ρ h) fun r => W (match r.1 with
    | .bl true => evAnd C (.cons f es) ρ r.2
    | .bl false => some (.bl false, r.2)
    | _ => none) Q := by simp only [evAnd, W_bind, W_map, W_some] <;> repeat' (first | rfl | refine W_ext (fun _ => ?_) | simp only [W_bind, W_map, W_some])
theorem w_or1 {e : E} : W (evOr C (.cons e .nil) ρ h) Q = W (ev C e ρ h) Q := by simp only [evOr, W_bind, W_map, W_some] <;> repeat' (first | rfl | refine W_ext (fun _ => ?_) | simp only [W_bind, W_map, W_some])
theorem w_orc {e f : E} {es : Es} : W (evOr C (.cons e (.cons f es)) ρ h) Q = W (ev C e ρ h) fun r => W (match r.1 with
    | .bl false => evOr C (.cons f es) ρ r.2
    | .bl true => some (.bl true, r.2)
    | _ => none) Q := by simp only [evOr, W_bind, W_map, W_some] <;> repeat' (first | rfl | refine W_ext (fun _ => ?_) | simp only [W_bind, W_map, W_some])
theorem w_tnt {a : E} : W (evT C (.nt a) ρ h) QT = W (evT C a ρ h) fun r => QT (!r.1, r.2) := by simp only [evT, W_bind, W_map, W_some] <;> repeat' (first | rfl | refine W_ext (fun _ => ?_) | simp only [W_bind, W_map, W_some])
theorem w_tan {es : Es} : W (evT C (.an es) ρ h) QT = W (evTA C es ρ h) QT := by simp only [evT, W_bind, W_map, W_some] <;> repeat' (first | rfl | refine W_ext (fun _ => ?_) | simp only [W_bind, W_map, W_some])
theorem w_tor {es : Es} : W (evT C (.or es) ρ h) QT = W (evTO C es ρ h) QT := by simp only [evT, W_bind, W_map, W_some] <;> repeat' (first | rfl | refine W_ext (fun _ => ?_) | simp only [W_bind, W_map, W_some])
theorem w_ta1 {e : E} : W (evTA C (.cons e .nil) ρ h) QT = W (evT C e ρ h) QT := by simp only [evTA, W_bind, W_map, W_some] <;> repeat' (first | rfl | refine W_ext (fun _ => ?_) | simp only [W_bind, W_map, W_some])
theorem w_ta {e f : E} {es : Es} : W (evTA C (.cons e (.cons f es)) ρ h) QT = W (evT C e ρ h) fun r => W (if r.1 = true then evTA C (.cons f es) ρ r.2 else some (false, r.2)) QT := by simp only [evTA, W_bind, W_map, W_some] <;> repeat' (first | rfl | refine W_ext (fun _ => ?_) | simp only [W_bind, W_map, W_some])
theorem w_to1 {e : E} : W (evTO C (.cons e .nil) ρ h) QT = W (evT C e ρ h) QT := by simp only [evTO, W_bind, W_map, W_some] <;> repeat' (first | rfl | refine W_ext (fun _ => ?_) | simp only [W_bind, W_map, W_some])
theorem w_to {e f : E} {es : Es} : W (evTO C (.cons e (.cons f es)) ρ h) QT = W (evT C e ρ h) fun r => W (if r.1 = true then some (true, r.2) else evTO C (.cons f es) ρ r.2) QT := by simp only [evTO, W_bind, W_map, W_some] <;> repeat' (first | rfl | refine W_ext (fun _ => ?_) | simp only [W_bind, W_map, W_some])
theorem w_tcmp {o : Cm} {a b : E} : W (evT C (.cmp o a b) ρ h) QT = W (ev C a ρ h) fun r => W (ev C b ρ r.2) fun q => W (o.f (deref q.2 r.1) (deref q.2 q.1)) fun d => W (match d with
    | .bl b => some (b, q.2)
    | _ => none) QT := by simp only [evT, W_bind, W_map, W_some] <;> repeat' (first | rfl | refine W_ext (fun _ => ?_) | simp only [W_bind, W_map, W_some])
theorem w_tchn {o p : Cm} {a b c : E} : W (evT C (.chn o p a b c) ρ h) QT = W (ev C a ρ h) fun r => W (ev C b ρ r.2) fun q => W (o.f (deref q.2 r.1) (deref q.2 q.1)) fun d => W (match d with
    | .bl true => (ev C c ρ q.2).bind fun s => (p.f (deref s.2 q.1) (deref s.2 s.1)).bind fun d => match d with
      | .bl b => some (b, s.2)
      | _ => none
    | .bl false => some (false, q.2)
    | _ => none) QT := by simp only [evT, W_bind, W_map, W_some] <;> repeat' (first | rfl | refine W_ext (fun _ => ?_) | simp only [W_bind, W_map, W_some])
theorem w_tvar {i : Nat} : W (evT C (.var i) ρ h) QT = W (ev C (.var i) ρ h) fun r => W (truD (deref r.2 r.1)) fun b => QT (b, r.2) := by simp only [evT, W_bind, W_map, W_some] <;> repeat' (first | rfl | refine W_ext (fun _ => ?_) | simp only [W_bind, W_map, W_some])
theorem w_town {i : Nat} : W (evT C (.own i) ρ h) QT = W (ev C (.own i) ρ h) fun r => W (truD (deref r.2 r.1)) fun b => QT (b, r.2) := by simp only [evT, W_bind, W_map, W_some] <;> repeat' (first | rfl | refine W_ext (fun _ => ?_) | simp only [W_bind, W_map, W_some])
theorem w_tcst {i : Cst} : W (evT C (.cst i) ρ h) QT = W (ev C (.cst i) ρ h) fun r => W (truD (deref r.2 r.1)) fun b => QT (b, r.2) := by simp only [evT, W_bind, W_map, W_some] <;> repeat' (first | rfl | refine W_ext (fun _ => ?_) | simp only [W_bind, W_map, W_some])
theorem w_tidx {a b : E} : W (evT C (.idx a b) ρ h) QT = W (ev C (.idx a b) ρ h) fun r => W (truD (deref r.2 r.1)) fun b => QT (b, r.2) := by simp only [evT, W_bind, W_map, W_some] <;> repeat' (first | rfl | refine W_ext (fun _ => ?_) | simp only [W_bind, W_map, W_some])
theorem w_tbin {o : Op} {a b : E} : W (evT C (.bin o a b) ρ h) QT = W (ev C (.bin o a b) ρ h) fun r => W (truD (deref r.2 r.1)) fun b => QT (b, r.2) := by simp only [evT, W_bind, W_map, W_some] <;> repeat' (first | rfl | refine W_ext (fun _ => ?_) | simp only [W_bind, W_map, W_some])
theorem w_tslc {a : E} {lo hi : Eo} : W (evT C (.slc a lo hi) ρ h) QT = W (ev C (.slc a lo hi) ρ h) fun r => W (truD (deref r.2 r.1)) fun b => QT (b, r.2) := by simp only [evT, W_bind, W_map, W_some] <;> repeat' (first | rfl | refine W_ext (fun _ => ?_) | simp only [W_bind, W_map, W_some])
theorem w_tcall {f : Nat} {es : Es} : W (evT C (.call f es) ρ h) QT = W (ev C (.call f es) ρ h) fun r => W (truD (deref r.2 r.1)) fun b => QT (b, r.2) := by simp only [evT, W_bind, W_map, W_some] <;> repeat' (first | rfl | refine W_ext (fun _ => ?_) | simp only [W_bind, W_map, W_some])
theorem w_tcallK {f : Nat} {pm : List Nat} {es : Es} : W (evT C (.callK f pm es) ρ h) QT = W (ev C (.callK f pm es) ρ h) fun r => W (truD (deref r.2 r.1)) fun b => QT (b, r.2) := by simp only [evT, W_bind, W_map, W_some] <;> repeat' (first | rfl | refine W_ext (fun _ => ?_) | simp only [W_bind, W_map, W_some])
theorem w_tbi {b : B} {es : Es} : W (evT C (.bi b es) ρ h) QT = W (ev C (.bi b es) ρ h) fun r => W (truD (deref r.2 r.1)) fun b => QT (b, r.2) := by simp only [evT, W_bind, W_map, W_some] <;> repeat' (first | rfl | refine W_ext (fun _ => ?_) | simp only [W_bind, W_map, W_some])
theorem w_tisi {a : E} {t : Ty} : W (evT C (.isi a t) ρ h) QT = W (ev C (.isi a t) ρ h) fun r => W (truD (deref r.2 r.1)) fun b => QT (b, r.2) := by simp only [evT, W_bind, W_map, W_some] <;> repeat' (first | rfl | refine W_ext (fun _ => ?_) | simp only [W_bind, W_map, W_some])
theorem w_tgen {g : G} {p : P} {it : It} {own : List Nat} {t : Eo} {e : E} : W (evT C (.gen g p it own t e) ρ h) QT = W (ev C (.gen g p it own t e) ρ h) fun r => W (truD (deref r.2 r.1)) fun b => QT (b, r.2) := by simp only [evT, W_bind, W_map, W_some] <;> repeat' (first | rfl | refine W_ext (fun _ => ?_) | simp only [W_bind, W_map, W_some])
theorem w_disp {es : Es} : W (evL C (.disp es) ρ h) QL = W (evs C es ρ h) fun r => W (if r.1.length ≤ sizeLine then some r else none) QL := by simp only [evL, W_bind, W_map, W_some] <;> repeat' (first | rfl | refine W_ext (fun _ => ?_) | simp only [W_bind, W_map, W_some])
theorem w_comp {p : P} {it : It} {own : List Nat} {t : Eo} {e : E} : W (evL C (.comp p it own t e) ρ h) QL = W (evI C it ρ h) fun r => W (compL (genF C p own t e ρ) r.1 [] r.2) QL := by simp only [evL, W_bind, W_map, W_some] <;> repeat' (first | rfl | refine W_ext (fun _ => ?_) | simp only [W_bind, W_map, W_some])
theorem w_list {e : E} : W (evL C (.list e) ρ h) QL = W (ev C e ρ h) fun r => W (listD (deref r.2 r.1)) fun xs => QL (xs, r.2) := by simp only [evL, W_bind, W_map, W_some] <;> repeat' (first | rfl | refine W_ext (fun _ => ?_) | simp only [W_bind, W_map, W_some])
theorem w_sorted {e : E} : W (evL C (.sorted e) ρ h) QL = W (ev C e ρ h) fun r => W (sortD (deref r.2 r.1)) fun xs => QL (xs, r.2) := by simp only [evL, W_bind, W_map, W_some] <;> repeat' (first | rfl | refine W_ext (fun _ => ?_) | simp only [W_bind, W_map, W_some])
theorem w_seq {e : E} : W (evI C (.seq e) ρ h) QL = W (ev C e ρ h) fun r => W (itemsD r.1) fun xs => QL (xs, r.2) := by simp only [evI, W_bind, W_map, W_some] <;> repeat' (first | rfl | refine W_ext (fun _ => ?_) | simp only [W_bind, W_map, W_some])
theorem w_rng1 {a : E} : W (evI C (.rng1 a) ρ h) QL = W (ev C a ρ h) fun r => W (match r.1 with
    | .int j => if smallI j = true then some (rngL 0 j, r.2) else none
    | _ => none) QL := by simp only [evI, W_bind, W_map, W_some] <;> repeat' (first | rfl | refine W_ext (fun _ => ?_) | simp only [W_bind, W_map, W_some])
theorem w_rng2 {a b : E} : W (evI C (.rng2 a b) ρ h) QL = W (ev C a ρ h) fun r => W (ev C b ρ r.2) fun q => W (match r.1, q.1 with
    | .int i, .int j => if smallI i = true ∧ smallI j = true then some (rngL i j, q.2) else none
    | _, _ => none) QL := by simp only [evI, W_bind, W_map, W_some] <;> repeat' (first | rfl | refine W_ext (fun _ => ?_) | simp only [W_bind, W_map, W_some])
theorem w_enum {e : E} : W (evI C (.enum e) ρ h) QL = W (ev C e ρ h) fun r => W (lstItems r.1) fun xs => QL (enumL 0 xs, r.2) := by simp only [evI, W_bind, W_map, W_some] <;> repeat' (first | rfl | refine W_ext (fun _ => ?_) | simp only [W_bind, W_map, W_some])
theorem w_zip {a b : E} : W (evI C (.zip a b) ρ h) QL = W (ev C a ρ h) fun r => W (ev C b ρ r.2) fun q => W (lstItems r.1) fun xs => W (lstItems q.1) fun ys => QL (zipL xs ys, q.2) := by simp only [evI, W_bind, W_map, W_some] <;> repeat' (first | rfl | refine W_ext (fun _ => ?_) | simp only [W_bind, W_map, W_some])
theorem w_rev {e : E} : W (evI C (.rev e) ρ h) QL = W (ev C e ρ h) fun r => W (lstItems r.1) fun xs => QL (xs.reverse, r.2) := by simp only [evI, W_bind, W_map, W_some] <;> repeat' (first | rfl | refine W_ext (fun _ => ?_) | simp only [W_bind, W_map, W_some])
/-! ### statements -/
theorem w_set {i : Nat} {e : E} : W (ex C (.set i e) ρ h) QO = W (ev C e ρ h) fun r => QO (.nx (setS ρ i (.val r.1)) r.2) := by simp only [ex, W_bind, W_map, W_some] <;> repeat' (first | rfl | refine W_ext (fun _ => ?_) | simp only [W_bind, W_map, W_some])
theorem w_setL {i : Nat} {l : L} : W (ex C (.setL i l) ρ h) QO = W (evL C l ρ h) fun r => QO (.nx (setS ρ i (.own r.1)) r.2) := by simp only [ex, W_bind, W_map, W_some] <;> repeat' (first | rfl | refine W_ext (fun _ => ?_) | simp only [W_bind, W_map, W_some])
theorem w_setD {i : Nat} : W (ex C (.setD i) ρ h) QO = QO (.nx (setS ρ i (.ownD [] [])) h) := by simp only [ex, W_bind, W_map, W_some] <;> repeat' (first | rfl | refine W_ext (fun _ => ?_) | simp only [W_bind, W_map, W_some])
theorem w_pat {p : P} {e : E} : W (ex C (.pat p e) ρ h) QO = W (ev C e ρ h) fun r => W (bindP p r.1 ρ) fun ρ' => QO (.nx ρ' r.2) := by simp only [ex, W_bind, W_map, W_some] <;> repeat' (first | rfl | refine W_ext (fun _ => ?_) | simp only [W_bind, W_map, W_some])
theorem w_par2 {i j : Nat} {a b : E} : W (ex C (.par2 i j a b) ρ h) QO = W (ev C a ρ h) fun r => W (ev C b ρ r.2) fun q => QO (.nx (setS (setS ρ i (.val r.1)) j (.val q.1)) q.2) := by simp only [ex, W_bind, W_map, W_some] <;> repeat' (first | rfl | refine W_ext (fun _ => ?_) | simp only [W_bind, W_map, W_some])
theorem w_aug {i : Nat} {o : Op} {e : E} : W (ex C (.aug i o e) ρ h) QO = W (varS ρ i) fun x => W (ev C e ρ h) fun r => W (match x, r.1 with
    | .int a, .int b => (o.f (.int a) (.int b)).map fun d => .nx (setS ρ i (.val d)) r.2
    | _, _ => none) QO := by simp only [ex, W_bind, W_map, W_some] <;> repeat' (first | rfl | refine W_ext (fun _ => ?_) | simp only [W_bind, W_map, W_some])
theorem w_augI {o k : E} {p : Op} {e : E} : W (ex C (.augI o k p e) ρ h) QO = W (ev C o ρ h) fun r => W (ev C k ρ r.2) fun q => W (isCell q.2 r.1) fun y => W (idxD y q.1) fun x => W (ev C e ρ q.2) fun s => W (match x, s.1 with
    | .int a, .int b => (p.f (.int a) (.int b)).bind fun d => (cputD s.2 r.1 q.1 d).map fun h' => .nx ρ h'
    | _, _ => none) QO := by simp only [ex, W_bind, W_map, W_some] <;> repeat' (first | rfl | refine W_ext (fun _ => ?_) | simp only [W_bind, W_map, W_some])
theorem w_putI {o k e : E} : W (ex C (.putI o k e) ρ h) QO = W (ev C e ρ h) fun r => W (ev C o ρ r.2) fun q => W (ev C k ρ q.2) fun s => W (cputD s.2 q.1 s.1 r.1) fun h' => QO (.nx ρ h') := by simp only [ex, W_bind, W_map, W_some] <;> repeat' (first | rfl | refine W_ext (fun _ => ?_) | simp only [W_bind, W_map, W_some])
theorem w_putO {i : Nat} {k e : E} : W (ex C (.putO i k e) ρ h) QO = W (ev C e ρ h) fun r => W (ev C k ρ r.2) fun q => W (oputD ρ i q.1 r.1) fun ρ' => QO (.nx ρ' q.2) := by simp only [ex, W_bind, W_map, W_some] <;> repeat' (first | rfl | refine W_ext (fun _ => ?_) | simp only [W_bind, W_map, W_some])
theorem w_augO {i : Nat} {k : E} {p : Op} {e : E} : W (ex C (.augO i k p e) ρ h) QO = W (ev C k ρ h) fun q => W ((lookS ρ i).bind ofOwn) fun y => W (idxD y q.1) fun x => W (ev C e ρ q.2) fun s => W (match x, s.1 with
    | .int a, .int b => (p.f (.int a) (.int b)).bind fun d => (oputD ρ i q.1 d).map fun ρ' => .nx ρ' s.2
    | _, _ => none) QO := by
  rw [ex, W_bind]
  repeat' (first | rfl | refine W_ext (fun _ => ?_) | rw [W_bind])
theorem w_app {i : Nat} {e : E} : W (ex C (.app i e) ρ h) QO = W (ev C e ρ h) fun r => W (match lookS ρ i with
    | some (.own xs) => if xs.length < sizeLine then some (.nx (setS ρ i (.own (xs ++ [r.1]))) r.2) else none
    | _ => none) QO := by simp only [ex, W_bind, W_map, W_some] <;> repeat' (first | rfl | refine W_ext (fun _ => ?_) | simp only [W_bind, W_map, W_some])
theorem w_expr {e : E} : W (ex C (.expr e) ρ h) QO = W (ev C e ρ h) fun r => QO (.nx ρ r.2) := by simp only [ex, W_bind, W_map, W_some] <;> repeat' (first | rfl | refine W_ext (fun _ => ?_) | simp only [W_bind, W_map, W_some])
theorem w_ret {e : E} : W (ex C (.ret e) ρ h) QO = W (ev C e ρ h) fun r => QO (.rt r.1 r.2) := by simp only [ex, W_bind, W_map, W_some] <;> repeat' (first | rfl | refine W_ext (fun _ => ?_) | simp only [W_bind, W_map, W_some])
theorem w_retN : W (ex C .retN ρ h) QO = QO (.rt .non h) := by simp only [ex, W_bind, W_map, W_some] <;> repeat' (first | rfl | refine W_ext (fun _ => ?_) | simp only [W_bind, W_map, W_some])
theorem w_iff {t : E} {a b : List S} : W (ex C (.iff t a b) ρ h) QO = W (evT C t ρ h) fun r => W (if r.1 = true then exs C a ρ r.2 else exs C b ρ r.2) QO := by simp only [ex, W_bind, W_map, W_some] <;> repeat' (first | rfl | refine W_ext (fun _ => ?_) | simp only [W_bind, W_map, W_some])
theorem w_whil {t : E} {b : List S} : W (ex C (.whil t b) ρ h) QO = W (whileS (evT C t) (exs C b) ρ h) QO := by simp only [ex, W_bind, W_map, W_some] <;> repeat' (first | rfl | refine W_ext (fun _ => ?_) | simp only [W_bind, W_map, W_some])
theorem w_forr {p : P} {it : It} {b : List S} : W (ex C (.forr p it b) ρ h) QO = W (evI C it ρ h) fun r => W (forS (bindP p) (exs C b) r.1 ρ r.2) QO := by simp only [ex, W_bind, W_map, W_some] <;> repeat' (first | rfl | refine W_ext (fun _ => ?_) | simp only [W_bind, W_map, W_some])
theorem w_brk : W (ex C .brk ρ h) QO = QO (.bk ρ h) := by simp only [ex, W_bind, W_map, W_some] <;> repeat' (first | rfl | refine W_ext (fun _ => ?_) | simp only [W_bind, W_map, W_some])
theorem w_cont : W (ex C .cont ρ h) QO = QO (.ct ρ h) := by simp only [ex, W_bind, W_map, W_some] <;> repeat' (first | rfl | refine W_ext (fun _ => ?_) | simp only [W_bind, W_map, W_some])
theorem w_pass : W (ex C .pass ρ h) QO = QO (.nx ρ h) := by simp only [ex, W_bind, W_map, W_some] <;> repeat' (first | rfl | refine W_ext (fun _ => ?_) | simp only [W_bind, W_map, W_some])
theorem w_frz {i : Nat} : W (ex C (.frz i) ρ h) QO = W (match lookS ρ i with
    | some (.own xs) => some (.nx (setS ρ i (.val (.lst xs))) h)
    | some (.ownD ks vs) => some (.nx (setS ρ i (.val (.dct ks vs))) h)
    | _ => none) QO := by rw [ex] <;> rfl
theorem w_snil : W (exs C [] ρ h) QO = QO (.nx ρ h) := by simp only [exs, W_bind, W_map, W_some] <;> repeat' (first | rfl | refine W_ext (fun _ => ?_) | simp only [W_bind, W_map, W_some])
/-- the rest of a block -/
noncomputable def restO (C : Calls) (r : List S) (o : Out) : Option Out := match o with
    | .nx ρ' h' => exs C r ρ' h'
    | o => some o
theorem w_scons {s : S} {r : List S} : W (exs C (s :: r) ρ h) QO = W (ex C s ρ h) fun o => W (restO C r o) QO := by rw [exs, W_bind]; rfl
theorem restO_nx {r : List S} : restO C r (.nx ρ h) = exs C r ρ h := rfl
theorem restO_rt {r : List S} {d : D} : restO C r (.rt d h) = some (.rt d h) := rfl
theorem restO_bk {r : List S} : restO C r (.bk ρ h) = some (.bk ρ h) := rfl
theorem restO_ct {r : List S} : restO C r (.ct ρ h) = some (.ct ρ h) := rfl
end
/-! ### operations at values -/
section
variable {i j : Int} {a b : Bool} {x : D} {xs ys : List D} {ns : List Int}
theorem add_ii : addD (.int i) (.int j) = some (.int (i + j)) := rfl
theorem add_tt (h : xs.length + ys.length ≤ sizeLine) : addD (.tup xs) (.tup ys) = some (.tup (xs ++ ys)) := if_pos h
theorem add_ll (h : xs.length + ys.length ≤ sizeLine) : addD (.lst xs) (.lst ys) = some (.lst (xs ++ ys)) := if_pos h
theorem sub_ii : subD (.int i) (.int j) = some (.int (i - j)) := rfl
theorem lt_ii : ltD (.int i) (.int j) = some (.bl (decide (i < j))) := rfl
theorem le_ii : leD (.int i) (.int j) = some (.bl (decide (i ≤ j))) := rfl
theorem gt_ii : gtD (.int i) (.int j) = some (.bl (decide (j < i))) := rfl
theorem ge_ii : geD (.int i) (.int j) = some (.bl (decide (j ≤ i))) := rfl
theorem eq_ii : eqD (.int i) (.int j) = some (.bl (decide (i = j))) := rfl
theorem ne_ii : neD (.int i) (.int j) = some (.bl (!decide (i = j))) := rfl
theorem is_n : isD x .non = some (.bl (isNonD x)) := by cases x <;> rfl
theorem isnt_n : isntD x .non = some (.bl (!isNonD x)) := by cases x <;> rfl
theorem is_bb : isD (.bl a) (.bl b) = some (.bl (a == b)) := rfl
theorem isnt_bb : isntD (.bl a) (.bl b) = some (.bl (!(a == b))) := rfl
theorem isNon_i : isNonD (.int i) = false := rfl
theorem isNon_b : isNonD (.bl a) = false := rfl
theorem isNon_t : isNonD (.tup xs) = false := rfl
theorem isNon_l : isNonD (.lst xs) = false := rfl
theorem isNon_n : isNonD .non = true := rfl
theorem tru_b : truD (.bl a) = some a := rfl
theorem tru_i : truD (.int i) = some (i != 0) := rfl
theorem tru_t : truD (.tup xs) = some (!xs.isEmpty) := rfl
theorem tru_l : truD (.lst xs) = some (!xs.isEmpty) := rfl
theorem tru_n : truD .non = some false := rfl
theorem len_t : lenD (.tup xs) = some (.int xs.length) := rfl
theorem len_l : lenD (.lst xs) = some (.int xs.length) := rfl
theorem len_s : lenD (.scr ns) = some (.int ns.length) := rfl
theorem len_d : lenD (.dct xs ys) = some (.int xs.length) := rfl
theorem bi_len : biD .len [x] = lenD x := rfl
theorem bi_abs : biD .abs [.int i] = some (.int (if i < 0 then -i else i)) := rfl
theorem bi_int : biD .int [.int i] = some (.int i) := rfl
theorem bi_intb : biD .int [.bl a] = some (.int (if a then 1 else 0)) := rfl
theorem bi_tupt : biD .tuple [.tup xs] = some (.tup xs) := rfl
theorem bi_tupl : biD .tuple [.lst xs] = some (.tup xs) := rfl
theorem bi_min : biD .min [.int i, .int j] = some (.int (if j < i then j else i)) := rfl
theorem bi_max : biD .max [.int i, .int j] = some (.int (if j > i then j else i)) := rfl
theorem bi_sum : biD .sum [x] = (lstInts x).map fun ns => .int ns.sum := rfl
theorem it_t : itemsD (.tup xs) = some xs := rfl
theorem it_l : itemsD (.lst xs) = some xs := rfl
theorem it_s : itemsD (.scr ns) = some (ns.map .int) := rfl
theorem li_l : lstItems (.lst xs) = some xs := rfl
theorem list_t : listD (.tup xs) = some xs := rfl
theorem list_l : listD (.lst xs) = some xs := rfl
theorem list_s : listD (.scr ns) = some (ns.map .int) := rfl
theorem sl_t {lo hi : Option Int} : sliceD (.tup xs) lo hi = some (.tup (cutD xs lo hi)) := rfl
theorem sl_l {lo hi : Option Int} : sliceD (.lst xs) lo hi = some (.lst (cutD xs lo hi)) := rfl
theorem sl_s {lo hi : Option Int} : sliceD (.scr ns) lo hi = some (.lst (cutD (ns.map .int) lo hi)) := rfl
theorem ty_ii : tyB .int (.int i) = some true := rfl
theorem ty_ib : tyB .int (.bl a) = some true := rfl
theorem ty_in : tyB .int .non = some false := rfl
theorem ty_bi : tyB .bool (.int i) = some false := rfl
theorem ty_bb : tyB .bool (.bl a) = some true := rfl
theorem ty_bn : tyB .bool .non = some false := rfl
theorem bp_nm {k : Nat} {ρ : Rho} : bindP (.nm k) x ρ = some (setS ρ k (.val x)) := rfl
theorem bp_tt {ps : List P} {ρ : Rho} : bindP (.tu ps) (.tup xs) ρ = bindPs ps xs ρ := rfl
theorem bp_tl {ps : List P} {ρ : Rho} : bindP (.tu ps) (.lst xs) ρ = bindPs ps xs ρ := rfl
theorem bps_0 {ρ : Rho} : bindPs [] [] ρ = some ρ := rfl
theorem bps_s {p : P} {ps : List P} {ρ : Rho} {Q : Rho → Prop} : W (bindPs (p :: ps) (x :: xs) ρ) Q = W (bindP p x ρ) fun ρ' => W (bindPs ps xs ρ') Q := by
  rw [bindPs, W_bind]
theorem op_add : Op.f .add = addD := rfl
theorem op_sub : Op.f .sub = subD := rfl
theorem op_mul : Op.f .mul = mulD := rfl
theorem op_fdiv : Op.f .fdiv = fdivD := rfl
theorem op_mod : Op.f .mod = modD := rfl
theorem op_pow : Op.f .pow = powD := rfl
theorem cm_eq : Cm.f .eq = eqD := rfl
theorem cm_ne : Cm.f .ne = neD := rfl
theorem cm_lt : Cm.f .lt = ltD := rfl
theorem cm_le : Cm.f .le = leD := rfl
theorem cm_gt : Cm.f .gt = gtD := rfl
theorem cm_ge : Cm.f .ge = geD := rfl
theorem cm_is : Cm.f .is = isD := rfl
theorem cm_isnt : Cm.f .isnt = isntD := rfl
theorem cm_in : Cm.f .isin = inD := rfl
theorem cm_notin : Cm.f .notin = notinD := rfl
theorem cd_n : Cst.d .non = .non := rfl
theorem cd_b : Cst.d (.bl a) = .bl a := rfl
theorem cd_i : Cst.d (.int i) = .int i := rfl
theorem cd_s {s : Str} : Cst.d (.str s) = .str s := rfl
theorem wp_0 {ρ : Rho} : wipeS ρ [] = ρ := rfl
theorem wp_s {ρ : Rho} {v : Nat} {vs : List Nat} : wipeS ρ (v :: vs) = (wipeS ρ vs).set v none := rfl
theorem oq_rt {Q : D × PH → Prop} {h : PH} : outQ Q (.rt x h) = Q (x, h) := rfl
theorem oq_nx {Q : D × PH → Prop} {h : PH} {ρ : Rho} : outQ Q (.nx ρ h) = Q (.non, h) := rfl
theorem ol_nx {I : Rho → PH → Prop} {Q : Out → Prop} {h : PH} {ρ : Rho} : outL I Q (.nx ρ h) = I ρ h := rfl
theorem ol_ct {I : Rho → PH → Prop} {Q : Out → Prop} {h : PH} {ρ : Rho} : outL I Q (.ct ρ h) = I ρ h := rfl
theorem ol_bk {I : Rho → PH → Prop} {Q : Out → Prop} {h : PH} {ρ : Rho} : outL I Q (.bk ρ h) = Q (.nx ρ h) := rfl
theorem ol_rt {I : Rho → PH → Prop} {Q : Out → Prop} {h : PH} : outL I Q (.rt x h) = Q (.rt x h) := rfl
theorem mod_pos (h : 0 < j) : modD (.int i) (.int j) = some (.int (i % j)) := if_pos h
theorem fdiv_pos (h : 0 < j ∧ j < 1073741824) : fdivD (.int i) (.int j) = some (.int (i / j)) := if_pos h
theorem mul_l (h : -(2 ^ 64) < i ∧ i < 2 ^ 64) : mulD (.int i) (.int j) = some (.int (i * j)) := if_pos (.inl h)
theorem mul_r (h : -(2 ^ 64) < j ∧ j < 2 ^ 64) : mulD (.int i) (.int j) = some (.int (i * j)) := if_pos (.inr h)
end
end PI

set_option Elab.async false
set_option linter.all false
set_option maxRecDepth 100000
set_option maxHeartbeats 4000000
set_option autoImplicit false
namespace PI
open PySem PySem.Spec PyProof.Rows L2

/-- trees of whole numbers, of this depth at most -/
def PT : Nat → D → Prop
  | _, .int _ => True
  | _, .non => True
  | k + 1, .tup xs => ∀ x ∈ xs, PT k x
  | k + 1, .lst xs => ∀ x ∈ xs, PT k x
  | _, _ => False
theorem PT.up : ∀ {k : Nat} {d : D}, PT k d → PT (k + 1) d
  | 0, .int _, _ => trivial
  | _ + 1, .int _, _ => trivial
  | 0, .non, _ => trivial
  | _ + 1, .non, _ => trivial
  | k + 1, .tup xs, h => fun x hx => PT.up (k := k) (h x hx)
  | k + 1, .lst xs, h => fun x hx => PT.up (k := k) (h x hx)
theorem PT.le {k m : Nat} {d : D} (h : PT k d) (l : k ≤ m) : PT m d := by
  induction l with
  | refl => exact h
  | step _ ih => exact ih.up
theorem toPs_pt {k : Nat} (ih : ∀ d, PT k d → ∃ p, toP d = some p ∧ p.canLay0 = true ∧ p.depth ≤ k) : ∀ xs : List D, (∀ x ∈ xs, PT k x) → ∃ ps, toPs xs = some ps ∧ PyData.canLayAll0 ps = true ∧ PyData.depthAll ps ≤ k
  | [], _ => ⟨[], by simp [toPs], by simp [PyData.canLayAll0], by simp [PyData.depthAll]⟩
  | d :: r, h => by
    obtain ⟨p, e1, c1, d1⟩ := ih d (h d (List.mem_cons_self ..))
    obtain ⟨ps, e2, c2, d2⟩ := toPs_pt ih r fun x hx => h x (List.mem_cons_of_mem _ hx)
    exact ⟨p :: ps, by simp [toPs, e1, e2], by simp [PyData.canLayAll0, c1, c2], by simp [PyData.depthAll]; omega⟩
theorem toP_pt : ∀ (k : Nat) (d : D), PT k d → ∃ p, toP d = some p ∧ p.canLay0 = true ∧ p.depth ≤ k := by
  intro k
  induction k with
  | zero =>
    intro d h
    cases d with
    | int i => exact ⟨.int i, by simp [toP], by simp [PyData.canLay0], by simp [PyData.depth]⟩
    | non => exact ⟨.none, by simp [toP], by simp [PyData.canLay0], by simp [PyData.depth]⟩
    | _ => exact h.elim
  | succ k ih =>
    intro d h
    cases d with
    | int i => exact ⟨.int i, by simp [toP], by simp [PyData.canLay0], by simp [PyData.depth]⟩
    | non => exact ⟨.none, by simp [toP], by simp [PyData.canLay0], by simp [PyData.depth]⟩
    | tup xs =>
      obtain ⟨ps, e, c, d⟩ := toPs_pt ih xs h
      exact ⟨.tuple ps, by simp [toP, e], by simp [PyData.canLay0, c], by simp [PyData.depth]; omega⟩
    | lst xs =>
      obtain ⟨ps, e, c, d⟩ := toPs_pt ih xs h
      exact ⟨.list ps, by simp [toP, e], by simp [PyData.canLay0, c], by simp [PyData.depth]; omega⟩
    | _ => exact h.elim
theorem eqvs_pt {k : Nat} (ih : ∀ d e, PT k d → PT k e → ∀ p q, toP d = some p → toP e = some q → (PyData.eqv p q = true ↔ d = e)) : ∀ xs ys : List D, (∀ x ∈ xs, PT k x) → (∀ y ∈ ys, PT k y) → ∀ ps qs, toPs xs = some ps → toPs ys = some qs → (PyData.eqvAll ps qs = true ↔ xs = ys)
  | [], [], _, _, ps, qs, e1, e2 => by
    simp [toPs] at e1 e2; subst e1 e2; simp [PyData.eqvAll]
  | [], y :: ys, _, hy, ps, qs, e1, e2 => by
    simp only [toPs, Option.bind_eq_some_iff, Option.map_eq_some_iff] at e1 e2
    obtain ⟨q, _, qs', _, rfl⟩ := e2
    cases e1
    simp [PyData.eqvAll]
  | x :: xs, [], _, hy, ps, qs, e1, e2 => by
    simp only [toPs, Option.bind_eq_some_iff, Option.map_eq_some_iff] at e1 e2
    obtain ⟨q, _, qs', _, rfl⟩ := e1
    cases e2
    simp [PyData.eqvAll]
  | x :: xs, y :: ys, hx, hy, ps, qs, e1, e2 => by
    simp only [toPs, Option.bind_eq_some_iff, Option.map_eq_some_iff] at e1 e2
    obtain ⟨p, ep, ps', eps, rfl⟩ := e1
    obtain ⟨q, eq, qs', eqs, rfl⟩ := e2
    have h1 := ih x y (hx x (List.mem_cons_self ..)) (hy y (List.mem_cons_self ..)) p q ep eq
    have h2 := eqvs_pt ih xs ys (fun z hz => hx z (List.mem_cons_of_mem _ hz)) (fun z hz => hy z (List.mem_cons_of_mem _ hz)) ps' qs' eps eqs
    rw [PyData.eqvAll, Bool.and_eq_true, h1, h2, List.cons.injEq]
theorem eqv_pt : ∀ (k : Nat) (d e : D), PT k d → PT k e → ∀ p q, toP d = some p → toP e = some q → (PyData.eqv p q = true ↔ d = e) := by
  intro k
  induction k with
  | zero =>
    intro d e h1 h2 p q e1 e2
    cases d with
    | int i =>
      cases e with
      | int j => simp [toP] at e1 e2; subst e1 e2; simp [PyData.eqv]
      | non => simp [toP] at e1 e2; subst e1 e2; simp [PyData.eqv]
      | _ => exact h2.elim
    | non =>
      cases e with
      | int j => simp [toP] at e1 e2; subst e1 e2; simp [PyData.eqv]
      | non => simp [toP] at e1 e2; subst e1 e2; simp [PyData.eqv]
      | _ => exact h2.elim
    | _ => exact h1.elim
  | succ k ih =>
    intro d e h1 h2 p q e1 e2
    cases d with
    | int i =>
      cases e with
      | int j => simp [toP] at e1 e2; subst e1 e2; simp [PyData.eqv]
      | non => simp [toP] at e1 e2; subst e1 e2; simp [PyData.eqv]
      | tup ys => simp [toP] at e1 e2; obtain ⟨qs, _, rfl⟩ := e2; subst e1; simp [PyData.eqv]
      | lst ys => simp [toP] at e1 e2; obtain ⟨qs, _, rfl⟩ := e2; subst e1; simp [PyData.eqv]
      | _ => exact h2.elim
    | non =>
      cases e with
      | int j => simp [toP] at e1 e2; subst e1 e2; simp [PyData.eqv]
      | non => simp [toP] at e1 e2; subst e1 e2; simp [PyData.eqv]
      | tup ys => simp [toP] at e1 e2; obtain ⟨qs, _, rfl⟩ := e2; subst e1; simp [PyData.eqv]
      | lst ys => simp [toP] at e1 e2; obtain ⟨qs, _, rfl⟩ := e2; subst e1; simp [PyData.eqv]
      | _ => exact h2.elim
    | tup xs =>
      simp only [toP, Option.map_eq_some_iff] at e1
      obtain ⟨ps, e1, rfl⟩ := e1
      cases e with
      | int j => simp [toP] at e2; subst e2; simp [PyData.eqv]
      | non => simp [toP] at e2; subst e2; simp [PyData.eqv]
      | tup ys =>
        simp only [toP, Option.map_eq_some_iff] at e2
        obtain ⟨qs, e2, rfl⟩ := e2
        rw [PyData.eqv, eqvs_pt ih xs ys h1 h2 ps qs e1 e2, D.tup.injEq]
      | lst ys => simp [toP] at e2; obtain ⟨qs, _, rfl⟩ := e2; simp [PyData.eqv]
      | _ => exact h2.elim
    | lst xs =>
      simp only [toP, Option.map_eq_some_iff] at e1
      obtain ⟨ps, e1, rfl⟩ := e1
      cases e with
      | int j => simp [toP] at e2; subst e2; simp [PyData.eqv]
      | non => simp [toP] at e2; subst e2; simp [PyData.eqv]
      | tup ys => simp [toP] at e2; obtain ⟨qs, _, rfl⟩ := e2; simp [PyData.eqv]
      | lst ys =>
        simp only [toP, Option.map_eq_some_iff] at e2
        obtain ⟨qs, e2, rfl⟩ := e2
        rw [PyData.eqv, eqvs_pt ih xs ys h1 h2 ps qs e1 e2, D.lst.injEq]
      | _ => exact h2.elim
    | _ => exact h1.elim
open Classical in
noncomputable def sameD (d e : D) : Bool := decide (d = e)
theorem sameD_iff {d e : D} : sameD d e = true ↔ d = e := by
  unfold sameD
  exact @decide_eq_true_iff _ (Classical.propDecidable _)
theorem eqB_pt {k : Nat} {d e : D} (h1 : PT k d) (h2 : PT k e) (l : k ≤ 64) : eqB d e = some (sameD d e) := by
  obtain ⟨p, e1, c1, d1⟩ := toP_pt k d h1
  obtain ⟨q, e2, c2, d2⟩ := toP_pt k e h2
  have key := eqv_pt k d e h1 h2 p q e1 e2
  have s1 : SeqAt.shaped p = true := by unfold SeqAt.shaped; rw [c1, Bool.true_and]; exact decide_eq_true (by omega)
  have s2 : SeqAt.shaped q = true := by unfold SeqAt.shaped; rw [c2, Bool.true_and]; exact decide_eq_true (by omega)
  have gen : (match toP d, toP e with
    | some p, some q => if SeqAt.shaped p && SeqAt.shaped q then some (PyData.eqv p q) else none
    | _, _ => none) = some (sameD d e) := by
    rw [e1, e2]
    simp only [s1, s2, Bool.and_self, if_true]
    congr 1
    rw [Bool.eq_iff_iff, key, sameD_iff]
  unfold eqB
  split
  · congr 1
    rw [Bool.eq_iff_iff, sameD_iff]
    simp
  · cases k <;> exact h1.elim
  · cases k <;> exact h1.elim
  · congr 1
    exact (sameD_iff.mpr rfl).symm
  · exact gen
theorem eqD_pt {k : Nat} {d e : D} (h1 : PT k d) (h2 : PT k e) (l : k ≤ 64) : eqD d e = some (.bl (sameD d e)) := by
  unfold eqD; rw [eqB_pt h1 h2 l]; rfl
theorem neD_pt {k : Nat} {d e : D} (h1 : PT k d) (h2 : PT k e) (l : k ≤ 64) : neD d e = some (.bl (!sameD d e)) := by
  unfold neD; rw [eqB_pt h1 h2 l]; rfl
end PI

set_option Elab.async false
set_option linter.all false
set_option maxRecDepth 100000
set_option maxHeartbeats 4000000
set_option autoImplicit false
namespace PI.K01
open PySem PySem.Spec PyProof.Rows L2 PI
def top (i : Nat) : Stmt := (PySem.Challenge.rw_sparealoft_k01_tables_and_spare_fuel).prog.main.body.getD i (.Pass ⟨0, 0, 0, 0⟩)
/-- 0: slots 0=table 1=mass 2=base 3=steps 4=one -/
def b0 : List S := [.pat (.tu [(.nm 2), (.nm 3)]) (.var 0),
  .ret (.bin .add (.var 2) (.gen .sum (.nm 4) (.seq (.var 3)) [4] (.some (.cmp .le (.var 4) (.var 1))) (.cst (.int 1))))]
def f_value_at : Df := ⟨"value_at", ["table", "mass"], ["table", "mass", "base", "steps", "one"], top 1, 1, b0⟩
/-- 1: slots 0=book 1=mode 2=payload 3=reserve 4=mass -/
def b1 : List S := [.set 3 (.idx (.idx (.idx (.var 0) (.cst (.int 3))) (.var 1)) (.cst (.int 3))),
  .set 4 (.bin .add (.var 2) (.idx (.var 3) (.cst (.int 0)))),
  .whil (.cmp .lt (.bin .sub (.var 4) (.call 0 (.cons (.var 3) (.cons (.var 4) .nil)))) (.var 2)) [.aug 4 .add (.cst (.int 1))],
  .ret (.var 4)]
def f_least_mass : Df := ⟨"least_mass", ["book", "mode", "payload"], ["book", "mode", "payload", "reserve", "mass"], top 3, 0, b1⟩
/-- 2: slots 0=book 1=mode 2=mass 3=fuel 4=most -/
def b2 : List S := [.set 4 (.bin .sub (.var 2) (.call 1 (.cons (.var 0) (.cons (.var 1) (.cons (.bin .sub (.var 2) (.var 3)) .nil))))),
  .iff (.cmp .lt (.var 4) (.cst (.int 0))) [.ret (.cst .non)] [],
  .ret (.var 4)]
def f_spare : Df := ⟨"spare", ["book", "mode", "mass", "fuel"], ["book", "mode", "mass", "fuel", "most"], top 5, 0, b2⟩
/-- 3: slots 0=book 1=mode 2=paces 3=landing 4=stopping 5=reserve 6=rate 7=floor 8=burn 9=limit -/
def b3 : List S := [.pat (.tu [(.nm 2), (.nm 3), (.nm 4), (.nm 5), (.nm 6), (.nm 7)]) (.idx (.idx (.var 0) (.cst (.int 3))) (.var 1)),
  .iff (.or (.cons (.cmp .ne (.var 6) (.cst (.int 0))) (.cons (.cmp .gt (.bi .len (.cons (.idx (.var 4) (.cst (.int 1))) .nil)) (.cst (.int 5))) .nil))) [.ret (.cst (.bl false))] [],
  .ret (.gen .all (.tu [(.nm 8), (.nm 9)]) (.seq (.var 2)) [8, 9] .none (.cmp .eq (.idx (.var 8) (.cst (.int 1))) (.tup .nil)))]
def f_is_even : Df := ⟨"is_even", ["book", "mode"], ["book", "mode", "paces", "landing", "stopping", "reserve", "rate", "floor", "burn", "limit"], top 6, 1, b3⟩
/-- 4: slots 0=number 1=k 2=first 3=second -/
def b4 : List S := [.set 2 (.bin .mod (.bi .int (.cons (.bin .add (.bin .add (.bin .mul (.var 0) (.cst (.int 48271))) (.bin .mul (.var 1) (.cst (.int 69621)))) (.cst (.int 97))) .nil)) (.cst (.int 2147483647))),
  .set 3 (.bin .mod (.bi .int (.cons (.bin .add (.bin .add (.bin .mul (.var 2) (.bin .add (.bin .add (.var 2) (.bin .mul (.cst (.int 2)) (.var 1))) (.cst (.int 1)))) (.bin .mul (.var 1) (.cst (.int 16807)))) (.cst (.int 31))) .nil)) (.cst (.int 2147483629))),
  .ret (.bin .mod (.bi .int (.cons (.bin .add (.bin .mul (.var 3) (.cst (.int 40692))) (.var 2)) .nil)) (.cst (.int 2147483587)))]
def f_law_mixed : Df := ⟨"_law_mixed", ["number", "k"], ["number", "k", "first", "second"], top 8, 0, b4⟩
/-- 5: slots 0=script 1=seed 2=cell -/
def b5 : List S := [.set 1 (.bi .len (.cons (.var 0) .nil)),
  .forr (.nm 2) (.seq (.slc (.var 0) .none (.some (.cst (.int 63))))) [.set 1 (.call 4 (.cons (.bin .add (.var 1) (.var 2)) (.cons (.cst (.int 5)) .nil)))],
  .ret (.celL (.disp (.cons (.cst (.int 0)) (.cons (.cst (.int 0)) (.cons (.cst (.int 0)) (.cons (.var 1) (.cons (.ofL (.list (.slc (.var 0) .none (.some (.cst (.int 63)))))) (.cons (.cst (.int 0)) .nil))))))))]
def f_law_start : Df := ⟨"_law_start", ["script"], ["script", "seed", "cell"], top 9, 0, b5⟩
/-- 6: slots 0=state 1=limit 2=cells 3=value 4=cell -/
def b6 : List S := [.set 2 (.idx (.var 0) (.cst (.int 4))),
  .augI (.var 0) (.cst (.int 2)) .add (.cst (.int 1)),
  .iff (.an (.cons (.cmp .eq (.idx (.var 0) (.cst (.int 0))) (.cst (.int 0))) (.cons (.cmp .lt (.idx (.var 0) (.cst (.int 1))) (.bi .len (.cons (.var 2) .nil))) .nil))) [.set 4 (.idx (.var 2) (.idx (.var 0) (.cst (.int 1)))), .augI (.var 0) (.cst (.int 1)) .add (.cst (.int 1)), .iff (.cmp .lt (.bi .abs (.cons (.var 4) .nil)) (.bin .pow (.cst (.int 10)) (.cst (.int 18)))) [.ret (.bin .mod (.bi .int (.cons (.call 4 (.cons (.var 4) (.cons (.idx (.var 0) (.cst (.int 2))) .nil))) .nil)) (.var 1))] [], .putI (.var 0) (.cst (.int 0)) (.bi .abs (.cons (.var 4) .nil)), .putI (.var 0) (.cst (.int 5)) (.cst (.int 60))] [],
  .iff (.cmp .eq (.idx (.var 0) (.cst (.int 0))) (.cst (.int 0))) [.ret (.bin .mod (.bi .int (.cons (.call 4 (.cons (.idx (.var 0) (.cst (.int 3))) (.cons (.idx (.var 0) (.cst (.int 2))) .nil))) .nil)) (.var 1))] [],
  .set 3 (.bin .mod (.bi .int (.cons (.idx (.var 0) (.cst (.int 0))) .nil)) (.var 1)),
  .augI (.var 0) (.cst (.int 5)) .sub (.cst (.int 1)),
  .putI (.var 0) (.cst (.int 0)) (.bin .mul (.bin .fdiv (.idx (.var 0) (.cst (.int 0))) (.var 1)) (.bi .int (.cons (.cmp .gt (.idx (.var 0) (.cst (.int 5))) (.cst (.int 0))) .nil))),
  .ret (.var 3)]
def f_law_take : Df := ⟨"_law_take", ["state", "limit"], ["state", "limit", "cells", "value", "cell"], top 10, 0, b6⟩
/-- 7: slots 0=state 1=some -/
def b7 : List S := [.ret (.idx (.var 1) (.call 6 (.cons (.var 0) (.cons (.bi .len (.cons (.var 1) .nil)) .nil))))]
def f_law_pick : Df := ⟨"_law_pick", ["state", "some"], ["state", "some"], top 11, 0, b7⟩
/-- 8: slots 0=state 1=some 2=left 3=found 4=k 5=at -/
def b8 : List S := [.set 2 (.ofL (.list (.var 1))),
  .setL 3 (.disp .nil),
  .forr (.nm 4) (.rng1 (.bi .len (.cons (.var 1) .nil))) [.set 5 (.call 6 (.cons (.var 0) (.cons (.bi .len (.cons (.var 2) .nil)) .nil))), .app 3 (.idx (.var 2) (.var 5)), .set 2 (.bin .add (.slc (.var 2) .none (.some (.var 5))) (.slc (.var 2) (.some (.bin .add (.var 5) (.cst (.int 1)))) .none))],
  .frz 3,
  .ret (.var 3)]
def f_law_shuffled : Df := ⟨"_law_shuffled", ["state", "some"], ["state", "some", "left", "found", "k", "at"], top 12, 0, b8⟩
/-- 9: slots 0=told 1=due -/
def b9 : List S := [.ret (.ite (.var 1) (.cmp .is (.var 0) (.cst (.bl true))) (.cmp .is (.var 0) (.cst (.bl false))))]
def f_law_is_due : Df := ⟨"_law_is_due", ["told", "due"], ["told", "due"], top 13, 0, b9⟩
/-- 10: slots 0=state 1=low 2=high 3=most 4=found 5=k -/
def b10 : List S := [.setD 4,
  .forr (.nm 5) (.rng1 (.call 6 (.cons (.var 0) (.cons (.bin .add (.var 3) (.cst (.int 1))) .nil)))) [.putO 4 (.bin .add (.var 1) (.call 6 (.cons (.var 0) (.cons (.bin .add (.bin .sub (.var 2) (.var 1)) (.cst (.int 1))) .nil)))) (.cst (.bl true))],
  .ret (.bi .tuple (.cons (.ofL (.sorted (.own 4))) .nil))]
def f_law_rising : Df := ⟨"_law_rising", ["state", "low", "high", "most"], ["state", "low", "high", "most", "found", "k"], top 14, 0, b10⟩
/-- 11: slots 0=state 1=empty 2=greatest 3=paces 4=k 5=landing 6=stopping 7=reserve -/
def b11 : List S := [.setL 3 (.disp .nil),
  .forr (.nm 4) (.rng1 (.bin .add (.cst (.int 1)) (.call 6 (.cons (.var 0) (.cons (.cst (.int 3)) .nil))))) [.app 3 (.tup (.cons (.tup (.cons (.call 6 (.cons (.var 0) (.cons (.cst (.int 2)) .nil))) (.cons (.tup .nil) .nil))) (.cons (.bin .add (.var 1) (.call 6 (.cons (.var 0) (.cons (.bin .add (.bin .sub (.var 2) (.var 1)) (.cst (.int 1))) .nil)))) .nil)))],
  .frz 3,
  .set 5 (.call 7 (.cons (.var 0) (.cons (.ofL (.disp (.cons (.var 2) (.cons (.bin .add (.var 1) (.call 6 (.cons (.var 0) (.cons (.bin .add (.bin .sub (.var 2) (.var 1)) (.cst (.int 1))) .nil)))) (.cons (.idx (.call 7 (.cons (.var 0) (.cons (.var 3) .nil))) (.cst (.int 1))) .nil))))) .nil))),
  .set 6 (.tup (.cons (.call 6 (.cons (.var 0) (.cons (.cst (.int 4)) .nil))) (.cons (.call 10 (.cons (.var 0) (.cons (.bi .max (.cons (.cst (.int 1)) (.cons (.var 1) .nil))) (.cons (.var 2) (.cons (.call 7 (.cons (.var 0) (.cons (.ofL (.disp (.cons (.cst (.int 0)) (.cons (.cst (.int 1)) (.cons (.cst (.int 3)) (.cons (.cst (.int 5)) .nil)))))) .nil))) .nil))))) .nil))),
  .set 7 (.tup (.cons (.call 6 (.cons (.var 0) (.cons (.cst (.int 4)) .nil))) (.cons (.call 10 (.cons (.var 0) (.cons (.bi .max (.cons (.cst (.int 1)) (.cons (.var 1) .nil))) (.cons (.var 2) (.cons (.call 7 (.cons (.var 0) (.cons (.ofL (.disp (.cons (.cst (.int 0)) (.cons (.cst (.int 1)) (.cons (.cst (.int 2)) (.cons (.cst (.int 6)) .nil)))))) .nil))) .nil))))) .nil))),
  .ret (.tup (.cons (.bi .tuple (.cons (.var 3) .nil)) (.cons (.var 5) (.cons (.var 6) (.cons (.var 7) (.cons (.cst (.int 0)) (.cons (.call 6 (.cons (.var 0) (.cons (.cst (.int 3)) .nil))) .nil)))))))]
def f_law_even_mode : Df := ⟨"_law_even_mode", ["state", "empty", "greatest"], ["state", "empty", "greatest", "paces", "k", "landing", "stopping", "reserve"], top 15, 0, b11⟩
/-- 12: slots 0=state 1=wide 2=most 3=empty 4=greatest 5=tank 6=k -/
def b12 : List S := [.set 3 (.call 7 (.cons (.var 0) (.cons (.ofL (.disp (.cons (.cst (.int 1)) (.cons (.cst (.int 30)) (.cons (.cst (.int 1000)) .nil))))) .nil))),
  .set 4 (.bin .add (.bin .add (.var 3) (.cst (.int 1))) (.call 6 (.cons (.var 0) (.cons (.var 1) .nil)))),
  .set 5 (.bin .add (.cst (.int 1)) (.call 6 (.cons (.var 0) (.cons (.bi .min (.cons (.var 2) (.cons (.bin .sub (.var 4) (.var 3)) .nil))) .nil)))),
  .ret (.tup (.cons (.var 3) (.cons (.var 4) (.cons (.var 5) (.cons (.bi .tuple (.cons (.ofL (.comp (.nm 6) (.rng1 (.bin .add (.cst (.int 1)) (.call 6 (.cons (.var 0) (.cons (.cst (.int 2)) .nil))))) [6] .none (.call 11 (.cons (.var 0) (.cons (.var 3) (.cons (.var 4) .nil)))))) .nil)) (.cons (.tup .nil) .nil))))))]
def f_law_even_book : Df := ⟨"_law_even_book", ["state", "wide", "most"], ["state", "wide", "most", "empty", "greatest", "tank", "k"], top 16, 0, b12⟩
/-- 13: slots 0=table 1=mass 2=total 3=step -/
def b13 : List S := [.set 2 (.idx (.var 0) (.cst (.int 0))),
  .forr (.nm 3) (.seq (.idx (.var 0) (.cst (.int 1)))) [.iff (.cmp .le (.var 3) (.var 1)) [.set 2 (.bin .add (.var 2) (.cst (.int 1)))] []],
  .ret (.var 2)]
def f_law_value : Df := ⟨"_law_value", ["table", "mass"], ["table", "mass", "total", "step"], top 17, 0, b13⟩
/-- 14: slots 0=book 1=mode 2=mass 3=fuel 4=found 5=n -/
def b14 : List S := [.set 4 (.cst .non),
  .forr (.nm 5) (.rng1 (.bin .add (.var 3) (.cst (.int 1)))) [.iff (.cmp .ge (.bin .sub (.var 3) (.var 5)) (.call 13 (.cons (.idx (.idx (.idx (.var 0) (.cst (.int 3))) (.var 1)) (.cst (.int 3))) (.cons (.bin .sub (.var 2) (.var 5)) .nil)))) [.set 4 (.var 5)] []],
  .ret (.var 4)]
def f_law_spare : Df := ⟨"_law_spare", ["book", "mode", "mass", "fuel"], ["book", "mode", "mass", "fuel", "found", "n"], top 18, 0, b14⟩
/-- 15: slots 0=told 1=due -/
def b15 : List S := [.iff (.cmp .is (.var 1) (.cst .non)) [.ret (.cmp .is (.var 0) (.cst .non))] [],
  .ret (.an (.cons (.isi (.var 0) .int) (.cons (.nt (.isi (.var 0) .bool)) (.cons (.cmp .eq (.var 0) (.var 1)) .nil))))]
def f_law_is : Df := ⟨"_law_is", ["told", "due"], ["told", "due"], top 19, 0, b15⟩
/-- 16: slots 0=state 1=turn 2=table 3=masses 4=step 5=mass 6=low 7=high 8=due -/
def b16 : List S := [.forr (.nm 1) (.rng1 (.cst (.int 3))) [.pat (.tu [(.nm 6), (.nm 7)]) (.call 7 (.cons (.var 0) (.cons (.ofL (.disp (.cons (.tup (.cons (.cst (.int 1)) (.cons (.cst (.int 13)) .nil))) (.cons (.tup (.cons (.cst (.int 900)) (.cons (.cst (.int 1000)) .nil))) (.cons (.tup (.cons (.cst (.int 1)) (.cons (.cst (.int 2000)) .nil))) (.cons (.tup (.cons (.cst (.int 1989)) (.cons (.cst (.int 2000)) .nil))) .nil)))))) .nil))), .set 2 (.tup (.cons (.call 7 (.cons (.var 0) (.cons (.ofL (.disp (.cons (.cst (.int 0)) (.cons (.cst (.int 3)) (.cons (.cst (.int 2000)) (.cons (.call 6 (.cons (.var 0) (.cons (.cst (.int 2001)) .nil))) .nil)))))) .nil))) (.cons (.call 10 (.cons (.var 0) (.cons (.var 6) (.cons (.var 7) (.cons (.call 7 (.cons (.var 0) (.cons (.ofL (.disp (.cons (.cst (.int 3)) (.cons (.cst (.int 12)) (.cons (.cst (.int 12)) .nil))))) .nil))) .nil))))) .nil))), .set 3 (.ofL (.disp (.cons (.cst (.int 0)) (.cons (.cst (.int 1)) (.cons (.cst (.int 1999)) (.cons (.cst (.int 2000)) (.cons (.cst (.int 2001)) (.cons (.call 6 (.cons (.var 0) (.cons (.cst (.int 2001)) .nil))) (.cons (.bin .pow (.cst (.int 10)) (.cst (.int 29))) .nil))))))))), .forr (.nm 4) (.seq (.idx (.var 2) (.cst (.int 1)))) [.set 3 (.bin .add (.var 3) (.ofL (.disp (.cons (.bin .sub (.var 4) (.cst (.int 1))) (.cons (.var 4) (.cons (.bin .add (.var 4) (.cst (.int 1))) .nil))))))], .forr (.nm 5) (.seq (.var 3)) [.set 8 (.call 13 (.cons (.var 2) (.cons (.var 5) .nil))), .iff (.or (.cons (.nt (.call 15 (.cons (.call 0 (.cons (.var 2) (.cons (.var 5) .nil))) (.cons (.var 8) .nil)))) (.cons (.nt (.call 15 (.cons (.callK 0 [0, 1] (.cons (.var 2) (.cons (.var 5) .nil))) (.cons (.var 8) .nil)))) .nil))) [.ret (.cst (.bl false))] []]],
  .ret (.cst (.bl true))]
def f_law_tables_are_told : Df := ⟨"_law_tables_are_told", ["state"], ["state", "turn", "table", "masses", "step", "mass", "low", "high", "due"], top 20, 0, b16⟩
/-- 17: slots 0=state 1=empty 2=greatest 3=reserve -/
def b17 : List S := [.set 1 (.bin .add (.cst (.int 1)) (.call 6 (.cons (.var 0) (.cons (.cst (.int 1000)) .nil)))),
  .set 2 (.bi .min (.cons (.cst (.int 2000)) (.cons (.bin .add (.bin .add (.var 1) (.cst (.int 200))) (.call 6 (.cons (.var 0) (.cons (.cst (.int 800)) .nil)))) .nil))),
  .set 3 (.tup (.cons (.call 6 (.cons (.var 0) (.cons (.cst (.int 120)) .nil))) (.cons (.call 10 (.cons (.var 0) (.cons (.var 1) (.cons (.var 2) (.cons (.cst (.int 12)) .nil))))) .nil))),
  .ret (.tup (.cons (.var 1) (.cons (.var 2) (.cons (.cst (.int 200)) (.cons (.tup (.cons (.tup (.cons (.tup (.cons (.tup (.cons (.tup (.cons (.cst (.int 1)) (.cons (.tup .nil) .nil))) (.cons (.var 2) .nil))) .nil)) (.cons (.var 2) (.cons (.tup (.cons (.cst (.int 0)) (.cons (.tup .nil) .nil))) (.cons (.var 3) (.cons (.cst (.int 0)) (.cons (.cst (.int 0)) .nil))))))) .nil)) (.cons (.tup .nil) .nil))))))]
def f_law_great_book : Df := ⟨"_law_great_book", ["state"], ["state", "empty", "greatest", "reserve"], top 21, 0, b17⟩
/-- 18: slots 0=state 1=book 2=fuels 3=found 4=fuel 5=k 6=mass -/
def b18 : List S := [.iff (.cmp .lt (.idx (.var 1) (.cst (.int 2))) (.cst (.int 20))) [.set 3 (.ofL (.disp .nil)), .forr (.nm 4) (.rng1 (.bin .add (.idx (.var 1) (.cst (.int 2))) (.cst (.int 1)))) [.set 3 (.bin .add (.var 3) (.ofL (.comp (.nm 6) (.rng2 (.bin .add (.idx (.var 1) (.cst (.int 0))) (.var 4)) (.bin .add (.idx (.var 1) (.cst (.int 1))) (.cst (.int 1)))) [6] .none (.tup (.cons (.var 6) (.cons (.var 4) .nil))))))], .ret (.slc (.call 8 (.cons (.var 0) (.cons (.var 3) .nil))) .none (.some (.cst (.int 90))))] [],
  .set 2 (.ofL (.comp (.nm 5) (.rng1 (.cst (.int 12))) [5] .none (.call 7 (.cons (.var 0) (.cons (.ofL (.disp (.cons (.call 6 (.cons (.var 0) (.cons (.cst (.int 201)) .nil))) (.cons (.cst (.int 0)) (.cons (.cst (.int 200)) (.cons (.bin .mod (.bi .int (.cons (.call 13 (.cons (.idx (.idx (.idx (.var 1) (.cst (.int 3))) (.cst (.int 0))) (.cst (.int 3))) (.cons (.idx (.var 1) (.cst (.int 1))) .nil))) .nil)) (.cst (.int 201))) .nil)))))) .nil))))),
  .ret (.ofL (.comp (.nm 4) (.seq (.var 2)) [4] .none (.tup (.cons (.bin .add (.bin .add (.idx (.var 1) (.cst (.int 0))) (.var 4)) (.call 6 (.cons (.var 0) (.cons (.bin .add (.bin .sub (.bin .sub (.idx (.var 1) (.cst (.int 1))) (.idx (.var 1) (.cst (.int 0)))) (.var 4)) (.cst (.int 1))) .nil)))) (.cons (.var 4) .nil)))))]
def f_law_points : Df := ⟨"_law_points", ["state", "book"], ["state", "book", "fuels", "found", "fuel", "k", "mass"], top 22, 0, b18⟩
/-- 19: slots 0=state 1=book 2=mode 3=mass 4=fuel 5=due -/
def b19 : List S := [.forr (.nm 2) (.rng1 (.bi .len (.cons (.idx (.var 1) (.cst (.int 3))) .nil))) [.forr (.tu [(.nm 3), (.nm 4)]) (.seq (.call 18 (.cons (.var 0) (.cons (.var 1) .nil)))) [.set 5 (.call 14 (.cons (.var 1) (.cons (.var 2) (.cons (.var 3) (.cons (.var 4) .nil))))), .iff (.nt (.call 15 (.cons (.call 2 (.cons (.var 1) (.cons (.var 2) (.cons (.var 3) (.cons (.var 4) .nil))))) (.cons (.var 5) .nil)))) [.ret (.cst (.bl false))] [], .iff (.nt (.call 15 (.cons (.callK 2 [0, 1, 2, 3] (.cons (.var 1) (.cons (.var 2) (.cons (.var 3) (.cons (.var 4) .nil))))) (.cons (.var 5) .nil)))) [.ret (.cst (.bl false))] []]],
  .ret (.cst (.bl true))]
def f_law_spares_are_told : Df := ⟨"_law_spares_are_told", ["state", "book"], ["state", "book", "mode", "mass", "fuel", "due"], top 23, 0, b19⟩
/-- 20: slots 0=state 1=book 2=steps 3=at 4=burn 5=found 6=paces 7=landing 8=stopping 9=reserve 10=rate 11=floor 12=k -/
def b20 : List S := [.pat (.tu [(.nm 6), (.nm 7), (.nm 8), (.nm 9), (.nm 10), (.nm 11)]) (.call 7 (.cons (.var 0) (.cons (.idx (.var 1) (.cst (.int 3))) .nil))),
  .set 2 (.bi .tuple (.cons (.ofL (.comp (.nm 12) (.rng1 (.cst (.int 6))) [12] .none (.bin .add (.cst (.int 1)) (.bin .mul (.cst (.int 3)) (.var 12))))) .nil)),
  .set 3 (.call 6 (.cons (.var 0) (.cons (.bi .len (.cons (.var 6) .nil)) .nil))),
  .set 4 (.tup (.cons (.tup (.cons (.cst (.int 1)) (.cons (.tup (.cons (.call 7 (.cons (.var 0) (.cons (.ofL (.disp (.cons (.cst (.int 1)) (.cons (.idx (.var 1) (.cst (.int 0))) (.cons (.idx (.var 1) (.cst (.int 1))) (.cons (.cst (.int 2000)) .nil)))))) .nil))) .nil)) .nil))) (.cons (.idx (.idx (.var 6) (.var 3)) (.cst (.int 1))) .nil))),
  .set 5 (.ofL (.disp (.cons (.ofL (.disp (.cons (.tup (.cons (.var 6) (.cons (.var 7) (.cons (.var 8) (.cons (.var 9) (.cons (.cst (.int 0)) (.cons (.var 11) .nil))))))) (.cons (.cst (.bl true)) .nil)))) (.cons (.ofL (.disp (.cons (.tup (.cons (.var 6) (.cons (.var 7) (.cons (.var 8) (.cons (.var 9) (.cons (.cst (.int 1)) (.cons (.var 11) .nil))))))) (.cons (.cst (.bl false)) .nil)))) .nil)))),
  .set 5 (.bin .add (.var 5) (.ofL (.disp (.cons (.ofL (.disp (.cons (.tup (.cons (.var 6) (.cons (.var 7) (.cons (.var 8) (.cons (.var 9) (.cons (.cst (.int 200)) (.cons (.var 11) .nil))))))) (.cons (.cst (.bl false)) .nil)))) (.cons (.ofL (.disp (.cons (.tup (.cons (.var 6) (.cons (.var 7) (.cons (.tup (.cons (.cst (.int 5)) (.cons (.var 2) .nil))) (.cons (.var 9) (.cons (.cst (.int 0)) (.cons (.var 11) .nil))))))) (.cons (.cst (.bl false)) .nil)))) .nil))))),
  .set 5 (.bin .add (.var 5) (.ofL (.disp (.cons (.ofL (.disp (.cons (.tup (.cons (.var 6) (.cons (.var 7) (.cons (.tup (.cons (.cst (.int 5)) (.cons (.slc (.var 2) .none (.some (.cst (.int 5)))) .nil))) (.cons (.var 9) (.cons (.cst (.int 0)) (.cons (.var 11) .nil))))))) (.cons (.cst (.bl true)) .nil)))) (.cons (.ofL (.disp (.cons (.tup (.cons (.var 6) (.cons (.var 7) (.cons (.tup (.cons (.cst (.int 5)) (.cons (.slc (.var 2) (.some (.cst (.int 1))) .none) .nil))) (.cons (.var 9) (.cons (.cst (.int 0)) (.cons (.cst (.int 200)) .nil))))))) (.cons (.cst (.bl true)) .nil)))) .nil))))),
  .set 5 (.bin .add (.var 5) (.ofL (.disp (.cons (.ofL (.disp (.cons (.tup (.cons (.bin .add (.bin .add (.slc (.var 6) .none (.some (.var 3))) (.tup (.cons (.var 4) .nil))) (.slc (.var 6) (.some (.bin .add (.var 3) (.cst (.int 1)))) .none)) (.cons (.var 7) (.cons (.var 8) (.cons (.var 9) (.cons (.cst (.int 0)) (.cons (.var 11) .nil))))))) (.cons (.cst (.bl false)) .nil)))) .nil)))),
  .set 5 (.bin .add (.var 5) (.ofL (.disp (.cons (.ofL (.disp (.cons (.tup (.cons (.bin .add (.bin .mul (.tup (.cons (.idx (.var 6) (.var 3)) .nil)) (.cst (.int 3))) (.tup (.cons (.var 4) .nil))) (.cons (.var 7) (.cons (.var 8) (.cons (.var 9) (.cons (.cst (.int 0)) (.cons (.var 11) .nil))))))) (.cons (.cst (.bl false)) .nil)))) (.cons (.ofL (.disp (.cons (.tup (.cons (.bin .mul (.tup (.cons (.idx (.var 6) (.var 3)) .nil)) (.cst (.int 4))) (.cons (.var 7) (.cons (.var 8) (.cons (.var 9) (.cons (.cst (.int 0)) (.cons (.var 11) .nil))))))) (.cons (.cst (.bl true)) .nil)))) .nil))))),
  .ret (.bin .add (.var 5) (.ofL (.disp (.cons (.ofL (.disp (.cons (.tup (.cons (.var 6) (.cons (.idx (.var 1) (.cst (.int 0))) (.cons (.var 8) (.cons (.tup (.cons (.cst (.int 9)) (.cons (.bin .add (.var 2) (.tup (.cons (.cst (.int 500)) (.cons (.cst (.int 501)) (.cons (.cst (.int 502)) (.cons (.cst (.int 503)) (.cons (.cst (.int 504)) (.cons (.cst (.int 2000)) .nil)))))))) .nil))) (.cons (.cst (.int 0)) (.cons (.var 11) .nil))))))) (.cons (.cst (.bl true)) .nil)))) .nil))))]
def f_law_changed : Df := ⟨"_law_changed", ["state", "book"], ["state", "book", "steps", "at", "burn", "found", "paces", "landing", "stopping", "reserve", "rate", "floor", "k"], top 24, 0, b20⟩
/-- 21: slots 0=script 1=state 2=book 3=mode 4=due 5=modes 6=other 7=k 8=even -/
def b21 : List S := [.set 1 (.call 5 (.cons (.var 0) .nil)),
  .iff (.nt (.call 16 (.cons (.var 1) .nil))) [.ret (.cst (.bl false))] [],
  .set 2 (.call 12 (.cons (.var 1) (.cons (.cst (.int 24)) (.cons (.cst (.int 10)) .nil)))),
  .iff (.or (.cons (.nt (.call 19 (.cons (.var 1) (.cons (.var 2) .nil)))) (.cons (.nt (.call 19 (.cons (.var 1) (.cons (.call 17 (.cons (.var 1) .nil)) .nil)))) .nil))) [.ret (.cst (.bl false))] [],
  .forr (.tu [(.nm 3), (.nm 4)]) (.seq (.call 20 (.cons (.var 1) (.cons (.var 2) .nil)))) [.set 5 (.call 7 (.cons (.var 1) (.cons (.ofL (.disp (.cons (.tup (.cons (.var 3) .nil)) (.cons (.bin .add (.slc (.idx (.var 2) (.cst (.int 3))) .none (.some (.cst (.int 1)))) (.tup (.cons (.var 3) .nil))) (.cons (.bin .add (.tup (.cons (.var 3) .nil)) (.slc (.idx (.var 2) (.cst (.int 3))) .none (.some (.cst (.int 1))))) .nil))))) .nil))), .set 6 (.bin .add (.slc (.var 2) .none (.some (.cst (.int 3)))) (.tup (.cons (.var 5) (.cons (.tup .nil) .nil)))), .forr (.nm 7) (.rng1 (.bi .len (.cons (.var 5) .nil))) [.set 8 (.ite (.cmp .eq (.idx (.var 5) (.var 7)) (.var 3)) (.var 4) (.cst (.bl true))), .iff (.or (.cons (.nt (.call 9 (.cons (.call 3 (.cons (.var 6) (.cons (.var 7) .nil))) (.cons (.var 8) .nil)))) (.cons (.nt (.call 9 (.cons (.callK 3 [0, 1] (.cons (.var 6) (.cons (.var 7) .nil))) (.cons (.var 8) .nil)))) .nil))) [.ret (.cst (.bl false))] []]],
  .ret (.cst (.bl true))]
def f_law : Df := ⟨"law", ["script"], ["script", "state", "book", "mode", "due", "modes", "other", "k", "even"], top 25, 0, b21⟩
def ds : List Df := [f_value_at, f_least_mass, f_spare, f_is_even, f_law_mixed, f_law_start, f_law_take, f_law_pick, f_law_shuffled, f_law_is_due, f_law_rising, f_law_even_mode, f_law_even_book, f_law_value, f_law_spare, f_law_is, f_law_tables_are_told, f_law_great_book, f_law_points, f_law_spares_are_told, f_law_changed, f_law]
def kcs : List KcI := [⟨0, ["table", "mass"], [0, 1]⟩, ⟨2, ["book", "mode", "mass", "fuel"], [0, 1, 2, 3]⟩, ⟨3, ["book", "mode"], [0, 1]⟩]
def nms : List DefI := ds.map Df.i
abbrev T : List Fd := ds.map Df.fd
theorem ok0 : okD nms kcs f_value_at = true := by decide +kernel
theorem ok1 : okD nms kcs f_least_mass = true := by decide +kernel
theorem ok2 : okD nms kcs f_spare = true := by decide +kernel
theorem ok3 : okD nms kcs f_is_even = true := by decide +kernel
theorem ok4 : okD nms kcs f_law_mixed = true := by decide +kernel
theorem ok5 : okD nms kcs f_law_start = true := by decide +kernel
theorem ok6 : okD nms kcs f_law_take = true := by decide +kernel
theorem ok7 : okD nms kcs f_law_pick = true := by decide +kernel
theorem ok8 : okD nms kcs f_law_shuffled = true := by decide +kernel
theorem ok9 : okD nms kcs f_law_is_due = true := by decide +kernel
theorem ok10 : okD nms kcs f_law_rising = true := by decide +kernel
theorem ok11 : okD nms kcs f_law_even_mode = true := by decide +kernel
theorem ok12 : okD nms kcs f_law_even_book = true := by decide +kernel
theorem ok13 : okD nms kcs f_law_value = true := by decide +kernel
theorem ok14 : okD nms kcs f_law_spare = true := by decide +kernel
theorem ok15 : okD nms kcs f_law_is = true := by decide +kernel
theorem ok16 : okD nms kcs f_law_tables_are_told = true := by decide +kernel
theorem ok17 : okD nms kcs f_law_great_book = true := by decide +kernel
theorem ok18 : okD nms kcs f_law_points = true := by decide +kernel
theorem ok19 : okD nms kcs f_law_spares_are_told = true := by decide +kernel
theorem ok20 : okD nms kcs f_law_changed = true := by decide +kernel
theorem ok21 : okD nms kcs f_law = true := by decide +kernel
theorem okAll : (ds.all fun d => okD nms kcs d) = true := by
  simp only [ds, List.all_cons, List.all_nil, ok0, ok1, ok2, ok3, ok4, ok5, ok6, ok7, ok8, ok9, ok10, ok11, ok12, ok13, ok14, ok15, ok16, ok17, ok18, ok19, ok20, ok21, Bool.and_true]
theorem bf0 : BindF f_value_at := fun _ _ _ _ _ _ us hl => match us, hl with | [_, _], _ => rfl
theorem bf1 : BindF f_least_mass := fun _ _ _ _ _ _ us hl => match us, hl with | [_, _, _], _ => rfl
theorem bf2 : BindF f_spare := fun _ _ _ _ _ _ us hl => match us, hl with | [_, _, _, _], _ => rfl
theorem bf3 : BindF f_is_even := fun _ _ _ _ _ _ us hl => match us, hl with | [_, _], _ => rfl
theorem bf4 : BindF f_law_mixed := fun _ _ _ _ _ _ us hl => match us, hl with | [_, _], _ => rfl
theorem bf5 : BindF f_law_start := fun _ _ _ _ _ _ us hl => match us, hl with | [_], _ => rfl
theorem bf6 : BindF f_law_take := fun _ _ _ _ _ _ us hl => match us, hl with | [_, _], _ => rfl
theorem bf7 : BindF f_law_pick := fun _ _ _ _ _ _ us hl => match us, hl with | [_, _], _ => rfl
theorem bf8 : BindF f_law_shuffled := fun _ _ _ _ _ _ us hl => match us, hl with | [_, _], _ => rfl
theorem bf9 : BindF f_law_is_due := fun _ _ _ _ _ _ us hl => match us, hl with | [_, _], _ => rfl
theorem bf10 : BindF f_law_rising := fun _ _ _ _ _ _ us hl => match us, hl with | [_, _, _, _], _ => rfl
theorem bf11 : BindF f_law_even_mode := fun _ _ _ _ _ _ us hl => match us, hl with | [_, _, _], _ => rfl
theorem bf12 : BindF f_law_even_book := fun _ _ _ _ _ _ us hl => match us, hl with | [_, _, _], _ => rfl
theorem bf13 : BindF f_law_value := fun _ _ _ _ _ _ us hl => match us, hl with | [_, _], _ => rfl
theorem bf14 : BindF f_law_spare := fun _ _ _ _ _ _ us hl => match us, hl with | [_, _, _, _], _ => rfl
theorem bf15 : BindF f_law_is := fun _ _ _ _ _ _ us hl => match us, hl with | [_, _], _ => rfl
theorem bf16 : BindF f_law_tables_are_told := fun _ _ _ _ _ _ us hl => match us, hl with | [_], _ => rfl
theorem bf17 : BindF f_law_great_book := fun _ _ _ _ _ _ us hl => match us, hl with | [_], _ => rfl
theorem bf18 : BindF f_law_points := fun _ _ _ _ _ _ us hl => match us, hl with | [_, _], _ => rfl
theorem bf19 : BindF f_law_spares_are_told := fun _ _ _ _ _ _ us hl => match us, hl with | [_, _], _ => rfl
theorem bf20 : BindF f_law_changed := fun _ _ _ _ _ _ us hl => match us, hl with | [_, _], _ => rfl
theorem bf21 : BindF f_law := fun _ _ _ _ _ _ us hl => match us, hl with | [_], _ => rfl
theorem bfAll : ∀ d ∈ ds, BindF d := List.forall_mem_cons.mpr ⟨bf0, List.forall_mem_cons.mpr ⟨bf1, List.forall_mem_cons.mpr ⟨bf2, List.forall_mem_cons.mpr ⟨bf3, List.forall_mem_cons.mpr ⟨bf4, List.forall_mem_cons.mpr ⟨bf5, List.forall_mem_cons.mpr ⟨bf6, List.forall_mem_cons.mpr ⟨bf7, List.forall_mem_cons.mpr ⟨bf8, List.forall_mem_cons.mpr ⟨bf9, List.forall_mem_cons.mpr ⟨bf10, List.forall_mem_cons.mpr ⟨bf11, List.forall_mem_cons.mpr ⟨bf12, List.forall_mem_cons.mpr ⟨bf13, List.forall_mem_cons.mpr ⟨bf14, List.forall_mem_cons.mpr ⟨bf15, List.forall_mem_cons.mpr ⟨bf16, List.forall_mem_cons.mpr ⟨bf17, List.forall_mem_cons.mpr ⟨bf18, List.forall_mem_cons.mpr ⟨bf19, List.forall_mem_cons.mpr ⟨bf20, List.forall_mem_cons.mpr ⟨bf21, fun _ h => by cases h⟩⟩⟩⟩⟩⟩⟩⟩⟩⟩⟩⟩⟩⟩⟩⟩⟩⟩⟩⟩⟩⟩
theorem kf0 : KBindF f_value_at ⟨0, ["table", "mass"], [0, 1]⟩ := fun _ _ _ _ _ _ ws hl => match ws, hl with | [_, _], _ => rfl
theorem kf1 : KBindF f_spare ⟨2, ["book", "mode", "mass", "fuel"], [0, 1, 2, 3]⟩ := fun _ _ _ _ _ _ ws hl => match ws, hl with | [_, _, _, _], _ => rfl
theorem kf2 : KBindF f_is_even ⟨3, ["book", "mode"], [0, 1]⟩ := fun _ _ _ _ _ _ ws hl => match ws, hl with | [_, _], _ => rfl
theorem kfAll : ∀ k ∈ kcs, ∀ d, ds[k.f]? = some d → KBindF d k := List.forall_mem_cons.mpr ⟨(fun d h => by cases h; exact kf0), List.forall_mem_cons.mpr ⟨(fun d h => by cases h; exact kf1), List.forall_mem_cons.mpr ⟨(fun d h => by cases h; exact kf2), fun _ h => by cases h⟩⟩⟩
theorem nod : (ds.map (·.name)).Nodup := by decide +kernel
end PI.K01

set_option Elab.async false
set_option linter.all false
set_option maxRecDepth 100000
set_option maxHeartbeats 4000000
set_option autoImplicit false
namespace PI.K01
open PySem PySem.Spec PyProof.Rows L2 PI
theorem big01 {p : Prop} [Decidable p] : -(2 ^ 64) < (if p then (1 : Int) else 0) ∧ (if p then (1 : Int) else 0) < 2 ^ 64 := by
  by_cases z : p
  · rw [if_pos z]; decide
  · rw [if_neg z]; decide
theorem mixed_W {n : Nat} {a k : Int} {h : PH} {Q : D × PH → Prop} (q : ∀ v, 0 ≤ v → Q (.int v, h)) : W (call T (n + 1) 4 [.int a, .int k] h) Q := by
  refine W_call (f := f_law_mixed.fd) rfl rfl ?_
  have hm : ∀ z : Int, -(2 ^ 64) < z % 2147483647 ∧ z % 2147483647 < 2 ^ 64 := fun z => by omega
  simp only [f_law_mixed, b4, mul_l (hm _), ↓W_some, ↓W_bind, ↓W_map, ↓w_var, ↓w_own, ↓w_cst, ↓w_tup, ↓w_ofL, ↓w_celL, ↓w_neg, ↓w_bin, ↓w_cmp, ↓w_chn, ↓w_nt, ↓w_an, ↓w_or, ↓w_ite, ↓w_idx, ↓w_slc, ↓w_call, ↓w_callK, ↓w_bi, ↓w_isi, ↓w_gall, ↓w_gany, ↓w_gsum, ↓w_gtup, ↓w_genF, ↓w_nil, ↓w_cons, ↓w_onone, ↓w_osome, ↓w_otnone, ↓w_otsome, ↓w_and1, ↓w_and, ↓w_or1, ↓w_orc, ↓w_tnt, ↓w_tan, ↓w_tor, ↓w_ta1, ↓w_ta, ↓w_to1, ↓w_to, ↓w_tcmp, ↓w_tchn, ↓w_tvar, ↓w_town, ↓w_tcst, ↓w_tidx, ↓w_tbin, ↓w_tslc, ↓w_tcall, ↓w_tcallK, ↓w_tbi, ↓w_tisi, ↓w_tgen, ↓w_disp, ↓w_comp, ↓w_list, ↓w_sorted, ↓w_seq, ↓w_rng1, ↓w_rng2, ↓w_enum, ↓w_zip, ↓w_rev, ↓w_set, ↓w_setL, ↓w_setD, ↓w_pat, ↓w_par2, ↓w_aug, ↓w_augI, ↓w_putI, ↓w_putO, ↓w_augO, ↓w_app, ↓w_expr, ↓w_ret, ↓w_retN, ↓w_iff, ↓w_whil, ↓w_forr, ↓w_brk, ↓w_cont, ↓w_pass, ↓w_frz, ↓w_snil, ↓w_scons, ↓bps_s, add_ii, add_tt, add_ll, sub_ii, lt_ii, le_ii, gt_ii, ge_ii, eq_ii, ne_ii, is_n, isnt_n, is_bb, isnt_bb, isNon_i, isNon_b, isNon_t, isNon_l, isNon_n, tru_b, tru_i, tru_t, tru_l, tru_n, len_t, len_l, len_s, len_d, bi_len, bi_abs, bi_int, bi_intb, bi_tupt, bi_tupl, bi_min, bi_max, bi_sum, it_t, it_l, it_s, li_l, list_t, list_l, list_s, sl_t, sl_l, sl_s, ty_ii, ty_ib, ty_in, ty_bi, ty_bb, ty_bn, bp_nm, bp_tt, bp_tl, bps_0, op_add, op_sub, op_mul, op_fdiv, op_mod, op_pow, cm_eq, cm_ne, cm_lt, cm_le, cm_gt, cm_ge, cm_is, cm_isnt, cm_in, cm_notin, cd_n, cd_b, cd_i, cd_s, wp_0, wp_s, oq_rt, oq_nx, ol_nx, ol_ct, ol_bk, ol_rt, mod_pos, fdiv_pos, mul_l, mul_r, varS_0, varS_s, lookS_0, lookS_s, ownS_0v, ownS_0, ownS_0d, ownS_s, setS_0, setS_s, set_0, set_s, deref_int, deref_bl, deref_non, deref_str, deref_tup, deref_lst, deref_scr, deref_dct, deref_ref0, isCell_ref0, restO_nx, restO_rt, restO_bk, restO_ct, szl, idx_tup0, idx_tup1, idx_tup2, idx_tup3, idx_tup4, idx_tup5, idx_tup6, idx_tup7, idx_tup8, idx_tup9, idx_lst0, idx_lst1, idx_lst2, idx_lst3, idx_lst4, idx_lst5, idx_lst6, idx_lst7, idx_lst8, idx_lst9, Int.reduceLT, Int.reduceLE, Int.reduceNeg, Int.reducePow, and_self, permD, List.getElem?_cons_zero, List.getElem?_cons_succ, Option.bind_some, Option.map_some, startS, List.map_cons, List.map_nil, List.replicate, List.cons_append, List.nil_append, List.append_nil, List.length_cons, List.length_nil, decide_eq_true_eq, Bool.not_eq_true', decide_eq_false_iff_not, Nat.reduceAdd, Nat.zero_add, Nat.reduceLeDiff, Nat.reduceLT, Nat.reduceSub, if_true, if_false, Bool.false_eq_true, ↓reduceIte, Df.fd]
  exact q (_ % 2147483587) (Int.emod_nonneg _ (by decide))
theorem start_W {n : Nat} {ns : List Int} {h : PH} {Q : D × PH → Prop} (q : ∀ v : Int, Q (.ref h.length, h ++ [.lst [.int 0, .int 0, .int 0, .int v, .lst ((ns.take 63).map .int), .int 0]])) : W (call T (n + 2) 5 [.scr ns] h) Q := by
  refine W_call (f := f_law_start.fd) rfl rfl ?_
  have hc : cutD (ns.map D.int) none (some 63) = (ns.take 63).map D.int := by
    unfold cutD
    simp [HT.sIx, List.map_take]
  simp only [f_law_start, b5, hc, ↓W_some, ↓W_bind, ↓W_map, ↓w_var, ↓w_own, ↓w_cst, ↓w_tup, ↓w_ofL, ↓w_celL, ↓w_neg, ↓w_bin, ↓w_cmp, ↓w_chn, ↓w_nt, ↓w_an, ↓w_or, ↓w_ite, ↓w_idx, ↓w_slc, ↓w_call, ↓w_callK, ↓w_bi, ↓w_isi, ↓w_gall, ↓w_gany, ↓w_gsum, ↓w_gtup, ↓w_genF, ↓w_nil, ↓w_cons, ↓w_onone, ↓w_osome, ↓w_otnone, ↓w_otsome, ↓w_and1, ↓w_and, ↓w_or1, ↓w_orc, ↓w_tnt, ↓w_tan, ↓w_tor, ↓w_ta1, ↓w_ta, ↓w_to1, ↓w_to, ↓w_tcmp, ↓w_tchn, ↓w_tvar, ↓w_town, ↓w_tcst, ↓w_tidx, ↓w_tbin, ↓w_tslc, ↓w_tcall, ↓w_tcallK, ↓w_tbi, ↓w_tisi, ↓w_tgen, ↓w_disp, ↓w_comp, ↓w_list, ↓w_sorted, ↓w_seq, ↓w_rng1, ↓w_rng2, ↓w_enum, ↓w_zip, ↓w_rev, ↓w_set, ↓w_setL, ↓w_setD, ↓w_pat, ↓w_par2, ↓w_aug, ↓w_augI, ↓w_putI, ↓w_putO, ↓w_augO, ↓w_app, ↓w_expr, ↓w_ret, ↓w_retN, ↓w_iff, ↓w_whil, ↓w_forr, ↓w_brk, ↓w_cont, ↓w_pass, ↓w_frz, ↓w_snil, ↓w_scons, ↓bps_s, add_ii, add_tt, add_ll, sub_ii, lt_ii, le_ii, gt_ii, ge_ii, eq_ii, ne_ii, is_n, isnt_n, is_bb, isnt_bb, isNon_i, isNon_b, isNon_t, isNon_l, isNon_n, tru_b, tru_i, tru_t, tru_l, tru_n, len_t, len_l, len_s, len_d, bi_len, bi_abs, bi_int, bi_intb, bi_tupt, bi_tupl, bi_min, bi_max, bi_sum, it_t, it_l, it_s, li_l, list_t, list_l, list_s, sl_t, sl_l, sl_s, ty_ii, ty_ib, ty_in, ty_bi, ty_bb, ty_bn, bp_nm, bp_tt, bp_tl, bps_0, op_add, op_sub, op_mul, op_fdiv, op_mod, op_pow, cm_eq, cm_ne, cm_lt, cm_le, cm_gt, cm_ge, cm_is, cm_isnt, cm_in, cm_notin, cd_n, cd_b, cd_i, cd_s, wp_0, wp_s, oq_rt, oq_nx, ol_nx, ol_ct, ol_bk, ol_rt, mod_pos, fdiv_pos, mul_l, mul_r, varS_0, varS_s, lookS_0, lookS_s, ownS_0v, ownS_0, ownS_0d, ownS_s, setS_0, setS_s, set_0, set_s, deref_int, deref_bl, deref_non, deref_str, deref_tup, deref_lst, deref_scr, deref_dct, deref_ref0, isCell_ref0, restO_nx, restO_rt, restO_bk, restO_ct, szl, idx_tup0, idx_tup1, idx_tup2, idx_tup3, idx_tup4, idx_tup5, idx_tup6, idx_tup7, idx_tup8, idx_tup9, idx_lst0, idx_lst1, idx_lst2, idx_lst3, idx_lst4, idx_lst5, idx_lst6, idx_lst7, idx_lst8, idx_lst9, Int.reduceLT, Int.reduceLE, Int.reduceNeg, Int.reducePow, and_self, permD, List.getElem?_cons_zero, List.getElem?_cons_succ, Option.bind_some, Option.map_some, startS, List.map_cons, List.map_nil, List.replicate, List.cons_append, List.nil_append, List.append_nil, List.length_cons, List.length_nil, decide_eq_true_eq, Bool.not_eq_true', decide_eq_false_iff_not, Nat.reduceAdd, Nat.zero_add, Nat.reduceLeDiff, Nat.reduceLT, Nat.reduceSub, if_true, if_false, Bool.false_eq_true, ↓reduceIte, Df.fd]
  refine W_forS (fun r ρ h' => ∃ s c, h' = h ∧ ρ = [some (.val (.scr ns)), some (.val (.int s)), c] ∧ ∃ ms : List Int, r = ms.map .int) ?_ ?_ ⟨_, _, rfl, rfl, _, rfl⟩
  · rintro x r ρ h' ⟨s, c, e1, e2, ms, e⟩
    subst e1 e2
    cases ms with
    | nil => cases e
    | cons m ms =>
      cases e
      simp only [hc, ↓W_some, ↓W_bind, ↓W_map, ↓w_var, ↓w_own, ↓w_cst, ↓w_tup, ↓w_ofL, ↓w_celL, ↓w_neg, ↓w_bin, ↓w_cmp, ↓w_chn, ↓w_nt, ↓w_an, ↓w_or, ↓w_ite, ↓w_idx, ↓w_slc, ↓w_call, ↓w_callK, ↓w_bi, ↓w_isi, ↓w_gall, ↓w_gany, ↓w_gsum, ↓w_gtup, ↓w_genF, ↓w_nil, ↓w_cons, ↓w_onone, ↓w_osome, ↓w_otnone, ↓w_otsome, ↓w_and1, ↓w_and, ↓w_or1, ↓w_orc, ↓w_tnt, ↓w_tan, ↓w_tor, ↓w_ta1, ↓w_ta, ↓w_to1, ↓w_to, ↓w_tcmp, ↓w_tchn, ↓w_tvar, ↓w_town, ↓w_tcst, ↓w_tidx, ↓w_tbin, ↓w_tslc, ↓w_tcall, ↓w_tcallK, ↓w_tbi, ↓w_tisi, ↓w_tgen, ↓w_disp, ↓w_comp, ↓w_list, ↓w_sorted, ↓w_seq, ↓w_rng1, ↓w_rng2, ↓w_enum, ↓w_zip, ↓w_rev, ↓w_set, ↓w_setL, ↓w_setD, ↓w_pat, ↓w_par2, ↓w_aug, ↓w_augI, ↓w_putI, ↓w_putO, ↓w_augO, ↓w_app, ↓w_expr, ↓w_ret, ↓w_retN, ↓w_iff, ↓w_whil, ↓w_forr, ↓w_brk, ↓w_cont, ↓w_pass, ↓w_frz, ↓w_snil, ↓w_scons, ↓bps_s, add_ii, add_tt, add_ll, sub_ii, lt_ii, le_ii, gt_ii, ge_ii, eq_ii, ne_ii, is_n, isnt_n, is_bb, isnt_bb, isNon_i, isNon_b, isNon_t, isNon_l, isNon_n, tru_b, tru_i, tru_t, tru_l, tru_n, len_t, len_l, len_s, len_d, bi_len, bi_abs, bi_int, bi_intb, bi_tupt, bi_tupl, bi_min, bi_max, bi_sum, it_t, it_l, it_s, li_l, list_t, list_l, list_s, sl_t, sl_l, sl_s, ty_ii, ty_ib, ty_in, ty_bi, ty_bb, ty_bn, bp_nm, bp_tt, bp_tl, bps_0, op_add, op_sub, op_mul, op_fdiv, op_mod, op_pow, cm_eq, cm_ne, cm_lt, cm_le, cm_gt, cm_ge, cm_is, cm_isnt, cm_in, cm_notin, cd_n, cd_b, cd_i, cd_s, wp_0, wp_s, oq_rt, oq_nx, ol_nx, ol_ct, ol_bk, ol_rt, mod_pos, fdiv_pos, mul_l, mul_r, varS_0, varS_s, lookS_0, lookS_s, ownS_0v, ownS_0, ownS_0d, ownS_s, setS_0, setS_s, set_0, set_s, deref_int, deref_bl, deref_non, deref_str, deref_tup, deref_lst, deref_scr, deref_dct, deref_ref0, isCell_ref0, restO_nx, restO_rt, restO_bk, restO_ct, szl, idx_tup0, idx_tup1, idx_tup2, idx_tup3, idx_tup4, idx_tup5, idx_tup6, idx_tup7, idx_tup8, idx_tup9, idx_lst0, idx_lst1, idx_lst2, idx_lst3, idx_lst4, idx_lst5, idx_lst6, idx_lst7, idx_lst8, idx_lst9, Int.reduceLT, Int.reduceLE, Int.reduceNeg, Int.reducePow, and_self, permD, List.getElem?_cons_zero, List.getElem?_cons_succ, Option.bind_some, Option.map_some, startS, List.map_cons, List.map_nil, List.replicate, List.cons_append, List.nil_append, List.append_nil, List.length_cons, List.length_nil, decide_eq_true_eq, Bool.not_eq_true', decide_eq_false_iff_not, Nat.reduceAdd, Nat.zero_add, Nat.reduceLeDiff, Nat.reduceLT, Nat.reduceSub, if_true, if_false, Bool.false_eq_true, ↓reduceIte, Df.fd]
      exact mixed_W fun v _ => by
        simp only [↓W_some, ↓W_bind, ↓W_map, ↓w_var, ↓w_own, ↓w_cst, ↓w_tup, ↓w_ofL, ↓w_celL, ↓w_neg, ↓w_bin, ↓w_cmp, ↓w_chn, ↓w_nt, ↓w_an, ↓w_or, ↓w_ite, ↓w_idx, ↓w_slc, ↓w_call, ↓w_callK, ↓w_bi, ↓w_isi, ↓w_gall, ↓w_gany, ↓w_gsum, ↓w_gtup, ↓w_genF, ↓w_nil, ↓w_cons, ↓w_onone, ↓w_osome, ↓w_otnone, ↓w_otsome, ↓w_and1, ↓w_and, ↓w_or1, ↓w_orc, ↓w_tnt, ↓w_tan, ↓w_tor, ↓w_ta1, ↓w_ta, ↓w_to1, ↓w_to, ↓w_tcmp, ↓w_tchn, ↓w_tvar, ↓w_town, ↓w_tcst, ↓w_tidx, ↓w_tbin, ↓w_tslc, ↓w_tcall, ↓w_tcallK, ↓w_tbi, ↓w_tisi, ↓w_tgen, ↓w_disp, ↓w_comp, ↓w_list, ↓w_sorted, ↓w_seq, ↓w_rng1, ↓w_rng2, ↓w_enum, ↓w_zip, ↓w_rev, ↓w_set, ↓w_setL, ↓w_setD, ↓w_pat, ↓w_par2, ↓w_aug, ↓w_augI, ↓w_putI, ↓w_putO, ↓w_augO, ↓w_app, ↓w_expr, ↓w_ret, ↓w_retN, ↓w_iff, ↓w_whil, ↓w_forr, ↓w_brk, ↓w_cont, ↓w_pass, ↓w_frz, ↓w_snil, ↓w_scons, ↓bps_s, add_ii, add_tt, add_ll, sub_ii, lt_ii, le_ii, gt_ii, ge_ii, eq_ii, ne_ii, is_n, isnt_n, is_bb, isnt_bb, isNon_i, isNon_b, isNon_t, isNon_l, isNon_n, tru_b, tru_i, tru_t, tru_l, tru_n, len_t, len_l, len_s, len_d, bi_len, bi_abs, bi_int, bi_intb, bi_tupt, bi_tupl, bi_min, bi_max, bi_sum, it_t, it_l, it_s, li_l, list_t, list_l, list_s, sl_t, sl_l, sl_s, ty_ii, ty_ib, ty_in, ty_bi, ty_bb, ty_bn, bp_nm, bp_tt, bp_tl, bps_0, op_add, op_sub, op_mul, op_fdiv, op_mod, op_pow, cm_eq, cm_ne, cm_lt, cm_le, cm_gt, cm_ge, cm_is, cm_isnt, cm_in, cm_notin, cd_n, cd_b, cd_i, cd_s, wp_0, wp_s, oq_rt, oq_nx, ol_nx, ol_ct, ol_bk, ol_rt, mod_pos, fdiv_pos, mul_l, mul_r, varS_0, varS_s, lookS_0, lookS_s, ownS_0v, ownS_0, ownS_0d, ownS_s, setS_0, setS_s, set_0, set_s, deref_int, deref_bl, deref_non, deref_str, deref_tup, deref_lst, deref_scr, deref_dct, deref_ref0, isCell_ref0, restO_nx, restO_rt, restO_bk, restO_ct, szl, idx_tup0, idx_tup1, idx_tup2, idx_tup3, idx_tup4, idx_tup5, idx_tup6, idx_tup7, idx_tup8, idx_tup9, idx_lst0, idx_lst1, idx_lst2, idx_lst3, idx_lst4, idx_lst5, idx_lst6, idx_lst7, idx_lst8, idx_lst9, Int.reduceLT, Int.reduceLE, Int.reduceNeg, Int.reducePow, and_self, permD, List.getElem?_cons_zero, List.getElem?_cons_succ, Option.bind_some, Option.map_some, startS, List.map_cons, List.map_nil, List.replicate, List.cons_append, List.nil_append, List.append_nil, List.length_cons, List.length_nil, decide_eq_true_eq, Bool.not_eq_true', decide_eq_false_iff_not, Nat.reduceAdd, Nat.zero_add, Nat.reduceLeDiff, Nat.reduceLT, Nat.reduceSub, if_true, if_false, Bool.false_eq_true, ↓reduceIte, Df.fd]
        exact ⟨v, _, by trivial, by trivial, ms, by trivial⟩
  · rintro ρ h' ⟨s, c, e1, e2, _⟩
    subst e1 e2
    simp only [hc, ↓W_some, ↓W_bind, ↓W_map, ↓w_var, ↓w_own, ↓w_cst, ↓w_tup, ↓w_ofL, ↓w_celL, ↓w_neg, ↓w_bin, ↓w_cmp, ↓w_chn, ↓w_nt, ↓w_an, ↓w_or, ↓w_ite, ↓w_idx, ↓w_slc, ↓w_call, ↓w_callK, ↓w_bi, ↓w_isi, ↓w_gall, ↓w_gany, ↓w_gsum, ↓w_gtup, ↓w_genF, ↓w_nil, ↓w_cons, ↓w_onone, ↓w_osome, ↓w_otnone, ↓w_otsome, ↓w_and1, ↓w_and, ↓w_or1, ↓w_orc, ↓w_tnt, ↓w_tan, ↓w_tor, ↓w_ta1, ↓w_ta, ↓w_to1, ↓w_to, ↓w_tcmp, ↓w_tchn, ↓w_tvar, ↓w_town, ↓w_tcst, ↓w_tidx, ↓w_tbin, ↓w_tslc, ↓w_tcall, ↓w_tcallK, ↓w_tbi, ↓w_tisi, ↓w_tgen, ↓w_disp, ↓w_comp, ↓w_list, ↓w_sorted, ↓w_seq, ↓w_rng1, ↓w_rng2, ↓w_enum, ↓w_zip, ↓w_rev, ↓w_set, ↓w_setL, ↓w_setD, ↓w_pat, ↓w_par2, ↓w_aug, ↓w_augI, ↓w_putI, ↓w_putO, ↓w_augO, ↓w_app, ↓w_expr, ↓w_ret, ↓w_retN, ↓w_iff, ↓w_whil, ↓w_forr, ↓w_brk, ↓w_cont, ↓w_pass, ↓w_frz, ↓w_snil, ↓w_scons, ↓bps_s, add_ii, add_tt, add_ll, sub_ii, lt_ii, le_ii, gt_ii, ge_ii, eq_ii, ne_ii, is_n, isnt_n, is_bb, isnt_bb, isNon_i, isNon_b, isNon_t, isNon_l, isNon_n, tru_b, tru_i, tru_t, tru_l, tru_n, len_t, len_l, len_s, len_d, bi_len, bi_abs, bi_int, bi_intb, bi_tupt, bi_tupl, bi_min, bi_max, bi_sum, it_t, it_l, it_s, li_l, list_t, list_l, list_s, sl_t, sl_l, sl_s, ty_ii, ty_ib, ty_in, ty_bi, ty_bb, ty_bn, bp_nm, bp_tt, bp_tl, bps_0, op_add, op_sub, op_mul, op_fdiv, op_mod, op_pow, cm_eq, cm_ne, cm_lt, cm_le, cm_gt, cm_ge, cm_is, cm_isnt, cm_in, cm_notin, cd_n, cd_b, cd_i, cd_s, wp_0, wp_s, oq_rt, oq_nx, ol_nx, ol_ct, ol_bk, ol_rt, mod_pos, fdiv_pos, mul_l, mul_r, varS_0, varS_s, lookS_0, lookS_s, ownS_0v, ownS_0, ownS_0d, ownS_s, setS_0, setS_s, set_0, set_s, deref_int, deref_bl, deref_non, deref_str, deref_tup, deref_lst, deref_scr, deref_dct, deref_ref0, isCell_ref0, restO_nx, restO_rt, restO_bk, restO_ct, szl, idx_tup0, idx_tup1, idx_tup2, idx_tup3, idx_tup4, idx_tup5, idx_tup6, idx_tup7, idx_tup8, idx_tup9, idx_lst0, idx_lst1, idx_lst2, idx_lst3, idx_lst4, idx_lst5, idx_lst6, idx_lst7, idx_lst8, idx_lst9, Int.reduceLT, Int.reduceLE, Int.reduceNeg, Int.reducePow, and_self, permD, List.getElem?_cons_zero, List.getElem?_cons_succ, Option.bind_some, Option.map_some, startS, List.map_cons, List.map_nil, List.replicate, List.cons_append, List.nil_append, List.append_nil, List.length_cons, List.length_nil, decide_eq_true_eq, Bool.not_eq_true', decide_eq_false_iff_not, Nat.reduceAdd, Nat.zero_add, Nat.reduceLeDiff, Nat.reduceLT, Nat.reduceSub, if_true, if_false, Bool.false_eq_true, ↓reduceIte, Df.fd]
    exact q s
/-- the drawer -/
def stL (a b c s : Int) (cs : List Int) (f : Int) : List D := [.int a, .int b, .int c, .int s, .lst (cs.map .int), .int f]
def St (h : PH) : Prop := ∃ a b c s cs f, h = [.lst (stL a b c s cs f)] ∧ 0 ≤ b
theorem cput_0 {a b c d e f x : D} {h : PH} : cputD (.lst [a, b, c, d, e, f] :: h) (.ref 0) (.int 0) x = some (.lst [x, b, c, d, e, f] :: h) := rfl
theorem cput_1 {a b c d e f x : D} {h : PH} : cputD (.lst [a, b, c, d, e, f] :: h) (.ref 0) (.int 1) x = some (.lst [a, x, c, d, e, f] :: h) := rfl
theorem cput_2 {a b c d e f x : D} {h : PH} : cputD (.lst [a, b, c, d, e, f] :: h) (.ref 0) (.int 2) x = some (.lst [a, b, x, d, e, f] :: h) := rfl
theorem cput_5 {a b c d e f x : D} {h : PH} : cputD (.lst [a, b, c, d, e, f] :: h) (.ref 0) (.int 5) x = some (.lst [a, b, c, d, e, x] :: h) := rfl
theorem pow_18 : powD (.int 10) (.int 18) = some (.int 1000000000000000000) := rfl
theorem take_W {n : Nat} {m : Int} {h : PH} {Q : D × PH → Prop} (hs : St h) (h0 : 0 < m) (h1 : m < 1073741824) (q : ∀ v h', St h' → 0 ≤ v → v < m → Q (.int v, h')) : W (call T (n + 2) 6 [.ref 0, .int m] h) Q := by
  obtain ⟨a, b, c, s, cs, f, rfl, hb⟩ := hs
  have hz : ∀ z : Int, 0 ≤ z % m ∧ z % m < m := fun z => ⟨Int.emod_nonneg _ (by omega), Int.emod_lt_of_pos _ h0⟩
  have hlen : (cs.map D.int).length = cs.length := List.length_map ..
  refine W_call (f := f_law_take.fd) rfl rfl ?_
  by_cases ha : a = 0
  · subst ha
    by_cases hl : b < cs.length
    · obtain ⟨x, hx⟩ : ∃ x, cs[b.toNat]? = some x := ⟨_, List.getElem?_eq_getElem (by omega)⟩
      have hi : idxD (.lst (cs.map D.int)) (.int b) = some (.int x) := atI_at (j := b.toNat) (by omega) (by rw [List.getElem?_map, hx]; rfl)
      by_cases hsm : (if x < 0 then -x else x) < 1000000000000000000
      · simp only [f_law_take, b6, stL, cput_0, cput_1, cput_2, cput_5, pow_18, hlen, hl, hi, hsm, decide_true, decide_false, ↓W_some, ↓W_bind, ↓W_map, ↓w_var, ↓w_own, ↓w_cst, ↓w_tup, ↓w_ofL, ↓w_celL, ↓w_neg, ↓w_bin, ↓w_cmp, ↓w_chn, ↓w_nt, ↓w_an, ↓w_or, ↓w_ite, ↓w_idx, ↓w_slc, ↓w_call, ↓w_callK, ↓w_bi, ↓w_isi, ↓w_gall, ↓w_gany, ↓w_gsum, ↓w_gtup, ↓w_genF, ↓w_nil, ↓w_cons, ↓w_onone, ↓w_osome, ↓w_otnone, ↓w_otsome, ↓w_and1, ↓w_and, ↓w_or1, ↓w_orc, ↓w_tnt, ↓w_tan, ↓w_tor, ↓w_ta1, ↓w_ta, ↓w_to1, ↓w_to, ↓w_tcmp, ↓w_tchn, ↓w_tvar, ↓w_town, ↓w_tcst, ↓w_tidx, ↓w_tbin, ↓w_tslc, ↓w_tcall, ↓w_tcallK, ↓w_tbi, ↓w_tisi, ↓w_tgen, ↓w_disp, ↓w_comp, ↓w_list, ↓w_sorted, ↓w_seq, ↓w_rng1, ↓w_rng2, ↓w_enum, ↓w_zip, ↓w_rev, ↓w_set, ↓w_setL, ↓w_setD, ↓w_pat, ↓w_par2, ↓w_aug, ↓w_augI, ↓w_putI, ↓w_putO, ↓w_augO, ↓w_app, ↓w_expr, ↓w_ret, ↓w_retN, ↓w_iff, ↓w_whil, ↓w_forr, ↓w_brk, ↓w_cont, ↓w_pass, ↓w_frz, ↓w_snil, ↓w_scons, ↓bps_s, add_ii, add_tt, add_ll, sub_ii, lt_ii, le_ii, gt_ii, ge_ii, eq_ii, ne_ii, is_n, isnt_n, is_bb, isnt_bb, isNon_i, isNon_b, isNon_t, isNon_l, isNon_n, tru_b, tru_i, tru_t, tru_l, tru_n, len_t, len_l, len_s, len_d, bi_len, bi_abs, bi_int, bi_intb, bi_tupt, bi_tupl, bi_min, bi_max, bi_sum, it_t, it_l, it_s, li_l, list_t, list_l, list_s, sl_t, sl_l, sl_s, ty_ii, ty_ib, ty_in, ty_bi, ty_bb, ty_bn, bp_nm, bp_tt, bp_tl, bps_0, op_add, op_sub, op_mul, op_fdiv, op_mod, op_pow, cm_eq, cm_ne, cm_lt, cm_le, cm_gt, cm_ge, cm_is, cm_isnt, cm_in, cm_notin, cd_n, cd_b, cd_i, cd_s, wp_0, wp_s, oq_rt, oq_nx, ol_nx, ol_ct, ol_bk, ol_rt, mod_pos, fdiv_pos, mul_l, mul_r, varS_0, varS_s, lookS_0, lookS_s, ownS_0v, ownS_0, ownS_0d, ownS_s, setS_0, setS_s, set_0, set_s, deref_int, deref_bl, deref_non, deref_str, deref_tup, deref_lst, deref_scr, deref_dct, deref_ref0, isCell_ref0, restO_nx, restO_rt, restO_bk, restO_ct, szl, idx_tup0, idx_tup1, idx_tup2, idx_tup3, idx_tup4, idx_tup5, idx_tup6, idx_tup7, idx_tup8, idx_tup9, idx_lst0, idx_lst1, idx_lst2, idx_lst3, idx_lst4, idx_lst5, idx_lst6, idx_lst7, idx_lst8, idx_lst9, Int.reduceLT, Int.reduceLE, Int.reduceNeg, Int.reducePow, and_self, permD, List.getElem?_cons_zero, List.getElem?_cons_succ, Option.bind_some, Option.map_some, startS, List.map_cons, List.map_nil, List.replicate, List.cons_append, List.nil_append, List.append_nil, List.length_cons, List.length_nil, decide_eq_true_eq, Bool.not_eq_true', decide_eq_false_iff_not, Nat.reduceAdd, Nat.zero_add, Nat.reduceLeDiff, Nat.reduceLT, Nat.reduceSub, if_true, if_false, Bool.false_eq_true, ↓reduceIte, Df.fd]
        refine mixed_W fun v _ => ?_
        simp only [mod_pos h0, ↓W_some, ↓W_bind, ↓W_map, ↓w_var, ↓w_own, ↓w_cst, ↓w_tup, ↓w_ofL, ↓w_celL, ↓w_neg, ↓w_bin, ↓w_cmp, ↓w_chn, ↓w_nt, ↓w_an, ↓w_or, ↓w_ite, ↓w_idx, ↓w_slc, ↓w_call, ↓w_callK, ↓w_bi, ↓w_isi, ↓w_gall, ↓w_gany, ↓w_gsum, ↓w_gtup, ↓w_genF, ↓w_nil, ↓w_cons, ↓w_onone, ↓w_osome, ↓w_otnone, ↓w_otsome, ↓w_and1, ↓w_and, ↓w_or1, ↓w_orc, ↓w_tnt, ↓w_tan, ↓w_tor, ↓w_ta1, ↓w_ta, ↓w_to1, ↓w_to, ↓w_tcmp, ↓w_tchn, ↓w_tvar, ↓w_town, ↓w_tcst, ↓w_tidx, ↓w_tbin, ↓w_tslc, ↓w_tcall, ↓w_tcallK, ↓w_tbi, ↓w_tisi, ↓w_tgen, ↓w_disp, ↓w_comp, ↓w_list, ↓w_sorted, ↓w_seq, ↓w_rng1, ↓w_rng2, ↓w_enum, ↓w_zip, ↓w_rev, ↓w_set, ↓w_setL, ↓w_setD, ↓w_pat, ↓w_par2, ↓w_aug, ↓w_augI, ↓w_putI, ↓w_putO, ↓w_augO, ↓w_app, ↓w_expr, ↓w_ret, ↓w_retN, ↓w_iff, ↓w_whil, ↓w_forr, ↓w_brk, ↓w_cont, ↓w_pass, ↓w_frz, ↓w_snil, ↓w_scons, ↓bps_s, add_ii, add_tt, add_ll, sub_ii, lt_ii, le_ii, gt_ii, ge_ii, eq_ii, ne_ii, is_n, isnt_n, is_bb, isnt_bb, isNon_i, isNon_b, isNon_t, isNon_l, isNon_n, tru_b, tru_i, tru_t, tru_l, tru_n, len_t, len_l, len_s, len_d, bi_len, bi_abs, bi_int, bi_intb, bi_tupt, bi_tupl, bi_min, bi_max, bi_sum, it_t, it_l, it_s, li_l, list_t, list_l, list_s, sl_t, sl_l, sl_s, ty_ii, ty_ib, ty_in, ty_bi, ty_bb, ty_bn, bp_nm, bp_tt, bp_tl, bps_0, op_add, op_sub, op_mul, op_fdiv, op_mod, op_pow, cm_eq, cm_ne, cm_lt, cm_le, cm_gt, cm_ge, cm_is, cm_isnt, cm_in, cm_notin, cd_n, cd_b, cd_i, cd_s, wp_0, wp_s, oq_rt, oq_nx, ol_nx, ol_ct, ol_bk, ol_rt, mod_pos, fdiv_pos, mul_l, mul_r, varS_0, varS_s, lookS_0, lookS_s, ownS_0v, ownS_0, ownS_0d, ownS_s, setS_0, setS_s, set_0, set_s, deref_int, deref_bl, deref_non, deref_str, deref_tup, deref_lst, deref_scr, deref_dct, deref_ref0, isCell_ref0, restO_nx, restO_rt, restO_bk, restO_ct, szl, idx_tup0, idx_tup1, idx_tup2, idx_tup3, idx_tup4, idx_tup5, idx_tup6, idx_tup7, idx_tup8, idx_tup9, idx_lst0, idx_lst1, idx_lst2, idx_lst3, idx_lst4, idx_lst5, idx_lst6, idx_lst7, idx_lst8, idx_lst9, Int.reduceLT, Int.reduceLE, Int.reduceNeg, Int.reducePow, and_self, permD, List.getElem?_cons_zero, List.getElem?_cons_succ, Option.bind_some, Option.map_some, startS, List.map_cons, List.map_nil, List.replicate, List.cons_append, List.nil_append, List.append_nil, List.length_cons, List.length_nil, decide_eq_true_eq, Bool.not_eq_true', decide_eq_false_iff_not, Nat.reduceAdd, Nat.zero_add, Nat.reduceLeDiff, Nat.reduceLT, Nat.reduceSub, if_true, if_false, Bool.false_eq_true, ↓reduceIte, Df.fd]
        exact q _ _ ⟨_, _, _, _, _, _, rfl, by omega⟩ (hz _).1 (hz _).2
      · have hne : ¬ (if x < 0 then -x else x) = 0 := by omega
        simp only [f_law_take, b6, stL, cput_0, cput_1, cput_2, cput_5, pow_18, hlen, hl, hi, hsm, hne, decide_true, decide_false, mod_pos h0, fdiv_pos ⟨h0, h1⟩, mul_r big01, ↓W_some, ↓W_bind, ↓W_map, ↓w_var, ↓w_own, ↓w_cst, ↓w_tup, ↓w_ofL, ↓w_celL, ↓w_neg, ↓w_bin, ↓w_cmp, ↓w_chn, ↓w_nt, ↓w_an, ↓w_or, ↓w_ite, ↓w_idx, ↓w_slc, ↓w_call, ↓w_callK, ↓w_bi, ↓w_isi, ↓w_gall, ↓w_gany, ↓w_gsum, ↓w_gtup, ↓w_genF, ↓w_nil, ↓w_cons, ↓w_onone, ↓w_osome, ↓w_otnone, ↓w_otsome, ↓w_and1, ↓w_and, ↓w_or1, ↓w_orc, ↓w_tnt, ↓w_tan, ↓w_tor, ↓w_ta1, ↓w_ta, ↓w_to1, ↓w_to, ↓w_tcmp, ↓w_tchn, ↓w_tvar, ↓w_town, ↓w_tcst, ↓w_tidx, ↓w_tbin, ↓w_tslc, ↓w_tcall, ↓w_tcallK, ↓w_tbi, ↓w_tisi, ↓w_tgen, ↓w_disp, ↓w_comp, ↓w_list, ↓w_sorted, ↓w_seq, ↓w_rng1, ↓w_rng2, ↓w_enum, ↓w_zip, ↓w_rev, ↓w_set, ↓w_setL, ↓w_setD, ↓w_pat, ↓w_par2, ↓w_aug, ↓w_augI, ↓w_putI, ↓w_putO, ↓w_augO, ↓w_app, ↓w_expr, ↓w_ret, ↓w_retN, ↓w_iff, ↓w_whil, ↓w_forr, ↓w_brk, ↓w_cont, ↓w_pass, ↓w_frz, ↓w_snil, ↓w_scons, ↓bps_s, add_ii, add_tt, add_ll, sub_ii, lt_ii, le_ii, gt_ii, ge_ii, eq_ii, ne_ii, is_n, isnt_n, is_bb, isnt_bb, isNon_i, isNon_b, isNon_t, isNon_l, isNon_n, tru_b, tru_i, tru_t, tru_l, tru_n, len_t, len_l, len_s, len_d, bi_len, bi_abs, bi_int, bi_intb, bi_tupt, bi_tupl, bi_min, bi_max, bi_sum, it_t, it_l, it_s, li_l, list_t, list_l, list_s, sl_t, sl_l, sl_s, ty_ii, ty_ib, ty_in, ty_bi, ty_bb, ty_bn, bp_nm, bp_tt, bp_tl, bps_0, op_add, op_sub, op_mul, op_fdiv, op_mod, op_pow, cm_eq, cm_ne, cm_lt, cm_le, cm_gt, cm_ge, cm_is, cm_isnt, cm_in, cm_notin, cd_n, cd_b, cd_i, cd_s, wp_0, wp_s, oq_rt, oq_nx, ol_nx, ol_ct, ol_bk, ol_rt, mod_pos, fdiv_pos, mul_l, mul_r, varS_0, varS_s, lookS_0, lookS_s, ownS_0v, ownS_0, ownS_0d, ownS_s, setS_0, setS_s, set_0, set_s, deref_int, deref_bl, deref_non, deref_str, deref_tup, deref_lst, deref_scr, deref_dct, deref_ref0, isCell_ref0, restO_nx, restO_rt, restO_bk, restO_ct, szl, idx_tup0, idx_tup1, idx_tup2, idx_tup3, idx_tup4, idx_tup5, idx_tup6, idx_tup7, idx_tup8, idx_tup9, idx_lst0, idx_lst1, idx_lst2, idx_lst3, idx_lst4, idx_lst5, idx_lst6, idx_lst7, idx_lst8, idx_lst9, Int.reduceLT, Int.reduceLE, Int.reduceNeg, Int.reducePow, and_self, permD, List.getElem?_cons_zero, List.getElem?_cons_succ, Option.bind_some, Option.map_some, startS, List.map_cons, List.map_nil, List.replicate, List.cons_append, List.nil_append, List.append_nil, List.length_cons, List.length_nil, decide_eq_true_eq, Bool.not_eq_true', decide_eq_false_iff_not, Nat.reduceAdd, Nat.zero_add, Nat.reduceLeDiff, Nat.reduceLT, Nat.reduceSub, if_true, if_false, Bool.false_eq_true, ↓reduceIte, Df.fd]
        exact q _ _ ⟨_, _, _, _, _, _, rfl, by omega⟩ (hz _).1 (hz _).2
    · simp only [f_law_take, b6, stL, cput_0, cput_1, cput_2, cput_5, pow_18, hlen, hl, decide_true, decide_false, ↓W_some, ↓W_bind, ↓W_map, ↓w_var, ↓w_own, ↓w_cst, ↓w_tup, ↓w_ofL, ↓w_celL, ↓w_neg, ↓w_bin, ↓w_cmp, ↓w_chn, ↓w_nt, ↓w_an, ↓w_or, ↓w_ite, ↓w_idx, ↓w_slc, ↓w_call, ↓w_callK, ↓w_bi, ↓w_isi, ↓w_gall, ↓w_gany, ↓w_gsum, ↓w_gtup, ↓w_genF, ↓w_nil, ↓w_cons, ↓w_onone, ↓w_osome, ↓w_otnone, ↓w_otsome, ↓w_and1, ↓w_and, ↓w_or1, ↓w_orc, ↓w_tnt, ↓w_tan, ↓w_tor, ↓w_ta1, ↓w_ta, ↓w_to1, ↓w_to, ↓w_tcmp, ↓w_tchn, ↓w_tvar, ↓w_town, ↓w_tcst, ↓w_tidx, ↓w_tbin, ↓w_tslc, ↓w_tcall, ↓w_tcallK, ↓w_tbi, ↓w_tisi, ↓w_tgen, ↓w_disp, ↓w_comp, ↓w_list, ↓w_sorted, ↓w_seq, ↓w_rng1, ↓w_rng2, ↓w_enum, ↓w_zip, ↓w_rev, ↓w_set, ↓w_setL, ↓w_setD, ↓w_pat, ↓w_par2, ↓w_aug, ↓w_augI, ↓w_putI, ↓w_putO, ↓w_augO, ↓w_app, ↓w_expr, ↓w_ret, ↓w_retN, ↓w_iff, ↓w_whil, ↓w_forr, ↓w_brk, ↓w_cont, ↓w_pass, ↓w_frz, ↓w_snil, ↓w_scons, ↓bps_s, add_ii, add_tt, add_ll, sub_ii, lt_ii, le_ii, gt_ii, ge_ii, eq_ii, ne_ii, is_n, isnt_n, is_bb, isnt_bb, isNon_i, isNon_b, isNon_t, isNon_l, isNon_n, tru_b, tru_i, tru_t, tru_l, tru_n, len_t, len_l, len_s, len_d, bi_len, bi_abs, bi_int, bi_intb, bi_tupt, bi_tupl, bi_min, bi_max, bi_sum, it_t, it_l, it_s, li_l, list_t, list_l, list_s, sl_t, sl_l, sl_s, ty_ii, ty_ib, ty_in, ty_bi, ty_bb, ty_bn, bp_nm, bp_tt, bp_tl, bps_0, op_add, op_sub, op_mul, op_fdiv, op_mod, op_pow, cm_eq, cm_ne, cm_lt, cm_le, cm_gt, cm_ge, cm_is, cm_isnt, cm_in, cm_notin, cd_n, cd_b, cd_i, cd_s, wp_0, wp_s, oq_rt, oq_nx, ol_nx, ol_ct, ol_bk, ol_rt, mod_pos, fdiv_pos, mul_l, mul_r, varS_0, varS_s, lookS_0, lookS_s, ownS_0v, ownS_0, ownS_0d, ownS_s, setS_0, setS_s, set_0, set_s, deref_int, deref_bl, deref_non, deref_str, deref_tup, deref_lst, deref_scr, deref_dct, deref_ref0, isCell_ref0, restO_nx, restO_rt, restO_bk, restO_ct, szl, idx_tup0, idx_tup1, idx_tup2, idx_tup3, idx_tup4, idx_tup5, idx_tup6, idx_tup7, idx_tup8, idx_tup9, idx_lst0, idx_lst1, idx_lst2, idx_lst3, idx_lst4, idx_lst5, idx_lst6, idx_lst7, idx_lst8, idx_lst9, Int.reduceLT, Int.reduceLE, Int.reduceNeg, Int.reducePow, and_self, permD, List.getElem?_cons_zero, List.getElem?_cons_succ, Option.bind_some, Option.map_some, startS, List.map_cons, List.map_nil, List.replicate, List.cons_append, List.nil_append, List.append_nil, List.length_cons, List.length_nil, decide_eq_true_eq, Bool.not_eq_true', decide_eq_false_iff_not, Nat.reduceAdd, Nat.zero_add, Nat.reduceLeDiff, Nat.reduceLT, Nat.reduceSub, if_true, if_false, Bool.false_eq_true, ↓reduceIte, Df.fd]
      refine mixed_W fun v _ => ?_
      simp only [mod_pos h0, ↓W_some, ↓W_bind, ↓W_map, ↓w_var, ↓w_own, ↓w_cst, ↓w_tup, ↓w_ofL, ↓w_celL, ↓w_neg, ↓w_bin, ↓w_cmp, ↓w_chn, ↓w_nt, ↓w_an, ↓w_or, ↓w_ite, ↓w_idx, ↓w_slc, ↓w_call, ↓w_callK, ↓w_bi, ↓w_isi, ↓w_gall, ↓w_gany, ↓w_gsum, ↓w_gtup, ↓w_genF, ↓w_nil, ↓w_cons, ↓w_onone, ↓w_osome, ↓w_otnone, ↓w_otsome, ↓w_and1, ↓w_and, ↓w_or1, ↓w_orc, ↓w_tnt, ↓w_tan, ↓w_tor, ↓w_ta1, ↓w_ta, ↓w_to1, ↓w_to, ↓w_tcmp, ↓w_tchn, ↓w_tvar, ↓w_town, ↓w_tcst, ↓w_tidx, ↓w_tbin, ↓w_tslc, ↓w_tcall, ↓w_tcallK, ↓w_tbi, ↓w_tisi, ↓w_tgen, ↓w_disp, ↓w_comp, ↓w_list, ↓w_sorted, ↓w_seq, ↓w_rng1, ↓w_rng2, ↓w_enum, ↓w_zip, ↓w_rev, ↓w_set, ↓w_setL, ↓w_setD, ↓w_pat, ↓w_par2, ↓w_aug, ↓w_augI, ↓w_putI, ↓w_putO, ↓w_augO, ↓w_app, ↓w_expr, ↓w_ret, ↓w_retN, ↓w_iff, ↓w_whil, ↓w_forr, ↓w_brk, ↓w_cont, ↓w_pass, ↓w_frz, ↓w_snil, ↓w_scons, ↓bps_s, add_ii, add_tt, add_ll, sub_ii, lt_ii, le_ii, gt_ii, ge_ii, eq_ii, ne_ii, is_n, isnt_n, is_bb, isnt_bb, isNon_i, isNon_b, isNon_t, isNon_l, isNon_n, tru_b, tru_i, tru_t, tru_l, tru_n, len_t, len_l, len_s, len_d, bi_len, bi_abs, bi_int, bi_intb, bi_tupt, bi_tupl, bi_min, bi_max, bi_sum, it_t, it_l, it_s, li_l, list_t, list_l, list_s, sl_t, sl_l, sl_s, ty_ii, ty_ib, ty_in, ty_bi, ty_bb, ty_bn, bp_nm, bp_tt, bp_tl, bps_0, op_add, op_sub, op_mul, op_fdiv, op_mod, op_pow, cm_eq, cm_ne, cm_lt, cm_le, cm_gt, cm_ge, cm_is, cm_isnt, cm_in, cm_notin, cd_n, cd_b, cd_i, cd_s, wp_0, wp_s, oq_rt, oq_nx, ol_nx, ol_ct, ol_bk, ol_rt, mod_pos, fdiv_pos, mul_l, mul_r, varS_0, varS_s, lookS_0, lookS_s, ownS_0v, ownS_0, ownS_0d, ownS_s, setS_0, setS_s, set_0, set_s, deref_int, deref_bl, deref_non, deref_str, deref_tup, deref_lst, deref_scr, deref_dct, deref_ref0, isCell_ref0, restO_nx, restO_rt, restO_bk, restO_ct, szl, idx_tup0, idx_tup1, idx_tup2, idx_tup3, idx_tup4, idx_tup5, idx_tup6, idx_tup7, idx_tup8, idx_tup9, idx_lst0, idx_lst1, idx_lst2, idx_lst3, idx_lst4, idx_lst5, idx_lst6, idx_lst7, idx_lst8, idx_lst9, Int.reduceLT, Int.reduceLE, Int.reduceNeg, Int.reducePow, and_self, permD, List.getElem?_cons_zero, List.getElem?_cons_succ, Option.bind_some, Option.map_some, startS, List.map_cons, List.map_nil, List.replicate, List.cons_append, List.nil_append, List.append_nil, List.length_cons, List.length_nil, decide_eq_true_eq, Bool.not_eq_true', decide_eq_false_iff_not, Nat.reduceAdd, Nat.zero_add, Nat.reduceLeDiff, Nat.reduceLT, Nat.reduceSub, if_true, if_false, Bool.false_eq_true, ↓reduceIte, Df.fd]
      exact q _ _ ⟨_, _, _, _, _, _, rfl, by omega⟩ (hz _).1 (hz _).2
  · simp only [f_law_take, b6, stL, cput_0, cput_1, cput_2, cput_5, pow_18, hlen, ha, decide_true, decide_false, mod_pos h0, fdiv_pos ⟨h0, h1⟩, mul_r big01, ↓W_some, ↓W_bind, ↓W_map, ↓w_var, ↓w_own, ↓w_cst, ↓w_tup, ↓w_ofL, ↓w_celL, ↓w_neg, ↓w_bin, ↓w_cmp, ↓w_chn, ↓w_nt, ↓w_an, ↓w_or, ↓w_ite, ↓w_idx, ↓w_slc, ↓w_call, ↓w_callK, ↓w_bi, ↓w_isi, ↓w_gall, ↓w_gany, ↓w_gsum, ↓w_gtup, ↓w_genF, ↓w_nil, ↓w_cons, ↓w_onone, ↓w_osome, ↓w_otnone, ↓w_otsome, ↓w_and1, ↓w_and, ↓w_or1, ↓w_orc, ↓w_tnt, ↓w_tan, ↓w_tor, ↓w_ta1, ↓w_ta, ↓w_to1, ↓w_to, ↓w_tcmp, ↓w_tchn, ↓w_tvar, ↓w_town, ↓w_tcst, ↓w_tidx, ↓w_tbin, ↓w_tslc, ↓w_tcall, ↓w_tcallK, ↓w_tbi, ↓w_tisi, ↓w_tgen, ↓w_disp, ↓w_comp, ↓w_list, ↓w_sorted, ↓w_seq, ↓w_rng1, ↓w_rng2, ↓w_enum, ↓w_zip, ↓w_rev, ↓w_set, ↓w_setL, ↓w_setD, ↓w_pat, ↓w_par2, ↓w_aug, ↓w_augI, ↓w_putI, ↓w_putO, ↓w_augO, ↓w_app, ↓w_expr, ↓w_ret, ↓w_retN, ↓w_iff, ↓w_whil, ↓w_forr, ↓w_brk, ↓w_cont, ↓w_pass, ↓w_frz, ↓w_snil, ↓w_scons, ↓bps_s, add_ii, add_tt, add_ll, sub_ii, lt_ii, le_ii, gt_ii, ge_ii, eq_ii, ne_ii, is_n, isnt_n, is_bb, isnt_bb, isNon_i, isNon_b, isNon_t, isNon_l, isNon_n, tru_b, tru_i, tru_t, tru_l, tru_n, len_t, len_l, len_s, len_d, bi_len, bi_abs, bi_int, bi_intb, bi_tupt, bi_tupl, bi_min, bi_max, bi_sum, it_t, it_l, it_s, li_l, list_t, list_l, list_s, sl_t, sl_l, sl_s, ty_ii, ty_ib, ty_in, ty_bi, ty_bb, ty_bn, bp_nm, bp_tt, bp_tl, bps_0, op_add, op_sub, op_mul, op_fdiv, op_mod, op_pow, cm_eq, cm_ne, cm_lt, cm_le, cm_gt, cm_ge, cm_is, cm_isnt, cm_in, cm_notin, cd_n, cd_b, cd_i, cd_s, wp_0, wp_s, oq_rt, oq_nx, ol_nx, ol_ct, ol_bk, ol_rt, mod_pos, fdiv_pos, mul_l, mul_r, varS_0, varS_s, lookS_0, lookS_s, ownS_0v, ownS_0, ownS_0d, ownS_s, setS_0, setS_s, set_0, set_s, deref_int, deref_bl, deref_non, deref_str, deref_tup, deref_lst, deref_scr, deref_dct, deref_ref0, isCell_ref0, restO_nx, restO_rt, restO_bk, restO_ct, szl, idx_tup0, idx_tup1, idx_tup2, idx_tup3, idx_tup4, idx_tup5, idx_tup6, idx_tup7, idx_tup8, idx_tup9, idx_lst0, idx_lst1, idx_lst2, idx_lst3, idx_lst4, idx_lst5, idx_lst6, idx_lst7, idx_lst8, idx_lst9, Int.reduceLT, Int.reduceLE, Int.reduceNeg, Int.reducePow, and_self, permD, List.getElem?_cons_zero, List.getElem?_cons_succ, Option.bind_some, Option.map_some, startS, List.map_cons, List.map_nil, List.replicate, List.cons_append, List.nil_append, List.append_nil, List.length_cons, List.length_nil, decide_eq_true_eq, Bool.not_eq_true', decide_eq_false_iff_not, Nat.reduceAdd, Nat.zero_add, Nat.reduceLeDiff, Nat.reduceLT, Nat.reduceSub, if_true, if_false, Bool.false_eq_true, ↓reduceIte, Df.fd]
    exact q _ _ ⟨_, _, _, _, _, _, rfl, by omega⟩ (hz _).1 (hz _).2
end PI.K01

set_option Elab.async false
set_option linter.all false
set_option maxRecDepth 100000
set_option maxHeartbeats 4000000
set_option autoImplicit false
namespace PI.K01
open PySem PySem.Spec PyProof.Rows L2 PI
theorem cut_take {xs : List D} {k : Int} (h : 0 ≤ k) : cutD xs none (some k) = xs.take k.toNat := by
  unfold cutD HT.sIx
  simp only [if_neg (show ¬ k < 0 by omega), List.drop_zero, Nat.sub_zero]
  exact List.take_eq_take_iff.mpr (by omega)
theorem cut_drop {xs : List D} {k : Int} (h : 0 ≤ k) : cutD xs (some k) none = xs.drop k.toNat := by
  unfold cutD HT.sIx
  simp only [if_neg (show ¬ k < 0 by omega)]
  rw [List.take_of_length_le (by simp)]
  by_cases z : k.toNat ≤ xs.length
  · rw [Nat.min_eq_left z]
  · rw [Nat.min_eq_right (by omega), List.drop_eq_nil_of_le (Nat.le_refl _), List.drop_eq_nil_of_le (by omega)]
theorem rng_map (j : Int) : rngL 0 j = (List.range j.toNat).map fun i => D.int (i : Nat) := by
  unfold rngL
  simp
theorem small_of {i : Int} (h0 : 0 ≤ i) (h1 : i < 1073741824) : smallI i = true := by
  unfold smallI
  simp only [Bool.and_eq_true, decide_eq_true_eq]
  omega
section
variable {n : Nat} {h : PH} {Q : D × PH → Prop}
theorem pick_W {xs : List D} (hs : St h) (hx : 0 < xs.length) (hl : xs.length < 1073741824) (q : ∀ x ∈ xs, ∀ h', St h' → Q (x, h')) : W (call T (n + 3) 7 [.ref 0, .lst xs] h) Q := by
  refine W_call (f := f_law_pick.fd) rfl rfl ?_
  simp only [f_law_pick, b7, ↓W_some, ↓W_bind, ↓W_map, ↓w_var, ↓w_own, ↓w_cst, ↓w_tup, ↓w_ofL, ↓w_celL, ↓w_neg, ↓w_bin, ↓w_cmp, ↓w_chn, ↓w_nt, ↓w_an, ↓w_or, ↓w_ite, ↓w_idx, ↓w_slc, ↓w_call, ↓w_callK, ↓w_bi, ↓w_isi, ↓w_gall, ↓w_gany, ↓w_gsum, ↓w_gtup, ↓w_genF, ↓w_nil, ↓w_cons, ↓w_onone, ↓w_osome, ↓w_otnone, ↓w_otsome, ↓w_and1, ↓w_and, ↓w_or1, ↓w_orc, ↓w_tnt, ↓w_tan, ↓w_tor, ↓w_ta1, ↓w_ta, ↓w_to1, ↓w_to, ↓w_tcmp, ↓w_tchn, ↓w_tvar, ↓w_town, ↓w_tcst, ↓w_tidx, ↓w_tbin, ↓w_tslc, ↓w_tcall, ↓w_tcallK, ↓w_tbi, ↓w_tisi, ↓w_tgen, ↓w_disp, ↓w_comp, ↓w_list, ↓w_sorted, ↓w_seq, ↓w_rng1, ↓w_rng2, ↓w_enum, ↓w_zip, ↓w_rev, ↓w_set, ↓w_setL, ↓w_setD, ↓w_pat, ↓w_par2, ↓w_aug, ↓w_augI, ↓w_putI, ↓w_putO, ↓w_augO, ↓w_app, ↓w_expr, ↓w_ret, ↓w_retN, ↓w_iff, ↓w_whil, ↓w_forr, ↓w_brk, ↓w_cont, ↓w_pass, ↓w_frz, ↓w_snil, ↓w_scons, ↓bps_s, add_ii, add_tt, add_ll, sub_ii, lt_ii, le_ii, gt_ii, ge_ii, eq_ii, ne_ii, is_n, isnt_n, is_bb, isnt_bb, isNon_i, isNon_b, isNon_t, isNon_l, isNon_n, tru_b, tru_i, tru_t, tru_l, tru_n, len_t, len_l, len_s, len_d, bi_len, bi_abs, bi_int, bi_intb, bi_tupt, bi_tupl, bi_min, bi_max, bi_sum, it_t, it_l, it_s, li_l, list_t, list_l, list_s, sl_t, sl_l, sl_s, ty_ii, ty_ib, ty_in, ty_bi, ty_bb, ty_bn, bp_nm, bp_tt, bp_tl, bps_0, op_add, op_sub, op_mul, op_fdiv, op_mod, op_pow, cm_eq, cm_ne, cm_lt, cm_le, cm_gt, cm_ge, cm_is, cm_isnt, cm_in, cm_notin, cd_n, cd_b, cd_i, cd_s, wp_0, wp_s, oq_rt, oq_nx, ol_nx, ol_ct, ol_bk, ol_rt, mod_pos, fdiv_pos, mul_l, mul_r, varS_0, varS_s, lookS_0, lookS_s, ownS_0v, ownS_0, ownS_0d, ownS_s, setS_0, setS_s, set_0, set_s, deref_int, deref_bl, deref_non, deref_str, deref_tup, deref_lst, deref_scr, deref_dct, deref_ref0, isCell_ref0, restO_nx, restO_rt, restO_bk, restO_ct, szl, idx_tup0, idx_tup1, idx_tup2, idx_tup3, idx_tup4, idx_tup5, idx_tup6, idx_tup7, idx_tup8, idx_tup9, idx_lst0, idx_lst1, idx_lst2, idx_lst3, idx_lst4, idx_lst5, idx_lst6, idx_lst7, idx_lst8, idx_lst9, Int.reduceLT, Int.reduceLE, Int.reduceNeg, Int.reducePow, and_self, permD, List.getElem?_cons_zero, List.getElem?_cons_succ, Option.bind_some, Option.map_some, startS, List.map_cons, List.map_nil, List.replicate, List.cons_append, List.nil_append, List.append_nil, List.length_cons, List.length_nil, decide_eq_true_eq, Bool.not_eq_true', decide_eq_false_iff_not, Nat.reduceAdd, Nat.zero_add, Nat.reduceLeDiff, Nat.reduceLT, Nat.reduceSub, if_true, if_false, Bool.false_eq_true, ↓reduceIte, Df.fd]
  refine take_W hs (by omega) (by omega) fun v h' hs' h0 h1 => ?_
  have e : idxD (.lst xs) (.int v) = some (xs[v.toNat]'(by omega)) := atI_at (j := v.toNat) (by omega) (List.getElem?_eq_getElem _)
  simp only [e, ↓W_some, ↓W_bind, ↓W_map, ↓w_var, ↓w_own, ↓w_cst, ↓w_tup, ↓w_ofL, ↓w_celL, ↓w_neg, ↓w_bin, ↓w_cmp, ↓w_chn, ↓w_nt, ↓w_an, ↓w_or, ↓w_ite, ↓w_idx, ↓w_slc, ↓w_call, ↓w_callK, ↓w_bi, ↓w_isi, ↓w_gall, ↓w_gany, ↓w_gsum, ↓w_gtup, ↓w_genF, ↓w_nil, ↓w_cons, ↓w_onone, ↓w_osome, ↓w_otnone, ↓w_otsome, ↓w_and1, ↓w_and, ↓w_or1, ↓w_orc, ↓w_tnt, ↓w_tan, ↓w_tor, ↓w_ta1, ↓w_ta, ↓w_to1, ↓w_to, ↓w_tcmp, ↓w_tchn, ↓w_tvar, ↓w_town, ↓w_tcst, ↓w_tidx, ↓w_tbin, ↓w_tslc, ↓w_tcall, ↓w_tcallK, ↓w_tbi, ↓w_tisi, ↓w_tgen, ↓w_disp, ↓w_comp, ↓w_list, ↓w_sorted, ↓w_seq, ↓w_rng1, ↓w_rng2, ↓w_enum, ↓w_zip, ↓w_rev, ↓w_set, ↓w_setL, ↓w_setD, ↓w_pat, ↓w_par2, ↓w_aug, ↓w_augI, ↓w_putI, ↓w_putO, ↓w_augO, ↓w_app, ↓w_expr, ↓w_ret, ↓w_retN, ↓w_iff, ↓w_whil, ↓w_forr, ↓w_brk, ↓w_cont, ↓w_pass, ↓w_frz, ↓w_snil, ↓w_scons, ↓bps_s, add_ii, add_tt, add_ll, sub_ii, lt_ii, le_ii, gt_ii, ge_ii, eq_ii, ne_ii, is_n, isnt_n, is_bb, isnt_bb, isNon_i, isNon_b, isNon_t, isNon_l, isNon_n, tru_b, tru_i, tru_t, tru_l, tru_n, len_t, len_l, len_s, len_d, bi_len, bi_abs, bi_int, bi_intb, bi_tupt, bi_tupl, bi_min, bi_max, bi_sum, it_t, it_l, it_s, li_l, list_t, list_l, list_s, sl_t, sl_l, sl_s, ty_ii, ty_ib, ty_in, ty_bi, ty_bb, ty_bn, bp_nm, bp_tt, bp_tl, bps_0, op_add, op_sub, op_mul, op_fdiv, op_mod, op_pow, cm_eq, cm_ne, cm_lt, cm_le, cm_gt, cm_ge, cm_is, cm_isnt, cm_in, cm_notin, cd_n, cd_b, cd_i, cd_s, wp_0, wp_s, oq_rt, oq_nx, ol_nx, ol_ct, ol_bk, ol_rt, mod_pos, fdiv_pos, mul_l, mul_r, varS_0, varS_s, lookS_0, lookS_s, ownS_0v, ownS_0, ownS_0d, ownS_s, setS_0, setS_s, set_0, set_s, deref_int, deref_bl, deref_non, deref_str, deref_tup, deref_lst, deref_scr, deref_dct, deref_ref0, isCell_ref0, restO_nx, restO_rt, restO_bk, restO_ct, szl, idx_tup0, idx_tup1, idx_tup2, idx_tup3, idx_tup4, idx_tup5, idx_tup6, idx_tup7, idx_tup8, idx_tup9, idx_lst0, idx_lst1, idx_lst2, idx_lst3, idx_lst4, idx_lst5, idx_lst6, idx_lst7, idx_lst8, idx_lst9, Int.reduceLT, Int.reduceLE, Int.reduceNeg, Int.reducePow, and_self, permD, List.getElem?_cons_zero, List.getElem?_cons_succ, Option.bind_some, Option.map_some, startS, List.map_cons, List.map_nil, List.replicate, List.cons_append, List.nil_append, List.append_nil, List.length_cons, List.length_nil, decide_eq_true_eq, Bool.not_eq_true', decide_eq_false_iff_not, Nat.reduceAdd, Nat.zero_add, Nat.reduceLeDiff, Nat.reduceLT, Nat.reduceSub, if_true, if_false, Bool.false_eq_true, ↓reduceIte, Df.fd]
  exact q _ (List.getElem_mem _) _ hs'
theorem pickT_W {xs : List D} (hs : St h) (hx : 0 < xs.length) (hl : xs.length < 1073741824) (q : ∀ x ∈ xs, ∀ h', St h' → Q (x, h')) : W (call T (n + 3) 7 [.ref 0, .tup xs] h) Q := by
  refine W_call (f := f_law_pick.fd) rfl rfl ?_
  simp only [f_law_pick, b7, ↓W_some, ↓W_bind, ↓W_map, ↓w_var, ↓w_own, ↓w_cst, ↓w_tup, ↓w_ofL, ↓w_celL, ↓w_neg, ↓w_bin, ↓w_cmp, ↓w_chn, ↓w_nt, ↓w_an, ↓w_or, ↓w_ite, ↓w_idx, ↓w_slc, ↓w_call, ↓w_callK, ↓w_bi, ↓w_isi, ↓w_gall, ↓w_gany, ↓w_gsum, ↓w_gtup, ↓w_genF, ↓w_nil, ↓w_cons, ↓w_onone, ↓w_osome, ↓w_otnone, ↓w_otsome, ↓w_and1, ↓w_and, ↓w_or1, ↓w_orc, ↓w_tnt, ↓w_tan, ↓w_tor, ↓w_ta1, ↓w_ta, ↓w_to1, ↓w_to, ↓w_tcmp, ↓w_tchn, ↓w_tvar, ↓w_town, ↓w_tcst, ↓w_tidx, ↓w_tbin, ↓w_tslc, ↓w_tcall, ↓w_tcallK, ↓w_tbi, ↓w_tisi, ↓w_tgen, ↓w_disp, ↓w_comp, ↓w_list, ↓w_sorted, ↓w_seq, ↓w_rng1, ↓w_rng2, ↓w_enum, ↓w_zip, ↓w_rev, ↓w_set, ↓w_setL, ↓w_setD, ↓w_pat, ↓w_par2, ↓w_aug, ↓w_augI, ↓w_putI, ↓w_putO, ↓w_augO, ↓w_app, ↓w_expr, ↓w_ret, ↓w_retN, ↓w_iff, ↓w_whil, ↓w_forr, ↓w_brk, ↓w_cont, ↓w_pass, ↓w_frz, ↓w_snil, ↓w_scons, ↓bps_s, add_ii, add_tt, add_ll, sub_ii, lt_ii, le_ii, gt_ii, ge_ii, eq_ii, ne_ii, is_n, isnt_n, is_bb, isnt_bb, isNon_i, isNon_b, isNon_t, isNon_l, isNon_n, tru_b, tru_i, tru_t, tru_l, tru_n, len_t, len_l, len_s, len_d, bi_len, bi_abs, bi_int, bi_intb, bi_tupt, bi_tupl, bi_min, bi_max, bi_sum, it_t, it_l, it_s, li_l, list_t, list_l, list_s, sl_t, sl_l, sl_s, ty_ii, ty_ib, ty_in, ty_bi, ty_bb, ty_bn, bp_nm, bp_tt, bp_tl, bps_0, op_add, op_sub, op_mul, op_fdiv, op_mod, op_pow, cm_eq, cm_ne, cm_lt, cm_le, cm_gt, cm_ge, cm_is, cm_isnt, cm_in, cm_notin, cd_n, cd_b, cd_i, cd_s, wp_0, wp_s, oq_rt, oq_nx, ol_nx, ol_ct, ol_bk, ol_rt, mod_pos, fdiv_pos, mul_l, mul_r, varS_0, varS_s, lookS_0, lookS_s, ownS_0v, ownS_0, ownS_0d, ownS_s, setS_0, setS_s, set_0, set_s, deref_int, deref_bl, deref_non, deref_str, deref_tup, deref_lst, deref_scr, deref_dct, deref_ref0, isCell_ref0, restO_nx, restO_rt, restO_bk, restO_ct, szl, idx_tup0, idx_tup1, idx_tup2, idx_tup3, idx_tup4, idx_tup5, idx_tup6, idx_tup7, idx_tup8, idx_tup9, idx_lst0, idx_lst1, idx_lst2, idx_lst3, idx_lst4, idx_lst5, idx_lst6, idx_lst7, idx_lst8, idx_lst9, Int.reduceLT, Int.reduceLE, Int.reduceNeg, Int.reducePow, and_self, permD, List.getElem?_cons_zero, List.getElem?_cons_succ, Option.bind_some, Option.map_some, startS, List.map_cons, List.map_nil, List.replicate, List.cons_append, List.nil_append, List.append_nil, List.length_cons, List.length_nil, decide_eq_true_eq, Bool.not_eq_true', decide_eq_false_iff_not, Nat.reduceAdd, Nat.zero_add, Nat.reduceLeDiff, Nat.reduceLT, Nat.reduceSub, if_true, if_false, Bool.false_eq_true, ↓reduceIte, Df.fd]
  refine take_W hs (by omega) (by omega) fun v h' hs' h0 h1 => ?_
  have e : idxD (.tup xs) (.int v) = some (xs[v.toNat]'(by omega)) := atI_at (j := v.toNat) (by omega) (List.getElem?_eq_getElem _)
  simp only [e, ↓W_some, ↓W_bind, ↓W_map, ↓w_var, ↓w_own, ↓w_cst, ↓w_tup, ↓w_ofL, ↓w_celL, ↓w_neg, ↓w_bin, ↓w_cmp, ↓w_chn, ↓w_nt, ↓w_an, ↓w_or, ↓w_ite, ↓w_idx, ↓w_slc, ↓w_call, ↓w_callK, ↓w_bi, ↓w_isi, ↓w_gall, ↓w_gany, ↓w_gsum, ↓w_gtup, ↓w_genF, ↓w_nil, ↓w_cons, ↓w_onone, ↓w_osome, ↓w_otnone, ↓w_otsome, ↓w_and1, ↓w_and, ↓w_or1, ↓w_orc, ↓w_tnt, ↓w_tan, ↓w_tor, ↓w_ta1, ↓w_ta, ↓w_to1, ↓w_to, ↓w_tcmp, ↓w_tchn, ↓w_tvar, ↓w_town, ↓w_tcst, ↓w_tidx, ↓w_tbin, ↓w_tslc, ↓w_tcall, ↓w_tcallK, ↓w_tbi, ↓w_tisi, ↓w_tgen, ↓w_disp, ↓w_comp, ↓w_list, ↓w_sorted, ↓w_seq, ↓w_rng1, ↓w_rng2, ↓w_enum, ↓w_zip, ↓w_rev, ↓w_set, ↓w_setL, ↓w_setD, ↓w_pat, ↓w_par2, ↓w_aug, ↓w_augI, ↓w_putI, ↓w_putO, ↓w_augO, ↓w_app, ↓w_expr, ↓w_ret, ↓w_retN, ↓w_iff, ↓w_whil, ↓w_forr, ↓w_brk, ↓w_cont, ↓w_pass, ↓w_frz, ↓w_snil, ↓w_scons, ↓bps_s, add_ii, add_tt, add_ll, sub_ii, lt_ii, le_ii, gt_ii, ge_ii, eq_ii, ne_ii, is_n, isnt_n, is_bb, isnt_bb, isNon_i, isNon_b, isNon_t, isNon_l, isNon_n, tru_b, tru_i, tru_t, tru_l, tru_n, len_t, len_l, len_s, len_d, bi_len, bi_abs, bi_int, bi_intb, bi_tupt, bi_tupl, bi_min, bi_max, bi_sum, it_t, it_l, it_s, li_l, list_t, list_l, list_s, sl_t, sl_l, sl_s, ty_ii, ty_ib, ty_in, ty_bi, ty_bb, ty_bn, bp_nm, bp_tt, bp_tl, bps_0, op_add, op_sub, op_mul, op_fdiv, op_mod, op_pow, cm_eq, cm_ne, cm_lt, cm_le, cm_gt, cm_ge, cm_is, cm_isnt, cm_in, cm_notin, cd_n, cd_b, cd_i, cd_s, wp_0, wp_s, oq_rt, oq_nx, ol_nx, ol_ct, ol_bk, ol_rt, mod_pos, fdiv_pos, mul_l, mul_r, varS_0, varS_s, lookS_0, lookS_s, ownS_0v, ownS_0, ownS_0d, ownS_s, setS_0, setS_s, set_0, set_s, deref_int, deref_bl, deref_non, deref_str, deref_tup, deref_lst, deref_scr, deref_dct, deref_ref0, isCell_ref0, restO_nx, restO_rt, restO_bk, restO_ct, szl, idx_tup0, idx_tup1, idx_tup2, idx_tup3, idx_tup4, idx_tup5, idx_tup6, idx_tup7, idx_tup8, idx_tup9, idx_lst0, idx_lst1, idx_lst2, idx_lst3, idx_lst4, idx_lst5, idx_lst6, idx_lst7, idx_lst8, idx_lst9, Int.reduceLT, Int.reduceLE, Int.reduceNeg, Int.reducePow, and_self, permD, List.getElem?_cons_zero, List.getElem?_cons_succ, Option.bind_some, Option.map_some, startS, List.map_cons, List.map_nil, List.replicate, List.cons_append, List.nil_append, List.append_nil, List.length_cons, List.length_nil, decide_eq_true_eq, Bool.not_eq_true', decide_eq_false_iff_not, Nat.reduceAdd, Nat.zero_add, Nat.reduceLeDiff, Nat.reduceLT, Nat.reduceSub, if_true, if_false, Bool.false_eq_true, ↓reduceIte, Df.fd]
  exact q _ (List.getElem_mem _) _ hs'
theorem shuffled_W {xs : List D} (hs : St h) (hl : xs.length < 1000000) (q : ∀ ys : List D, (∀ y ∈ ys, y ∈ xs) → ys.length = xs.length → ∀ h', St h' → Q (.lst ys, h')) : W (call T (n + 3) 8 [.ref 0, .lst xs] h) Q := by
  refine W_call (f := f_law_shuffled.fd) rfl rfl ?_
  simp only [f_law_shuffled, b8, small_of (show (0 : Int) ≤ xs.length by omega) (show (xs.length : Int) < 1073741824 by omega), ↓W_some, ↓W_bind, ↓W_map, ↓w_var, ↓w_own, ↓w_cst, ↓w_tup, ↓w_ofL, ↓w_celL, ↓w_neg, ↓w_bin, ↓w_cmp, ↓w_chn, ↓w_nt, ↓w_an, ↓w_or, ↓w_ite, ↓w_idx, ↓w_slc, ↓w_call, ↓w_callK, ↓w_bi, ↓w_isi, ↓w_gall, ↓w_gany, ↓w_gsum, ↓w_gtup, ↓w_genF, ↓w_nil, ↓w_cons, ↓w_onone, ↓w_osome, ↓w_otnone, ↓w_otsome, ↓w_and1, ↓w_and, ↓w_or1, ↓w_orc, ↓w_tnt, ↓w_tan, ↓w_tor, ↓w_ta1, ↓w_ta, ↓w_to1, ↓w_to, ↓w_tcmp, ↓w_tchn, ↓w_tvar, ↓w_town, ↓w_tcst, ↓w_tidx, ↓w_tbin, ↓w_tslc, ↓w_tcall, ↓w_tcallK, ↓w_tbi, ↓w_tisi, ↓w_tgen, ↓w_disp, ↓w_comp, ↓w_list, ↓w_sorted, ↓w_seq, ↓w_rng1, ↓w_rng2, ↓w_enum, ↓w_zip, ↓w_rev, ↓w_set, ↓w_setL, ↓w_setD, ↓w_pat, ↓w_par2, ↓w_aug, ↓w_augI, ↓w_putI, ↓w_putO, ↓w_augO, ↓w_app, ↓w_expr, ↓w_ret, ↓w_retN, ↓w_iff, ↓w_whil, ↓w_forr, ↓w_brk, ↓w_cont, ↓w_pass, ↓w_frz, ↓w_snil, ↓w_scons, ↓bps_s, add_ii, add_tt, add_ll, sub_ii, lt_ii, le_ii, gt_ii, ge_ii, eq_ii, ne_ii, is_n, isnt_n, is_bb, isnt_bb, isNon_i, isNon_b, isNon_t, isNon_l, isNon_n, tru_b, tru_i, tru_t, tru_l, tru_n, len_t, len_l, len_s, len_d, bi_len, bi_abs, bi_int, bi_intb, bi_tupt, bi_tupl, bi_min, bi_max, bi_sum, it_t, it_l, it_s, li_l, list_t, list_l, list_s, sl_t, sl_l, sl_s, ty_ii, ty_ib, ty_in, ty_bi, ty_bb, ty_bn, bp_nm, bp_tt, bp_tl, bps_0, op_add, op_sub, op_mul, op_fdiv, op_mod, op_pow, cm_eq, cm_ne, cm_lt, cm_le, cm_gt, cm_ge, cm_is, cm_isnt, cm_in, cm_notin, cd_n, cd_b, cd_i, cd_s, wp_0, wp_s, oq_rt, oq_nx, ol_nx, ol_ct, ol_bk, ol_rt, mod_pos, fdiv_pos, mul_l, mul_r, varS_0, varS_s, lookS_0, lookS_s, ownS_0v, ownS_0, ownS_0d, ownS_s, setS_0, setS_s, set_0, set_s, deref_int, deref_bl, deref_non, deref_str, deref_tup, deref_lst, deref_scr, deref_dct, deref_ref0, isCell_ref0, restO_nx, restO_rt, restO_bk, restO_ct, szl, idx_tup0, idx_tup1, idx_tup2, idx_tup3, idx_tup4, idx_tup5, idx_tup6, idx_tup7, idx_tup8, idx_tup9, idx_lst0, idx_lst1, idx_lst2, idx_lst3, idx_lst4, idx_lst5, idx_lst6, idx_lst7, idx_lst8, idx_lst9, Int.reduceLT, Int.reduceLE, Int.reduceNeg, Int.reducePow, and_self, permD, List.getElem?_cons_zero, List.getElem?_cons_succ, Option.bind_some, Option.map_some, startS, List.map_cons, List.map_nil, List.replicate, List.cons_append, List.nil_append, List.append_nil, List.length_cons, List.length_nil, decide_eq_true_eq, Bool.not_eq_true', decide_eq_false_iff_not, Nat.reduceAdd, Nat.zero_add, Nat.reduceLeDiff, Nat.reduceLT, Nat.reduceSub, if_true, if_false, Bool.false_eq_true, ↓reduceIte, Df.fd]
  refine W_forS (fun r ρ h' => ∃ ls fs x y, St h' ∧ ρ = [some (.val (.ref 0)), some (.val (.lst xs)), some (.val (.lst ls)), some (.own fs), x, y] ∧ ls.length = r.length ∧ fs.length + r.length = xs.length ∧ (∀ z ∈ ls, z ∈ xs) ∧ (∀ z ∈ fs, z ∈ xs)) ?_ ?_ ⟨xs, [], none, none, hs, by trivial, by simp [rngL], by simp [rngL], fun z hz => hz, fun z hz => by cases hz⟩
  · rintro x r ρ h' ⟨ls, fs, y, z, hs', rfl, h1, h2, h3, h4⟩
    rw [List.length_cons] at h1 h2
    simp only [↓W_some, ↓W_bind, ↓W_map, ↓w_var, ↓w_own, ↓w_cst, ↓w_tup, ↓w_ofL, ↓w_celL, ↓w_neg, ↓w_bin, ↓w_cmp, ↓w_chn, ↓w_nt, ↓w_an, ↓w_or, ↓w_ite, ↓w_idx, ↓w_slc, ↓w_call, ↓w_callK, ↓w_bi, ↓w_isi, ↓w_gall, ↓w_gany, ↓w_gsum, ↓w_gtup, ↓w_genF, ↓w_nil, ↓w_cons, ↓w_onone, ↓w_osome, ↓w_otnone, ↓w_otsome, ↓w_and1, ↓w_and, ↓w_or1, ↓w_orc, ↓w_tnt, ↓w_tan, ↓w_tor, ↓w_ta1, ↓w_ta, ↓w_to1, ↓w_to, ↓w_tcmp, ↓w_tchn, ↓w_tvar, ↓w_town, ↓w_tcst, ↓w_tidx, ↓w_tbin, ↓w_tslc, ↓w_tcall, ↓w_tcallK, ↓w_tbi, ↓w_tisi, ↓w_tgen, ↓w_disp, ↓w_comp, ↓w_list, ↓w_sorted, ↓w_seq, ↓w_rng1, ↓w_rng2, ↓w_enum, ↓w_zip, ↓w_rev, ↓w_set, ↓w_setL, ↓w_setD, ↓w_pat, ↓w_par2, ↓w_aug, ↓w_augI, ↓w_putI, ↓w_putO, ↓w_augO, ↓w_app, ↓w_expr, ↓w_ret, ↓w_retN, ↓w_iff, ↓w_whil, ↓w_forr, ↓w_brk, ↓w_cont, ↓w_pass, ↓w_frz, ↓w_snil, ↓w_scons, ↓bps_s, add_ii, add_tt, add_ll, sub_ii, lt_ii, le_ii, gt_ii, ge_ii, eq_ii, ne_ii, is_n, isnt_n, is_bb, isnt_bb, isNon_i, isNon_b, isNon_t, isNon_l, isNon_n, tru_b, tru_i, tru_t, tru_l, tru_n, len_t, len_l, len_s, len_d, bi_len, bi_abs, bi_int, bi_intb, bi_tupt, bi_tupl, bi_min, bi_max, bi_sum, it_t, it_l, it_s, li_l, list_t, list_l, list_s, sl_t, sl_l, sl_s, ty_ii, ty_ib, ty_in, ty_bi, ty_bb, ty_bn, bp_nm, bp_tt, bp_tl, bps_0, op_add, op_sub, op_mul, op_fdiv, op_mod, op_pow, cm_eq, cm_ne, cm_lt, cm_le, cm_gt, cm_ge, cm_is, cm_isnt, cm_in, cm_notin, cd_n, cd_b, cd_i, cd_s, wp_0, wp_s, oq_rt, oq_nx, ol_nx, ol_ct, ol_bk, ol_rt, mod_pos, fdiv_pos, mul_l, mul_r, varS_0, varS_s, lookS_0, lookS_s, ownS_0v, ownS_0, ownS_0d, ownS_s, setS_0, setS_s, set_0, set_s, deref_int, deref_bl, deref_non, deref_str, deref_tup, deref_lst, deref_scr, deref_dct, deref_ref0, isCell_ref0, restO_nx, restO_rt, restO_bk, restO_ct, szl, idx_tup0, idx_tup1, idx_tup2, idx_tup3, idx_tup4, idx_tup5, idx_tup6, idx_tup7, idx_tup8, idx_tup9, idx_lst0, idx_lst1, idx_lst2, idx_lst3, idx_lst4, idx_lst5, idx_lst6, idx_lst7, idx_lst8, idx_lst9, Int.reduceLT, Int.reduceLE, Int.reduceNeg, Int.reducePow, and_self, permD, List.getElem?_cons_zero, List.getElem?_cons_succ, Option.bind_some, Option.map_some, startS, List.map_cons, List.map_nil, List.replicate, List.cons_append, List.nil_append, List.append_nil, List.length_cons, List.length_nil, decide_eq_true_eq, Bool.not_eq_true', decide_eq_false_iff_not, Nat.reduceAdd, Nat.zero_add, Nat.reduceLeDiff, Nat.reduceLT, Nat.reduceSub, if_true, if_false, Bool.false_eq_true, ↓reduceIte, Df.fd]
    refine take_W hs' (by omega) (by omega) fun v h2' hs2 v0 v1 => ?_
    have e : idxD (.lst ls) (.int v) = some (ls[v.toNat]'(by omega)) := atI_at (j := v.toNat) (by omega) (List.getElem?_eq_getElem _)
    have ea : addD (.lst (ls.take v.toNat)) (.lst (ls.drop (v + 1).toNat)) = some (.lst (ls.take v.toNat ++ ls.drop (v + 1).toNat)) := add_ll (by
      simp only [List.length_take, List.length_drop, szl]
      omega)
    have hf : fs.length < 16777216 := by omega
    simp only [e, hf, cut_take v0, cut_drop (show 0 ≤ v + 1 by omega), ea, ↓W_some, ↓W_bind, ↓W_map, ↓w_var, ↓w_own, ↓w_cst, ↓w_tup, ↓w_ofL, ↓w_celL, ↓w_neg, ↓w_bin, ↓w_cmp, ↓w_chn, ↓w_nt, ↓w_an, ↓w_or, ↓w_ite, ↓w_idx, ↓w_slc, ↓w_call, ↓w_callK, ↓w_bi, ↓w_isi, ↓w_gall, ↓w_gany, ↓w_gsum, ↓w_gtup, ↓w_genF, ↓w_nil, ↓w_cons, ↓w_onone, ↓w_osome, ↓w_otnone, ↓w_otsome, ↓w_and1, ↓w_and, ↓w_or1, ↓w_orc, ↓w_tnt, ↓w_tan, ↓w_tor, ↓w_ta1, ↓w_ta, ↓w_to1, ↓w_to, ↓w_tcmp, ↓w_tchn, ↓w_tvar, ↓w_town, ↓w_tcst, ↓w_tidx, ↓w_tbin, ↓w_tslc, ↓w_tcall, ↓w_tcallK, ↓w_tbi, ↓w_tisi, ↓w_tgen, ↓w_disp, ↓w_comp, ↓w_list, ↓w_sorted, ↓w_seq, ↓w_rng1, ↓w_rng2, ↓w_enum, ↓w_zip, ↓w_rev, ↓w_set, ↓w_setL, ↓w_setD, ↓w_pat, ↓w_par2, ↓w_aug, ↓w_augI, ↓w_putI, ↓w_putO, ↓w_augO, ↓w_app, ↓w_expr, ↓w_ret, ↓w_retN, ↓w_iff, ↓w_whil, ↓w_forr, ↓w_brk, ↓w_cont, ↓w_pass, ↓w_frz, ↓w_snil, ↓w_scons, ↓bps_s, add_ii, add_tt, add_ll, sub_ii, lt_ii, le_ii, gt_ii, ge_ii, eq_ii, ne_ii, is_n, isnt_n, is_bb, isnt_bb, isNon_i, isNon_b, isNon_t, isNon_l, isNon_n, tru_b, tru_i, tru_t, tru_l, tru_n, len_t, len_l, len_s, len_d, bi_len, bi_abs, bi_int, bi_intb, bi_tupt, bi_tupl, bi_min, bi_max, bi_sum, it_t, it_l, it_s, li_l, list_t, list_l, list_s, sl_t, sl_l, sl_s, ty_ii, ty_ib, ty_in, ty_bi, ty_bb, ty_bn, bp_nm, bp_tt, bp_tl, bps_0, op_add, op_sub, op_mul, op_fdiv, op_mod, op_pow, cm_eq, cm_ne, cm_lt, cm_le, cm_gt, cm_ge, cm_is, cm_isnt, cm_in, cm_notin, cd_n, cd_b, cd_i, cd_s, wp_0, wp_s, oq_rt, oq_nx, ol_nx, ol_ct, ol_bk, ol_rt, mod_pos, fdiv_pos, mul_l, mul_r, varS_0, varS_s, lookS_0, lookS_s, ownS_0v, ownS_0, ownS_0d, ownS_s, setS_0, setS_s, set_0, set_s, deref_int, deref_bl, deref_non, deref_str, deref_tup, deref_lst, deref_scr, deref_dct, deref_ref0, isCell_ref0, restO_nx, restO_rt, restO_bk, restO_ct, szl, idx_tup0, idx_tup1, idx_tup2, idx_tup3, idx_tup4, idx_tup5, idx_tup6, idx_tup7, idx_tup8, idx_tup9, idx_lst0, idx_lst1, idx_lst2, idx_lst3, idx_lst4, idx_lst5, idx_lst6, idx_lst7, idx_lst8, idx_lst9, Int.reduceLT, Int.reduceLE, Int.reduceNeg, Int.reducePow, and_self, permD, List.getElem?_cons_zero, List.getElem?_cons_succ, Option.bind_some, Option.map_some, startS, List.map_cons, List.map_nil, List.replicate, List.cons_append, List.nil_append, List.append_nil, List.length_cons, List.length_nil, decide_eq_true_eq, Bool.not_eq_true', decide_eq_false_iff_not, Nat.reduceAdd, Nat.zero_add, Nat.reduceLeDiff, Nat.reduceLT, Nat.reduceSub, if_true, if_false, Bool.false_eq_true, ↓reduceIte, Df.fd]
    refine ⟨_, _, _, _, hs2, by trivial, ?_, ?_, ?_, ?_⟩
    · simp only [List.length_append, List.length_take, List.length_drop]; omega
    · simp only [List.length_append, List.length_cons, List.length_nil]; omega
    · intro z hz
      rcases List.mem_append.mp hz with hz | hz
      · exact h3 z (List.mem_of_mem_take hz)
      · exact h3 z (List.mem_of_mem_drop hz)
    · intro z hz
      rcases List.mem_append.mp hz with hz | hz
      · exact h4 z hz
      · rw [List.mem_singleton] at hz
        subst hz
        exact h3 _ (List.getElem_mem _)
  · rintro ρ h' ⟨ls, fs, y, z, hs', rfl, h1, h2, h3, h4⟩
    simp only [↓W_some, ↓W_bind, ↓W_map, ↓w_var, ↓w_own, ↓w_cst, ↓w_tup, ↓w_ofL, ↓w_celL, ↓w_neg, ↓w_bin, ↓w_cmp, ↓w_chn, ↓w_nt, ↓w_an, ↓w_or, ↓w_ite, ↓w_idx, ↓w_slc, ↓w_call, ↓w_callK, ↓w_bi, ↓w_isi, ↓w_gall, ↓w_gany, ↓w_gsum, ↓w_gtup, ↓w_genF, ↓w_nil, ↓w_cons, ↓w_onone, ↓w_osome, ↓w_otnone, ↓w_otsome, ↓w_and1, ↓w_and, ↓w_or1, ↓w_orc, ↓w_tnt, ↓w_tan, ↓w_tor, ↓w_ta1, ↓w_ta, ↓w_to1, ↓w_to, ↓w_tcmp, ↓w_tchn, ↓w_tvar, ↓w_town, ↓w_tcst, ↓w_tidx, ↓w_tbin, ↓w_tslc, ↓w_tcall, ↓w_tcallK, ↓w_tbi, ↓w_tisi, ↓w_tgen, ↓w_disp, ↓w_comp, ↓w_list, ↓w_sorted, ↓w_seq, ↓w_rng1, ↓w_rng2, ↓w_enum, ↓w_zip, ↓w_rev, ↓w_set, ↓w_setL, ↓w_setD, ↓w_pat, ↓w_par2, ↓w_aug, ↓w_augI, ↓w_putI, ↓w_putO, ↓w_augO, ↓w_app, ↓w_expr, ↓w_ret, ↓w_retN, ↓w_iff, ↓w_whil, ↓w_forr, ↓w_brk, ↓w_cont, ↓w_pass, ↓w_frz, ↓w_snil, ↓w_scons, ↓bps_s, add_ii, add_tt, add_ll, sub_ii, lt_ii, le_ii, gt_ii, ge_ii, eq_ii, ne_ii, is_n, isnt_n, is_bb, isnt_bb, isNon_i, isNon_b, isNon_t, isNon_l, isNon_n, tru_b, tru_i, tru_t, tru_l, tru_n, len_t, len_l, len_s, len_d, bi_len, bi_abs, bi_int, bi_intb, bi_tupt, bi_tupl, bi_min, bi_max, bi_sum, it_t, it_l, it_s, li_l, list_t, list_l, list_s, sl_t, sl_l, sl_s, ty_ii, ty_ib, ty_in, ty_bi, ty_bb, ty_bn, bp_nm, bp_tt, bp_tl, bps_0, op_add, op_sub, op_mul, op_fdiv, op_mod, op_pow, cm_eq, cm_ne, cm_lt, cm_le, cm_gt, cm_ge, cm_is, cm_isnt, cm_in, cm_notin, cd_n, cd_b, cd_i, cd_s, wp_0, wp_s, oq_rt, oq_nx, ol_nx, ol_ct, ol_bk, ol_rt, mod_pos, fdiv_pos, mul_l, mul_r, varS_0, varS_s, lookS_0, lookS_s, ownS_0v, ownS_0, ownS_0d, ownS_s, setS_0, setS_s, set_0, set_s, deref_int, deref_bl, deref_non, deref_str, deref_tup, deref_lst, deref_scr, deref_dct, deref_ref0, isCell_ref0, restO_nx, restO_rt, restO_bk, restO_ct, szl, idx_tup0, idx_tup1, idx_tup2, idx_tup3, idx_tup4, idx_tup5, idx_tup6, idx_tup7, idx_tup8, idx_tup9, idx_lst0, idx_lst1, idx_lst2, idx_lst3, idx_lst4, idx_lst5, idx_lst6, idx_lst7, idx_lst8, idx_lst9, Int.reduceLT, Int.reduceLE, Int.reduceNeg, Int.reducePow, and_self, permD, List.getElem?_cons_zero, List.getElem?_cons_succ, Option.bind_some, Option.map_some, startS, List.map_cons, List.map_nil, List.replicate, List.cons_append, List.nil_append, List.append_nil, List.length_cons, List.length_nil, decide_eq_true_eq, Bool.not_eq_true', decide_eq_false_iff_not, Nat.reduceAdd, Nat.zero_add, Nat.reduceLeDiff, Nat.reduceLT, Nat.reduceSub, if_true, if_false, Bool.false_eq_true, ↓reduceIte, Df.fd]
    exact q fs h4 (by simpa using h2) _ hs'
theorem isdue_W {a b : Bool} (q : Q (.bl (a == b), h)) : W (call T (n + 1) 9 [.bl a, .bl b] h) Q := by
  refine W_call (f := f_law_is_due.fd) rfl rfl ?_
  cases b <;> simp only [f_law_is_due, b9, ↓W_some, ↓W_bind, ↓W_map, ↓w_var, ↓w_own, ↓w_cst, ↓w_tup, ↓w_ofL, ↓w_celL, ↓w_neg, ↓w_bin, ↓w_cmp, ↓w_chn, ↓w_nt, ↓w_an, ↓w_or, ↓w_ite, ↓w_idx, ↓w_slc, ↓w_call, ↓w_callK, ↓w_bi, ↓w_isi, ↓w_gall, ↓w_gany, ↓w_gsum, ↓w_gtup, ↓w_genF, ↓w_nil, ↓w_cons, ↓w_onone, ↓w_osome, ↓w_otnone, ↓w_otsome, ↓w_and1, ↓w_and, ↓w_or1, ↓w_orc, ↓w_tnt, ↓w_tan, ↓w_tor, ↓w_ta1, ↓w_ta, ↓w_to1, ↓w_to, ↓w_tcmp, ↓w_tchn, ↓w_tvar, ↓w_town, ↓w_tcst, ↓w_tidx, ↓w_tbin, ↓w_tslc, ↓w_tcall, ↓w_tcallK, ↓w_tbi, ↓w_tisi, ↓w_tgen, ↓w_disp, ↓w_comp, ↓w_list, ↓w_sorted, ↓w_seq, ↓w_rng1, ↓w_rng2, ↓w_enum, ↓w_zip, ↓w_rev, ↓w_set, ↓w_setL, ↓w_setD, ↓w_pat, ↓w_par2, ↓w_aug, ↓w_augI, ↓w_putI, ↓w_putO, ↓w_augO, ↓w_app, ↓w_expr, ↓w_ret, ↓w_retN, ↓w_iff, ↓w_whil, ↓w_forr, ↓w_brk, ↓w_cont, ↓w_pass, ↓w_frz, ↓w_snil, ↓w_scons, ↓bps_s, add_ii, add_tt, add_ll, sub_ii, lt_ii, le_ii, gt_ii, ge_ii, eq_ii, ne_ii, is_n, isnt_n, is_bb, isnt_bb, isNon_i, isNon_b, isNon_t, isNon_l, isNon_n, tru_b, tru_i, tru_t, tru_l, tru_n, len_t, len_l, len_s, len_d, bi_len, bi_abs, bi_int, bi_intb, bi_tupt, bi_tupl, bi_min, bi_max, bi_sum, it_t, it_l, it_s, li_l, list_t, list_l, list_s, sl_t, sl_l, sl_s, ty_ii, ty_ib, ty_in, ty_bi, ty_bb, ty_bn, bp_nm, bp_tt, bp_tl, bps_0, op_add, op_sub, op_mul, op_fdiv, op_mod, op_pow, cm_eq, cm_ne, cm_lt, cm_le, cm_gt, cm_ge, cm_is, cm_isnt, cm_in, cm_notin, cd_n, cd_b, cd_i, cd_s, wp_0, wp_s, oq_rt, oq_nx, ol_nx, ol_ct, ol_bk, ol_rt, mod_pos, fdiv_pos, mul_l, mul_r, varS_0, varS_s, lookS_0, lookS_s, ownS_0v, ownS_0, ownS_0d, ownS_s, setS_0, setS_s, set_0, set_s, deref_int, deref_bl, deref_non, deref_str, deref_tup, deref_lst, deref_scr, deref_dct, deref_ref0, isCell_ref0, restO_nx, restO_rt, restO_bk, restO_ct, szl, idx_tup0, idx_tup1, idx_tup2, idx_tup3, idx_tup4, idx_tup5, idx_tup6, idx_tup7, idx_tup8, idx_tup9, idx_lst0, idx_lst1, idx_lst2, idx_lst3, idx_lst4, idx_lst5, idx_lst6, idx_lst7, idx_lst8, idx_lst9, Int.reduceLT, Int.reduceLE, Int.reduceNeg, Int.reducePow, and_self, permD, List.getElem?_cons_zero, List.getElem?_cons_succ, Option.bind_some, Option.map_some, startS, List.map_cons, List.map_nil, List.replicate, List.cons_append, List.nil_append, List.append_nil, List.length_cons, List.length_nil, decide_eq_true_eq, Bool.not_eq_true', decide_eq_false_iff_not, Nat.reduceAdd, Nat.zero_add, Nat.reduceLeDiff, Nat.reduceLT, Nat.reduceSub, if_true, if_false, Bool.false_eq_true, ↓reduceIte, Df.fd] <;> exact q
theorem keys_map (ns : List Int) : keysD (ns.map D.int) = some (ns.map Sum.inl) := by
  induction ns with
  | nil => rfl
  | cons n r ih =>
    show (keyD (.int n)).bind _ = _
    rw [show keyD (.int n) = some (.inl n) from rfl, Option.bind_some, ih]
    rfl
theorem rising_W {lo hi m : Int} (hs : St h) (h1 : lo ≤ hi) (h2 : hi - lo < 1000000) (h3 : 0 ≤ m) (h4 : m ≤ 60) (q : ∀ ns : List Int, ns.length ≤ m.toNat → ∀ h', St h' → Q (.tup (ns.map .int), h')) : W (call T (n + 3) 10 [.ref 0, .int lo, .int hi, .int m] h) Q := by
  refine W_call (f := f_law_rising.fd) rfl rfl ?_
  simp only [f_law_rising, b10, ↓W_some, ↓W_bind, ↓W_map, ↓w_var, ↓w_own, ↓w_cst, ↓w_tup, ↓w_ofL, ↓w_celL, ↓w_neg, ↓w_bin, ↓w_cmp, ↓w_chn, ↓w_nt, ↓w_an, ↓w_or, ↓w_ite, ↓w_idx, ↓w_slc, ↓w_call, ↓w_callK, ↓w_bi, ↓w_isi, ↓w_gall, ↓w_gany, ↓w_gsum, ↓w_gtup, ↓w_genF, ↓w_nil, ↓w_cons, ↓w_onone, ↓w_osome, ↓w_otnone, ↓w_otsome, ↓w_and1, ↓w_and, ↓w_or1, ↓w_orc, ↓w_tnt, ↓w_tan, ↓w_tor, ↓w_ta1, ↓w_ta, ↓w_to1, ↓w_to, ↓w_tcmp, ↓w_tchn, ↓w_tvar, ↓w_town, ↓w_tcst, ↓w_tidx, ↓w_tbin, ↓w_tslc, ↓w_tcall, ↓w_tcallK, ↓w_tbi, ↓w_tisi, ↓w_tgen, ↓w_disp, ↓w_comp, ↓w_list, ↓w_sorted, ↓w_seq, ↓w_rng1, ↓w_rng2, ↓w_enum, ↓w_zip, ↓w_rev, ↓w_set, ↓w_setL, ↓w_setD, ↓w_pat, ↓w_par2, ↓w_aug, ↓w_augI, ↓w_putI, ↓w_putO, ↓w_augO, ↓w_app, ↓w_expr, ↓w_ret, ↓w_retN, ↓w_iff, ↓w_whil, ↓w_forr, ↓w_brk, ↓w_cont, ↓w_pass, ↓w_frz, ↓w_snil, ↓w_scons, ↓bps_s, add_ii, add_tt, add_ll, sub_ii, lt_ii, le_ii, gt_ii, ge_ii, eq_ii, ne_ii, is_n, isnt_n, is_bb, isnt_bb, isNon_i, isNon_b, isNon_t, isNon_l, isNon_n, tru_b, tru_i, tru_t, tru_l, tru_n, len_t, len_l, len_s, len_d, bi_len, bi_abs, bi_int, bi_intb, bi_tupt, bi_tupl, bi_min, bi_max, bi_sum, it_t, it_l, it_s, li_l, list_t, list_l, list_s, sl_t, sl_l, sl_s, ty_ii, ty_ib, ty_in, ty_bi, ty_bb, ty_bn, bp_nm, bp_tt, bp_tl, bps_0, op_add, op_sub, op_mul, op_fdiv, op_mod, op_pow, cm_eq, cm_ne, cm_lt, cm_le, cm_gt, cm_ge, cm_is, cm_isnt, cm_in, cm_notin, cd_n, cd_b, cd_i, cd_s, wp_0, wp_s, oq_rt, oq_nx, ol_nx, ol_ct, ol_bk, ol_rt, mod_pos, fdiv_pos, mul_l, mul_r, varS_0, varS_s, lookS_0, lookS_s, ownS_0v, ownS_0, ownS_0d, ownS_s, setS_0, setS_s, set_0, set_s, deref_int, deref_bl, deref_non, deref_str, deref_tup, deref_lst, deref_scr, deref_dct, deref_ref0, isCell_ref0, restO_nx, restO_rt, restO_bk, restO_ct, szl, idx_tup0, idx_tup1, idx_tup2, idx_tup3, idx_tup4, idx_tup5, idx_tup6, idx_tup7, idx_tup8, idx_tup9, idx_lst0, idx_lst1, idx_lst2, idx_lst3, idx_lst4, idx_lst5, idx_lst6, idx_lst7, idx_lst8, idx_lst9, Int.reduceLT, Int.reduceLE, Int.reduceNeg, Int.reducePow, and_self, permD, List.getElem?_cons_zero, List.getElem?_cons_succ, Option.bind_some, Option.map_some, startS, List.map_cons, List.map_nil, List.replicate, List.cons_append, List.nil_append, List.append_nil, List.length_cons, List.length_nil, decide_eq_true_eq, Bool.not_eq_true', decide_eq_false_iff_not, Nat.reduceAdd, Nat.zero_add, Nat.reduceLeDiff, Nat.reduceLT, Nat.reduceSub, if_true, if_false, Bool.false_eq_true, ↓reduceIte, Df.fd]
  refine take_W hs (by omega) (by omega) fun v h' hs' v0 v1 => ?_
  simp only [small_of v0 (show v < 1073741824 by omega), ↓W_some, ↓W_bind, ↓W_map, ↓w_var, ↓w_own, ↓w_cst, ↓w_tup, ↓w_ofL, ↓w_celL, ↓w_neg, ↓w_bin, ↓w_cmp, ↓w_chn, ↓w_nt, ↓w_an, ↓w_or, ↓w_ite, ↓w_idx, ↓w_slc, ↓w_call, ↓w_callK, ↓w_bi, ↓w_isi, ↓w_gall, ↓w_gany, ↓w_gsum, ↓w_gtup, ↓w_genF, ↓w_nil, ↓w_cons, ↓w_onone, ↓w_osome, ↓w_otnone, ↓w_otsome, ↓w_and1, ↓w_and, ↓w_or1, ↓w_orc, ↓w_tnt, ↓w_tan, ↓w_tor, ↓w_ta1, ↓w_ta, ↓w_to1, ↓w_to, ↓w_tcmp, ↓w_tchn, ↓w_tvar, ↓w_town, ↓w_tcst, ↓w_tidx, ↓w_tbin, ↓w_tslc, ↓w_tcall, ↓w_tcallK, ↓w_tbi, ↓w_tisi, ↓w_tgen, ↓w_disp, ↓w_comp, ↓w_list, ↓w_sorted, ↓w_seq, ↓w_rng1, ↓w_rng2, ↓w_enum, ↓w_zip, ↓w_rev, ↓w_set, ↓w_setL, ↓w_setD, ↓w_pat, ↓w_par2, ↓w_aug, ↓w_augI, ↓w_putI, ↓w_putO, ↓w_augO, ↓w_app, ↓w_expr, ↓w_ret, ↓w_retN, ↓w_iff, ↓w_whil, ↓w_forr, ↓w_brk, ↓w_cont, ↓w_pass, ↓w_frz, ↓w_snil, ↓w_scons, ↓bps_s, add_ii, add_tt, add_ll, sub_ii, lt_ii, le_ii, gt_ii, ge_ii, eq_ii, ne_ii, is_n, isnt_n, is_bb, isnt_bb, isNon_i, isNon_b, isNon_t, isNon_l, isNon_n, tru_b, tru_i, tru_t, tru_l, tru_n, len_t, len_l, len_s, len_d, bi_len, bi_abs, bi_int, bi_intb, bi_tupt, bi_tupl, bi_min, bi_max, bi_sum, it_t, it_l, it_s, li_l, list_t, list_l, list_s, sl_t, sl_l, sl_s, ty_ii, ty_ib, ty_in, ty_bi, ty_bb, ty_bn, bp_nm, bp_tt, bp_tl, bps_0, op_add, op_sub, op_mul, op_fdiv, op_mod, op_pow, cm_eq, cm_ne, cm_lt, cm_le, cm_gt, cm_ge, cm_is, cm_isnt, cm_in, cm_notin, cd_n, cd_b, cd_i, cd_s, wp_0, wp_s, oq_rt, oq_nx, ol_nx, ol_ct, ol_bk, ol_rt, mod_pos, fdiv_pos, mul_l, mul_r, varS_0, varS_s, lookS_0, lookS_s, ownS_0v, ownS_0, ownS_0d, ownS_s, setS_0, setS_s, set_0, set_s, deref_int, deref_bl, deref_non, deref_str, deref_tup, deref_lst, deref_scr, deref_dct, deref_ref0, isCell_ref0, restO_nx, restO_rt, restO_bk, restO_ct, szl, idx_tup0, idx_tup1, idx_tup2, idx_tup3, idx_tup4, idx_tup5, idx_tup6, idx_tup7, idx_tup8, idx_tup9, idx_lst0, idx_lst1, idx_lst2, idx_lst3, idx_lst4, idx_lst5, idx_lst6, idx_lst7, idx_lst8, idx_lst9, Int.reduceLT, Int.reduceLE, Int.reduceNeg, Int.reducePow, and_self, permD, List.getElem?_cons_zero, List.getElem?_cons_succ, Option.bind_some, Option.map_some, startS, List.map_cons, List.map_nil, List.replicate, List.cons_append, List.nil_append, List.append_nil, List.length_cons, List.length_nil, decide_eq_true_eq, Bool.not_eq_true', decide_eq_false_iff_not, Nat.reduceAdd, Nat.zero_add, Nat.reduceLeDiff, Nat.reduceLT, Nat.reduceSub, if_true, if_false, Bool.false_eq_true, ↓reduceIte, Df.fd]
  refine W_forS (fun r ρ h' => ∃ ks vs x, St h' ∧ ρ = [some (.val (.ref 0)), some (.val (.int lo)), some (.val (.int hi)), some (.val (.int m)), some (.ownD (ks.map .int) vs), x] ∧ ks.length + r.length ≤ m.toNat) ?_ ?_ ⟨[], [], none, hs', by trivial, by simp [rngL]; omega⟩
  · rintro x r ρ h' ⟨ks, vs, y, hs', rfl, hk⟩
    rw [List.length_cons] at hk
    simp only [↓W_some, ↓W_bind, ↓W_map, ↓w_var, ↓w_own, ↓w_cst, ↓w_tup, ↓w_ofL, ↓w_celL, ↓w_neg, ↓w_bin, ↓w_cmp, ↓w_chn, ↓w_nt, ↓w_an, ↓w_or, ↓w_ite, ↓w_idx, ↓w_slc, ↓w_call, ↓w_callK, ↓w_bi, ↓w_isi, ↓w_gall, ↓w_gany, ↓w_gsum, ↓w_gtup, ↓w_genF, ↓w_nil, ↓w_cons, ↓w_onone, ↓w_osome, ↓w_otnone, ↓w_otsome, ↓w_and1, ↓w_and, ↓w_or1, ↓w_orc, ↓w_tnt, ↓w_tan, ↓w_tor, ↓w_ta1, ↓w_ta, ↓w_to1, ↓w_to, ↓w_tcmp, ↓w_tchn, ↓w_tvar, ↓w_town, ↓w_tcst, ↓w_tidx, ↓w_tbin, ↓w_tslc, ↓w_tcall, ↓w_tcallK, ↓w_tbi, ↓w_tisi, ↓w_tgen, ↓w_disp, ↓w_comp, ↓w_list, ↓w_sorted, ↓w_seq, ↓w_rng1, ↓w_rng2, ↓w_enum, ↓w_zip, ↓w_rev, ↓w_set, ↓w_setL, ↓w_setD, ↓w_pat, ↓w_par2, ↓w_aug, ↓w_augI, ↓w_putI, ↓w_putO, ↓w_augO, ↓w_app, ↓w_expr, ↓w_ret, ↓w_retN, ↓w_iff, ↓w_whil, ↓w_forr, ↓w_brk, ↓w_cont, ↓w_pass, ↓w_frz, ↓w_snil, ↓w_scons, ↓bps_s, add_ii, add_tt, add_ll, sub_ii, lt_ii, le_ii, gt_ii, ge_ii, eq_ii, ne_ii, is_n, isnt_n, is_bb, isnt_bb, isNon_i, isNon_b, isNon_t, isNon_l, isNon_n, tru_b, tru_i, tru_t, tru_l, tru_n, len_t, len_l, len_s, len_d, bi_len, bi_abs, bi_int, bi_intb, bi_tupt, bi_tupl, bi_min, bi_max, bi_sum, it_t, it_l, it_s, li_l, list_t, list_l, list_s, sl_t, sl_l, sl_s, ty_ii, ty_ib, ty_in, ty_bi, ty_bb, ty_bn, bp_nm, bp_tt, bp_tl, bps_0, op_add, op_sub, op_mul, op_fdiv, op_mod, op_pow, cm_eq, cm_ne, cm_lt, cm_le, cm_gt, cm_ge, cm_is, cm_isnt, cm_in, cm_notin, cd_n, cd_b, cd_i, cd_s, wp_0, wp_s, oq_rt, oq_nx, ol_nx, ol_ct, ol_bk, ol_rt, mod_pos, fdiv_pos, mul_l, mul_r, varS_0, varS_s, lookS_0, lookS_s, ownS_0v, ownS_0, ownS_0d, ownS_s, setS_0, setS_s, set_0, set_s, deref_int, deref_bl, deref_non, deref_str, deref_tup, deref_lst, deref_scr, deref_dct, deref_ref0, isCell_ref0, restO_nx, restO_rt, restO_bk, restO_ct, szl, idx_tup0, idx_tup1, idx_tup2, idx_tup3, idx_tup4, idx_tup5, idx_tup6, idx_tup7, idx_tup8, idx_tup9, idx_lst0, idx_lst1, idx_lst2, idx_lst3, idx_lst4, idx_lst5, idx_lst6, idx_lst7, idx_lst8, idx_lst9, Int.reduceLT, Int.reduceLE, Int.reduceNeg, Int.reducePow, and_self, permD, List.getElem?_cons_zero, List.getElem?_cons_succ, Option.bind_some, Option.map_some, startS, List.map_cons, List.map_nil, List.replicate, List.cons_append, List.nil_append, List.append_nil, List.length_cons, List.length_nil, decide_eq_true_eq, Bool.not_eq_true', decide_eq_false_iff_not, Nat.reduceAdd, Nat.zero_add, Nat.reduceLeDiff, Nat.reduceLT, Nat.reduceSub, if_true, if_false, Bool.false_eq_true, ↓reduceIte, Df.fd]
    refine take_W hs' (by omega) (by omega) fun v h2' hs2 v0 v1 => ?_
    have hp : ∃ ks2 vs2, dputD (ks.map D.int) vs (.int (lo + v)) (.bl true) = some ((ks2 : List Int).map D.int, vs2) ∧ ks2.length ≤ ks.length + 1 := by
      unfold dputD
      rw [keys_map, show keyD (.int (lo + v)) = some (.inl (lo + v)) from rfl]
      simp only [List.length_map]
      rw [if_pos (by rw [szl]; omega)]
      split
      · exact ⟨ks, _, rfl, by omega⟩
      · exact ⟨ks ++ [lo + v], vs ++ [.bl true], by simp, by simp⟩
    obtain ⟨ks2, vs2, e, hl⟩ := hp
    simp only [oputD, lookS_s, lookS_0, ofOwn, putD, e, Option.bind_some, Option.map_some, toOwn, ↓W_some, ↓W_bind, ↓W_map, ↓w_var, ↓w_own, ↓w_cst, ↓w_tup, ↓w_ofL, ↓w_celL, ↓w_neg, ↓w_bin, ↓w_cmp, ↓w_chn, ↓w_nt, ↓w_an, ↓w_or, ↓w_ite, ↓w_idx, ↓w_slc, ↓w_call, ↓w_callK, ↓w_bi, ↓w_isi, ↓w_gall, ↓w_gany, ↓w_gsum, ↓w_gtup, ↓w_genF, ↓w_nil, ↓w_cons, ↓w_onone, ↓w_osome, ↓w_otnone, ↓w_otsome, ↓w_and1, ↓w_and, ↓w_or1, ↓w_orc, ↓w_tnt, ↓w_tan, ↓w_tor, ↓w_ta1, ↓w_ta, ↓w_to1, ↓w_to, ↓w_tcmp, ↓w_tchn, ↓w_tvar, ↓w_town, ↓w_tcst, ↓w_tidx, ↓w_tbin, ↓w_tslc, ↓w_tcall, ↓w_tcallK, ↓w_tbi, ↓w_tisi, ↓w_tgen, ↓w_disp, ↓w_comp, ↓w_list, ↓w_sorted, ↓w_seq, ↓w_rng1, ↓w_rng2, ↓w_enum, ↓w_zip, ↓w_rev, ↓w_set, ↓w_setL, ↓w_setD, ↓w_pat, ↓w_par2, ↓w_aug, ↓w_augI, ↓w_putI, ↓w_putO, ↓w_augO, ↓w_app, ↓w_expr, ↓w_ret, ↓w_retN, ↓w_iff, ↓w_whil, ↓w_forr, ↓w_brk, ↓w_cont, ↓w_pass, ↓w_frz, ↓w_snil, ↓w_scons, ↓bps_s, add_ii, add_tt, add_ll, sub_ii, lt_ii, le_ii, gt_ii, ge_ii, eq_ii, ne_ii, is_n, isnt_n, is_bb, isnt_bb, isNon_i, isNon_b, isNon_t, isNon_l, isNon_n, tru_b, tru_i, tru_t, tru_l, tru_n, len_t, len_l, len_s, len_d, bi_len, bi_abs, bi_int, bi_intb, bi_tupt, bi_tupl, bi_min, bi_max, bi_sum, it_t, it_l, it_s, li_l, list_t, list_l, list_s, sl_t, sl_l, sl_s, ty_ii, ty_ib, ty_in, ty_bi, ty_bb, ty_bn, bp_nm, bp_tt, bp_tl, bps_0, op_add, op_sub, op_mul, op_fdiv, op_mod, op_pow, cm_eq, cm_ne, cm_lt, cm_le, cm_gt, cm_ge, cm_is, cm_isnt, cm_in, cm_notin, cd_n, cd_b, cd_i, cd_s, wp_0, wp_s, oq_rt, oq_nx, ol_nx, ol_ct, ol_bk, ol_rt, mod_pos, fdiv_pos, mul_l, mul_r, varS_0, varS_s, lookS_0, lookS_s, ownS_0v, ownS_0, ownS_0d, ownS_s, setS_0, setS_s, set_0, set_s, deref_int, deref_bl, deref_non, deref_str, deref_tup, deref_lst, deref_scr, deref_dct, deref_ref0, isCell_ref0, restO_nx, restO_rt, restO_bk, restO_ct, szl, idx_tup0, idx_tup1, idx_tup2, idx_tup3, idx_tup4, idx_tup5, idx_tup6, idx_tup7, idx_tup8, idx_tup9, idx_lst0, idx_lst1, idx_lst2, idx_lst3, idx_lst4, idx_lst5, idx_lst6, idx_lst7, idx_lst8, idx_lst9, Int.reduceLT, Int.reduceLE, Int.reduceNeg, Int.reducePow, and_self, permD, List.getElem?_cons_zero, List.getElem?_cons_succ, Option.bind_some, Option.map_some, startS, List.map_cons, List.map_nil, List.replicate, List.cons_append, List.nil_append, List.append_nil, List.length_cons, List.length_nil, decide_eq_true_eq, Bool.not_eq_true', decide_eq_false_iff_not, Nat.reduceAdd, Nat.zero_add, Nat.reduceLeDiff, Nat.reduceLT, Nat.reduceSub, if_true, if_false, Bool.false_eq_true, ↓reduceIte, Df.fd]
    exact ⟨ks2, vs2, _, hs2, by trivial, by omega⟩
  · rintro ρ h' ⟨ks, vs, y, hs', rfl, hk⟩
    have hk : ks.length ≤ m.toNat := by simpa using hk
    have e : sortD (.dct (ks.map D.int) vs) = some ((sortI ks).map .int) := by
      unfold sortD
      simp only [ints_map, Option.bind_some]
      rw [if_pos (by omega)]
    have hsl : ∀ l : List Int, (sortI l).length = l.length := by
      have hi : ∀ (a : Int) (l : List Int), (insI a l).length = l.length + 1 := by
        intro a l
        induction l with
        | nil => rfl
        | cons b r ih =>
          unfold insI
          split
          · rfl
          · rw [List.length_cons, ih]; rfl
      intro l
      induction l with
      | nil => rfl
      | cons a r ih =>
        unfold sortI
        rw [hi, ih]; rfl
    simp only [e, ↓W_some, ↓W_bind, ↓W_map, ↓w_var, ↓w_own, ↓w_cst, ↓w_tup, ↓w_ofL, ↓w_celL, ↓w_neg, ↓w_bin, ↓w_cmp, ↓w_chn, ↓w_nt, ↓w_an, ↓w_or, ↓w_ite, ↓w_idx, ↓w_slc, ↓w_call, ↓w_callK, ↓w_bi, ↓w_isi, ↓w_gall, ↓w_gany, ↓w_gsum, ↓w_gtup, ↓w_genF, ↓w_nil, ↓w_cons, ↓w_onone, ↓w_osome, ↓w_otnone, ↓w_otsome, ↓w_and1, ↓w_and, ↓w_or1, ↓w_orc, ↓w_tnt, ↓w_tan, ↓w_tor, ↓w_ta1, ↓w_ta, ↓w_to1, ↓w_to, ↓w_tcmp, ↓w_tchn, ↓w_tvar, ↓w_town, ↓w_tcst, ↓w_tidx, ↓w_tbin, ↓w_tslc, ↓w_tcall, ↓w_tcallK, ↓w_tbi, ↓w_tisi, ↓w_tgen, ↓w_disp, ↓w_comp, ↓w_list, ↓w_sorted, ↓w_seq, ↓w_rng1, ↓w_rng2, ↓w_enum, ↓w_zip, ↓w_rev, ↓w_set, ↓w_setL, ↓w_setD, ↓w_pat, ↓w_par2, ↓w_aug, ↓w_augI, ↓w_putI, ↓w_putO, ↓w_augO, ↓w_app, ↓w_expr, ↓w_ret, ↓w_retN, ↓w_iff, ↓w_whil, ↓w_forr, ↓w_brk, ↓w_cont, ↓w_pass, ↓w_frz, ↓w_snil, ↓w_scons, ↓bps_s, add_ii, add_tt, add_ll, sub_ii, lt_ii, le_ii, gt_ii, ge_ii, eq_ii, ne_ii, is_n, isnt_n, is_bb, isnt_bb, isNon_i, isNon_b, isNon_t, isNon_l, isNon_n, tru_b, tru_i, tru_t, tru_l, tru_n, len_t, len_l, len_s, len_d, bi_len, bi_abs, bi_int, bi_intb, bi_tupt, bi_tupl, bi_min, bi_max, bi_sum, it_t, it_l, it_s, li_l, list_t, list_l, list_s, sl_t, sl_l, sl_s, ty_ii, ty_ib, ty_in, ty_bi, ty_bb, ty_bn, bp_nm, bp_tt, bp_tl, bps_0, op_add, op_sub, op_mul, op_fdiv, op_mod, op_pow, cm_eq, cm_ne, cm_lt, cm_le, cm_gt, cm_ge, cm_is, cm_isnt, cm_in, cm_notin, cd_n, cd_b, cd_i, cd_s, wp_0, wp_s, oq_rt, oq_nx, ol_nx, ol_ct, ol_bk, ol_rt, mod_pos, fdiv_pos, mul_l, mul_r, varS_0, varS_s, lookS_0, lookS_s, ownS_0v, ownS_0, ownS_0d, ownS_s, setS_0, setS_s, set_0, set_s, deref_int, deref_bl, deref_non, deref_str, deref_tup, deref_lst, deref_scr, deref_dct, deref_ref0, isCell_ref0, restO_nx, restO_rt, restO_bk, restO_ct, szl, idx_tup0, idx_tup1, idx_tup2, idx_tup3, idx_tup4, idx_tup5, idx_tup6, idx_tup7, idx_tup8, idx_tup9, idx_lst0, idx_lst1, idx_lst2, idx_lst3, idx_lst4, idx_lst5, idx_lst6, idx_lst7, idx_lst8, idx_lst9, Int.reduceLT, Int.reduceLE, Int.reduceNeg, Int.reducePow, and_self, permD, List.getElem?_cons_zero, List.getElem?_cons_succ, Option.bind_some, Option.map_some, startS, List.map_cons, List.map_nil, List.replicate, List.cons_append, List.nil_append, List.append_nil, List.length_cons, List.length_nil, decide_eq_true_eq, Bool.not_eq_true', decide_eq_false_iff_not, Nat.reduceAdd, Nat.zero_add, Nat.reduceLeDiff, Nat.reduceLT, Nat.reduceSub, if_true, if_false, Bool.false_eq_true, ↓reduceIte, Df.fd]
    exact q _ (by rw [hsl]; exact hk) _ hs'
end
end PI.K01

set_option Elab.async false
set_option linter.all false
set_option maxRecDepth 100000
set_option maxHeartbeats 4000000
set_option autoImplicit false
namespace PI.K01
open PySem PySem.Spec PyProof.Rows L2 PI
def tabD (b : Int) (ns : List Int) : D := .tup [.int b, .tup (ns.map .int)]
/-- how many steps are at or below -/
def cnt (m : Int) : List Int → Int
  | [] => 0
  | n :: r => (if n ≤ m then 1 else 0) + cnt m r
theorem cnt_cons (m n : Int) (r : List Int) : cnt m (n :: r) = (if n ≤ m then 1 else 0) + cnt m r := rfl
theorem cnt_nil (m : Int) : cnt m [] = 0 := rfl
theorem cnt_0 (m : Int) : ∀ ns, 0 ≤ cnt m ns
  | [] => Int.le_refl _
  | n :: r => by
    have := cnt_0 m r
    unfold cnt
    split <;> omega
theorem cnt_le (m : Int) : ∀ ns : List Int, cnt m ns ≤ ns.length
  | [] => Int.le_refl _
  | n :: r => by
    have := cnt_le m r
    unfold cnt
    rw [List.length_cons]
    split <;> omega
def val (b : Int) (ns : List Int) (m : Int) : Int := b + cnt m ns
section
variable {n : Nat} {h : PH} {Q : D × PH → Prop} {b m : Int} {ns : List Int}
theorem value_W (q : Q (.int (val b ns m), h)) : W (call T (n + 1) 13 [tabD b ns, .int m] h) Q := by
  refine W_call (f := f_law_value.fd) rfl rfl ?_
  simp only [f_law_value, b13, tabD, ↓W_some, ↓W_bind, ↓W_map, ↓w_var, ↓w_own, ↓w_cst, ↓w_tup, ↓w_ofL, ↓w_celL, ↓w_neg, ↓w_bin, ↓w_cmp, ↓w_chn, ↓w_nt, ↓w_an, ↓w_or, ↓w_ite, ↓w_idx, ↓w_slc, ↓w_call, ↓w_callK, ↓w_bi, ↓w_isi, ↓w_gall, ↓w_gany, ↓w_gsum, ↓w_gtup, ↓w_genF, ↓w_nil, ↓w_cons, ↓w_onone, ↓w_osome, ↓w_otnone, ↓w_otsome, ↓w_and1, ↓w_and, ↓w_or1, ↓w_orc, ↓w_tnt, ↓w_tan, ↓w_tor, ↓w_ta1, ↓w_ta, ↓w_to1, ↓w_to, ↓w_tcmp, ↓w_tchn, ↓w_tvar, ↓w_town, ↓w_tcst, ↓w_tidx, ↓w_tbin, ↓w_tslc, ↓w_tcall, ↓w_tcallK, ↓w_tbi, ↓w_tisi, ↓w_tgen, ↓w_disp, ↓w_comp, ↓w_list, ↓w_sorted, ↓w_seq, ↓w_rng1, ↓w_rng2, ↓w_enum, ↓w_zip, ↓w_rev, ↓w_set, ↓w_setL, ↓w_setD, ↓w_pat, ↓w_par2, ↓w_aug, ↓w_augI, ↓w_putI, ↓w_putO, ↓w_augO, ↓w_app, ↓w_expr, ↓w_ret, ↓w_retN, ↓w_iff, ↓w_whil, ↓w_forr, ↓w_brk, ↓w_cont, ↓w_pass, ↓w_frz, ↓w_snil, ↓w_scons, ↓bps_s, add_ii, add_tt, add_ll, sub_ii, lt_ii, le_ii, gt_ii, ge_ii, eq_ii, ne_ii, is_n, isnt_n, is_bb, isnt_bb, isNon_i, isNon_b, isNon_t, isNon_l, isNon_n, tru_b, tru_i, tru_t, tru_l, tru_n, len_t, len_l, len_s, len_d, bi_len, bi_abs, bi_int, bi_intb, bi_tupt, bi_tupl, bi_min, bi_max, bi_sum, it_t, it_l, it_s, li_l, list_t, list_l, list_s, sl_t, sl_l, sl_s, ty_ii, ty_ib, ty_in, ty_bi, ty_bb, ty_bn, bp_nm, bp_tt, bp_tl, bps_0, op_add, op_sub, op_mul, op_fdiv, op_mod, op_pow, cm_eq, cm_ne, cm_lt, cm_le, cm_gt, cm_ge, cm_is, cm_isnt, cm_in, cm_notin, cd_n, cd_b, cd_i, cd_s, wp_0, wp_s, oq_rt, oq_nx, ol_nx, ol_ct, ol_bk, ol_rt, mod_pos, fdiv_pos, mul_l, mul_r, varS_0, varS_s, lookS_0, lookS_s, ownS_0v, ownS_0, ownS_0d, ownS_s, setS_0, setS_s, set_0, set_s, deref_int, deref_bl, deref_non, deref_str, deref_tup, deref_lst, deref_scr, deref_dct, deref_ref0, isCell_ref0, restO_nx, restO_rt, restO_bk, restO_ct, szl, idx_tup0, idx_tup1, idx_tup2, idx_tup3, idx_tup4, idx_tup5, idx_tup6, idx_tup7, idx_tup8, idx_tup9, idx_lst0, idx_lst1, idx_lst2, idx_lst3, idx_lst4, idx_lst5, idx_lst6, idx_lst7, idx_lst8, idx_lst9, Int.reduceLT, Int.reduceLE, Int.reduceNeg, Int.reducePow, and_self, permD, List.getElem?_cons_zero, List.getElem?_cons_succ, Option.bind_some, Option.map_some, startS, List.map_cons, List.map_nil, List.replicate, List.cons_append, List.nil_append, List.append_nil, List.length_cons, List.length_nil, decide_eq_true_eq, Bool.not_eq_true', decide_eq_false_iff_not, Nat.reduceAdd, Nat.zero_add, Nat.reduceLeDiff, Nat.reduceLT, Nat.reduceSub, if_true, if_false, Bool.false_eq_true, ↓reduceIte, Df.fd]
  refine W_forS (fun r ρ h' => ∃ t ms x, h' = h ∧ ρ = [some (.val (tabD b ns)), some (.val (.int m)), some (.val (.int t)), x] ∧ r = ms.map .int ∧ t + cnt m ms = val b ns m) ?_ ?_ ⟨b, ns, none, rfl, rfl, rfl, rfl⟩
  · rintro x r ρ h' ⟨t, ms, y, e1, e2, e3, e4⟩
    subst e1 e2
    cases ms with
    | nil => cases e3
    | cons k ms =>
      cases e3
      unfold cnt at e4
      by_cases c : k ≤ m
      · rw [if_pos c] at e4
        simp only [c, decide_true, ↓W_some, ↓W_bind, ↓W_map, ↓w_var, ↓w_own, ↓w_cst, ↓w_tup, ↓w_ofL, ↓w_celL, ↓w_neg, ↓w_bin, ↓w_cmp, ↓w_chn, ↓w_nt, ↓w_an, ↓w_or, ↓w_ite, ↓w_idx, ↓w_slc, ↓w_call, ↓w_callK, ↓w_bi, ↓w_isi, ↓w_gall, ↓w_gany, ↓w_gsum, ↓w_gtup, ↓w_genF, ↓w_nil, ↓w_cons, ↓w_onone, ↓w_osome, ↓w_otnone, ↓w_otsome, ↓w_and1, ↓w_and, ↓w_or1, ↓w_orc, ↓w_tnt, ↓w_tan, ↓w_tor, ↓w_ta1, ↓w_ta, ↓w_to1, ↓w_to, ↓w_tcmp, ↓w_tchn, ↓w_tvar, ↓w_town, ↓w_tcst, ↓w_tidx, ↓w_tbin, ↓w_tslc, ↓w_tcall, ↓w_tcallK, ↓w_tbi, ↓w_tisi, ↓w_tgen, ↓w_disp, ↓w_comp, ↓w_list, ↓w_sorted, ↓w_seq, ↓w_rng1, ↓w_rng2, ↓w_enum, ↓w_zip, ↓w_rev, ↓w_set, ↓w_setL, ↓w_setD, ↓w_pat, ↓w_par2, ↓w_aug, ↓w_augI, ↓w_putI, ↓w_putO, ↓w_augO, ↓w_app, ↓w_expr, ↓w_ret, ↓w_retN, ↓w_iff, ↓w_whil, ↓w_forr, ↓w_brk, ↓w_cont, ↓w_pass, ↓w_frz, ↓w_snil, ↓w_scons, ↓bps_s, add_ii, add_tt, add_ll, sub_ii, lt_ii, le_ii, gt_ii, ge_ii, eq_ii, ne_ii, is_n, isnt_n, is_bb, isnt_bb, isNon_i, isNon_b, isNon_t, isNon_l, isNon_n, tru_b, tru_i, tru_t, tru_l, tru_n, len_t, len_l, len_s, len_d, bi_len, bi_abs, bi_int, bi_intb, bi_tupt, bi_tupl, bi_min, bi_max, bi_sum, it_t, it_l, it_s, li_l, list_t, list_l, list_s, sl_t, sl_l, sl_s, ty_ii, ty_ib, ty_in, ty_bi, ty_bb, ty_bn, bp_nm, bp_tt, bp_tl, bps_0, op_add, op_sub, op_mul, op_fdiv, op_mod, op_pow, cm_eq, cm_ne, cm_lt, cm_le, cm_gt, cm_ge, cm_is, cm_isnt, cm_in, cm_notin, cd_n, cd_b, cd_i, cd_s, wp_0, wp_s, oq_rt, oq_nx, ol_nx, ol_ct, ol_bk, ol_rt, mod_pos, fdiv_pos, mul_l, mul_r, varS_0, varS_s, lookS_0, lookS_s, ownS_0v, ownS_0, ownS_0d, ownS_s, setS_0, setS_s, set_0, set_s, deref_int, deref_bl, deref_non, deref_str, deref_tup, deref_lst, deref_scr, deref_dct, deref_ref0, isCell_ref0, restO_nx, restO_rt, restO_bk, restO_ct, szl, idx_tup0, idx_tup1, idx_tup2, idx_tup3, idx_tup4, idx_tup5, idx_tup6, idx_tup7, idx_tup8, idx_tup9, idx_lst0, idx_lst1, idx_lst2, idx_lst3, idx_lst4, idx_lst5, idx_lst6, idx_lst7, idx_lst8, idx_lst9, Int.reduceLT, Int.reduceLE, Int.reduceNeg, Int.reducePow, and_self, permD, List.getElem?_cons_zero, List.getElem?_cons_succ, Option.bind_some, Option.map_some, startS, List.map_cons, List.map_nil, List.replicate, List.cons_append, List.nil_append, List.append_nil, List.length_cons, List.length_nil, decide_eq_true_eq, Bool.not_eq_true', decide_eq_false_iff_not, Nat.reduceAdd, Nat.zero_add, Nat.reduceLeDiff, Nat.reduceLT, Nat.reduceSub, if_true, if_false, Bool.false_eq_true, ↓reduceIte, Df.fd]
        exact ⟨t + 1, ms, _, by trivial, by trivial, by trivial, by omega⟩
      · rw [if_neg c] at e4
        simp only [c, decide_false, ↓W_some, ↓W_bind, ↓W_map, ↓w_var, ↓w_own, ↓w_cst, ↓w_tup, ↓w_ofL, ↓w_celL, ↓w_neg, ↓w_bin, ↓w_cmp, ↓w_chn, ↓w_nt, ↓w_an, ↓w_or, ↓w_ite, ↓w_idx, ↓w_slc, ↓w_call, ↓w_callK, ↓w_bi, ↓w_isi, ↓w_gall, ↓w_gany, ↓w_gsum, ↓w_gtup, ↓w_genF, ↓w_nil, ↓w_cons, ↓w_onone, ↓w_osome, ↓w_otnone, ↓w_otsome, ↓w_and1, ↓w_and, ↓w_or1, ↓w_orc, ↓w_tnt, ↓w_tan, ↓w_tor, ↓w_ta1, ↓w_ta, ↓w_to1, ↓w_to, ↓w_tcmp, ↓w_tchn, ↓w_tvar, ↓w_town, ↓w_tcst, ↓w_tidx, ↓w_tbin, ↓w_tslc, ↓w_tcall, ↓w_tcallK, ↓w_tbi, ↓w_tisi, ↓w_tgen, ↓w_disp, ↓w_comp, ↓w_list, ↓w_sorted, ↓w_seq, ↓w_rng1, ↓w_rng2, ↓w_enum, ↓w_zip, ↓w_rev, ↓w_set, ↓w_setL, ↓w_setD, ↓w_pat, ↓w_par2, ↓w_aug, ↓w_augI, ↓w_putI, ↓w_putO, ↓w_augO, ↓w_app, ↓w_expr, ↓w_ret, ↓w_retN, ↓w_iff, ↓w_whil, ↓w_forr, ↓w_brk, ↓w_cont, ↓w_pass, ↓w_frz, ↓w_snil, ↓w_scons, ↓bps_s, add_ii, add_tt, add_ll, sub_ii, lt_ii, le_ii, gt_ii, ge_ii, eq_ii, ne_ii, is_n, isnt_n, is_bb, isnt_bb, isNon_i, isNon_b, isNon_t, isNon_l, isNon_n, tru_b, tru_i, tru_t, tru_l, tru_n, len_t, len_l, len_s, len_d, bi_len, bi_abs, bi_int, bi_intb, bi_tupt, bi_tupl, bi_min, bi_max, bi_sum, it_t, it_l, it_s, li_l, list_t, list_l, list_s, sl_t, sl_l, sl_s, ty_ii, ty_ib, ty_in, ty_bi, ty_bb, ty_bn, bp_nm, bp_tt, bp_tl, bps_0, op_add, op_sub, op_mul, op_fdiv, op_mod, op_pow, cm_eq, cm_ne, cm_lt, cm_le, cm_gt, cm_ge, cm_is, cm_isnt, cm_in, cm_notin, cd_n, cd_b, cd_i, cd_s, wp_0, wp_s, oq_rt, oq_nx, ol_nx, ol_ct, ol_bk, ol_rt, mod_pos, fdiv_pos, mul_l, mul_r, varS_0, varS_s, lookS_0, lookS_s, ownS_0v, ownS_0, ownS_0d, ownS_s, setS_0, setS_s, set_0, set_s, deref_int, deref_bl, deref_non, deref_str, deref_tup, deref_lst, deref_scr, deref_dct, deref_ref0, isCell_ref0, restO_nx, restO_rt, restO_bk, restO_ct, szl, idx_tup0, idx_tup1, idx_tup2, idx_tup3, idx_tup4, idx_tup5, idx_tup6, idx_tup7, idx_tup8, idx_tup9, idx_lst0, idx_lst1, idx_lst2, idx_lst3, idx_lst4, idx_lst5, idx_lst6, idx_lst7, idx_lst8, idx_lst9, Int.reduceLT, Int.reduceLE, Int.reduceNeg, Int.reducePow, and_self, permD, List.getElem?_cons_zero, List.getElem?_cons_succ, Option.bind_some, Option.map_some, startS, List.map_cons, List.map_nil, List.replicate, List.cons_append, List.nil_append, List.append_nil, List.length_cons, List.length_nil, decide_eq_true_eq, Bool.not_eq_true', decide_eq_false_iff_not, Nat.reduceAdd, Nat.zero_add, Nat.reduceLeDiff, Nat.reduceLT, Nat.reduceSub, if_true, if_false, Bool.false_eq_true, ↓reduceIte, Df.fd]
        exact ⟨t, ms, _, by trivial, by trivial, by trivial, by omega⟩
  · rintro ρ h' ⟨t, ms, y, e1, e2, e3, e4⟩
    subst e1 e2
    cases ms with
    | cons _ _ => cases e3
    | nil =>
      simp only [↓W_some, ↓W_bind, ↓W_map, ↓w_var, ↓w_own, ↓w_cst, ↓w_tup, ↓w_ofL, ↓w_celL, ↓w_neg, ↓w_bin, ↓w_cmp, ↓w_chn, ↓w_nt, ↓w_an, ↓w_or, ↓w_ite, ↓w_idx, ↓w_slc, ↓w_call, ↓w_callK, ↓w_bi, ↓w_isi, ↓w_gall, ↓w_gany, ↓w_gsum, ↓w_gtup, ↓w_genF, ↓w_nil, ↓w_cons, ↓w_onone, ↓w_osome, ↓w_otnone, ↓w_otsome, ↓w_and1, ↓w_and, ↓w_or1, ↓w_orc, ↓w_tnt, ↓w_tan, ↓w_tor, ↓w_ta1, ↓w_ta, ↓w_to1, ↓w_to, ↓w_tcmp, ↓w_tchn, ↓w_tvar, ↓w_town, ↓w_tcst, ↓w_tidx, ↓w_tbin, ↓w_tslc, ↓w_tcall, ↓w_tcallK, ↓w_tbi, ↓w_tisi, ↓w_tgen, ↓w_disp, ↓w_comp, ↓w_list, ↓w_sorted, ↓w_seq, ↓w_rng1, ↓w_rng2, ↓w_enum, ↓w_zip, ↓w_rev, ↓w_set, ↓w_setL, ↓w_setD, ↓w_pat, ↓w_par2, ↓w_aug, ↓w_augI, ↓w_putI, ↓w_putO, ↓w_augO, ↓w_app, ↓w_expr, ↓w_ret, ↓w_retN, ↓w_iff, ↓w_whil, ↓w_forr, ↓w_brk, ↓w_cont, ↓w_pass, ↓w_frz, ↓w_snil, ↓w_scons, ↓bps_s, add_ii, add_tt, add_ll, sub_ii, lt_ii, le_ii, gt_ii, ge_ii, eq_ii, ne_ii, is_n, isnt_n, is_bb, isnt_bb, isNon_i, isNon_b, isNon_t, isNon_l, isNon_n, tru_b, tru_i, tru_t, tru_l, tru_n, len_t, len_l, len_s, len_d, bi_len, bi_abs, bi_int, bi_intb, bi_tupt, bi_tupl, bi_min, bi_max, bi_sum, it_t, it_l, it_s, li_l, list_t, list_l, list_s, sl_t, sl_l, sl_s, ty_ii, ty_ib, ty_in, ty_bi, ty_bb, ty_bn, bp_nm, bp_tt, bp_tl, bps_0, op_add, op_sub, op_mul, op_fdiv, op_mod, op_pow, cm_eq, cm_ne, cm_lt, cm_le, cm_gt, cm_ge, cm_is, cm_isnt, cm_in, cm_notin, cd_n, cd_b, cd_i, cd_s, wp_0, wp_s, oq_rt, oq_nx, ol_nx, ol_ct, ol_bk, ol_rt, mod_pos, fdiv_pos, mul_l, mul_r, varS_0, varS_s, lookS_0, lookS_s, ownS_0v, ownS_0, ownS_0d, ownS_s, setS_0, setS_s, set_0, set_s, deref_int, deref_bl, deref_non, deref_str, deref_tup, deref_lst, deref_scr, deref_dct, deref_ref0, isCell_ref0, restO_nx, restO_rt, restO_bk, restO_ct, szl, idx_tup0, idx_tup1, idx_tup2, idx_tup3, idx_tup4, idx_tup5, idx_tup6, idx_tup7, idx_tup8, idx_tup9, idx_lst0, idx_lst1, idx_lst2, idx_lst3, idx_lst4, idx_lst5, idx_lst6, idx_lst7, idx_lst8, idx_lst9, Int.reduceLT, Int.reduceLE, Int.reduceNeg, Int.reducePow, and_self, permD, List.getElem?_cons_zero, List.getElem?_cons_succ, Option.bind_some, Option.map_some, startS, List.map_cons, List.map_nil, List.replicate, List.cons_append, List.nil_append, List.append_nil, List.length_cons, List.length_nil, decide_eq_true_eq, Bool.not_eq_true', decide_eq_false_iff_not, Nat.reduceAdd, Nat.zero_add, Nat.reduceLeDiff, Nat.reduceLT, Nat.reduceSub, if_true, if_false, Bool.false_eq_true, ↓reduceIte, Df.fd]
      have e : t = val b ns m := by unfold cnt at e4; omega
      rw [e]
      exact q
theorem ones (k : Nat) : intsD (List.replicate k (D.int 1)) = some (List.replicate k 1) := by
  induction k with
  | zero => rfl
  | succ k ih =>
    rw [List.replicate_succ, List.replicate_succ]
    show (intsD (List.replicate k (D.int 1))).map _ = _
    rw [ih]; rfl
theorem ones_sum (k : Nat) : (List.replicate k (1 : Int)).sum = k := by
  induction k with
  | zero => rfl
  | succ k ih => rw [List.replicate_succ, List.sum_cons, ih]; omega
theorem valueat_W (hl : ns.length ≤ 1000000) (q : Q (.int (val b ns m), h)) : W (call T (n + 1) 0 [tabD b ns, .int m] h) Q := by
  refine W_call (f := f_value_at.fd) rfl rfl ?_
  simp only [f_value_at, b0, tabD, ↓W_some, ↓W_bind, ↓W_map, ↓w_var, ↓w_own, ↓w_cst, ↓w_tup, ↓w_ofL, ↓w_celL, ↓w_neg, ↓w_bin, ↓w_cmp, ↓w_chn, ↓w_nt, ↓w_an, ↓w_or, ↓w_ite, ↓w_idx, ↓w_slc, ↓w_call, ↓w_callK, ↓w_bi, ↓w_isi, ↓w_gall, ↓w_gany, ↓w_gsum, ↓w_gtup, ↓w_genF, ↓w_nil, ↓w_cons, ↓w_onone, ↓w_osome, ↓w_otnone, ↓w_otsome, ↓w_and1, ↓w_and, ↓w_or1, ↓w_orc, ↓w_tnt, ↓w_tan, ↓w_tor, ↓w_ta1, ↓w_ta, ↓w_to1, ↓w_to, ↓w_tcmp, ↓w_tchn, ↓w_tvar, ↓w_town, ↓w_tcst, ↓w_tidx, ↓w_tbin, ↓w_tslc, ↓w_tcall, ↓w_tcallK, ↓w_tbi, ↓w_tisi, ↓w_tgen, ↓w_disp, ↓w_comp, ↓w_list, ↓w_sorted, ↓w_seq, ↓w_rng1, ↓w_rng2, ↓w_enum, ↓w_zip, ↓w_rev, ↓w_set, ↓w_setL, ↓w_setD, ↓w_pat, ↓w_par2, ↓w_aug, ↓w_augI, ↓w_putI, ↓w_putO, ↓w_augO, ↓w_app, ↓w_expr, ↓w_ret, ↓w_retN, ↓w_iff, ↓w_whil, ↓w_forr, ↓w_brk, ↓w_cont, ↓w_pass, ↓w_frz, ↓w_snil, ↓w_scons, ↓bps_s, add_ii, add_tt, add_ll, sub_ii, lt_ii, le_ii, gt_ii, ge_ii, eq_ii, ne_ii, is_n, isnt_n, is_bb, isnt_bb, isNon_i, isNon_b, isNon_t, isNon_l, isNon_n, tru_b, tru_i, tru_t, tru_l, tru_n, len_t, len_l, len_s, len_d, bi_len, bi_abs, bi_int, bi_intb, bi_tupt, bi_tupl, bi_min, bi_max, bi_sum, it_t, it_l, it_s, li_l, list_t, list_l, list_s, sl_t, sl_l, sl_s, ty_ii, ty_ib, ty_in, ty_bi, ty_bb, ty_bn, bp_nm, bp_tt, bp_tl, bps_0, op_add, op_sub, op_mul, op_fdiv, op_mod, op_pow, cm_eq, cm_ne, cm_lt, cm_le, cm_gt, cm_ge, cm_is, cm_isnt, cm_in, cm_notin, cd_n, cd_b, cd_i, cd_s, wp_0, wp_s, oq_rt, oq_nx, ol_nx, ol_ct, ol_bk, ol_rt, mod_pos, fdiv_pos, mul_l, mul_r, varS_0, varS_s, lookS_0, lookS_s, ownS_0v, ownS_0, ownS_0d, ownS_s, setS_0, setS_s, set_0, set_s, deref_int, deref_bl, deref_non, deref_str, deref_tup, deref_lst, deref_scr, deref_dct, deref_ref0, isCell_ref0, restO_nx, restO_rt, restO_bk, restO_ct, szl, idx_tup0, idx_tup1, idx_tup2, idx_tup3, idx_tup4, idx_tup5, idx_tup6, idx_tup7, idx_tup8, idx_tup9, idx_lst0, idx_lst1, idx_lst2, idx_lst3, idx_lst4, idx_lst5, idx_lst6, idx_lst7, idx_lst8, idx_lst9, Int.reduceLT, Int.reduceLE, Int.reduceNeg, Int.reducePow, and_self, permD, List.getElem?_cons_zero, List.getElem?_cons_succ, Option.bind_some, Option.map_some, startS, List.map_cons, List.map_nil, List.replicate, List.cons_append, List.nil_append, List.append_nil, List.length_cons, List.length_nil, decide_eq_true_eq, Bool.not_eq_true', decide_eq_false_iff_not, Nat.reduceAdd, Nat.zero_add, Nat.reduceLeDiff, Nat.reduceLT, Nat.reduceSub, if_true, if_false, Bool.false_eq_true, ↓reduceIte, Df.fd]
  refine W_compL (fun r acc h' => ∃ k ms, h' = h ∧ acc = List.replicate k (.int 1) ∧ r = ms.map .int ∧ (k : Int) + cnt m ms = cnt m ns) ?_ ?_ (by simp only [List.length_map, List.length_nil, szl]; omega) ⟨0, ns, rfl, rfl, rfl, by omega⟩
  · rintro x r acc h' ⟨k, ms, e1, e2, e3, e4⟩
    subst e1 e2
    cases ms with
    | nil => cases e3
    | cons j ms =>
      cases e3
      rw [cnt_cons] at e4
      by_cases c : j ≤ m
      · rw [if_pos c] at e4
        simp only [c, decide_true, ↓W_some, ↓W_bind, ↓W_map, ↓w_var, ↓w_own, ↓w_cst, ↓w_tup, ↓w_ofL, ↓w_celL, ↓w_neg, ↓w_bin, ↓w_cmp, ↓w_chn, ↓w_nt, ↓w_an, ↓w_or, ↓w_ite, ↓w_idx, ↓w_slc, ↓w_call, ↓w_callK, ↓w_bi, ↓w_isi, ↓w_gall, ↓w_gany, ↓w_gsum, ↓w_gtup, ↓w_genF, ↓w_nil, ↓w_cons, ↓w_onone, ↓w_osome, ↓w_otnone, ↓w_otsome, ↓w_and1, ↓w_and, ↓w_or1, ↓w_orc, ↓w_tnt, ↓w_tan, ↓w_tor, ↓w_ta1, ↓w_ta, ↓w_to1, ↓w_to, ↓w_tcmp, ↓w_tchn, ↓w_tvar, ↓w_town, ↓w_tcst, ↓w_tidx, ↓w_tbin, ↓w_tslc, ↓w_tcall, ↓w_tcallK, ↓w_tbi, ↓w_tisi, ↓w_tgen, ↓w_disp, ↓w_comp, ↓w_list, ↓w_sorted, ↓w_seq, ↓w_rng1, ↓w_rng2, ↓w_enum, ↓w_zip, ↓w_rev, ↓w_set, ↓w_setL, ↓w_setD, ↓w_pat, ↓w_par2, ↓w_aug, ↓w_augI, ↓w_putI, ↓w_putO, ↓w_augO, ↓w_app, ↓w_expr, ↓w_ret, ↓w_retN, ↓w_iff, ↓w_whil, ↓w_forr, ↓w_brk, ↓w_cont, ↓w_pass, ↓w_frz, ↓w_snil, ↓w_scons, ↓bps_s, add_ii, add_tt, add_ll, sub_ii, lt_ii, le_ii, gt_ii, ge_ii, eq_ii, ne_ii, is_n, isnt_n, is_bb, isnt_bb, isNon_i, isNon_b, isNon_t, isNon_l, isNon_n, tru_b, tru_i, tru_t, tru_l, tru_n, len_t, len_l, len_s, len_d, bi_len, bi_abs, bi_int, bi_intb, bi_tupt, bi_tupl, bi_min, bi_max, bi_sum, it_t, it_l, it_s, li_l, list_t, list_l, list_s, sl_t, sl_l, sl_s, ty_ii, ty_ib, ty_in, ty_bi, ty_bb, ty_bn, bp_nm, bp_tt, bp_tl, bps_0, op_add, op_sub, op_mul, op_fdiv, op_mod, op_pow, cm_eq, cm_ne, cm_lt, cm_le, cm_gt, cm_ge, cm_is, cm_isnt, cm_in, cm_notin, cd_n, cd_b, cd_i, cd_s, wp_0, wp_s, oq_rt, oq_nx, ol_nx, ol_ct, ol_bk, ol_rt, mod_pos, fdiv_pos, mul_l, mul_r, varS_0, varS_s, lookS_0, lookS_s, ownS_0v, ownS_0, ownS_0d, ownS_s, setS_0, setS_s, set_0, set_s, deref_int, deref_bl, deref_non, deref_str, deref_tup, deref_lst, deref_scr, deref_dct, deref_ref0, isCell_ref0, restO_nx, restO_rt, restO_bk, restO_ct, szl, idx_tup0, idx_tup1, idx_tup2, idx_tup3, idx_tup4, idx_tup5, idx_tup6, idx_tup7, idx_tup8, idx_tup9, idx_lst0, idx_lst1, idx_lst2, idx_lst3, idx_lst4, idx_lst5, idx_lst6, idx_lst7, idx_lst8, idx_lst9, Int.reduceLT, Int.reduceLE, Int.reduceNeg, Int.reducePow, and_self, permD, List.getElem?_cons_zero, List.getElem?_cons_succ, Option.bind_some, Option.map_some, startS, List.map_cons, List.map_nil, List.replicate, List.cons_append, List.nil_append, List.append_nil, List.length_cons, List.length_nil, decide_eq_true_eq, Bool.not_eq_true', decide_eq_false_iff_not, Nat.reduceAdd, Nat.zero_add, Nat.reduceLeDiff, Nat.reduceLT, Nat.reduceSub, if_true, if_false, Bool.false_eq_true, ↓reduceIte, Df.fd]
        exact ⟨k + 1, ms, by trivial, by rw [List.replicate_succ'], by trivial, by omega⟩
      · rw [if_neg c] at e4
        simp only [c, decide_false, ↓W_some, ↓W_bind, ↓W_map, ↓w_var, ↓w_own, ↓w_cst, ↓w_tup, ↓w_ofL, ↓w_celL, ↓w_neg, ↓w_bin, ↓w_cmp, ↓w_chn, ↓w_nt, ↓w_an, ↓w_or, ↓w_ite, ↓w_idx, ↓w_slc, ↓w_call, ↓w_callK, ↓w_bi, ↓w_isi, ↓w_gall, ↓w_gany, ↓w_gsum, ↓w_gtup, ↓w_genF, ↓w_nil, ↓w_cons, ↓w_onone, ↓w_osome, ↓w_otnone, ↓w_otsome, ↓w_and1, ↓w_and, ↓w_or1, ↓w_orc, ↓w_tnt, ↓w_tan, ↓w_tor, ↓w_ta1, ↓w_ta, ↓w_to1, ↓w_to, ↓w_tcmp, ↓w_tchn, ↓w_tvar, ↓w_town, ↓w_tcst, ↓w_tidx, ↓w_tbin, ↓w_tslc, ↓w_tcall, ↓w_tcallK, ↓w_tbi, ↓w_tisi, ↓w_tgen, ↓w_disp, ↓w_comp, ↓w_list, ↓w_sorted, ↓w_seq, ↓w_rng1, ↓w_rng2, ↓w_enum, ↓w_zip, ↓w_rev, ↓w_set, ↓w_setL, ↓w_setD, ↓w_pat, ↓w_par2, ↓w_aug, ↓w_augI, ↓w_putI, ↓w_putO, ↓w_augO, ↓w_app, ↓w_expr, ↓w_ret, ↓w_retN, ↓w_iff, ↓w_whil, ↓w_forr, ↓w_brk, ↓w_cont, ↓w_pass, ↓w_frz, ↓w_snil, ↓w_scons, ↓bps_s, add_ii, add_tt, add_ll, sub_ii, lt_ii, le_ii, gt_ii, ge_ii, eq_ii, ne_ii, is_n, isnt_n, is_bb, isnt_bb, isNon_i, isNon_b, isNon_t, isNon_l, isNon_n, tru_b, tru_i, tru_t, tru_l, tru_n, len_t, len_l, len_s, len_d, bi_len, bi_abs, bi_int, bi_intb, bi_tupt, bi_tupl, bi_min, bi_max, bi_sum, it_t, it_l, it_s, li_l, list_t, list_l, list_s, sl_t, sl_l, sl_s, ty_ii, ty_ib, ty_in, ty_bi, ty_bb, ty_bn, bp_nm, bp_tt, bp_tl, bps_0, op_add, op_sub, op_mul, op_fdiv, op_mod, op_pow, cm_eq, cm_ne, cm_lt, cm_le, cm_gt, cm_ge, cm_is, cm_isnt, cm_in, cm_notin, cd_n, cd_b, cd_i, cd_s, wp_0, wp_s, oq_rt, oq_nx, ol_nx, ol_ct, ol_bk, ol_rt, mod_pos, fdiv_pos, mul_l, mul_r, varS_0, varS_s, lookS_0, lookS_s, ownS_0v, ownS_0, ownS_0d, ownS_s, setS_0, setS_s, set_0, set_s, deref_int, deref_bl, deref_non, deref_str, deref_tup, deref_lst, deref_scr, deref_dct, deref_ref0, isCell_ref0, restO_nx, restO_rt, restO_bk, restO_ct, szl, idx_tup0, idx_tup1, idx_tup2, idx_tup3, idx_tup4, idx_tup5, idx_tup6, idx_tup7, idx_tup8, idx_tup9, idx_lst0, idx_lst1, idx_lst2, idx_lst3, idx_lst4, idx_lst5, idx_lst6, idx_lst7, idx_lst8, idx_lst9, Int.reduceLT, Int.reduceLE, Int.reduceNeg, Int.reducePow, and_self, permD, List.getElem?_cons_zero, List.getElem?_cons_succ, Option.bind_some, Option.map_some, startS, List.map_cons, List.map_nil, List.replicate, List.cons_append, List.nil_append, List.append_nil, List.length_cons, List.length_nil, decide_eq_true_eq, Bool.not_eq_true', decide_eq_false_iff_not, Nat.reduceAdd, Nat.zero_add, Nat.reduceLeDiff, Nat.reduceLT, Nat.reduceSub, if_true, if_false, Bool.false_eq_true, ↓reduceIte, Df.fd]
        exact ⟨k, ms, by trivial, by trivial, by trivial, by omega⟩
  · rintro acc h' ⟨k, ms, e1, e2, e3, e4⟩
    subst e1 e2
    cases ms with
    | cons _ _ => cases e3
    | nil =>
      simp only [ones, ones_sum, ↓W_some, ↓W_bind, ↓W_map, ↓w_var, ↓w_own, ↓w_cst, ↓w_tup, ↓w_ofL, ↓w_celL, ↓w_neg, ↓w_bin, ↓w_cmp, ↓w_chn, ↓w_nt, ↓w_an, ↓w_or, ↓w_ite, ↓w_idx, ↓w_slc, ↓w_call, ↓w_callK, ↓w_bi, ↓w_isi, ↓w_gall, ↓w_gany, ↓w_gsum, ↓w_gtup, ↓w_genF, ↓w_nil, ↓w_cons, ↓w_onone, ↓w_osome, ↓w_otnone, ↓w_otsome, ↓w_and1, ↓w_and, ↓w_or1, ↓w_orc, ↓w_tnt, ↓w_tan, ↓w_tor, ↓w_ta1, ↓w_ta, ↓w_to1, ↓w_to, ↓w_tcmp, ↓w_tchn, ↓w_tvar, ↓w_town, ↓w_tcst, ↓w_tidx, ↓w_tbin, ↓w_tslc, ↓w_tcall, ↓w_tcallK, ↓w_tbi, ↓w_tisi, ↓w_tgen, ↓w_disp, ↓w_comp, ↓w_list, ↓w_sorted, ↓w_seq, ↓w_rng1, ↓w_rng2, ↓w_enum, ↓w_zip, ↓w_rev, ↓w_set, ↓w_setL, ↓w_setD, ↓w_pat, ↓w_par2, ↓w_aug, ↓w_augI, ↓w_putI, ↓w_putO, ↓w_augO, ↓w_app, ↓w_expr, ↓w_ret, ↓w_retN, ↓w_iff, ↓w_whil, ↓w_forr, ↓w_brk, ↓w_cont, ↓w_pass, ↓w_frz, ↓w_snil, ↓w_scons, ↓bps_s, add_ii, add_tt, add_ll, sub_ii, lt_ii, le_ii, gt_ii, ge_ii, eq_ii, ne_ii, is_n, isnt_n, is_bb, isnt_bb, isNon_i, isNon_b, isNon_t, isNon_l, isNon_n, tru_b, tru_i, tru_t, tru_l, tru_n, len_t, len_l, len_s, len_d, bi_len, bi_abs, bi_int, bi_intb, bi_tupt, bi_tupl, bi_min, bi_max, bi_sum, it_t, it_l, it_s, li_l, list_t, list_l, list_s, sl_t, sl_l, sl_s, ty_ii, ty_ib, ty_in, ty_bi, ty_bb, ty_bn, bp_nm, bp_tt, bp_tl, bps_0, op_add, op_sub, op_mul, op_fdiv, op_mod, op_pow, cm_eq, cm_ne, cm_lt, cm_le, cm_gt, cm_ge, cm_is, cm_isnt, cm_in, cm_notin, cd_n, cd_b, cd_i, cd_s, wp_0, wp_s, oq_rt, oq_nx, ol_nx, ol_ct, ol_bk, ol_rt, mod_pos, fdiv_pos, mul_l, mul_r, varS_0, varS_s, lookS_0, lookS_s, ownS_0v, ownS_0, ownS_0d, ownS_s, setS_0, setS_s, set_0, set_s, deref_int, deref_bl, deref_non, deref_str, deref_tup, deref_lst, deref_scr, deref_dct, deref_ref0, isCell_ref0, restO_nx, restO_rt, restO_bk, restO_ct, szl, idx_tup0, idx_tup1, idx_tup2, idx_tup3, idx_tup4, idx_tup5, idx_tup6, idx_tup7, idx_tup8, idx_tup9, idx_lst0, idx_lst1, idx_lst2, idx_lst3, idx_lst4, idx_lst5, idx_lst6, idx_lst7, idx_lst8, idx_lst9, Int.reduceLT, Int.reduceLE, Int.reduceNeg, Int.reducePow, and_self, permD, List.getElem?_cons_zero, List.getElem?_cons_succ, Option.bind_some, Option.map_some, startS, List.map_cons, List.map_nil, List.replicate, List.cons_append, List.nil_append, List.append_nil, List.length_cons, List.length_nil, decide_eq_true_eq, Bool.not_eq_true', decide_eq_false_iff_not, Nat.reduceAdd, Nat.zero_add, Nat.reduceLeDiff, Nat.reduceLT, Nat.reduceSub, if_true, if_false, Bool.false_eq_true, ↓reduceIte, Df.fd]
      have e : b + (k : Int) = val b ns m := by rw [cnt_nil] at e4; unfold val; omega
      rw [e]
      exact q
theorem is_int {a : Int} (q : Q (.bl true, h)) : W (call T (n + 1) 15 [.int a, .int a] h) Q := by
  refine W_call (f := f_law_is.fd) rfl rfl ?_
  simp only [f_law_is, b15, decide_true, Bool.not_false, ↓W_some, ↓W_bind, ↓W_map, ↓w_var, ↓w_own, ↓w_cst, ↓w_tup, ↓w_ofL, ↓w_celL, ↓w_neg, ↓w_bin, ↓w_cmp, ↓w_chn, ↓w_nt, ↓w_an, ↓w_or, ↓w_ite, ↓w_idx, ↓w_slc, ↓w_call, ↓w_callK, ↓w_bi, ↓w_isi, ↓w_gall, ↓w_gany, ↓w_gsum, ↓w_gtup, ↓w_genF, ↓w_nil, ↓w_cons, ↓w_onone, ↓w_osome, ↓w_otnone, ↓w_otsome, ↓w_and1, ↓w_and, ↓w_or1, ↓w_orc, ↓w_tnt, ↓w_tan, ↓w_tor, ↓w_ta1, ↓w_ta, ↓w_to1, ↓w_to, ↓w_tcmp, ↓w_tchn, ↓w_tvar, ↓w_town, ↓w_tcst, ↓w_tidx, ↓w_tbin, ↓w_tslc, ↓w_tcall, ↓w_tcallK, ↓w_tbi, ↓w_tisi, ↓w_tgen, ↓w_disp, ↓w_comp, ↓w_list, ↓w_sorted, ↓w_seq, ↓w_rng1, ↓w_rng2, ↓w_enum, ↓w_zip, ↓w_rev, ↓w_set, ↓w_setL, ↓w_setD, ↓w_pat, ↓w_par2, ↓w_aug, ↓w_augI, ↓w_putI, ↓w_putO, ↓w_augO, ↓w_app, ↓w_expr, ↓w_ret, ↓w_retN, ↓w_iff, ↓w_whil, ↓w_forr, ↓w_brk, ↓w_cont, ↓w_pass, ↓w_frz, ↓w_snil, ↓w_scons, ↓bps_s, add_ii, add_tt, add_ll, sub_ii, lt_ii, le_ii, gt_ii, ge_ii, eq_ii, ne_ii, is_n, isnt_n, is_bb, isnt_bb, isNon_i, isNon_b, isNon_t, isNon_l, isNon_n, tru_b, tru_i, tru_t, tru_l, tru_n, len_t, len_l, len_s, len_d, bi_len, bi_abs, bi_int, bi_intb, bi_tupt, bi_tupl, bi_min, bi_max, bi_sum, it_t, it_l, it_s, li_l, list_t, list_l, list_s, sl_t, sl_l, sl_s, ty_ii, ty_ib, ty_in, ty_bi, ty_bb, ty_bn, bp_nm, bp_tt, bp_tl, bps_0, op_add, op_sub, op_mul, op_fdiv, op_mod, op_pow, cm_eq, cm_ne, cm_lt, cm_le, cm_gt, cm_ge, cm_is, cm_isnt, cm_in, cm_notin, cd_n, cd_b, cd_i, cd_s, wp_0, wp_s, oq_rt, oq_nx, ol_nx, ol_ct, ol_bk, ol_rt, mod_pos, fdiv_pos, mul_l, mul_r, varS_0, varS_s, lookS_0, lookS_s, ownS_0v, ownS_0, ownS_0d, ownS_s, setS_0, setS_s, set_0, set_s, deref_int, deref_bl, deref_non, deref_str, deref_tup, deref_lst, deref_scr, deref_dct, deref_ref0, isCell_ref0, restO_nx, restO_rt, restO_bk, restO_ct, szl, idx_tup0, idx_tup1, idx_tup2, idx_tup3, idx_tup4, idx_tup5, idx_tup6, idx_tup7, idx_tup8, idx_tup9, idx_lst0, idx_lst1, idx_lst2, idx_lst3, idx_lst4, idx_lst5, idx_lst6, idx_lst7, idx_lst8, idx_lst9, Int.reduceLT, Int.reduceLE, Int.reduceNeg, Int.reducePow, and_self, permD, List.getElem?_cons_zero, List.getElem?_cons_succ, Option.bind_some, Option.map_some, startS, List.map_cons, List.map_nil, List.replicate, List.cons_append, List.nil_append, List.append_nil, List.length_cons, List.length_nil, decide_eq_true_eq, Bool.not_eq_true', decide_eq_false_iff_not, Nat.reduceAdd, Nat.zero_add, Nat.reduceLeDiff, Nat.reduceLT, Nat.reduceSub, if_true, if_false, Bool.false_eq_true, ↓reduceIte, Df.fd]
  exact q
theorem is_non (q : Q (.bl true, h)) : W (call T (n + 1) 15 [.non, .non] h) Q := by
  refine W_call (f := f_law_is.fd) rfl rfl ?_
  simp only [f_law_is, b15, ↓W_some, ↓W_bind, ↓W_map, ↓w_var, ↓w_own, ↓w_cst, ↓w_tup, ↓w_ofL, ↓w_celL, ↓w_neg, ↓w_bin, ↓w_cmp, ↓w_chn, ↓w_nt, ↓w_an, ↓w_or, ↓w_ite, ↓w_idx, ↓w_slc, ↓w_call, ↓w_callK, ↓w_bi, ↓w_isi, ↓w_gall, ↓w_gany, ↓w_gsum, ↓w_gtup, ↓w_genF, ↓w_nil, ↓w_cons, ↓w_onone, ↓w_osome, ↓w_otnone, ↓w_otsome, ↓w_and1, ↓w_and, ↓w_or1, ↓w_orc, ↓w_tnt, ↓w_tan, ↓w_tor, ↓w_ta1, ↓w_ta, ↓w_to1, ↓w_to, ↓w_tcmp, ↓w_tchn, ↓w_tvar, ↓w_town, ↓w_tcst, ↓w_tidx, ↓w_tbin, ↓w_tslc, ↓w_tcall, ↓w_tcallK, ↓w_tbi, ↓w_tisi, ↓w_tgen, ↓w_disp, ↓w_comp, ↓w_list, ↓w_sorted, ↓w_seq, ↓w_rng1, ↓w_rng2, ↓w_enum, ↓w_zip, ↓w_rev, ↓w_set, ↓w_setL, ↓w_setD, ↓w_pat, ↓w_par2, ↓w_aug, ↓w_augI, ↓w_putI, ↓w_putO, ↓w_augO, ↓w_app, ↓w_expr, ↓w_ret, ↓w_retN, ↓w_iff, ↓w_whil, ↓w_forr, ↓w_brk, ↓w_cont, ↓w_pass, ↓w_frz, ↓w_snil, ↓w_scons, ↓bps_s, add_ii, add_tt, add_ll, sub_ii, lt_ii, le_ii, gt_ii, ge_ii, eq_ii, ne_ii, is_n, isnt_n, is_bb, isnt_bb, isNon_i, isNon_b, isNon_t, isNon_l, isNon_n, tru_b, tru_i, tru_t, tru_l, tru_n, len_t, len_l, len_s, len_d, bi_len, bi_abs, bi_int, bi_intb, bi_tupt, bi_tupl, bi_min, bi_max, bi_sum, it_t, it_l, it_s, li_l, list_t, list_l, list_s, sl_t, sl_l, sl_s, ty_ii, ty_ib, ty_in, ty_bi, ty_bb, ty_bn, bp_nm, bp_tt, bp_tl, bps_0, op_add, op_sub, op_mul, op_fdiv, op_mod, op_pow, cm_eq, cm_ne, cm_lt, cm_le, cm_gt, cm_ge, cm_is, cm_isnt, cm_in, cm_notin, cd_n, cd_b, cd_i, cd_s, wp_0, wp_s, oq_rt, oq_nx, ol_nx, ol_ct, ol_bk, ol_rt, mod_pos, fdiv_pos, mul_l, mul_r, varS_0, varS_s, lookS_0, lookS_s, ownS_0v, ownS_0, ownS_0d, ownS_s, setS_0, setS_s, set_0, set_s, deref_int, deref_bl, deref_non, deref_str, deref_tup, deref_lst, deref_scr, deref_dct, deref_ref0, isCell_ref0, restO_nx, restO_rt, restO_bk, restO_ct, szl, idx_tup0, idx_tup1, idx_tup2, idx_tup3, idx_tup4, idx_tup5, idx_tup6, idx_tup7, idx_tup8, idx_tup9, idx_lst0, idx_lst1, idx_lst2, idx_lst3, idx_lst4, idx_lst5, idx_lst6, idx_lst7, idx_lst8, idx_lst9, Int.reduceLT, Int.reduceLE, Int.reduceNeg, Int.reducePow, and_self, permD, List.getElem?_cons_zero, List.getElem?_cons_succ, Option.bind_some, Option.map_some, startS, List.map_cons, List.map_nil, List.replicate, List.cons_append, List.nil_append, List.append_nil, List.length_cons, List.length_nil, decide_eq_true_eq, Bool.not_eq_true', decide_eq_false_iff_not, Nat.reduceAdd, Nat.zero_add, Nat.reduceLeDiff, Nat.reduceLT, Nat.reduceSub, if_true, if_false, Bool.false_eq_true, ↓reduceIte, Df.fd]
  exact q
end
end PI.K01

set_option Elab.async false
set_option linter.all false
set_option maxRecDepth 100000
set_option maxHeartbeats 4000000
set_option autoImplicit false
namespace PI.K01
open PySem PySem.Spec PyProof.Rows L2 PI
section
variable {n : Nat} {h : PH} {Q : D × PH → Prop} {b mass fuel : Int} {ns : List Int}
/-- the units to spare, as an answer -/
def SpR (b : Int) (ns : List Int) (mass fuel : Int) (d : D) : Prop := (d = .non ∧ ∀ k, 0 ≤ k → k ≤ fuel → ¬ val b ns (mass - k) ≤ fuel - k) ∨ ∃ k, d = .int k ∧ 0 ≤ k ∧ k ≤ fuel ∧ val b ns (mass - k) ≤ fuel - k ∧ ∀ j, k < j → j ≤ fuel → ¬ val b ns (mass - j) ≤ fuel - j
theorem spr_same {d e : D} (p : SpR b ns mass fuel d) (q : SpR b ns mass fuel e) : d = e := by
  rcases p with ⟨rfl, p⟩ | ⟨k, rfl, p1, p2, p3, p4⟩ <;> rcases q with ⟨rfl, q⟩ | ⟨j, rfl, q1, q2, q3, q4⟩
  · rfl
  · exact absurd q3 (p j q1 q2)
  · exact absurd p3 (q k p1 p2)
  · by_cases c : k = j
    · rw [c]
    · by_cases c2 : k < j
      · exact absurd q3 (p4 j c2 q2)
      · exact absurd p3 (q4 k (by omega) p2)
theorem is_spr {d : D} (p : SpR b ns mass fuel d) (q : Q (.bl true, h)) : W (call T (n + 1) 15 [d, d] h) Q := by
  rcases p with ⟨rfl, _⟩ | ⟨k, rfl, _⟩
  · exact is_non q
  · exact is_int q
/-- a mode with this reserve -/
def ModeR (d : D) (b : Int) (ns : List Int) : Prop := ∃ p l s r f, d = .tup [p, l, s, tabD b ns, r, f]
theorem lawspare_W {e g t x y : D} {ms : List D} {mode : Int} {md : D} (hm : idxD (.tup ms) (.int mode) = some md) (hr : ModeR md b ns) (f0 : 0 ≤ fuel) (f1 : fuel ≤ 1000) (q : ∀ d, SpR b ns mass fuel d → Q (d, h)) : W (call T (n + 2) 14 [.tup [e, g, t, .tup ms, x], .int mode, .int mass, .int fuel] h) Q := by
  obtain ⟨p, l, s, r, f, rfl⟩ := hr
  refine W_call (f := f_law_spare.fd) rfl rfl ?_
  simp only [f_law_spare, b14, small_of (show 0 ≤ fuel + 1 by omega) (by omega), ↓W_some, ↓W_bind, ↓W_map, ↓w_var, ↓w_own, ↓w_cst, ↓w_tup, ↓w_ofL, ↓w_celL, ↓w_neg, ↓w_bin, ↓w_cmp, ↓w_chn, ↓w_nt, ↓w_an, ↓w_or, ↓w_ite, ↓w_idx, ↓w_slc, ↓w_call, ↓w_callK, ↓w_bi, ↓w_isi, ↓w_gall, ↓w_gany, ↓w_gsum, ↓w_gtup, ↓w_genF, ↓w_nil, ↓w_cons, ↓w_onone, ↓w_osome, ↓w_otnone, ↓w_otsome, ↓w_and1, ↓w_and, ↓w_or1, ↓w_orc, ↓w_tnt, ↓w_tan, ↓w_tor, ↓w_ta1, ↓w_ta, ↓w_to1, ↓w_to, ↓w_tcmp, ↓w_tchn, ↓w_tvar, ↓w_town, ↓w_tcst, ↓w_tidx, ↓w_tbin, ↓w_tslc, ↓w_tcall, ↓w_tcallK, ↓w_tbi, ↓w_tisi, ↓w_tgen, ↓w_disp, ↓w_comp, ↓w_list, ↓w_sorted, ↓w_seq, ↓w_rng1, ↓w_rng2, ↓w_enum, ↓w_zip, ↓w_rev, ↓w_set, ↓w_setL, ↓w_setD, ↓w_pat, ↓w_par2, ↓w_aug, ↓w_augI, ↓w_putI, ↓w_putO, ↓w_augO, ↓w_app, ↓w_expr, ↓w_ret, ↓w_retN, ↓w_iff, ↓w_whil, ↓w_forr, ↓w_brk, ↓w_cont, ↓w_pass, ↓w_frz, ↓w_snil, ↓w_scons, ↓bps_s, add_ii, add_tt, add_ll, sub_ii, lt_ii, le_ii, gt_ii, ge_ii, eq_ii, ne_ii, is_n, isnt_n, is_bb, isnt_bb, isNon_i, isNon_b, isNon_t, isNon_l, isNon_n, tru_b, tru_i, tru_t, tru_l, tru_n, len_t, len_l, len_s, len_d, bi_len, bi_abs, bi_int, bi_intb, bi_tupt, bi_tupl, bi_min, bi_max, bi_sum, it_t, it_l, it_s, li_l, list_t, list_l, list_s, sl_t, sl_l, sl_s, ty_ii, ty_ib, ty_in, ty_bi, ty_bb, ty_bn, bp_nm, bp_tt, bp_tl, bps_0, op_add, op_sub, op_mul, op_fdiv, op_mod, op_pow, cm_eq, cm_ne, cm_lt, cm_le, cm_gt, cm_ge, cm_is, cm_isnt, cm_in, cm_notin, cd_n, cd_b, cd_i, cd_s, wp_0, wp_s, oq_rt, oq_nx, ol_nx, ol_ct, ol_bk, ol_rt, mod_pos, fdiv_pos, mul_l, mul_r, varS_0, varS_s, lookS_0, lookS_s, ownS_0v, ownS_0, ownS_0d, ownS_s, setS_0, setS_s, set_0, set_s, deref_int, deref_bl, deref_non, deref_str, deref_tup, deref_lst, deref_scr, deref_dct, deref_ref0, isCell_ref0, restO_nx, restO_rt, restO_bk, restO_ct, szl, idx_tup0, idx_tup1, idx_tup2, idx_tup3, idx_tup4, idx_tup5, idx_tup6, idx_tup7, idx_tup8, idx_tup9, idx_lst0, idx_lst1, idx_lst2, idx_lst3, idx_lst4, idx_lst5, idx_lst6, idx_lst7, idx_lst8, idx_lst9, Int.reduceLT, Int.reduceLE, Int.reduceNeg, Int.reducePow, and_self, permD, List.getElem?_cons_zero, List.getElem?_cons_succ, Option.bind_some, Option.map_some, startS, List.map_cons, List.map_nil, List.replicate, List.cons_append, List.nil_append, List.append_nil, List.length_cons, List.length_nil, decide_eq_true_eq, Bool.not_eq_true', decide_eq_false_iff_not, Nat.reduceAdd, Nat.zero_add, Nat.reduceLeDiff, Nat.reduceLT, Nat.reduceSub, if_true, if_false, Bool.false_eq_true, ↓reduceIte, Df.fd]
  refine W_forS (fun rr ρ h' => ∃ j d z, h' = h ∧ ρ = [some (.val (.tup [e, g, t, .tup ms, x])), some (.val (.int mode)), some (.val (.int mass)), some (.val (.int fuel)), some (.val d), z] ∧ rr = (List.range' j ((fuel + 1).toNat - j)).map (fun i => D.int (i : Nat)) ∧ j ≤ (fuel + 1).toNat ∧ ((d = .non ∧ ∀ k : Int, 0 ≤ k → k < j → ¬ val b ns (mass - k) ≤ fuel - k) ∨ ∃ k : Int, d = .int k ∧ 0 ≤ k ∧ k < j ∧ val b ns (mass - k) ≤ fuel - k ∧ ∀ i : Int, k < i → i < j → ¬ val b ns (mass - i) ≤ fuel - i)) ?_ ?_ ⟨0, .non, none, rfl, by trivial, by rw [rng_map, List.range_eq_range']; rfl, by omega, .inl ⟨rfl, fun k k0 k1 => by omega⟩⟩
  · rintro rx rr ρ h' ⟨j, d, z, e1, e2, e3, e4, e5⟩
    subst e1 e2
    by_cases c : j = (fuel + 1).toNat
    · rw [c, Nat.sub_self] at e3
      cases e3
    · obtain ⟨k, hk⟩ : ∃ k, (fuel + 1).toNat - j = k + 1 := ⟨(fuel + 1).toNat - j - 1, by omega⟩
      rw [hk, List.range'_succ, List.map_cons] at e3
      obtain ⟨rfl, rfl⟩ := List.cons.inj e3
      simp only [hm, ↓W_some, ↓W_bind, ↓W_map, ↓w_var, ↓w_own, ↓w_cst, ↓w_tup, ↓w_ofL, ↓w_celL, ↓w_neg, ↓w_bin, ↓w_cmp, ↓w_chn, ↓w_nt, ↓w_an, ↓w_or, ↓w_ite, ↓w_idx, ↓w_slc, ↓w_call, ↓w_callK, ↓w_bi, ↓w_isi, ↓w_gall, ↓w_gany, ↓w_gsum, ↓w_gtup, ↓w_genF, ↓w_nil, ↓w_cons, ↓w_onone, ↓w_osome, ↓w_otnone, ↓w_otsome, ↓w_and1, ↓w_and, ↓w_or1, ↓w_orc, ↓w_tnt, ↓w_tan, ↓w_tor, ↓w_ta1, ↓w_ta, ↓w_to1, ↓w_to, ↓w_tcmp, ↓w_tchn, ↓w_tvar, ↓w_town, ↓w_tcst, ↓w_tidx, ↓w_tbin, ↓w_tslc, ↓w_tcall, ↓w_tcallK, ↓w_tbi, ↓w_tisi, ↓w_tgen, ↓w_disp, ↓w_comp, ↓w_list, ↓w_sorted, ↓w_seq, ↓w_rng1, ↓w_rng2, ↓w_enum, ↓w_zip, ↓w_rev, ↓w_set, ↓w_setL, ↓w_setD, ↓w_pat, ↓w_par2, ↓w_aug, ↓w_augI, ↓w_putI, ↓w_putO, ↓w_augO, ↓w_app, ↓w_expr, ↓w_ret, ↓w_retN, ↓w_iff, ↓w_whil, ↓w_forr, ↓w_brk, ↓w_cont, ↓w_pass, ↓w_frz, ↓w_snil, ↓w_scons, ↓bps_s, add_ii, add_tt, add_ll, sub_ii, lt_ii, le_ii, gt_ii, ge_ii, eq_ii, ne_ii, is_n, isnt_n, is_bb, isnt_bb, isNon_i, isNon_b, isNon_t, isNon_l, isNon_n, tru_b, tru_i, tru_t, tru_l, tru_n, len_t, len_l, len_s, len_d, bi_len, bi_abs, bi_int, bi_intb, bi_tupt, bi_tupl, bi_min, bi_max, bi_sum, it_t, it_l, it_s, li_l, list_t, list_l, list_s, sl_t, sl_l, sl_s, ty_ii, ty_ib, ty_in, ty_bi, ty_bb, ty_bn, bp_nm, bp_tt, bp_tl, bps_0, op_add, op_sub, op_mul, op_fdiv, op_mod, op_pow, cm_eq, cm_ne, cm_lt, cm_le, cm_gt, cm_ge, cm_is, cm_isnt, cm_in, cm_notin, cd_n, cd_b, cd_i, cd_s, wp_0, wp_s, oq_rt, oq_nx, ol_nx, ol_ct, ol_bk, ol_rt, mod_pos, fdiv_pos, mul_l, mul_r, varS_0, varS_s, lookS_0, lookS_s, ownS_0v, ownS_0, ownS_0d, ownS_s, setS_0, setS_s, set_0, set_s, deref_int, deref_bl, deref_non, deref_str, deref_tup, deref_lst, deref_scr, deref_dct, deref_ref0, isCell_ref0, restO_nx, restO_rt, restO_bk, restO_ct, szl, idx_tup0, idx_tup1, idx_tup2, idx_tup3, idx_tup4, idx_tup5, idx_tup6, idx_tup7, idx_tup8, idx_tup9, idx_lst0, idx_lst1, idx_lst2, idx_lst3, idx_lst4, idx_lst5, idx_lst6, idx_lst7, idx_lst8, idx_lst9, Int.reduceLT, Int.reduceLE, Int.reduceNeg, Int.reducePow, and_self, permD, List.getElem?_cons_zero, List.getElem?_cons_succ, Option.bind_some, Option.map_some, startS, List.map_cons, List.map_nil, List.replicate, List.cons_append, List.nil_append, List.append_nil, List.length_cons, List.length_nil, decide_eq_true_eq, Bool.not_eq_true', decide_eq_false_iff_not, Nat.reduceAdd, Nat.zero_add, Nat.reduceLeDiff, Nat.reduceLT, Nat.reduceSub, if_true, if_false, Bool.false_eq_true, ↓reduceIte, Df.fd]
      refine value_W ?_
      by_cases c2 : val b ns (mass - (j : Nat)) ≤ fuel - (j : Nat)
      · simp only [c2, decide_true, ↓W_some, ↓W_bind, ↓W_map, ↓w_var, ↓w_own, ↓w_cst, ↓w_tup, ↓w_ofL, ↓w_celL, ↓w_neg, ↓w_bin, ↓w_cmp, ↓w_chn, ↓w_nt, ↓w_an, ↓w_or, ↓w_ite, ↓w_idx, ↓w_slc, ↓w_call, ↓w_callK, ↓w_bi, ↓w_isi, ↓w_gall, ↓w_gany, ↓w_gsum, ↓w_gtup, ↓w_genF, ↓w_nil, ↓w_cons, ↓w_onone, ↓w_osome, ↓w_otnone, ↓w_otsome, ↓w_and1, ↓w_and, ↓w_or1, ↓w_orc, ↓w_tnt, ↓w_tan, ↓w_tor, ↓w_ta1, ↓w_ta, ↓w_to1, ↓w_to, ↓w_tcmp, ↓w_tchn, ↓w_tvar, ↓w_town, ↓w_tcst, ↓w_tidx, ↓w_tbin, ↓w_tslc, ↓w_tcall, ↓w_tcallK, ↓w_tbi, ↓w_tisi, ↓w_tgen, ↓w_disp, ↓w_comp, ↓w_list, ↓w_sorted, ↓w_seq, ↓w_rng1, ↓w_rng2, ↓w_enum, ↓w_zip, ↓w_rev, ↓w_set, ↓w_setL, ↓w_setD, ↓w_pat, ↓w_par2, ↓w_aug, ↓w_augI, ↓w_putI, ↓w_putO, ↓w_augO, ↓w_app, ↓w_expr, ↓w_ret, ↓w_retN, ↓w_iff, ↓w_whil, ↓w_forr, ↓w_brk, ↓w_cont, ↓w_pass, ↓w_frz, ↓w_snil, ↓w_scons, ↓bps_s, add_ii, add_tt, add_ll, sub_ii, lt_ii, le_ii, gt_ii, ge_ii, eq_ii, ne_ii, is_n, isnt_n, is_bb, isnt_bb, isNon_i, isNon_b, isNon_t, isNon_l, isNon_n, tru_b, tru_i, tru_t, tru_l, tru_n, len_t, len_l, len_s, len_d, bi_len, bi_abs, bi_int, bi_intb, bi_tupt, bi_tupl, bi_min, bi_max, bi_sum, it_t, it_l, it_s, li_l, list_t, list_l, list_s, sl_t, sl_l, sl_s, ty_ii, ty_ib, ty_in, ty_bi, ty_bb, ty_bn, bp_nm, bp_tt, bp_tl, bps_0, op_add, op_sub, op_mul, op_fdiv, op_mod, op_pow, cm_eq, cm_ne, cm_lt, cm_le, cm_gt, cm_ge, cm_is, cm_isnt, cm_in, cm_notin, cd_n, cd_b, cd_i, cd_s, wp_0, wp_s, oq_rt, oq_nx, ol_nx, ol_ct, ol_bk, ol_rt, mod_pos, fdiv_pos, mul_l, mul_r, varS_0, varS_s, lookS_0, lookS_s, ownS_0v, ownS_0, ownS_0d, ownS_s, setS_0, setS_s, set_0, set_s, deref_int, deref_bl, deref_non, deref_str, deref_tup, deref_lst, deref_scr, deref_dct, deref_ref0, isCell_ref0, restO_nx, restO_rt, restO_bk, restO_ct, szl, idx_tup0, idx_tup1, idx_tup2, idx_tup3, idx_tup4, idx_tup5, idx_tup6, idx_tup7, idx_tup8, idx_tup9, idx_lst0, idx_lst1, idx_lst2, idx_lst3, idx_lst4, idx_lst5, idx_lst6, idx_lst7, idx_lst8, idx_lst9, Int.reduceLT, Int.reduceLE, Int.reduceNeg, Int.reducePow, and_self, permD, List.getElem?_cons_zero, List.getElem?_cons_succ, Option.bind_some, Option.map_some, startS, List.map_cons, List.map_nil, List.replicate, List.cons_append, List.nil_append, List.append_nil, List.length_cons, List.length_nil, decide_eq_true_eq, Bool.not_eq_true', decide_eq_false_iff_not, Nat.reduceAdd, Nat.zero_add, Nat.reduceLeDiff, Nat.reduceLT, Nat.reduceSub, if_true, if_false, Bool.false_eq_true, ↓reduceIte, Df.fd]
        refine ⟨j + 1, _, _, by trivial, by trivial, ?_, by omega, .inr ⟨(j : Nat), rfl, by omega, by omega, c2, fun i i0 i1 => by omega⟩⟩
        rw [show (fuel + 1).toNat - (j + 1) = k by omega]
      · simp only [c2, decide_false, ↓W_some, ↓W_bind, ↓W_map, ↓w_var, ↓w_own, ↓w_cst, ↓w_tup, ↓w_ofL, ↓w_celL, ↓w_neg, ↓w_bin, ↓w_cmp, ↓w_chn, ↓w_nt, ↓w_an, ↓w_or, ↓w_ite, ↓w_idx, ↓w_slc, ↓w_call, ↓w_callK, ↓w_bi, ↓w_isi, ↓w_gall, ↓w_gany, ↓w_gsum, ↓w_gtup, ↓w_genF, ↓w_nil, ↓w_cons, ↓w_onone, ↓w_osome, ↓w_otnone, ↓w_otsome, ↓w_and1, ↓w_and, ↓w_or1, ↓w_orc, ↓w_tnt, ↓w_tan, ↓w_tor, ↓w_ta1, ↓w_ta, ↓w_to1, ↓w_to, ↓w_tcmp, ↓w_tchn, ↓w_tvar, ↓w_town, ↓w_tcst, ↓w_tidx, ↓w_tbin, ↓w_tslc, ↓w_tcall, ↓w_tcallK, ↓w_tbi, ↓w_tisi, ↓w_tgen, ↓w_disp, ↓w_comp, ↓w_list, ↓w_sorted, ↓w_seq, ↓w_rng1, ↓w_rng2, ↓w_enum, ↓w_zip, ↓w_rev, ↓w_set, ↓w_setL, ↓w_setD, ↓w_pat, ↓w_par2, ↓w_aug, ↓w_augI, ↓w_putI, ↓w_putO, ↓w_augO, ↓w_app, ↓w_expr, ↓w_ret, ↓w_retN, ↓w_iff, ↓w_whil, ↓w_forr, ↓w_brk, ↓w_cont, ↓w_pass, ↓w_frz, ↓w_snil, ↓w_scons, ↓bps_s, add_ii, add_tt, add_ll, sub_ii, lt_ii, le_ii, gt_ii, ge_ii, eq_ii, ne_ii, is_n, isnt_n, is_bb, isnt_bb, isNon_i, isNon_b, isNon_t, isNon_l, isNon_n, tru_b, tru_i, tru_t, tru_l, tru_n, len_t, len_l, len_s, len_d, bi_len, bi_abs, bi_int, bi_intb, bi_tupt, bi_tupl, bi_min, bi_max, bi_sum, it_t, it_l, it_s, li_l, list_t, list_l, list_s, sl_t, sl_l, sl_s, ty_ii, ty_ib, ty_in, ty_bi, ty_bb, ty_bn, bp_nm, bp_tt, bp_tl, bps_0, op_add, op_sub, op_mul, op_fdiv, op_mod, op_pow, cm_eq, cm_ne, cm_lt, cm_le, cm_gt, cm_ge, cm_is, cm_isnt, cm_in, cm_notin, cd_n, cd_b, cd_i, cd_s, wp_0, wp_s, oq_rt, oq_nx, ol_nx, ol_ct, ol_bk, ol_rt, mod_pos, fdiv_pos, mul_l, mul_r, varS_0, varS_s, lookS_0, lookS_s, ownS_0v, ownS_0, ownS_0d, ownS_s, setS_0, setS_s, set_0, set_s, deref_int, deref_bl, deref_non, deref_str, deref_tup, deref_lst, deref_scr, deref_dct, deref_ref0, isCell_ref0, restO_nx, restO_rt, restO_bk, restO_ct, szl, idx_tup0, idx_tup1, idx_tup2, idx_tup3, idx_tup4, idx_tup5, idx_tup6, idx_tup7, idx_tup8, idx_tup9, idx_lst0, idx_lst1, idx_lst2, idx_lst3, idx_lst4, idx_lst5, idx_lst6, idx_lst7, idx_lst8, idx_lst9, Int.reduceLT, Int.reduceLE, Int.reduceNeg, Int.reducePow, and_self, permD, List.getElem?_cons_zero, List.getElem?_cons_succ, Option.bind_some, Option.map_some, startS, List.map_cons, List.map_nil, List.replicate, List.cons_append, List.nil_append, List.append_nil, List.length_cons, List.length_nil, decide_eq_true_eq, Bool.not_eq_true', decide_eq_false_iff_not, Nat.reduceAdd, Nat.zero_add, Nat.reduceLeDiff, Nat.reduceLT, Nat.reduceSub, if_true, if_false, Bool.false_eq_true, ↓reduceIte, Df.fd]
        refine ⟨j + 1, _, _, by trivial, by trivial, ?_, by omega, ?_⟩
        · rw [show (fuel + 1).toNat - (j + 1) = k by omega]
        · rcases e5 with ⟨rfl, e5⟩ | ⟨k, rfl, k0, k1, k2, k3⟩
          · exact .inl ⟨rfl, fun i i0 i1 => by
              by_cases z : i = (j : Nat)
              · rw [z]; exact c2
              · exact e5 i i0 (by omega)⟩
          · exact .inr ⟨k, rfl, k0, by omega, k2, fun i i0 i1 => by
              by_cases z : i = (j : Nat)
              · rw [z]; exact c2
              · exact k3 i i0 (by omega)⟩
  · rintro ρ h' ⟨j, d, z, e1, e2, e3, e4, e5⟩
    subst e1 e2
    have ej : j = (fuel + 1).toNat := by
      have := congrArg List.length e3
      simp at this
      omega
    simp only [↓W_some, ↓W_bind, ↓W_map, ↓w_var, ↓w_own, ↓w_cst, ↓w_tup, ↓w_ofL, ↓w_celL, ↓w_neg, ↓w_bin, ↓w_cmp, ↓w_chn, ↓w_nt, ↓w_an, ↓w_or, ↓w_ite, ↓w_idx, ↓w_slc, ↓w_call, ↓w_callK, ↓w_bi, ↓w_isi, ↓w_gall, ↓w_gany, ↓w_gsum, ↓w_gtup, ↓w_genF, ↓w_nil, ↓w_cons, ↓w_onone, ↓w_osome, ↓w_otnone, ↓w_otsome, ↓w_and1, ↓w_and, ↓w_or1, ↓w_orc, ↓w_tnt, ↓w_tan, ↓w_tor, ↓w_ta1, ↓w_ta, ↓w_to1, ↓w_to, ↓w_tcmp, ↓w_tchn, ↓w_tvar, ↓w_town, ↓w_tcst, ↓w_tidx, ↓w_tbin, ↓w_tslc, ↓w_tcall, ↓w_tcallK, ↓w_tbi, ↓w_tisi, ↓w_tgen, ↓w_disp, ↓w_comp, ↓w_list, ↓w_sorted, ↓w_seq, ↓w_rng1, ↓w_rng2, ↓w_enum, ↓w_zip, ↓w_rev, ↓w_set, ↓w_setL, ↓w_setD, ↓w_pat, ↓w_par2, ↓w_aug, ↓w_augI, ↓w_putI, ↓w_putO, ↓w_augO, ↓w_app, ↓w_expr, ↓w_ret, ↓w_retN, ↓w_iff, ↓w_whil, ↓w_forr, ↓w_brk, ↓w_cont, ↓w_pass, ↓w_frz, ↓w_snil, ↓w_scons, ↓bps_s, add_ii, add_tt, add_ll, sub_ii, lt_ii, le_ii, gt_ii, ge_ii, eq_ii, ne_ii, is_n, isnt_n, is_bb, isnt_bb, isNon_i, isNon_b, isNon_t, isNon_l, isNon_n, tru_b, tru_i, tru_t, tru_l, tru_n, len_t, len_l, len_s, len_d, bi_len, bi_abs, bi_int, bi_intb, bi_tupt, bi_tupl, bi_min, bi_max, bi_sum, it_t, it_l, it_s, li_l, list_t, list_l, list_s, sl_t, sl_l, sl_s, ty_ii, ty_ib, ty_in, ty_bi, ty_bb, ty_bn, bp_nm, bp_tt, bp_tl, bps_0, op_add, op_sub, op_mul, op_fdiv, op_mod, op_pow, cm_eq, cm_ne, cm_lt, cm_le, cm_gt, cm_ge, cm_is, cm_isnt, cm_in, cm_notin, cd_n, cd_b, cd_i, cd_s, wp_0, wp_s, oq_rt, oq_nx, ol_nx, ol_ct, ol_bk, ol_rt, mod_pos, fdiv_pos, mul_l, mul_r, varS_0, varS_s, lookS_0, lookS_s, ownS_0v, ownS_0, ownS_0d, ownS_s, setS_0, setS_s, set_0, set_s, deref_int, deref_bl, deref_non, deref_str, deref_tup, deref_lst, deref_scr, deref_dct, deref_ref0, isCell_ref0, restO_nx, restO_rt, restO_bk, restO_ct, szl, idx_tup0, idx_tup1, idx_tup2, idx_tup3, idx_tup4, idx_tup5, idx_tup6, idx_tup7, idx_tup8, idx_tup9, idx_lst0, idx_lst1, idx_lst2, idx_lst3, idx_lst4, idx_lst5, idx_lst6, idx_lst7, idx_lst8, idx_lst9, Int.reduceLT, Int.reduceLE, Int.reduceNeg, Int.reducePow, and_self, permD, List.getElem?_cons_zero, List.getElem?_cons_succ, Option.bind_some, Option.map_some, startS, List.map_cons, List.map_nil, List.replicate, List.cons_append, List.nil_append, List.append_nil, List.length_cons, List.length_nil, decide_eq_true_eq, Bool.not_eq_true', decide_eq_false_iff_not, Nat.reduceAdd, Nat.zero_add, Nat.reduceLeDiff, Nat.reduceLT, Nat.reduceSub, if_true, if_false, Bool.false_eq_true, ↓reduceIte, Df.fd]
    refine q d ?_
    rcases e5 with ⟨rfl, e5⟩ | ⟨k, rfl, k0, k1, k2, k3⟩
    · exact .inl ⟨rfl, fun k k0 k1 => e5 k k0 (by omega)⟩
    · exact .inr ⟨k, rfl, k0, by omega, k2, fun i i0 i1 => k3 i i0 (by omega)⟩
theorem least_W {e g t x y : D} {ms : List D} {mode pay : Int} {md : D} (hm : idxD (.tup ms) (.int mode) = some md) (hr : ModeR md b ns) (hl : ns.length ≤ 1000000) (q : ∀ m, pay + b ≤ m → pay ≤ m - val b ns m → (∀ i, pay + b ≤ i → i < m → ¬ pay ≤ i - val b ns i) → Q (.int m, h)) : W (call T (n + 2) 1 [.tup [e, g, t, .tup ms, x], .int mode, .int pay] h) Q := by
  obtain ⟨p, l, s, r, f, rfl⟩ := hr
  refine W_call (f := f_least_mass.fd) rfl rfl ?_
  simp only [f_least_mass, b1, hm, ↓W_some, ↓W_bind, ↓W_map, ↓w_var, ↓w_own, ↓w_cst, ↓w_tup, ↓w_ofL, ↓w_celL, ↓w_neg, ↓w_bin, ↓w_cmp, ↓w_chn, ↓w_nt, ↓w_an, ↓w_or, ↓w_ite, ↓w_idx, ↓w_slc, ↓w_call, ↓w_callK, ↓w_bi, ↓w_isi, ↓w_gall, ↓w_gany, ↓w_gsum, ↓w_gtup, ↓w_genF, ↓w_nil, ↓w_cons, ↓w_onone, ↓w_osome, ↓w_otnone, ↓w_otsome, ↓w_and1, ↓w_and, ↓w_or1, ↓w_orc, ↓w_tnt, ↓w_tan, ↓w_tor, ↓w_ta1, ↓w_ta, ↓w_to1, ↓w_to, ↓w_tcmp, ↓w_tchn, ↓w_tvar, ↓w_town, ↓w_tcst, ↓w_tidx, ↓w_tbin, ↓w_tslc, ↓w_tcall, ↓w_tcallK, ↓w_tbi, ↓w_tisi, ↓w_tgen, ↓w_disp, ↓w_comp, ↓w_list, ↓w_sorted, ↓w_seq, ↓w_rng1, ↓w_rng2, ↓w_enum, ↓w_zip, ↓w_rev, ↓w_set, ↓w_setL, ↓w_setD, ↓w_pat, ↓w_par2, ↓w_aug, ↓w_augI, ↓w_putI, ↓w_putO, ↓w_augO, ↓w_app, ↓w_expr, ↓w_ret, ↓w_retN, ↓w_iff, ↓w_whil, ↓w_forr, ↓w_brk, ↓w_cont, ↓w_pass, ↓w_frz, ↓w_snil, ↓w_scons, ↓bps_s, add_ii, add_tt, add_ll, sub_ii, lt_ii, le_ii, gt_ii, ge_ii, eq_ii, ne_ii, is_n, isnt_n, is_bb, isnt_bb, isNon_i, isNon_b, isNon_t, isNon_l, isNon_n, tru_b, tru_i, tru_t, tru_l, tru_n, len_t, len_l, len_s, len_d, bi_len, bi_abs, bi_int, bi_intb, bi_tupt, bi_tupl, bi_min, bi_max, bi_sum, it_t, it_l, it_s, li_l, list_t, list_l, list_s, sl_t, sl_l, sl_s, ty_ii, ty_ib, ty_in, ty_bi, ty_bb, ty_bn, bp_nm, bp_tt, bp_tl, bps_0, op_add, op_sub, op_mul, op_fdiv, op_mod, op_pow, cm_eq, cm_ne, cm_lt, cm_le, cm_gt, cm_ge, cm_is, cm_isnt, cm_in, cm_notin, cd_n, cd_b, cd_i, cd_s, wp_0, wp_s, oq_rt, oq_nx, ol_nx, ol_ct, ol_bk, ol_rt, mod_pos, fdiv_pos, mul_l, mul_r, varS_0, varS_s, lookS_0, lookS_s, ownS_0v, ownS_0, ownS_0d, ownS_s, setS_0, setS_s, set_0, set_s, deref_int, deref_bl, deref_non, deref_str, deref_tup, deref_lst, deref_scr, deref_dct, deref_ref0, isCell_ref0, restO_nx, restO_rt, restO_bk, restO_ct, szl, idx_tup0, idx_tup1, idx_tup2, idx_tup3, idx_tup4, idx_tup5, idx_tup6, idx_tup7, idx_tup8, idx_tup9, idx_lst0, idx_lst1, idx_lst2, idx_lst3, idx_lst4, idx_lst5, idx_lst6, idx_lst7, idx_lst8, idx_lst9, Int.reduceLT, Int.reduceLE, Int.reduceNeg, Int.reducePow, and_self, permD, List.getElem?_cons_zero, List.getElem?_cons_succ, Option.bind_some, Option.map_some, startS, List.map_cons, List.map_nil, List.replicate, List.cons_append, List.nil_append, List.append_nil, List.length_cons, List.length_nil, decide_eq_true_eq, Bool.not_eq_true', decide_eq_false_iff_not, Nat.reduceAdd, Nat.zero_add, Nat.reduceLeDiff, Nat.reduceLT, Nat.reduceSub, if_true, if_false, Bool.false_eq_true, ↓reduceIte, Df.fd]
  simp only [tabD, ↓W_some, ↓W_bind, ↓W_map, ↓w_var, ↓w_own, ↓w_cst, ↓w_tup, ↓w_ofL, ↓w_celL, ↓w_neg, ↓w_bin, ↓w_cmp, ↓w_chn, ↓w_nt, ↓w_an, ↓w_or, ↓w_ite, ↓w_idx, ↓w_slc, ↓w_call, ↓w_callK, ↓w_bi, ↓w_isi, ↓w_gall, ↓w_gany, ↓w_gsum, ↓w_gtup, ↓w_genF, ↓w_nil, ↓w_cons, ↓w_onone, ↓w_osome, ↓w_otnone, ↓w_otsome, ↓w_and1, ↓w_and, ↓w_or1, ↓w_orc, ↓w_tnt, ↓w_tan, ↓w_tor, ↓w_ta1, ↓w_ta, ↓w_to1, ↓w_to, ↓w_tcmp, ↓w_tchn, ↓w_tvar, ↓w_town, ↓w_tcst, ↓w_tidx, ↓w_tbin, ↓w_tslc, ↓w_tcall, ↓w_tcallK, ↓w_tbi, ↓w_tisi, ↓w_tgen, ↓w_disp, ↓w_comp, ↓w_list, ↓w_sorted, ↓w_seq, ↓w_rng1, ↓w_rng2, ↓w_enum, ↓w_zip, ↓w_rev, ↓w_set, ↓w_setL, ↓w_setD, ↓w_pat, ↓w_par2, ↓w_aug, ↓w_augI, ↓w_putI, ↓w_putO, ↓w_augO, ↓w_app, ↓w_expr, ↓w_ret, ↓w_retN, ↓w_iff, ↓w_whil, ↓w_forr, ↓w_brk, ↓w_cont, ↓w_pass, ↓w_frz, ↓w_snil, ↓w_scons, ↓bps_s, add_ii, add_tt, add_ll, sub_ii, lt_ii, le_ii, gt_ii, ge_ii, eq_ii, ne_ii, is_n, isnt_n, is_bb, isnt_bb, isNon_i, isNon_b, isNon_t, isNon_l, isNon_n, tru_b, tru_i, tru_t, tru_l, tru_n, len_t, len_l, len_s, len_d, bi_len, bi_abs, bi_int, bi_intb, bi_tupt, bi_tupl, bi_min, bi_max, bi_sum, it_t, it_l, it_s, li_l, list_t, list_l, list_s, sl_t, sl_l, sl_s, ty_ii, ty_ib, ty_in, ty_bi, ty_bb, ty_bn, bp_nm, bp_tt, bp_tl, bps_0, op_add, op_sub, op_mul, op_fdiv, op_mod, op_pow, cm_eq, cm_ne, cm_lt, cm_le, cm_gt, cm_ge, cm_is, cm_isnt, cm_in, cm_notin, cd_n, cd_b, cd_i, cd_s, wp_0, wp_s, oq_rt, oq_nx, ol_nx, ol_ct, ol_bk, ol_rt, mod_pos, fdiv_pos, mul_l, mul_r, varS_0, varS_s, lookS_0, lookS_s, ownS_0v, ownS_0, ownS_0d, ownS_s, setS_0, setS_s, set_0, set_s, deref_int, deref_bl, deref_non, deref_str, deref_tup, deref_lst, deref_scr, deref_dct, deref_ref0, isCell_ref0, restO_nx, restO_rt, restO_bk, restO_ct, szl, idx_tup0, idx_tup1, idx_tup2, idx_tup3, idx_tup4, idx_tup5, idx_tup6, idx_tup7, idx_tup8, idx_tup9, idx_lst0, idx_lst1, idx_lst2, idx_lst3, idx_lst4, idx_lst5, idx_lst6, idx_lst7, idx_lst8, idx_lst9, Int.reduceLT, Int.reduceLE, Int.reduceNeg, Int.reducePow, and_self, permD, List.getElem?_cons_zero, List.getElem?_cons_succ, Option.bind_some, Option.map_some, startS, List.map_cons, List.map_nil, List.replicate, List.cons_append, List.nil_append, List.append_nil, List.length_cons, List.length_nil, decide_eq_true_eq, Bool.not_eq_true', decide_eq_false_iff_not, Nat.reduceAdd, Nat.zero_add, Nat.reduceLeDiff, Nat.reduceLT, Nat.reduceSub, if_true, if_false, Bool.false_eq_true, ↓reduceIte, Df.fd]
  refine W_whileS (fun k ρ h' => ∃ m : Int, h' = h ∧ ρ = [some (.val (.tup [e, g, t, .tup ms, x])), some (.val (.int mode)), some (.val (.int pay)), some (.val (tabD b ns)), some (.val (.int m))] ∧ pay + b ≤ m ∧ (∀ i, pay + b ≤ i → i < m → ¬ pay ≤ i - val b ns i) ∧ k = (pay + b + ns.length - m).toNat) ?_ (k := (pay + b + ns.length - (pay + b)).toNat) ⟨pay + b, by trivial, by trivial, by omega, fun i i0 i1 => by omega, by trivial⟩
  rintro k ρ h' ⟨m, e1, e2, e3, e4, e5⟩
  subst e1 e2
  simp only [↓W_some, ↓W_bind, ↓W_map, ↓w_var, ↓w_own, ↓w_cst, ↓w_tup, ↓w_ofL, ↓w_celL, ↓w_neg, ↓w_bin, ↓w_cmp, ↓w_chn, ↓w_nt, ↓w_an, ↓w_or, ↓w_ite, ↓w_idx, ↓w_slc, ↓w_call, ↓w_callK, ↓w_bi, ↓w_isi, ↓w_gall, ↓w_gany, ↓w_gsum, ↓w_gtup, ↓w_genF, ↓w_nil, ↓w_cons, ↓w_onone, ↓w_osome, ↓w_otnone, ↓w_otsome, ↓w_and1, ↓w_and, ↓w_or1, ↓w_orc, ↓w_tnt, ↓w_tan, ↓w_tor, ↓w_ta1, ↓w_ta, ↓w_to1, ↓w_to, ↓w_tcmp, ↓w_tchn, ↓w_tvar, ↓w_town, ↓w_tcst, ↓w_tidx, ↓w_tbin, ↓w_tslc, ↓w_tcall, ↓w_tcallK, ↓w_tbi, ↓w_tisi, ↓w_tgen, ↓w_disp, ↓w_comp, ↓w_list, ↓w_sorted, ↓w_seq, ↓w_rng1, ↓w_rng2, ↓w_enum, ↓w_zip, ↓w_rev, ↓w_set, ↓w_setL, ↓w_setD, ↓w_pat, ↓w_par2, ↓w_aug, ↓w_augI, ↓w_putI, ↓w_putO, ↓w_augO, ↓w_app, ↓w_expr, ↓w_ret, ↓w_retN, ↓w_iff, ↓w_whil, ↓w_forr, ↓w_brk, ↓w_cont, ↓w_pass, ↓w_frz, ↓w_snil, ↓w_scons, ↓bps_s, add_ii, add_tt, add_ll, sub_ii, lt_ii, le_ii, gt_ii, ge_ii, eq_ii, ne_ii, is_n, isnt_n, is_bb, isnt_bb, isNon_i, isNon_b, isNon_t, isNon_l, isNon_n, tru_b, tru_i, tru_t, tru_l, tru_n, len_t, len_l, len_s, len_d, bi_len, bi_abs, bi_int, bi_intb, bi_tupt, bi_tupl, bi_min, bi_max, bi_sum, it_t, it_l, it_s, li_l, list_t, list_l, list_s, sl_t, sl_l, sl_s, ty_ii, ty_ib, ty_in, ty_bi, ty_bb, ty_bn, bp_nm, bp_tt, bp_tl, bps_0, op_add, op_sub, op_mul, op_fdiv, op_mod, op_pow, cm_eq, cm_ne, cm_lt, cm_le, cm_gt, cm_ge, cm_is, cm_isnt, cm_in, cm_notin, cd_n, cd_b, cd_i, cd_s, wp_0, wp_s, oq_rt, oq_nx, ol_nx, ol_ct, ol_bk, ol_rt, mod_pos, fdiv_pos, mul_l, mul_r, varS_0, varS_s, lookS_0, lookS_s, ownS_0v, ownS_0, ownS_0d, ownS_s, setS_0, setS_s, set_0, set_s, deref_int, deref_bl, deref_non, deref_str, deref_tup, deref_lst, deref_scr, deref_dct, deref_ref0, isCell_ref0, restO_nx, restO_rt, restO_bk, restO_ct, szl, idx_tup0, idx_tup1, idx_tup2, idx_tup3, idx_tup4, idx_tup5, idx_tup6, idx_tup7, idx_tup8, idx_tup9, idx_lst0, idx_lst1, idx_lst2, idx_lst3, idx_lst4, idx_lst5, idx_lst6, idx_lst7, idx_lst8, idx_lst9, Int.reduceLT, Int.reduceLE, Int.reduceNeg, Int.reducePow, and_self, permD, List.getElem?_cons_zero, List.getElem?_cons_succ, Option.bind_some, Option.map_some, startS, List.map_cons, List.map_nil, List.replicate, List.cons_append, List.nil_append, List.append_nil, List.length_cons, List.length_nil, decide_eq_true_eq, Bool.not_eq_true', decide_eq_false_iff_not, Nat.reduceAdd, Nat.zero_add, Nat.reduceLeDiff, Nat.reduceLT, Nat.reduceSub, if_true, if_false, Bool.false_eq_true, ↓reduceIte, Df.fd]
  refine valueat_W hl ?_
  by_cases c : m - val b ns m < pay
  · have hv := cnt_le m ns
    have hv2 : val b ns m = b + cnt m ns := rfl
    simp only [c, decide_true, ↓W_some, ↓W_bind, ↓W_map, ↓w_var, ↓w_own, ↓w_cst, ↓w_tup, ↓w_ofL, ↓w_celL, ↓w_neg, ↓w_bin, ↓w_cmp, ↓w_chn, ↓w_nt, ↓w_an, ↓w_or, ↓w_ite, ↓w_idx, ↓w_slc, ↓w_call, ↓w_callK, ↓w_bi, ↓w_isi, ↓w_gall, ↓w_gany, ↓w_gsum, ↓w_gtup, ↓w_genF, ↓w_nil, ↓w_cons, ↓w_onone, ↓w_osome, ↓w_otnone, ↓w_otsome, ↓w_and1, ↓w_and, ↓w_or1, ↓w_orc, ↓w_tnt, ↓w_tan, ↓w_tor, ↓w_ta1, ↓w_ta, ↓w_to1, ↓w_to, ↓w_tcmp, ↓w_tchn, ↓w_tvar, ↓w_town, ↓w_tcst, ↓w_tidx, ↓w_tbin, ↓w_tslc, ↓w_tcall, ↓w_tcallK, ↓w_tbi, ↓w_tisi, ↓w_tgen, ↓w_disp, ↓w_comp, ↓w_list, ↓w_sorted, ↓w_seq, ↓w_rng1, ↓w_rng2, ↓w_enum, ↓w_zip, ↓w_rev, ↓w_set, ↓w_setL, ↓w_setD, ↓w_pat, ↓w_par2, ↓w_aug, ↓w_augI, ↓w_putI, ↓w_putO, ↓w_augO, ↓w_app, ↓w_expr, ↓w_ret, ↓w_retN, ↓w_iff, ↓w_whil, ↓w_forr, ↓w_brk, ↓w_cont, ↓w_pass, ↓w_frz, ↓w_snil, ↓w_scons, ↓bps_s, add_ii, add_tt, add_ll, sub_ii, lt_ii, le_ii, gt_ii, ge_ii, eq_ii, ne_ii, is_n, isnt_n, is_bb, isnt_bb, isNon_i, isNon_b, isNon_t, isNon_l, isNon_n, tru_b, tru_i, tru_t, tru_l, tru_n, len_t, len_l, len_s, len_d, bi_len, bi_abs, bi_int, bi_intb, bi_tupt, bi_tupl, bi_min, bi_max, bi_sum, it_t, it_l, it_s, li_l, list_t, list_l, list_s, sl_t, sl_l, sl_s, ty_ii, ty_ib, ty_in, ty_bi, ty_bb, ty_bn, bp_nm, bp_tt, bp_tl, bps_0, op_add, op_sub, op_mul, op_fdiv, op_mod, op_pow, cm_eq, cm_ne, cm_lt, cm_le, cm_gt, cm_ge, cm_is, cm_isnt, cm_in, cm_notin, cd_n, cd_b, cd_i, cd_s, wp_0, wp_s, oq_rt, oq_nx, ol_nx, ol_ct, ol_bk, ol_rt, mod_pos, fdiv_pos, mul_l, mul_r, varS_0, varS_s, lookS_0, lookS_s, ownS_0v, ownS_0, ownS_0d, ownS_s, setS_0, setS_s, set_0, set_s, deref_int, deref_bl, deref_non, deref_str, deref_tup, deref_lst, deref_scr, deref_dct, deref_ref0, isCell_ref0, restO_nx, restO_rt, restO_bk, restO_ct, szl, idx_tup0, idx_tup1, idx_tup2, idx_tup3, idx_tup4, idx_tup5, idx_tup6, idx_tup7, idx_tup8, idx_tup9, idx_lst0, idx_lst1, idx_lst2, idx_lst3, idx_lst4, idx_lst5, idx_lst6, idx_lst7, idx_lst8, idx_lst9, Int.reduceLT, Int.reduceLE, Int.reduceNeg, Int.reducePow, and_self, permD, List.getElem?_cons_zero, List.getElem?_cons_succ, Option.bind_some, Option.map_some, startS, List.map_cons, List.map_nil, List.replicate, List.cons_append, List.nil_append, List.append_nil, List.length_cons, List.length_nil, decide_eq_true_eq, Bool.not_eq_true', decide_eq_false_iff_not, Nat.reduceAdd, Nat.zero_add, Nat.reduceLeDiff, Nat.reduceLT, Nat.reduceSub, if_true, if_false, Bool.false_eq_true, ↓reduceIte, Df.fd]
    refine ⟨_, ?_, m + 1, by trivial, by trivial, by omega, fun i i0 i1 => ?_, by trivial⟩
    · omega
    · by_cases z : i = m
      · rw [z]; omega
      · exact e4 i i0 (by omega)
  · simp only [c, decide_false, ↓W_some, ↓W_bind, ↓W_map, ↓w_var, ↓w_own, ↓w_cst, ↓w_tup, ↓w_ofL, ↓w_celL, ↓w_neg, ↓w_bin, ↓w_cmp, ↓w_chn, ↓w_nt, ↓w_an, ↓w_or, ↓w_ite, ↓w_idx, ↓w_slc, ↓w_call, ↓w_callK, ↓w_bi, ↓w_isi, ↓w_gall, ↓w_gany, ↓w_gsum, ↓w_gtup, ↓w_genF, ↓w_nil, ↓w_cons, ↓w_onone, ↓w_osome, ↓w_otnone, ↓w_otsome, ↓w_and1, ↓w_and, ↓w_or1, ↓w_orc, ↓w_tnt, ↓w_tan, ↓w_tor, ↓w_ta1, ↓w_ta, ↓w_to1, ↓w_to, ↓w_tcmp, ↓w_tchn, ↓w_tvar, ↓w_town, ↓w_tcst, ↓w_tidx, ↓w_tbin, ↓w_tslc, ↓w_tcall, ↓w_tcallK, ↓w_tbi, ↓w_tisi, ↓w_tgen, ↓w_disp, ↓w_comp, ↓w_list, ↓w_sorted, ↓w_seq, ↓w_rng1, ↓w_rng2, ↓w_enum, ↓w_zip, ↓w_rev, ↓w_set, ↓w_setL, ↓w_setD, ↓w_pat, ↓w_par2, ↓w_aug, ↓w_augI, ↓w_putI, ↓w_putO, ↓w_augO, ↓w_app, ↓w_expr, ↓w_ret, ↓w_retN, ↓w_iff, ↓w_whil, ↓w_forr, ↓w_brk, ↓w_cont, ↓w_pass, ↓w_frz, ↓w_snil, ↓w_scons, ↓bps_s, add_ii, add_tt, add_ll, sub_ii, lt_ii, le_ii, gt_ii, ge_ii, eq_ii, ne_ii, is_n, isnt_n, is_bb, isnt_bb, isNon_i, isNon_b, isNon_t, isNon_l, isNon_n, tru_b, tru_i, tru_t, tru_l, tru_n, len_t, len_l, len_s, len_d, bi_len, bi_abs, bi_int, bi_intb, bi_tupt, bi_tupl, bi_min, bi_max, bi_sum, it_t, it_l, it_s, li_l, list_t, list_l, list_s, sl_t, sl_l, sl_s, ty_ii, ty_ib, ty_in, ty_bi, ty_bb, ty_bn, bp_nm, bp_tt, bp_tl, bps_0, op_add, op_sub, op_mul, op_fdiv, op_mod, op_pow, cm_eq, cm_ne, cm_lt, cm_le, cm_gt, cm_ge, cm_is, cm_isnt, cm_in, cm_notin, cd_n, cd_b, cd_i, cd_s, wp_0, wp_s, oq_rt, oq_nx, ol_nx, ol_ct, ol_bk, ol_rt, mod_pos, fdiv_pos, mul_l, mul_r, varS_0, varS_s, lookS_0, lookS_s, ownS_0v, ownS_0, ownS_0d, ownS_s, setS_0, setS_s, set_0, set_s, deref_int, deref_bl, deref_non, deref_str, deref_tup, deref_lst, deref_scr, deref_dct, deref_ref0, isCell_ref0, restO_nx, restO_rt, restO_bk, restO_ct, szl, idx_tup0, idx_tup1, idx_tup2, idx_tup3, idx_tup4, idx_tup5, idx_tup6, idx_tup7, idx_tup8, idx_tup9, idx_lst0, idx_lst1, idx_lst2, idx_lst3, idx_lst4, idx_lst5, idx_lst6, idx_lst7, idx_lst8, idx_lst9, Int.reduceLT, Int.reduceLE, Int.reduceNeg, Int.reducePow, and_self, permD, List.getElem?_cons_zero, List.getElem?_cons_succ, Option.bind_some, Option.map_some, startS, List.map_cons, List.map_nil, List.replicate, List.cons_append, List.nil_append, List.append_nil, List.length_cons, List.length_nil, decide_eq_true_eq, Bool.not_eq_true', decide_eq_false_iff_not, Nat.reduceAdd, Nat.zero_add, Nat.reduceLeDiff, Nat.reduceLT, Nat.reduceSub, if_true, if_false, Bool.false_eq_true, ↓reduceIte, Df.fd]
    exact q m e3 (by omega) e4
theorem spare_W {e g t x y : D} {ms : List D} {mode : Int} {md : D} (hm : idxD (.tup ms) (.int mode) = some md) (hr : ModeR md b ns) (hb : 0 ≤ b) (hl : ns.length ≤ 1000000) (q : ∀ d, SpR b ns mass fuel d → Q (d, h)) : W (call T (n + 3) 2 [.tup [e, g, t, .tup ms, x], .int mode, .int mass, .int fuel] h) Q := by
  refine W_call (f := f_spare.fd) rfl rfl ?_
  simp only [f_spare, b2, ↓W_some, ↓W_bind, ↓W_map, ↓w_var, ↓w_own, ↓w_cst, ↓w_tup, ↓w_ofL, ↓w_celL, ↓w_neg, ↓w_bin, ↓w_cmp, ↓w_chn, ↓w_nt, ↓w_an, ↓w_or, ↓w_ite, ↓w_idx, ↓w_slc, ↓w_call, ↓w_callK, ↓w_bi, ↓w_isi, ↓w_gall, ↓w_gany, ↓w_gsum, ↓w_gtup, ↓w_genF, ↓w_nil, ↓w_cons, ↓w_onone, ↓w_osome, ↓w_otnone, ↓w_otsome, ↓w_and1, ↓w_and, ↓w_or1, ↓w_orc, ↓w_tnt, ↓w_tan, ↓w_tor, ↓w_ta1, ↓w_ta, ↓w_to1, ↓w_to, ↓w_tcmp, ↓w_tchn, ↓w_tvar, ↓w_town, ↓w_tcst, ↓w_tidx, ↓w_tbin, ↓w_tslc, ↓w_tcall, ↓w_tcallK, ↓w_tbi, ↓w_tisi, ↓w_tgen, ↓w_disp, ↓w_comp, ↓w_list, ↓w_sorted, ↓w_seq, ↓w_rng1, ↓w_rng2, ↓w_enum, ↓w_zip, ↓w_rev, ↓w_set, ↓w_setL, ↓w_setD, ↓w_pat, ↓w_par2, ↓w_aug, ↓w_augI, ↓w_putI, ↓w_putO, ↓w_augO, ↓w_app, ↓w_expr, ↓w_ret, ↓w_retN, ↓w_iff, ↓w_whil, ↓w_forr, ↓w_brk, ↓w_cont, ↓w_pass, ↓w_frz, ↓w_snil, ↓w_scons, ↓bps_s, add_ii, add_tt, add_ll, sub_ii, lt_ii, le_ii, gt_ii, ge_ii, eq_ii, ne_ii, is_n, isnt_n, is_bb, isnt_bb, isNon_i, isNon_b, isNon_t, isNon_l, isNon_n, tru_b, tru_i, tru_t, tru_l, tru_n, len_t, len_l, len_s, len_d, bi_len, bi_abs, bi_int, bi_intb, bi_tupt, bi_tupl, bi_min, bi_max, bi_sum, it_t, it_l, it_s, li_l, list_t, list_l, list_s, sl_t, sl_l, sl_s, ty_ii, ty_ib, ty_in, ty_bi, ty_bb, ty_bn, bp_nm, bp_tt, bp_tl, bps_0, op_add, op_sub, op_mul, op_fdiv, op_mod, op_pow, cm_eq, cm_ne, cm_lt, cm_le, cm_gt, cm_ge, cm_is, cm_isnt, cm_in, cm_notin, cd_n, cd_b, cd_i, cd_s, wp_0, wp_s, oq_rt, oq_nx, ol_nx, ol_ct, ol_bk, ol_rt, mod_pos, fdiv_pos, mul_l, mul_r, varS_0, varS_s, lookS_0, lookS_s, ownS_0v, ownS_0, ownS_0d, ownS_s, setS_0, setS_s, set_0, set_s, deref_int, deref_bl, deref_non, deref_str, deref_tup, deref_lst, deref_scr, deref_dct, deref_ref0, isCell_ref0, restO_nx, restO_rt, restO_bk, restO_ct, szl, idx_tup0, idx_tup1, idx_tup2, idx_tup3, idx_tup4, idx_tup5, idx_tup6, idx_tup7, idx_tup8, idx_tup9, idx_lst0, idx_lst1, idx_lst2, idx_lst3, idx_lst4, idx_lst5, idx_lst6, idx_lst7, idx_lst8, idx_lst9, Int.reduceLT, Int.reduceLE, Int.reduceNeg, Int.reducePow, and_self, permD, List.getElem?_cons_zero, List.getElem?_cons_succ, Option.bind_some, Option.map_some, startS, List.map_cons, List.map_nil, List.replicate, List.cons_append, List.nil_append, List.append_nil, List.length_cons, List.length_nil, decide_eq_true_eq, Bool.not_eq_true', decide_eq_false_iff_not, Nat.reduceAdd, Nat.zero_add, Nat.reduceLeDiff, Nat.reduceLT, Nat.reduceSub, if_true, if_false, Bool.false_eq_true, ↓reduceIte, Df.fd]
  refine least_W (y := .non) hm hr hl fun m m0 m1 m2 => ?_
  have low : ∀ i, mass - fuel ≤ i → i < m → ¬ mass - fuel ≤ i - val b ns i := fun i i0 i1 => by
    by_cases c : mass - fuel + b ≤ i
    · exact m2 i c i1
    · have := cnt_0 i ns
      unfold val
      omega
  by_cases c : mass - m < 0
  · simp only [c, decide_true, ↓W_some, ↓W_bind, ↓W_map, ↓w_var, ↓w_own, ↓w_cst, ↓w_tup, ↓w_ofL, ↓w_celL, ↓w_neg, ↓w_bin, ↓w_cmp, ↓w_chn, ↓w_nt, ↓w_an, ↓w_or, ↓w_ite, ↓w_idx, ↓w_slc, ↓w_call, ↓w_callK, ↓w_bi, ↓w_isi, ↓w_gall, ↓w_gany, ↓w_gsum, ↓w_gtup, ↓w_genF, ↓w_nil, ↓w_cons, ↓w_onone, ↓w_osome, ↓w_otnone, ↓w_otsome, ↓w_and1, ↓w_and, ↓w_or1, ↓w_orc, ↓w_tnt, ↓w_tan, ↓w_tor, ↓w_ta1, ↓w_ta, ↓w_to1, ↓w_to, ↓w_tcmp, ↓w_tchn, ↓w_tvar, ↓w_town, ↓w_tcst, ↓w_tidx, ↓w_tbin, ↓w_tslc, ↓w_tcall, ↓w_tcallK, ↓w_tbi, ↓w_tisi, ↓w_tgen, ↓w_disp, ↓w_comp, ↓w_list, ↓w_sorted, ↓w_seq, ↓w_rng1, ↓w_rng2, ↓w_enum, ↓w_zip, ↓w_rev, ↓w_set, ↓w_setL, ↓w_setD, ↓w_pat, ↓w_par2, ↓w_aug, ↓w_augI, ↓w_putI, ↓w_putO, ↓w_augO, ↓w_app, ↓w_expr, ↓w_ret, ↓w_retN, ↓w_iff, ↓w_whil, ↓w_forr, ↓w_brk, ↓w_cont, ↓w_pass, ↓w_frz, ↓w_snil, ↓w_scons, ↓bps_s, add_ii, add_tt, add_ll, sub_ii, lt_ii, le_ii, gt_ii, ge_ii, eq_ii, ne_ii, is_n, isnt_n, is_bb, isnt_bb, isNon_i, isNon_b, isNon_t, isNon_l, isNon_n, tru_b, tru_i, tru_t, tru_l, tru_n, len_t, len_l, len_s, len_d, bi_len, bi_abs, bi_int, bi_intb, bi_tupt, bi_tupl, bi_min, bi_max, bi_sum, it_t, it_l, it_s, li_l, list_t, list_l, list_s, sl_t, sl_l, sl_s, ty_ii, ty_ib, ty_in, ty_bi, ty_bb, ty_bn, bp_nm, bp_tt, bp_tl, bps_0, op_add, op_sub, op_mul, op_fdiv, op_mod, op_pow, cm_eq, cm_ne, cm_lt, cm_le, cm_gt, cm_ge, cm_is, cm_isnt, cm_in, cm_notin, cd_n, cd_b, cd_i, cd_s, wp_0, wp_s, oq_rt, oq_nx, ol_nx, ol_ct, ol_bk, ol_rt, mod_pos, fdiv_pos, mul_l, mul_r, varS_0, varS_s, lookS_0, lookS_s, ownS_0v, ownS_0, ownS_0d, ownS_s, setS_0, setS_s, set_0, set_s, deref_int, deref_bl, deref_non, deref_str, deref_tup, deref_lst, deref_scr, deref_dct, deref_ref0, isCell_ref0, restO_nx, restO_rt, restO_bk, restO_ct, szl, idx_tup0, idx_tup1, idx_tup2, idx_tup3, idx_tup4, idx_tup5, idx_tup6, idx_tup7, idx_tup8, idx_tup9, idx_lst0, idx_lst1, idx_lst2, idx_lst3, idx_lst4, idx_lst5, idx_lst6, idx_lst7, idx_lst8, idx_lst9, Int.reduceLT, Int.reduceLE, Int.reduceNeg, Int.reducePow, and_self, permD, List.getElem?_cons_zero, List.getElem?_cons_succ, Option.bind_some, Option.map_some, startS, List.map_cons, List.map_nil, List.replicate, List.cons_append, List.nil_append, List.append_nil, List.length_cons, List.length_nil, decide_eq_true_eq, Bool.not_eq_true', decide_eq_false_iff_not, Nat.reduceAdd, Nat.zero_add, Nat.reduceLeDiff, Nat.reduceLT, Nat.reduceSub, if_true, if_false, Bool.false_eq_true, ↓reduceIte, Df.fd]
    refine q _ (.inl ⟨rfl, fun k k0 k1 => ?_⟩)
    have := low (mass - k) (by omega) (by omega)
    omega
  · simp only [c, decide_false, ↓W_some, ↓W_bind, ↓W_map, ↓w_var, ↓w_own, ↓w_cst, ↓w_tup, ↓w_ofL, ↓w_celL, ↓w_neg, ↓w_bin, ↓w_cmp, ↓w_chn, ↓w_nt, ↓w_an, ↓w_or, ↓w_ite, ↓w_idx, ↓w_slc, ↓w_call, ↓w_callK, ↓w_bi, ↓w_isi, ↓w_gall, ↓w_gany, ↓w_gsum, ↓w_gtup, ↓w_genF, ↓w_nil, ↓w_cons, ↓w_onone, ↓w_osome, ↓w_otnone, ↓w_otsome, ↓w_and1, ↓w_and, ↓w_or1, ↓w_orc, ↓w_tnt, ↓w_tan, ↓w_tor, ↓w_ta1, ↓w_ta, ↓w_to1, ↓w_to, ↓w_tcmp, ↓w_tchn, ↓w_tvar, ↓w_town, ↓w_tcst, ↓w_tidx, ↓w_tbin, ↓w_tslc, ↓w_tcall, ↓w_tcallK, ↓w_tbi, ↓w_tisi, ↓w_tgen, ↓w_disp, ↓w_comp, ↓w_list, ↓w_sorted, ↓w_seq, ↓w_rng1, ↓w_rng2, ↓w_enum, ↓w_zip, ↓w_rev, ↓w_set, ↓w_setL, ↓w_setD, ↓w_pat, ↓w_par2, ↓w_aug, ↓w_augI, ↓w_putI, ↓w_putO, ↓w_augO, ↓w_app, ↓w_expr, ↓w_ret, ↓w_retN, ↓w_iff, ↓w_whil, ↓w_forr, ↓w_brk, ↓w_cont, ↓w_pass, ↓w_frz, ↓w_snil, ↓w_scons, ↓bps_s, add_ii, add_tt, add_ll, sub_ii, lt_ii, le_ii, gt_ii, ge_ii, eq_ii, ne_ii, is_n, isnt_n, is_bb, isnt_bb, isNon_i, isNon_b, isNon_t, isNon_l, isNon_n, tru_b, tru_i, tru_t, tru_l, tru_n, len_t, len_l, len_s, len_d, bi_len, bi_abs, bi_int, bi_intb, bi_tupt, bi_tupl, bi_min, bi_max, bi_sum, it_t, it_l, it_s, li_l, list_t, list_l, list_s, sl_t, sl_l, sl_s, ty_ii, ty_ib, ty_in, ty_bi, ty_bb, ty_bn, bp_nm, bp_tt, bp_tl, bps_0, op_add, op_sub, op_mul, op_fdiv, op_mod, op_pow, cm_eq, cm_ne, cm_lt, cm_le, cm_gt, cm_ge, cm_is, cm_isnt, cm_in, cm_notin, cd_n, cd_b, cd_i, cd_s, wp_0, wp_s, oq_rt, oq_nx, ol_nx, ol_ct, ol_bk, ol_rt, mod_pos, fdiv_pos, mul_l, mul_r, varS_0, varS_s, lookS_0, lookS_s, ownS_0v, ownS_0, ownS_0d, ownS_s, setS_0, setS_s, set_0, set_s, deref_int, deref_bl, deref_non, deref_str, deref_tup, deref_lst, deref_scr, deref_dct, deref_ref0, isCell_ref0, restO_nx, restO_rt, restO_bk, restO_ct, szl, idx_tup0, idx_tup1, idx_tup2, idx_tup3, idx_tup4, idx_tup5, idx_tup6, idx_tup7, idx_tup8, idx_tup9, idx_lst0, idx_lst1, idx_lst2, idx_lst3, idx_lst4, idx_lst5, idx_lst6, idx_lst7, idx_lst8, idx_lst9, Int.reduceLT, Int.reduceLE, Int.reduceNeg, Int.reducePow, and_self, permD, List.getElem?_cons_zero, List.getElem?_cons_succ, Option.bind_some, Option.map_some, startS, List.map_cons, List.map_nil, List.replicate, List.cons_append, List.nil_append, List.append_nil, List.length_cons, List.length_nil, decide_eq_true_eq, Bool.not_eq_true', decide_eq_false_iff_not, Nat.reduceAdd, Nat.zero_add, Nat.reduceLeDiff, Nat.reduceLT, Nat.reduceSub, if_true, if_false, Bool.false_eq_true, ↓reduceIte, Df.fd]
    refine q _ (.inr ⟨mass - m, rfl, by omega, by omega, ?_, fun j j0 j1 => ?_⟩)
    · rw [show mass - (mass - m) = m by omega]
      omega
    · have := low (mass - j) (by omega) (by omega)
      omega
end
end PI.K01

set_option Elab.async false
set_option linter.all false
set_option maxRecDepth 100000
set_option maxHeartbeats 4000000
set_option autoImplicit false
namespace PI.K01
open PySem PySem.Spec PyProof.Rows L2 PI
section
variable {n : Nat} {h : PH} {Q : D × PH → Prop}
theorem pow_29 : powD (.int 10) (.int 29) = some (.int 100000000000000000000000000000) := rfl
theorem tables_W (hs : St h) (q : ∀ h', St h' → Q (.bl true, h')) : W (call T (n + 4) 16 [.ref 0] h) Q := by
  refine W_call (f := f_law_tables_are_told.fd) rfl rfl ?_
  simp only [f_law_tables_are_told, b16, small_of (show (0 : Int) ≤ 3 by decide) (by decide), ↓W_some, ↓W_bind, ↓W_map, ↓w_var, ↓w_own, ↓w_cst, ↓w_tup, ↓w_ofL, ↓w_celL, ↓w_neg, ↓w_bin, ↓w_cmp, ↓w_chn, ↓w_nt, ↓w_an, ↓w_or, ↓w_ite, ↓w_idx, ↓w_slc, ↓w_call, ↓w_callK, ↓w_bi, ↓w_isi, ↓w_gall, ↓w_gany, ↓w_gsum, ↓w_gtup, ↓w_genF, ↓w_nil, ↓w_cons, ↓w_onone, ↓w_osome, ↓w_otnone, ↓w_otsome, ↓w_and1, ↓w_and, ↓w_or1, ↓w_orc, ↓w_tnt, ↓w_tan, ↓w_tor, ↓w_ta1, ↓w_ta, ↓w_to1, ↓w_to, ↓w_tcmp, ↓w_tchn, ↓w_tvar, ↓w_town, ↓w_tcst, ↓w_tidx, ↓w_tbin, ↓w_tslc, ↓w_tcall, ↓w_tcallK, ↓w_tbi, ↓w_tisi, ↓w_tgen, ↓w_disp, ↓w_comp, ↓w_list, ↓w_sorted, ↓w_seq, ↓w_rng1, ↓w_rng2, ↓w_enum, ↓w_zip, ↓w_rev, ↓w_set, ↓w_setL, ↓w_setD, ↓w_pat, ↓w_par2, ↓w_aug, ↓w_augI, ↓w_putI, ↓w_putO, ↓w_augO, ↓w_app, ↓w_expr, ↓w_ret, ↓w_retN, ↓w_iff, ↓w_whil, ↓w_forr, ↓w_brk, ↓w_cont, ↓w_pass, ↓w_frz, ↓w_snil, ↓w_scons, ↓bps_s, add_ii, add_tt, add_ll, sub_ii, lt_ii, le_ii, gt_ii, ge_ii, eq_ii, ne_ii, is_n, isnt_n, is_bb, isnt_bb, isNon_i, isNon_b, isNon_t, isNon_l, isNon_n, tru_b, tru_i, tru_t, tru_l, tru_n, len_t, len_l, len_s, len_d, bi_len, bi_abs, bi_int, bi_intb, bi_tupt, bi_tupl, bi_min, bi_max, bi_sum, it_t, it_l, it_s, li_l, list_t, list_l, list_s, sl_t, sl_l, sl_s, ty_ii, ty_ib, ty_in, ty_bi, ty_bb, ty_bn, bp_nm, bp_tt, bp_tl, bps_0, op_add, op_sub, op_mul, op_fdiv, op_mod, op_pow, cm_eq, cm_ne, cm_lt, cm_le, cm_gt, cm_ge, cm_is, cm_isnt, cm_in, cm_notin, cd_n, cd_b, cd_i, cd_s, wp_0, wp_s, oq_rt, oq_nx, ol_nx, ol_ct, ol_bk, ol_rt, mod_pos, fdiv_pos, mul_l, mul_r, varS_0, varS_s, lookS_0, lookS_s, ownS_0v, ownS_0, ownS_0d, ownS_s, setS_0, setS_s, set_0, set_s, deref_int, deref_bl, deref_non, deref_str, deref_tup, deref_lst, deref_scr, deref_dct, deref_ref0, isCell_ref0, restO_nx, restO_rt, restO_bk, restO_ct, szl, idx_tup0, idx_tup1, idx_tup2, idx_tup3, idx_tup4, idx_tup5, idx_tup6, idx_tup7, idx_tup8, idx_tup9, idx_lst0, idx_lst1, idx_lst2, idx_lst3, idx_lst4, idx_lst5, idx_lst6, idx_lst7, idx_lst8, idx_lst9, Int.reduceLT, Int.reduceLE, Int.reduceNeg, Int.reducePow, and_self, permD, List.getElem?_cons_zero, List.getElem?_cons_succ, Option.bind_some, Option.map_some, startS, List.map_cons, List.map_nil, List.replicate, List.cons_append, List.nil_append, List.append_nil, List.length_cons, List.length_nil, decide_eq_true_eq, Bool.not_eq_true', decide_eq_false_iff_not, Nat.reduceAdd, Nat.zero_add, Nat.reduceLeDiff, Nat.reduceLT, Nat.reduceSub, if_true, if_false, Bool.false_eq_true, ↓reduceIte, Df.fd]
  refine W_forS (fun r ρ h' => St h' ∧ ∃ s1 s2 s3 s4 s5 s6 s7 s8, ρ = [some (.val (.ref 0)), s1, s2, s3, s4, s5, s6, s7, s8]) ?_ ?_ ⟨hs, _, _, _, _, _, _, _, _, rfl⟩
  · rintro x r ρ h' ⟨hs', s1, s2, s3, s4, s5, s6, s7, s8, rfl⟩
    simp only [↓W_some, ↓W_bind, ↓W_map, ↓w_var, ↓w_own, ↓w_cst, ↓w_tup, ↓w_ofL, ↓w_celL, ↓w_neg, ↓w_bin, ↓w_cmp, ↓w_chn, ↓w_nt, ↓w_an, ↓w_or, ↓w_ite, ↓w_idx, ↓w_slc, ↓w_call, ↓w_callK, ↓w_bi, ↓w_isi, ↓w_gall, ↓w_gany, ↓w_gsum, ↓w_gtup, ↓w_genF, ↓w_nil, ↓w_cons, ↓w_onone, ↓w_osome, ↓w_otnone, ↓w_otsome, ↓w_and1, ↓w_and, ↓w_or1, ↓w_orc, ↓w_tnt, ↓w_tan, ↓w_tor, ↓w_ta1, ↓w_ta, ↓w_to1, ↓w_to, ↓w_tcmp, ↓w_tchn, ↓w_tvar, ↓w_town, ↓w_tcst, ↓w_tidx, ↓w_tbin, ↓w_tslc, ↓w_tcall, ↓w_tcallK, ↓w_tbi, ↓w_tisi, ↓w_tgen, ↓w_disp, ↓w_comp, ↓w_list, ↓w_sorted, ↓w_seq, ↓w_rng1, ↓w_rng2, ↓w_enum, ↓w_zip, ↓w_rev, ↓w_set, ↓w_setL, ↓w_setD, ↓w_pat, ↓w_par2, ↓w_aug, ↓w_augI, ↓w_putI, ↓w_putO, ↓w_augO, ↓w_app, ↓w_expr, ↓w_ret, ↓w_retN, ↓w_iff, ↓w_whil, ↓w_forr, ↓w_brk, ↓w_cont, ↓w_pass, ↓w_frz, ↓w_snil, ↓w_scons, ↓bps_s, add_ii, add_tt, add_ll, sub_ii, lt_ii, le_ii, gt_ii, ge_ii, eq_ii, ne_ii, is_n, isnt_n, is_bb, isnt_bb, isNon_i, isNon_b, isNon_t, isNon_l, isNon_n, tru_b, tru_i, tru_t, tru_l, tru_n, len_t, len_l, len_s, len_d, bi_len, bi_abs, bi_int, bi_intb, bi_tupt, bi_tupl, bi_min, bi_max, bi_sum, it_t, it_l, it_s, li_l, list_t, list_l, list_s, sl_t, sl_l, sl_s, ty_ii, ty_ib, ty_in, ty_bi, ty_bb, ty_bn, bp_nm, bp_tt, bp_tl, bps_0, op_add, op_sub, op_mul, op_fdiv, op_mod, op_pow, cm_eq, cm_ne, cm_lt, cm_le, cm_gt, cm_ge, cm_is, cm_isnt, cm_in, cm_notin, cd_n, cd_b, cd_i, cd_s, wp_0, wp_s, oq_rt, oq_nx, ol_nx, ol_ct, ol_bk, ol_rt, mod_pos, fdiv_pos, mul_l, mul_r, varS_0, varS_s, lookS_0, lookS_s, ownS_0v, ownS_0, ownS_0d, ownS_s, setS_0, setS_s, set_0, set_s, deref_int, deref_bl, deref_non, deref_str, deref_tup, deref_lst, deref_scr, deref_dct, deref_ref0, isCell_ref0, restO_nx, restO_rt, restO_bk, restO_ct, szl, idx_tup0, idx_tup1, idx_tup2, idx_tup3, idx_tup4, idx_tup5, idx_tup6, idx_tup7, idx_tup8, idx_tup9, idx_lst0, idx_lst1, idx_lst2, idx_lst3, idx_lst4, idx_lst5, idx_lst6, idx_lst7, idx_lst8, idx_lst9, Int.reduceLT, Int.reduceLE, Int.reduceNeg, Int.reducePow, and_self, permD, List.getElem?_cons_zero, List.getElem?_cons_succ, Option.bind_some, Option.map_some, startS, List.map_cons, List.map_nil, List.replicate, List.cons_append, List.nil_append, List.append_nil, List.length_cons, List.length_nil, decide_eq_true_eq, Bool.not_eq_true', decide_eq_false_iff_not, Nat.reduceAdd, Nat.zero_add, Nat.reduceLeDiff, Nat.reduceLT, Nat.reduceSub, if_true, if_false, Bool.false_eq_true, ↓reduceIte, Df.fd]
    refine pick_W hs' (by simp) (by simp) fun p hp h2 hs2 => ?_
    have hp2 : ∃ lo hi : Int, p = .tup [.int lo, .int hi] ∧ lo ≤ hi ∧ hi - lo < 1000000 := by
      simp only [List.mem_cons, List.mem_nil_iff, or_false] at hp
      rcases hp with rfl | rfl | rfl | rfl
      · exact ⟨_, _, rfl, by decide, by decide⟩
      · exact ⟨_, _, rfl, by decide, by decide⟩
      · exact ⟨_, _, rfl, by decide, by decide⟩
      · exact ⟨_, _, rfl, by decide, by decide⟩
    obtain ⟨lo, hi, rfl, hlo, hhi⟩ := hp2
    simp only [↓W_some, ↓W_bind, ↓W_map, ↓w_var, ↓w_own, ↓w_cst, ↓w_tup, ↓w_ofL, ↓w_celL, ↓w_neg, ↓w_bin, ↓w_cmp, ↓w_chn, ↓w_nt, ↓w_an, ↓w_or, ↓w_ite, ↓w_idx, ↓w_slc, ↓w_call, ↓w_callK, ↓w_bi, ↓w_isi, ↓w_gall, ↓w_gany, ↓w_gsum, ↓w_gtup, ↓w_genF, ↓w_nil, ↓w_cons, ↓w_onone, ↓w_osome, ↓w_otnone, ↓w_otsome, ↓w_and1, ↓w_and, ↓w_or1, ↓w_orc, ↓w_tnt, ↓w_tan, ↓w_tor, ↓w_ta1, ↓w_ta, ↓w_to1, ↓w_to, ↓w_tcmp, ↓w_tchn, ↓w_tvar, ↓w_town, ↓w_tcst, ↓w_tidx, ↓w_tbin, ↓w_tslc, ↓w_tcall, ↓w_tcallK, ↓w_tbi, ↓w_tisi, ↓w_tgen, ↓w_disp, ↓w_comp, ↓w_list, ↓w_sorted, ↓w_seq, ↓w_rng1, ↓w_rng2, ↓w_enum, ↓w_zip, ↓w_rev, ↓w_set, ↓w_setL, ↓w_setD, ↓w_pat, ↓w_par2, ↓w_aug, ↓w_augI, ↓w_putI, ↓w_putO, ↓w_augO, ↓w_app, ↓w_expr, ↓w_ret, ↓w_retN, ↓w_iff, ↓w_whil, ↓w_forr, ↓w_brk, ↓w_cont, ↓w_pass, ↓w_frz, ↓w_snil, ↓w_scons, ↓bps_s, add_ii, add_tt, add_ll, sub_ii, lt_ii, le_ii, gt_ii, ge_ii, eq_ii, ne_ii, is_n, isnt_n, is_bb, isnt_bb, isNon_i, isNon_b, isNon_t, isNon_l, isNon_n, tru_b, tru_i, tru_t, tru_l, tru_n, len_t, len_l, len_s, len_d, bi_len, bi_abs, bi_int, bi_intb, bi_tupt, bi_tupl, bi_min, bi_max, bi_sum, it_t, it_l, it_s, li_l, list_t, list_l, list_s, sl_t, sl_l, sl_s, ty_ii, ty_ib, ty_in, ty_bi, ty_bb, ty_bn, bp_nm, bp_tt, bp_tl, bps_0, op_add, op_sub, op_mul, op_fdiv, op_mod, op_pow, cm_eq, cm_ne, cm_lt, cm_le, cm_gt, cm_ge, cm_is, cm_isnt, cm_in, cm_notin, cd_n, cd_b, cd_i, cd_s, wp_0, wp_s, oq_rt, oq_nx, ol_nx, ol_ct, ol_bk, ol_rt, mod_pos, fdiv_pos, mul_l, mul_r, varS_0, varS_s, lookS_0, lookS_s, ownS_0v, ownS_0, ownS_0d, ownS_s, setS_0, setS_s, set_0, set_s, deref_int, deref_bl, deref_non, deref_str, deref_tup, deref_lst, deref_scr, deref_dct, deref_ref0, isCell_ref0, restO_nx, restO_rt, restO_bk, restO_ct, szl, idx_tup0, idx_tup1, idx_tup2, idx_tup3, idx_tup4, idx_tup5, idx_tup6, idx_tup7, idx_tup8, idx_tup9, idx_lst0, idx_lst1, idx_lst2, idx_lst3, idx_lst4, idx_lst5, idx_lst6, idx_lst7, idx_lst8, idx_lst9, Int.reduceLT, Int.reduceLE, Int.reduceNeg, Int.reducePow, and_self, permD, List.getElem?_cons_zero, List.getElem?_cons_succ, Option.bind_some, Option.map_some, startS, List.map_cons, List.map_nil, List.replicate, List.cons_append, List.nil_append, List.append_nil, List.length_cons, List.length_nil, decide_eq_true_eq, Bool.not_eq_true', decide_eq_false_iff_not, Nat.reduceAdd, Nat.zero_add, Nat.reduceLeDiff, Nat.reduceLT, Nat.reduceSub, if_true, if_false, Bool.false_eq_true, ↓reduceIte, Df.fd]
    refine take_W hs2 (by decide) (by decide) fun v h3 hs3 v0 v1 => ?_
    simp only [↓W_some, ↓W_bind, ↓W_map, ↓w_var, ↓w_own, ↓w_cst, ↓w_tup, ↓w_ofL, ↓w_celL, ↓w_neg, ↓w_bin, ↓w_cmp, ↓w_chn, ↓w_nt, ↓w_an, ↓w_or, ↓w_ite, ↓w_idx, ↓w_slc, ↓w_call, ↓w_callK, ↓w_bi, ↓w_isi, ↓w_gall, ↓w_gany, ↓w_gsum, ↓w_gtup, ↓w_genF, ↓w_nil, ↓w_cons, ↓w_onone, ↓w_osome, ↓w_otnone, ↓w_otsome, ↓w_and1, ↓w_and, ↓w_or1, ↓w_orc, ↓w_tnt, ↓w_tan, ↓w_tor, ↓w_ta1, ↓w_ta, ↓w_to1, ↓w_to, ↓w_tcmp, ↓w_tchn, ↓w_tvar, ↓w_town, ↓w_tcst, ↓w_tidx, ↓w_tbin, ↓w_tslc, ↓w_tcall, ↓w_tcallK, ↓w_tbi, ↓w_tisi, ↓w_tgen, ↓w_disp, ↓w_comp, ↓w_list, ↓w_sorted, ↓w_seq, ↓w_rng1, ↓w_rng2, ↓w_enum, ↓w_zip, ↓w_rev, ↓w_set, ↓w_setL, ↓w_setD, ↓w_pat, ↓w_par2, ↓w_aug, ↓w_augI, ↓w_putI, ↓w_putO, ↓w_augO, ↓w_app, ↓w_expr, ↓w_ret, ↓w_retN, ↓w_iff, ↓w_whil, ↓w_forr, ↓w_brk, ↓w_cont, ↓w_pass, ↓w_frz, ↓w_snil, ↓w_scons, ↓bps_s, add_ii, add_tt, add_ll, sub_ii, lt_ii, le_ii, gt_ii, ge_ii, eq_ii, ne_ii, is_n, isnt_n, is_bb, isnt_bb, isNon_i, isNon_b, isNon_t, isNon_l, isNon_n, tru_b, tru_i, tru_t, tru_l, tru_n, len_t, len_l, len_s, len_d, bi_len, bi_abs, bi_int, bi_intb, bi_tupt, bi_tupl, bi_min, bi_max, bi_sum, it_t, it_l, it_s, li_l, list_t, list_l, list_s, sl_t, sl_l, sl_s, ty_ii, ty_ib, ty_in, ty_bi, ty_bb, ty_bn, bp_nm, bp_tt, bp_tl, bps_0, op_add, op_sub, op_mul, op_fdiv, op_mod, op_pow, cm_eq, cm_ne, cm_lt, cm_le, cm_gt, cm_ge, cm_is, cm_isnt, cm_in, cm_notin, cd_n, cd_b, cd_i, cd_s, wp_0, wp_s, oq_rt, oq_nx, ol_nx, ol_ct, ol_bk, ol_rt, mod_pos, fdiv_pos, mul_l, mul_r, varS_0, varS_s, lookS_0, lookS_s, ownS_0v, ownS_0, ownS_0d, ownS_s, setS_0, setS_s, set_0, set_s, deref_int, deref_bl, deref_non, deref_str, deref_tup, deref_lst, deref_scr, deref_dct, deref_ref0, isCell_ref0, restO_nx, restO_rt, restO_bk, restO_ct, szl, idx_tup0, idx_tup1, idx_tup2, idx_tup3, idx_tup4, idx_tup5, idx_tup6, idx_tup7, idx_tup8, idx_tup9, idx_lst0, idx_lst1, idx_lst2, idx_lst3, idx_lst4, idx_lst5, idx_lst6, idx_lst7, idx_lst8, idx_lst9, Int.reduceLT, Int.reduceLE, Int.reduceNeg, Int.reducePow, and_self, permD, List.getElem?_cons_zero, List.getElem?_cons_succ, Option.bind_some, Option.map_some, startS, List.map_cons, List.map_nil, List.replicate, List.cons_append, List.nil_append, List.append_nil, List.length_cons, List.length_nil, decide_eq_true_eq, Bool.not_eq_true', decide_eq_false_iff_not, Nat.reduceAdd, Nat.zero_add, Nat.reduceLeDiff, Nat.reduceLT, Nat.reduceSub, if_true, if_false, Bool.false_eq_true, ↓reduceIte, Df.fd]
    refine pick_W hs3 (by simp) (by simp) fun p hp h4 hs4 => ?_
    have hp2 : ∃ b : Int, p = .int b := by
      simp only [List.mem_cons, List.mem_nil_iff, or_false] at hp
      rcases hp with rfl | rfl | rfl | rfl <;> exact ⟨_, rfl⟩
    obtain ⟨b, rfl⟩ := hp2
    simp only [↓W_some, ↓W_bind, ↓W_map, ↓w_var, ↓w_own, ↓w_cst, ↓w_tup, ↓w_ofL, ↓w_celL, ↓w_neg, ↓w_bin, ↓w_cmp, ↓w_chn, ↓w_nt, ↓w_an, ↓w_or, ↓w_ite, ↓w_idx, ↓w_slc, ↓w_call, ↓w_callK, ↓w_bi, ↓w_isi, ↓w_gall, ↓w_gany, ↓w_gsum, ↓w_gtup, ↓w_genF, ↓w_nil, ↓w_cons, ↓w_onone, ↓w_osome, ↓w_otnone, ↓w_otsome, ↓w_and1, ↓w_and, ↓w_or1, ↓w_orc, ↓w_tnt, ↓w_tan, ↓w_tor, ↓w_ta1, ↓w_ta, ↓w_to1, ↓w_to, ↓w_tcmp, ↓w_tchn, ↓w_tvar, ↓w_town, ↓w_tcst, ↓w_tidx, ↓w_tbin, ↓w_tslc, ↓w_tcall, ↓w_tcallK, ↓w_tbi, ↓w_tisi, ↓w_tgen, ↓w_disp, ↓w_comp, ↓w_list, ↓w_sorted, ↓w_seq, ↓w_rng1, ↓w_rng2, ↓w_enum, ↓w_zip, ↓w_rev, ↓w_set, ↓w_setL, ↓w_setD, ↓w_pat, ↓w_par2, ↓w_aug, ↓w_augI, ↓w_putI, ↓w_putO, ↓w_augO, ↓w_app, ↓w_expr, ↓w_ret, ↓w_retN, ↓w_iff, ↓w_whil, ↓w_forr, ↓w_brk, ↓w_cont, ↓w_pass, ↓w_frz, ↓w_snil, ↓w_scons, ↓bps_s, add_ii, add_tt, add_ll, sub_ii, lt_ii, le_ii, gt_ii, ge_ii, eq_ii, ne_ii, is_n, isnt_n, is_bb, isnt_bb, isNon_i, isNon_b, isNon_t, isNon_l, isNon_n, tru_b, tru_i, tru_t, tru_l, tru_n, len_t, len_l, len_s, len_d, bi_len, bi_abs, bi_int, bi_intb, bi_tupt, bi_tupl, bi_min, bi_max, bi_sum, it_t, it_l, it_s, li_l, list_t, list_l, list_s, sl_t, sl_l, sl_s, ty_ii, ty_ib, ty_in, ty_bi, ty_bb, ty_bn, bp_nm, bp_tt, bp_tl, bps_0, op_add, op_sub, op_mul, op_fdiv, op_mod, op_pow, cm_eq, cm_ne, cm_lt, cm_le, cm_gt, cm_ge, cm_is, cm_isnt, cm_in, cm_notin, cd_n, cd_b, cd_i, cd_s, wp_0, wp_s, oq_rt, oq_nx, ol_nx, ol_ct, ol_bk, ol_rt, mod_pos, fdiv_pos, mul_l, mul_r, varS_0, varS_s, lookS_0, lookS_s, ownS_0v, ownS_0, ownS_0d, ownS_s, setS_0, setS_s, set_0, set_s, deref_int, deref_bl, deref_non, deref_str, deref_tup, deref_lst, deref_scr, deref_dct, deref_ref0, isCell_ref0, restO_nx, restO_rt, restO_bk, restO_ct, szl, idx_tup0, idx_tup1, idx_tup2, idx_tup3, idx_tup4, idx_tup5, idx_tup6, idx_tup7, idx_tup8, idx_tup9, idx_lst0, idx_lst1, idx_lst2, idx_lst3, idx_lst4, idx_lst5, idx_lst6, idx_lst7, idx_lst8, idx_lst9, Int.reduceLT, Int.reduceLE, Int.reduceNeg, Int.reducePow, and_self, permD, List.getElem?_cons_zero, List.getElem?_cons_succ, Option.bind_some, Option.map_some, startS, List.map_cons, List.map_nil, List.replicate, List.cons_append, List.nil_append, List.append_nil, List.length_cons, List.length_nil, decide_eq_true_eq, Bool.not_eq_true', decide_eq_false_iff_not, Nat.reduceAdd, Nat.zero_add, Nat.reduceLeDiff, Nat.reduceLT, Nat.reduceSub, if_true, if_false, Bool.false_eq_true, ↓reduceIte, Df.fd]
    refine pick_W hs4 (by simp) (by simp) fun p hp h5 hs5 => ?_
    have hp2 : ∃ m : Int, p = .int m ∧ 0 ≤ m ∧ m ≤ 12 := by
      simp only [List.mem_cons, List.mem_nil_iff, or_false] at hp
      rcases hp with rfl | rfl | rfl <;> exact ⟨_, rfl, by decide, by decide⟩
    obtain ⟨m, rfl, m0, m1⟩ := hp2
    simp only [↓W_some, ↓W_bind, ↓W_map, ↓w_var, ↓w_own, ↓w_cst, ↓w_tup, ↓w_ofL, ↓w_celL, ↓w_neg, ↓w_bin, ↓w_cmp, ↓w_chn, ↓w_nt, ↓w_an, ↓w_or, ↓w_ite, ↓w_idx, ↓w_slc, ↓w_call, ↓w_callK, ↓w_bi, ↓w_isi, ↓w_gall, ↓w_gany, ↓w_gsum, ↓w_gtup, ↓w_genF, ↓w_nil, ↓w_cons, ↓w_onone, ↓w_osome, ↓w_otnone, ↓w_otsome, ↓w_and1, ↓w_and, ↓w_or1, ↓w_orc, ↓w_tnt, ↓w_tan, ↓w_tor, ↓w_ta1, ↓w_ta, ↓w_to1, ↓w_to, ↓w_tcmp, ↓w_tchn, ↓w_tvar, ↓w_town, ↓w_tcst, ↓w_tidx, ↓w_tbin, ↓w_tslc, ↓w_tcall, ↓w_tcallK, ↓w_tbi, ↓w_tisi, ↓w_tgen, ↓w_disp, ↓w_comp, ↓w_list, ↓w_sorted, ↓w_seq, ↓w_rng1, ↓w_rng2, ↓w_enum, ↓w_zip, ↓w_rev, ↓w_set, ↓w_setL, ↓w_setD, ↓w_pat, ↓w_par2, ↓w_aug, ↓w_augI, ↓w_putI, ↓w_putO, ↓w_augO, ↓w_app, ↓w_expr, ↓w_ret, ↓w_retN, ↓w_iff, ↓w_whil, ↓w_forr, ↓w_brk, ↓w_cont, ↓w_pass, ↓w_frz, ↓w_snil, ↓w_scons, ↓bps_s, add_ii, add_tt, add_ll, sub_ii, lt_ii, le_ii, gt_ii, ge_ii, eq_ii, ne_ii, is_n, isnt_n, is_bb, isnt_bb, isNon_i, isNon_b, isNon_t, isNon_l, isNon_n, tru_b, tru_i, tru_t, tru_l, tru_n, len_t, len_l, len_s, len_d, bi_len, bi_abs, bi_int, bi_intb, bi_tupt, bi_tupl, bi_min, bi_max, bi_sum, it_t, it_l, it_s, li_l, list_t, list_l, list_s, sl_t, sl_l, sl_s, ty_ii, ty_ib, ty_in, ty_bi, ty_bb, ty_bn, bp_nm, bp_tt, bp_tl, bps_0, op_add, op_sub, op_mul, op_fdiv, op_mod, op_pow, cm_eq, cm_ne, cm_lt, cm_le, cm_gt, cm_ge, cm_is, cm_isnt, cm_in, cm_notin, cd_n, cd_b, cd_i, cd_s, wp_0, wp_s, oq_rt, oq_nx, ol_nx, ol_ct, ol_bk, ol_rt, mod_pos, fdiv_pos, mul_l, mul_r, varS_0, varS_s, lookS_0, lookS_s, ownS_0v, ownS_0, ownS_0d, ownS_s, setS_0, setS_s, set_0, set_s, deref_int, deref_bl, deref_non, deref_str, deref_tup, deref_lst, deref_scr, deref_dct, deref_ref0, isCell_ref0, restO_nx, restO_rt, restO_bk, restO_ct, szl, idx_tup0, idx_tup1, idx_tup2, idx_tup3, idx_tup4, idx_tup5, idx_tup6, idx_tup7, idx_tup8, idx_tup9, idx_lst0, idx_lst1, idx_lst2, idx_lst3, idx_lst4, idx_lst5, idx_lst6, idx_lst7, idx_lst8, idx_lst9, Int.reduceLT, Int.reduceLE, Int.reduceNeg, Int.reducePow, and_self, permD, List.getElem?_cons_zero, List.getElem?_cons_succ, Option.bind_some, Option.map_some, startS, List.map_cons, List.map_nil, List.replicate, List.cons_append, List.nil_append, List.append_nil, List.length_cons, List.length_nil, decide_eq_true_eq, Bool.not_eq_true', decide_eq_false_iff_not, Nat.reduceAdd, Nat.zero_add, Nat.reduceLeDiff, Nat.reduceLT, Nat.reduceSub, if_true, if_false, Bool.false_eq_true, ↓reduceIte, Df.fd]
    refine rising_W hs5 hlo hhi m0 (by omega) fun ns hns h6 hs6 => ?_
    simp only [↓W_some, ↓W_bind, ↓W_map, ↓w_var, ↓w_own, ↓w_cst, ↓w_tup, ↓w_ofL, ↓w_celL, ↓w_neg, ↓w_bin, ↓w_cmp, ↓w_chn, ↓w_nt, ↓w_an, ↓w_or, ↓w_ite, ↓w_idx, ↓w_slc, ↓w_call, ↓w_callK, ↓w_bi, ↓w_isi, ↓w_gall, ↓w_gany, ↓w_gsum, ↓w_gtup, ↓w_genF, ↓w_nil, ↓w_cons, ↓w_onone, ↓w_osome, ↓w_otnone, ↓w_otsome, ↓w_and1, ↓w_and, ↓w_or1, ↓w_orc, ↓w_tnt, ↓w_tan, ↓w_tor, ↓w_ta1, ↓w_ta, ↓w_to1, ↓w_to, ↓w_tcmp, ↓w_tchn, ↓w_tvar, ↓w_town, ↓w_tcst, ↓w_tidx, ↓w_tbin, ↓w_tslc, ↓w_tcall, ↓w_tcallK, ↓w_tbi, ↓w_tisi, ↓w_tgen, ↓w_disp, ↓w_comp, ↓w_list, ↓w_sorted, ↓w_seq, ↓w_rng1, ↓w_rng2, ↓w_enum, ↓w_zip, ↓w_rev, ↓w_set, ↓w_setL, ↓w_setD, ↓w_pat, ↓w_par2, ↓w_aug, ↓w_augI, ↓w_putI, ↓w_putO, ↓w_augO, ↓w_app, ↓w_expr, ↓w_ret, ↓w_retN, ↓w_iff, ↓w_whil, ↓w_forr, ↓w_brk, ↓w_cont, ↓w_pass, ↓w_frz, ↓w_snil, ↓w_scons, ↓bps_s, add_ii, add_tt, add_ll, sub_ii, lt_ii, le_ii, gt_ii, ge_ii, eq_ii, ne_ii, is_n, isnt_n, is_bb, isnt_bb, isNon_i, isNon_b, isNon_t, isNon_l, isNon_n, tru_b, tru_i, tru_t, tru_l, tru_n, len_t, len_l, len_s, len_d, bi_len, bi_abs, bi_int, bi_intb, bi_tupt, bi_tupl, bi_min, bi_max, bi_sum, it_t, it_l, it_s, li_l, list_t, list_l, list_s, sl_t, sl_l, sl_s, ty_ii, ty_ib, ty_in, ty_bi, ty_bb, ty_bn, bp_nm, bp_tt, bp_tl, bps_0, op_add, op_sub, op_mul, op_fdiv, op_mod, op_pow, cm_eq, cm_ne, cm_lt, cm_le, cm_gt, cm_ge, cm_is, cm_isnt, cm_in, cm_notin, cd_n, cd_b, cd_i, cd_s, wp_0, wp_s, oq_rt, oq_nx, ol_nx, ol_ct, ol_bk, ol_rt, mod_pos, fdiv_pos, mul_l, mul_r, varS_0, varS_s, lookS_0, lookS_s, ownS_0v, ownS_0, ownS_0d, ownS_s, setS_0, setS_s, set_0, set_s, deref_int, deref_bl, deref_non, deref_str, deref_tup, deref_lst, deref_scr, deref_dct, deref_ref0, isCell_ref0, restO_nx, restO_rt, restO_bk, restO_ct, szl, idx_tup0, idx_tup1, idx_tup2, idx_tup3, idx_tup4, idx_tup5, idx_tup6, idx_tup7, idx_tup8, idx_tup9, idx_lst0, idx_lst1, idx_lst2, idx_lst3, idx_lst4, idx_lst5, idx_lst6, idx_lst7, idx_lst8, idx_lst9, Int.reduceLT, Int.reduceLE, Int.reduceNeg, Int.reducePow, and_self, permD, List.getElem?_cons_zero, List.getElem?_cons_succ, Option.bind_some, Option.map_some, startS, List.map_cons, List.map_nil, List.replicate, List.cons_append, List.nil_append, List.append_nil, List.length_cons, List.length_nil, decide_eq_true_eq, Bool.not_eq_true', decide_eq_false_iff_not, Nat.reduceAdd, Nat.zero_add, Nat.reduceLeDiff, Nat.reduceLT, Nat.reduceSub, if_true, if_false, Bool.false_eq_true, ↓reduceIte, Df.fd]
    refine take_W hs6 (by decide) (by decide) fun v h7 hs7 v0 v1 => ?_
    simp only [pow_29, ↓W_some, ↓W_bind, ↓W_map, ↓w_var, ↓w_own, ↓w_cst, ↓w_tup, ↓w_ofL, ↓w_celL, ↓w_neg, ↓w_bin, ↓w_cmp, ↓w_chn, ↓w_nt, ↓w_an, ↓w_or, ↓w_ite, ↓w_idx, ↓w_slc, ↓w_call, ↓w_callK, ↓w_bi, ↓w_isi, ↓w_gall, ↓w_gany, ↓w_gsum, ↓w_gtup, ↓w_genF, ↓w_nil, ↓w_cons, ↓w_onone, ↓w_osome, ↓w_otnone, ↓w_otsome, ↓w_and1, ↓w_and, ↓w_or1, ↓w_orc, ↓w_tnt, ↓w_tan, ↓w_tor, ↓w_ta1, ↓w_ta, ↓w_to1, ↓w_to, ↓w_tcmp, ↓w_tchn, ↓w_tvar, ↓w_town, ↓w_tcst, ↓w_tidx, ↓w_tbin, ↓w_tslc, ↓w_tcall, ↓w_tcallK, ↓w_tbi, ↓w_tisi, ↓w_tgen, ↓w_disp, ↓w_comp, ↓w_list, ↓w_sorted, ↓w_seq, ↓w_rng1, ↓w_rng2, ↓w_enum, ↓w_zip, ↓w_rev, ↓w_set, ↓w_setL, ↓w_setD, ↓w_pat, ↓w_par2, ↓w_aug, ↓w_augI, ↓w_putI, ↓w_putO, ↓w_augO, ↓w_app, ↓w_expr, ↓w_ret, ↓w_retN, ↓w_iff, ↓w_whil, ↓w_forr, ↓w_brk, ↓w_cont, ↓w_pass, ↓w_frz, ↓w_snil, ↓w_scons, ↓bps_s, add_ii, add_tt, add_ll, sub_ii, lt_ii, le_ii, gt_ii, ge_ii, eq_ii, ne_ii, is_n, isnt_n, is_bb, isnt_bb, isNon_i, isNon_b, isNon_t, isNon_l, isNon_n, tru_b, tru_i, tru_t, tru_l, tru_n, len_t, len_l, len_s, len_d, bi_len, bi_abs, bi_int, bi_intb, bi_tupt, bi_tupl, bi_min, bi_max, bi_sum, it_t, it_l, it_s, li_l, list_t, list_l, list_s, sl_t, sl_l, sl_s, ty_ii, ty_ib, ty_in, ty_bi, ty_bb, ty_bn, bp_nm, bp_tt, bp_tl, bps_0, op_add, op_sub, op_mul, op_fdiv, op_mod, op_pow, cm_eq, cm_ne, cm_lt, cm_le, cm_gt, cm_ge, cm_is, cm_isnt, cm_in, cm_notin, cd_n, cd_b, cd_i, cd_s, wp_0, wp_s, oq_rt, oq_nx, ol_nx, ol_ct, ol_bk, ol_rt, mod_pos, fdiv_pos, mul_l, mul_r, varS_0, varS_s, lookS_0, lookS_s, ownS_0v, ownS_0, ownS_0d, ownS_s, setS_0, setS_s, set_0, set_s, deref_int, deref_bl, deref_non, deref_str, deref_tup, deref_lst, deref_scr, deref_dct, deref_ref0, isCell_ref0, restO_nx, restO_rt, restO_bk, restO_ct, szl, idx_tup0, idx_tup1, idx_tup2, idx_tup3, idx_tup4, idx_tup5, idx_tup6, idx_tup7, idx_tup8, idx_tup9, idx_lst0, idx_lst1, idx_lst2, idx_lst3, idx_lst4, idx_lst5, idx_lst6, idx_lst7, idx_lst8, idx_lst9, Int.reduceLT, Int.reduceLE, Int.reduceNeg, Int.reducePow, and_self, permD, List.getElem?_cons_zero, List.getElem?_cons_succ, Option.bind_some, Option.map_some, startS, List.map_cons, List.map_nil, List.replicate, List.cons_append, List.nil_append, List.append_nil, List.length_cons, List.length_nil, decide_eq_true_eq, Bool.not_eq_true', decide_eq_false_iff_not, Nat.reduceAdd, Nat.zero_add, Nat.reduceLeDiff, Nat.reduceLT, Nat.reduceSub, if_true, if_false, Bool.false_eq_true, ↓reduceIte, Df.fd]
    refine W_forS (fun r ρ h' => h' = h7 ∧ ∃ (ms ks : List Int) (s4 s5 s8 : Option Sl), ρ = [some (.val (.ref 0)), some (.val x), some (.val (tabD b ns)), some (.val (.lst (ms.map .int))), s4, s5, some (.val (.int lo)), some (.val (.int hi)), s8] ∧ r = ks.map .int ∧ ms.length + 3 * r.length ≤ 1000) ?_ ?_ ⟨by trivial, [0, 1, 1999, 2000, 2001, v, 100000000000000000000000000000], ns, s4, s5, s8, by trivial, rfl, by simp only [List.length_map, List.length_cons, List.length_nil]; omega⟩
    · rintro y r' ρ h' ⟨e1, ms, ks, s4, s5, s8, e2, e3, e4⟩
      subst e1 e2
      cases ks with
      | nil => cases e3
      | cons k ks =>
        cases e3
        rw [List.length_cons] at e4
        have ea : addD (.lst (ms.map D.int)) (.lst [.int (k - 1), .int k, .int (k + 1)]) = some (.lst ((ms ++ [k - 1, k, k + 1]).map .int)) := by
          rw [add_ll (by simp only [List.length_map, List.length_cons, List.length_nil, szl]; omega)]
          simp
        simp only [ea, ↓W_some, ↓W_bind, ↓W_map, ↓w_var, ↓w_own, ↓w_cst, ↓w_tup, ↓w_ofL, ↓w_celL, ↓w_neg, ↓w_bin, ↓w_cmp, ↓w_chn, ↓w_nt, ↓w_an, ↓w_or, ↓w_ite, ↓w_idx, ↓w_slc, ↓w_call, ↓w_callK, ↓w_bi, ↓w_isi, ↓w_gall, ↓w_gany, ↓w_gsum, ↓w_gtup, ↓w_genF, ↓w_nil, ↓w_cons, ↓w_onone, ↓w_osome, ↓w_otnone, ↓w_otsome, ↓w_and1, ↓w_and, ↓w_or1, ↓w_orc, ↓w_tnt, ↓w_tan, ↓w_tor, ↓w_ta1, ↓w_ta, ↓w_to1, ↓w_to, ↓w_tcmp, ↓w_tchn, ↓w_tvar, ↓w_town, ↓w_tcst, ↓w_tidx, ↓w_tbin, ↓w_tslc, ↓w_tcall, ↓w_tcallK, ↓w_tbi, ↓w_tisi, ↓w_tgen, ↓w_disp, ↓w_comp, ↓w_list, ↓w_sorted, ↓w_seq, ↓w_rng1, ↓w_rng2, ↓w_enum, ↓w_zip, ↓w_rev, ↓w_set, ↓w_setL, ↓w_setD, ↓w_pat, ↓w_par2, ↓w_aug, ↓w_augI, ↓w_putI, ↓w_putO, ↓w_augO, ↓w_app, ↓w_expr, ↓w_ret, ↓w_retN, ↓w_iff, ↓w_whil, ↓w_forr, ↓w_brk, ↓w_cont, ↓w_pass, ↓w_frz, ↓w_snil, ↓w_scons, ↓bps_s, add_ii, add_tt, add_ll, sub_ii, lt_ii, le_ii, gt_ii, ge_ii, eq_ii, ne_ii, is_n, isnt_n, is_bb, isnt_bb, isNon_i, isNon_b, isNon_t, isNon_l, isNon_n, tru_b, tru_i, tru_t, tru_l, tru_n, len_t, len_l, len_s, len_d, bi_len, bi_abs, bi_int, bi_intb, bi_tupt, bi_tupl, bi_min, bi_max, bi_sum, it_t, it_l, it_s, li_l, list_t, list_l, list_s, sl_t, sl_l, sl_s, ty_ii, ty_ib, ty_in, ty_bi, ty_bb, ty_bn, bp_nm, bp_tt, bp_tl, bps_0, op_add, op_sub, op_mul, op_fdiv, op_mod, op_pow, cm_eq, cm_ne, cm_lt, cm_le, cm_gt, cm_ge, cm_is, cm_isnt, cm_in, cm_notin, cd_n, cd_b, cd_i, cd_s, wp_0, wp_s, oq_rt, oq_nx, ol_nx, ol_ct, ol_bk, ol_rt, mod_pos, fdiv_pos, mul_l, mul_r, varS_0, varS_s, lookS_0, lookS_s, ownS_0v, ownS_0, ownS_0d, ownS_s, setS_0, setS_s, set_0, set_s, deref_int, deref_bl, deref_non, deref_str, deref_tup, deref_lst, deref_scr, deref_dct, deref_ref0, isCell_ref0, restO_nx, restO_rt, restO_bk, restO_ct, szl, idx_tup0, idx_tup1, idx_tup2, idx_tup3, idx_tup4, idx_tup5, idx_tup6, idx_tup7, idx_tup8, idx_tup9, idx_lst0, idx_lst1, idx_lst2, idx_lst3, idx_lst4, idx_lst5, idx_lst6, idx_lst7, idx_lst8, idx_lst9, Int.reduceLT, Int.reduceLE, Int.reduceNeg, Int.reducePow, and_self, permD, List.getElem?_cons_zero, List.getElem?_cons_succ, Option.bind_some, Option.map_some, startS, List.map_cons, List.map_nil, List.replicate, List.cons_append, List.nil_append, List.append_nil, List.length_cons, List.length_nil, decide_eq_true_eq, Bool.not_eq_true', decide_eq_false_iff_not, Nat.reduceAdd, Nat.zero_add, Nat.reduceLeDiff, Nat.reduceLT, Nat.reduceSub, if_true, if_false, Bool.false_eq_true, ↓reduceIte, Df.fd]
        exact ⟨by trivial, _, ks, _, _, _, by trivial, by trivial, by simp only [List.length_append, List.length_cons, List.length_nil]; omega⟩
    · rintro ρ h' ⟨e1, ms, ks, s4, s5, s8, e2, e3, e4⟩
      subst e1 e2
      simp only [↓W_some, ↓W_bind, ↓W_map, ↓w_var, ↓w_own, ↓w_cst, ↓w_tup, ↓w_ofL, ↓w_celL, ↓w_neg, ↓w_bin, ↓w_cmp, ↓w_chn, ↓w_nt, ↓w_an, ↓w_or, ↓w_ite, ↓w_idx, ↓w_slc, ↓w_call, ↓w_callK, ↓w_bi, ↓w_isi, ↓w_gall, ↓w_gany, ↓w_gsum, ↓w_gtup, ↓w_genF, ↓w_nil, ↓w_cons, ↓w_onone, ↓w_osome, ↓w_otnone, ↓w_otsome, ↓w_and1, ↓w_and, ↓w_or1, ↓w_orc, ↓w_tnt, ↓w_tan, ↓w_tor, ↓w_ta1, ↓w_ta, ↓w_to1, ↓w_to, ↓w_tcmp, ↓w_tchn, ↓w_tvar, ↓w_town, ↓w_tcst, ↓w_tidx, ↓w_tbin, ↓w_tslc, ↓w_tcall, ↓w_tcallK, ↓w_tbi, ↓w_tisi, ↓w_tgen, ↓w_disp, ↓w_comp, ↓w_list, ↓w_sorted, ↓w_seq, ↓w_rng1, ↓w_rng2, ↓w_enum, ↓w_zip, ↓w_rev, ↓w_set, ↓w_setL, ↓w_setD, ↓w_pat, ↓w_par2, ↓w_aug, ↓w_augI, ↓w_putI, ↓w_putO, ↓w_augO, ↓w_app, ↓w_expr, ↓w_ret, ↓w_retN, ↓w_iff, ↓w_whil, ↓w_forr, ↓w_brk, ↓w_cont, ↓w_pass, ↓w_frz, ↓w_snil, ↓w_scons, ↓bps_s, add_ii, add_tt, add_ll, sub_ii, lt_ii, le_ii, gt_ii, ge_ii, eq_ii, ne_ii, is_n, isnt_n, is_bb, isnt_bb, isNon_i, isNon_b, isNon_t, isNon_l, isNon_n, tru_b, tru_i, tru_t, tru_l, tru_n, len_t, len_l, len_s, len_d, bi_len, bi_abs, bi_int, bi_intb, bi_tupt, bi_tupl, bi_min, bi_max, bi_sum, it_t, it_l, it_s, li_l, list_t, list_l, list_s, sl_t, sl_l, sl_s, ty_ii, ty_ib, ty_in, ty_bi, ty_bb, ty_bn, bp_nm, bp_tt, bp_tl, bps_0, op_add, op_sub, op_mul, op_fdiv, op_mod, op_pow, cm_eq, cm_ne, cm_lt, cm_le, cm_gt, cm_ge, cm_is, cm_isnt, cm_in, cm_notin, cd_n, cd_b, cd_i, cd_s, wp_0, wp_s, oq_rt, oq_nx, ol_nx, ol_ct, ol_bk, ol_rt, mod_pos, fdiv_pos, mul_l, mul_r, varS_0, varS_s, lookS_0, lookS_s, ownS_0v, ownS_0, ownS_0d, ownS_s, setS_0, setS_s, set_0, set_s, deref_int, deref_bl, deref_non, deref_str, deref_tup, deref_lst, deref_scr, deref_dct, deref_ref0, isCell_ref0, restO_nx, restO_rt, restO_bk, restO_ct, szl, idx_tup0, idx_tup1, idx_tup2, idx_tup3, idx_tup4, idx_tup5, idx_tup6, idx_tup7, idx_tup8, idx_tup9, idx_lst0, idx_lst1, idx_lst2, idx_lst3, idx_lst4, idx_lst5, idx_lst6, idx_lst7, idx_lst8, idx_lst9, Int.reduceLT, Int.reduceLE, Int.reduceNeg, Int.reducePow, and_self, permD, List.getElem?_cons_zero, List.getElem?_cons_succ, Option.bind_some, Option.map_some, startS, List.map_cons, List.map_nil, List.replicate, List.cons_append, List.nil_append, List.append_nil, List.length_cons, List.length_nil, decide_eq_true_eq, Bool.not_eq_true', decide_eq_false_iff_not, Nat.reduceAdd, Nat.zero_add, Nat.reduceLeDiff, Nat.reduceLT, Nat.reduceSub, if_true, if_false, Bool.false_eq_true, ↓reduceIte, Df.fd]
      refine W_forS (fun r ρ h' => St h' ∧ ∃ (ks : List Int) (s4 s5 s8 : Option Sl), ρ = [some (.val (.ref 0)), some (.val x), some (.val (tabD b ns)), some (.val (.lst (ms.map .int))), s4, s5, some (.val (.int lo)), some (.val (.int hi)), s8] ∧ r = ks.map .int) ?_ ?_ ⟨hs7, ms, s4, s5, s8, by trivial, by trivial⟩
      · rintro y r' ρ h' ⟨hs8, ks, s4, s5, s8, e2, e3⟩
        subst e2
        cases ks with
        | nil => cases e3
        | cons k ks =>
          cases e3
          simp only [↓W_some, ↓W_bind, ↓W_map, ↓w_var, ↓w_own, ↓w_cst, ↓w_tup, ↓w_ofL, ↓w_celL, ↓w_neg, ↓w_bin, ↓w_cmp, ↓w_chn, ↓w_nt, ↓w_an, ↓w_or, ↓w_ite, ↓w_idx, ↓w_slc, ↓w_call, ↓w_callK, ↓w_bi, ↓w_isi, ↓w_gall, ↓w_gany, ↓w_gsum, ↓w_gtup, ↓w_genF, ↓w_nil, ↓w_cons, ↓w_onone, ↓w_osome, ↓w_otnone, ↓w_otsome, ↓w_and1, ↓w_and, ↓w_or1, ↓w_orc, ↓w_tnt, ↓w_tan, ↓w_tor, ↓w_ta1, ↓w_ta, ↓w_to1, ↓w_to, ↓w_tcmp, ↓w_tchn, ↓w_tvar, ↓w_town, ↓w_tcst, ↓w_tidx, ↓w_tbin, ↓w_tslc, ↓w_tcall, ↓w_tcallK, ↓w_tbi, ↓w_tisi, ↓w_tgen, ↓w_disp, ↓w_comp, ↓w_list, ↓w_sorted, ↓w_seq, ↓w_rng1, ↓w_rng2, ↓w_enum, ↓w_zip, ↓w_rev, ↓w_set, ↓w_setL, ↓w_setD, ↓w_pat, ↓w_par2, ↓w_aug, ↓w_augI, ↓w_putI, ↓w_putO, ↓w_augO, ↓w_app, ↓w_expr, ↓w_ret, ↓w_retN, ↓w_iff, ↓w_whil, ↓w_forr, ↓w_brk, ↓w_cont, ↓w_pass, ↓w_frz, ↓w_snil, ↓w_scons, ↓bps_s, add_ii, add_tt, add_ll, sub_ii, lt_ii, le_ii, gt_ii, ge_ii, eq_ii, ne_ii, is_n, isnt_n, is_bb, isnt_bb, isNon_i, isNon_b, isNon_t, isNon_l, isNon_n, tru_b, tru_i, tru_t, tru_l, tru_n, len_t, len_l, len_s, len_d, bi_len, bi_abs, bi_int, bi_intb, bi_tupt, bi_tupl, bi_min, bi_max, bi_sum, it_t, it_l, it_s, li_l, list_t, list_l, list_s, sl_t, sl_l, sl_s, ty_ii, ty_ib, ty_in, ty_bi, ty_bb, ty_bn, bp_nm, bp_tt, bp_tl, bps_0, op_add, op_sub, op_mul, op_fdiv, op_mod, op_pow, cm_eq, cm_ne, cm_lt, cm_le, cm_gt, cm_ge, cm_is, cm_isnt, cm_in, cm_notin, cd_n, cd_b, cd_i, cd_s, wp_0, wp_s, oq_rt, oq_nx, ol_nx, ol_ct, ol_bk, ol_rt, mod_pos, fdiv_pos, mul_l, mul_r, varS_0, varS_s, lookS_0, lookS_s, ownS_0v, ownS_0, ownS_0d, ownS_s, setS_0, setS_s, set_0, set_s, deref_int, deref_bl, deref_non, deref_str, deref_tup, deref_lst, deref_scr, deref_dct, deref_ref0, isCell_ref0, restO_nx, restO_rt, restO_bk, restO_ct, szl, idx_tup0, idx_tup1, idx_tup2, idx_tup3, idx_tup4, idx_tup5, idx_tup6, idx_tup7, idx_tup8, idx_tup9, idx_lst0, idx_lst1, idx_lst2, idx_lst3, idx_lst4, idx_lst5, idx_lst6, idx_lst7, idx_lst8, idx_lst9, Int.reduceLT, Int.reduceLE, Int.reduceNeg, Int.reducePow, and_self, permD, List.getElem?_cons_zero, List.getElem?_cons_succ, Option.bind_some, Option.map_some, startS, List.map_cons, List.map_nil, List.replicate, List.cons_append, List.nil_append, List.append_nil, List.length_cons, List.length_nil, decide_eq_true_eq, Bool.not_eq_true', decide_eq_false_iff_not, Nat.reduceAdd, Nat.zero_add, Nat.reduceLeDiff, Nat.reduceLT, Nat.reduceSub, if_true, if_false, Bool.false_eq_true, ↓reduceIte, Df.fd]
          refine value_W ?_
          simp only [↓W_some, ↓W_bind, ↓W_map, ↓w_var, ↓w_own, ↓w_cst, ↓w_tup, ↓w_ofL, ↓w_celL, ↓w_neg, ↓w_bin, ↓w_cmp, ↓w_chn, ↓w_nt, ↓w_an, ↓w_or, ↓w_ite, ↓w_idx, ↓w_slc, ↓w_call, ↓w_callK, ↓w_bi, ↓w_isi, ↓w_gall, ↓w_gany, ↓w_gsum, ↓w_gtup, ↓w_genF, ↓w_nil, ↓w_cons, ↓w_onone, ↓w_osome, ↓w_otnone, ↓w_otsome, ↓w_and1, ↓w_and, ↓w_or1, ↓w_orc, ↓w_tnt, ↓w_tan, ↓w_tor, ↓w_ta1, ↓w_ta, ↓w_to1, ↓w_to, ↓w_tcmp, ↓w_tchn, ↓w_tvar, ↓w_town, ↓w_tcst, ↓w_tidx, ↓w_tbin, ↓w_tslc, ↓w_tcall, ↓w_tcallK, ↓w_tbi, ↓w_tisi, ↓w_tgen, ↓w_disp, ↓w_comp, ↓w_list, ↓w_sorted, ↓w_seq, ↓w_rng1, ↓w_rng2, ↓w_enum, ↓w_zip, ↓w_rev, ↓w_set, ↓w_setL, ↓w_setD, ↓w_pat, ↓w_par2, ↓w_aug, ↓w_augI, ↓w_putI, ↓w_putO, ↓w_augO, ↓w_app, ↓w_expr, ↓w_ret, ↓w_retN, ↓w_iff, ↓w_whil, ↓w_forr, ↓w_brk, ↓w_cont, ↓w_pass, ↓w_frz, ↓w_snil, ↓w_scons, ↓bps_s, add_ii, add_tt, add_ll, sub_ii, lt_ii, le_ii, gt_ii, ge_ii, eq_ii, ne_ii, is_n, isnt_n, is_bb, isnt_bb, isNon_i, isNon_b, isNon_t, isNon_l, isNon_n, tru_b, tru_i, tru_t, tru_l, tru_n, len_t, len_l, len_s, len_d, bi_len, bi_abs, bi_int, bi_intb, bi_tupt, bi_tupl, bi_min, bi_max, bi_sum, it_t, it_l, it_s, li_l, list_t, list_l, list_s, sl_t, sl_l, sl_s, ty_ii, ty_ib, ty_in, ty_bi, ty_bb, ty_bn, bp_nm, bp_tt, bp_tl, bps_0, op_add, op_sub, op_mul, op_fdiv, op_mod, op_pow, cm_eq, cm_ne, cm_lt, cm_le, cm_gt, cm_ge, cm_is, cm_isnt, cm_in, cm_notin, cd_n, cd_b, cd_i, cd_s, wp_0, wp_s, oq_rt, oq_nx, ol_nx, ol_ct, ol_bk, ol_rt, mod_pos, fdiv_pos, mul_l, mul_r, varS_0, varS_s, lookS_0, lookS_s, ownS_0v, ownS_0, ownS_0d, ownS_s, setS_0, setS_s, set_0, set_s, deref_int, deref_bl, deref_non, deref_str, deref_tup, deref_lst, deref_scr, deref_dct, deref_ref0, isCell_ref0, restO_nx, restO_rt, restO_bk, restO_ct, szl, idx_tup0, idx_tup1, idx_tup2, idx_tup3, idx_tup4, idx_tup5, idx_tup6, idx_tup7, idx_tup8, idx_tup9, idx_lst0, idx_lst1, idx_lst2, idx_lst3, idx_lst4, idx_lst5, idx_lst6, idx_lst7, idx_lst8, idx_lst9, Int.reduceLT, Int.reduceLE, Int.reduceNeg, Int.reducePow, and_self, permD, List.getElem?_cons_zero, List.getElem?_cons_succ, Option.bind_some, Option.map_some, startS, List.map_cons, List.map_nil, List.replicate, List.cons_append, List.nil_append, List.append_nil, List.length_cons, List.length_nil, decide_eq_true_eq, Bool.not_eq_true', decide_eq_false_iff_not, Nat.reduceAdd, Nat.zero_add, Nat.reduceLeDiff, Nat.reduceLT, Nat.reduceSub, if_true, if_false, Bool.false_eq_true, ↓reduceIte, Df.fd]
          refine valueat_W (by omega) ?_
          simp only [↓W_some, ↓W_bind, ↓W_map, ↓w_var, ↓w_own, ↓w_cst, ↓w_tup, ↓w_ofL, ↓w_celL, ↓w_neg, ↓w_bin, ↓w_cmp, ↓w_chn, ↓w_nt, ↓w_an, ↓w_or, ↓w_ite, ↓w_idx, ↓w_slc, ↓w_call, ↓w_callK, ↓w_bi, ↓w_isi, ↓w_gall, ↓w_gany, ↓w_gsum, ↓w_gtup, ↓w_genF, ↓w_nil, ↓w_cons, ↓w_onone, ↓w_osome, ↓w_otnone, ↓w_otsome, ↓w_and1, ↓w_and, ↓w_or1, ↓w_orc, ↓w_tnt, ↓w_tan, ↓w_tor, ↓w_ta1, ↓w_ta, ↓w_to1, ↓w_to, ↓w_tcmp, ↓w_tchn, ↓w_tvar, ↓w_town, ↓w_tcst, ↓w_tidx, ↓w_tbin, ↓w_tslc, ↓w_tcall, ↓w_tcallK, ↓w_tbi, ↓w_tisi, ↓w_tgen, ↓w_disp, ↓w_comp, ↓w_list, ↓w_sorted, ↓w_seq, ↓w_rng1, ↓w_rng2, ↓w_enum, ↓w_zip, ↓w_rev, ↓w_set, ↓w_setL, ↓w_setD, ↓w_pat, ↓w_par2, ↓w_aug, ↓w_augI, ↓w_putI, ↓w_putO, ↓w_augO, ↓w_app, ↓w_expr, ↓w_ret, ↓w_retN, ↓w_iff, ↓w_whil, ↓w_forr, ↓w_brk, ↓w_cont, ↓w_pass, ↓w_frz, ↓w_snil, ↓w_scons, ↓bps_s, add_ii, add_tt, add_ll, sub_ii, lt_ii, le_ii, gt_ii, ge_ii, eq_ii, ne_ii, is_n, isnt_n, is_bb, isnt_bb, isNon_i, isNon_b, isNon_t, isNon_l, isNon_n, tru_b, tru_i, tru_t, tru_l, tru_n, len_t, len_l, len_s, len_d, bi_len, bi_abs, bi_int, bi_intb, bi_tupt, bi_tupl, bi_min, bi_max, bi_sum, it_t, it_l, it_s, li_l, list_t, list_l, list_s, sl_t, sl_l, sl_s, ty_ii, ty_ib, ty_in, ty_bi, ty_bb, ty_bn, bp_nm, bp_tt, bp_tl, bps_0, op_add, op_sub, op_mul, op_fdiv, op_mod, op_pow, cm_eq, cm_ne, cm_lt, cm_le, cm_gt, cm_ge, cm_is, cm_isnt, cm_in, cm_notin, cd_n, cd_b, cd_i, cd_s, wp_0, wp_s, oq_rt, oq_nx, ol_nx, ol_ct, ol_bk, ol_rt, mod_pos, fdiv_pos, mul_l, mul_r, varS_0, varS_s, lookS_0, lookS_s, ownS_0v, ownS_0, ownS_0d, ownS_s, setS_0, setS_s, set_0, set_s, deref_int, deref_bl, deref_non, deref_str, deref_tup, deref_lst, deref_scr, deref_dct, deref_ref0, isCell_ref0, restO_nx, restO_rt, restO_bk, restO_ct, szl, idx_tup0, idx_tup1, idx_tup2, idx_tup3, idx_tup4, idx_tup5, idx_tup6, idx_tup7, idx_tup8, idx_tup9, idx_lst0, idx_lst1, idx_lst2, idx_lst3, idx_lst4, idx_lst5, idx_lst6, idx_lst7, idx_lst8, idx_lst9, Int.reduceLT, Int.reduceLE, Int.reduceNeg, Int.reducePow, and_self, permD, List.getElem?_cons_zero, List.getElem?_cons_succ, Option.bind_some, Option.map_some, startS, List.map_cons, List.map_nil, List.replicate, List.cons_append, List.nil_append, List.append_nil, List.length_cons, List.length_nil, decide_eq_true_eq, Bool.not_eq_true', decide_eq_false_iff_not, Nat.reduceAdd, Nat.zero_add, Nat.reduceLeDiff, Nat.reduceLT, Nat.reduceSub, if_true, if_false, Bool.false_eq_true, ↓reduceIte, Df.fd]
          refine is_int ?_
          simp only [Bool.not_true, ↓W_some, ↓W_bind, ↓W_map, ↓w_var, ↓w_own, ↓w_cst, ↓w_tup, ↓w_ofL, ↓w_celL, ↓w_neg, ↓w_bin, ↓w_cmp, ↓w_chn, ↓w_nt, ↓w_an, ↓w_or, ↓w_ite, ↓w_idx, ↓w_slc, ↓w_call, ↓w_callK, ↓w_bi, ↓w_isi, ↓w_gall, ↓w_gany, ↓w_gsum, ↓w_gtup, ↓w_genF, ↓w_nil, ↓w_cons, ↓w_onone, ↓w_osome, ↓w_otnone, ↓w_otsome, ↓w_and1, ↓w_and, ↓w_or1, ↓w_orc, ↓w_tnt, ↓w_tan, ↓w_tor, ↓w_ta1, ↓w_ta, ↓w_to1, ↓w_to, ↓w_tcmp, ↓w_tchn, ↓w_tvar, ↓w_town, ↓w_tcst, ↓w_tidx, ↓w_tbin, ↓w_tslc, ↓w_tcall, ↓w_tcallK, ↓w_tbi, ↓w_tisi, ↓w_tgen, ↓w_disp, ↓w_comp, ↓w_list, ↓w_sorted, ↓w_seq, ↓w_rng1, ↓w_rng2, ↓w_enum, ↓w_zip, ↓w_rev, ↓w_set, ↓w_setL, ↓w_setD, ↓w_pat, ↓w_par2, ↓w_aug, ↓w_augI, ↓w_putI, ↓w_putO, ↓w_augO, ↓w_app, ↓w_expr, ↓w_ret, ↓w_retN, ↓w_iff, ↓w_whil, ↓w_forr, ↓w_brk, ↓w_cont, ↓w_pass, ↓w_frz, ↓w_snil, ↓w_scons, ↓bps_s, add_ii, add_tt, add_ll, sub_ii, lt_ii, le_ii, gt_ii, ge_ii, eq_ii, ne_ii, is_n, isnt_n, is_bb, isnt_bb, isNon_i, isNon_b, isNon_t, isNon_l, isNon_n, tru_b, tru_i, tru_t, tru_l, tru_n, len_t, len_l, len_s, len_d, bi_len, bi_abs, bi_int, bi_intb, bi_tupt, bi_tupl, bi_min, bi_max, bi_sum, it_t, it_l, it_s, li_l, list_t, list_l, list_s, sl_t, sl_l, sl_s, ty_ii, ty_ib, ty_in, ty_bi, ty_bb, ty_bn, bp_nm, bp_tt, bp_tl, bps_0, op_add, op_sub, op_mul, op_fdiv, op_mod, op_pow, cm_eq, cm_ne, cm_lt, cm_le, cm_gt, cm_ge, cm_is, cm_isnt, cm_in, cm_notin, cd_n, cd_b, cd_i, cd_s, wp_0, wp_s, oq_rt, oq_nx, ol_nx, ol_ct, ol_bk, ol_rt, mod_pos, fdiv_pos, mul_l, mul_r, varS_0, varS_s, lookS_0, lookS_s, ownS_0v, ownS_0, ownS_0d, ownS_s, setS_0, setS_s, set_0, set_s, deref_int, deref_bl, deref_non, deref_str, deref_tup, deref_lst, deref_scr, deref_dct, deref_ref0, isCell_ref0, restO_nx, restO_rt, restO_bk, restO_ct, szl, idx_tup0, idx_tup1, idx_tup2, idx_tup3, idx_tup4, idx_tup5, idx_tup6, idx_tup7, idx_tup8, idx_tup9, idx_lst0, idx_lst1, idx_lst2, idx_lst3, idx_lst4, idx_lst5, idx_lst6, idx_lst7, idx_lst8, idx_lst9, Int.reduceLT, Int.reduceLE, Int.reduceNeg, Int.reducePow, and_self, permD, List.getElem?_cons_zero, List.getElem?_cons_succ, Option.bind_some, Option.map_some, startS, List.map_cons, List.map_nil, List.replicate, List.cons_append, List.nil_append, List.append_nil, List.length_cons, List.length_nil, decide_eq_true_eq, Bool.not_eq_true', decide_eq_false_iff_not, Nat.reduceAdd, Nat.zero_add, Nat.reduceLeDiff, Nat.reduceLT, Nat.reduceSub, if_true, if_false, Bool.false_eq_true, ↓reduceIte, Df.fd]
          refine valueat_W (by omega) ?_
          simp only [↓W_some, ↓W_bind, ↓W_map, ↓w_var, ↓w_own, ↓w_cst, ↓w_tup, ↓w_ofL, ↓w_celL, ↓w_neg, ↓w_bin, ↓w_cmp, ↓w_chn, ↓w_nt, ↓w_an, ↓w_or, ↓w_ite, ↓w_idx, ↓w_slc, ↓w_call, ↓w_callK, ↓w_bi, ↓w_isi, ↓w_gall, ↓w_gany, ↓w_gsum, ↓w_gtup, ↓w_genF, ↓w_nil, ↓w_cons, ↓w_onone, ↓w_osome, ↓w_otnone, ↓w_otsome, ↓w_and1, ↓w_and, ↓w_or1, ↓w_orc, ↓w_tnt, ↓w_tan, ↓w_tor, ↓w_ta1, ↓w_ta, ↓w_to1, ↓w_to, ↓w_tcmp, ↓w_tchn, ↓w_tvar, ↓w_town, ↓w_tcst, ↓w_tidx, ↓w_tbin, ↓w_tslc, ↓w_tcall, ↓w_tcallK, ↓w_tbi, ↓w_tisi, ↓w_tgen, ↓w_disp, ↓w_comp, ↓w_list, ↓w_sorted, ↓w_seq, ↓w_rng1, ↓w_rng2, ↓w_enum, ↓w_zip, ↓w_rev, ↓w_set, ↓w_setL, ↓w_setD, ↓w_pat, ↓w_par2, ↓w_aug, ↓w_augI, ↓w_putI, ↓w_putO, ↓w_augO, ↓w_app, ↓w_expr, ↓w_ret, ↓w_retN, ↓w_iff, ↓w_whil, ↓w_forr, ↓w_brk, ↓w_cont, ↓w_pass, ↓w_frz, ↓w_snil, ↓w_scons, ↓bps_s, add_ii, add_tt, add_ll, sub_ii, lt_ii, le_ii, gt_ii, ge_ii, eq_ii, ne_ii, is_n, isnt_n, is_bb, isnt_bb, isNon_i, isNon_b, isNon_t, isNon_l, isNon_n, tru_b, tru_i, tru_t, tru_l, tru_n, len_t, len_l, len_s, len_d, bi_len, bi_abs, bi_int, bi_intb, bi_tupt, bi_tupl, bi_min, bi_max, bi_sum, it_t, it_l, it_s, li_l, list_t, list_l, list_s, sl_t, sl_l, sl_s, ty_ii, ty_ib, ty_in, ty_bi, ty_bb, ty_bn, bp_nm, bp_tt, bp_tl, bps_0, op_add, op_sub, op_mul, op_fdiv, op_mod, op_pow, cm_eq, cm_ne, cm_lt, cm_le, cm_gt, cm_ge, cm_is, cm_isnt, cm_in, cm_notin, cd_n, cd_b, cd_i, cd_s, wp_0, wp_s, oq_rt, oq_nx, ol_nx, ol_ct, ol_bk, ol_rt, mod_pos, fdiv_pos, mul_l, mul_r, varS_0, varS_s, lookS_0, lookS_s, ownS_0v, ownS_0, ownS_0d, ownS_s, setS_0, setS_s, set_0, set_s, deref_int, deref_bl, deref_non, deref_str, deref_tup, deref_lst, deref_scr, deref_dct, deref_ref0, isCell_ref0, restO_nx, restO_rt, restO_bk, restO_ct, szl, idx_tup0, idx_tup1, idx_tup2, idx_tup3, idx_tup4, idx_tup5, idx_tup6, idx_tup7, idx_tup8, idx_tup9, idx_lst0, idx_lst1, idx_lst2, idx_lst3, idx_lst4, idx_lst5, idx_lst6, idx_lst7, idx_lst8, idx_lst9, Int.reduceLT, Int.reduceLE, Int.reduceNeg, Int.reducePow, and_self, permD, List.getElem?_cons_zero, List.getElem?_cons_succ, Option.bind_some, Option.map_some, startS, List.map_cons, List.map_nil, List.replicate, List.cons_append, List.nil_append, List.append_nil, List.length_cons, List.length_nil, decide_eq_true_eq, Bool.not_eq_true', decide_eq_false_iff_not, Nat.reduceAdd, Nat.zero_add, Nat.reduceLeDiff, Nat.reduceLT, Nat.reduceSub, if_true, if_false, Bool.false_eq_true, ↓reduceIte, Df.fd]
          refine is_int ?_
          simp only [Bool.not_true, ↓W_some, ↓W_bind, ↓W_map, ↓w_var, ↓w_own, ↓w_cst, ↓w_tup, ↓w_ofL, ↓w_celL, ↓w_neg, ↓w_bin, ↓w_cmp, ↓w_chn, ↓w_nt, ↓w_an, ↓w_or, ↓w_ite, ↓w_idx, ↓w_slc, ↓w_call, ↓w_callK, ↓w_bi, ↓w_isi, ↓w_gall, ↓w_gany, ↓w_gsum, ↓w_gtup, ↓w_genF, ↓w_nil, ↓w_cons, ↓w_onone, ↓w_osome, ↓w_otnone, ↓w_otsome, ↓w_and1, ↓w_and, ↓w_or1, ↓w_orc, ↓w_tnt, ↓w_tan, ↓w_tor, ↓w_ta1, ↓w_ta, ↓w_to1, ↓w_to, ↓w_tcmp, ↓w_tchn, ↓w_tvar, ↓w_town, ↓w_tcst, ↓w_tidx, ↓w_tbin, ↓w_tslc, ↓w_tcall, ↓w_tcallK, ↓w_tbi, ↓w_tisi, ↓w_tgen, ↓w_disp, ↓w_comp, ↓w_list, ↓w_sorted, ↓w_seq, ↓w_rng1, ↓w_rng2, ↓w_enum, ↓w_zip, ↓w_rev, ↓w_set, ↓w_setL, ↓w_setD, ↓w_pat, ↓w_par2, ↓w_aug, ↓w_augI, ↓w_putI, ↓w_putO, ↓w_augO, ↓w_app, ↓w_expr, ↓w_ret, ↓w_retN, ↓w_iff, ↓w_whil, ↓w_forr, ↓w_brk, ↓w_cont, ↓w_pass, ↓w_frz, ↓w_snil, ↓w_scons, ↓bps_s, add_ii, add_tt, add_ll, sub_ii, lt_ii, le_ii, gt_ii, ge_ii, eq_ii, ne_ii, is_n, isnt_n, is_bb, isnt_bb, isNon_i, isNon_b, isNon_t, isNon_l, isNon_n, tru_b, tru_i, tru_t, tru_l, tru_n, len_t, len_l, len_s, len_d, bi_len, bi_abs, bi_int, bi_intb, bi_tupt, bi_tupl, bi_min, bi_max, bi_sum, it_t, it_l, it_s, li_l, list_t, list_l, list_s, sl_t, sl_l, sl_s, ty_ii, ty_ib, ty_in, ty_bi, ty_bb, ty_bn, bp_nm, bp_tt, bp_tl, bps_0, op_add, op_sub, op_mul, op_fdiv, op_mod, op_pow, cm_eq, cm_ne, cm_lt, cm_le, cm_gt, cm_ge, cm_is, cm_isnt, cm_in, cm_notin, cd_n, cd_b, cd_i, cd_s, wp_0, wp_s, oq_rt, oq_nx, ol_nx, ol_ct, ol_bk, ol_rt, mod_pos, fdiv_pos, mul_l, mul_r, varS_0, varS_s, lookS_0, lookS_s, ownS_0v, ownS_0, ownS_0d, ownS_s, setS_0, setS_s, set_0, set_s, deref_int, deref_bl, deref_non, deref_str, deref_tup, deref_lst, deref_scr, deref_dct, deref_ref0, isCell_ref0, restO_nx, restO_rt, restO_bk, restO_ct, szl, idx_tup0, idx_tup1, idx_tup2, idx_tup3, idx_tup4, idx_tup5, idx_tup6, idx_tup7, idx_tup8, idx_tup9, idx_lst0, idx_lst1, idx_lst2, idx_lst3, idx_lst4, idx_lst5, idx_lst6, idx_lst7, idx_lst8, idx_lst9, Int.reduceLT, Int.reduceLE, Int.reduceNeg, Int.reducePow, and_self, permD, List.getElem?_cons_zero, List.getElem?_cons_succ, Option.bind_some, Option.map_some, startS, List.map_cons, List.map_nil, List.replicate, List.cons_append, List.nil_append, List.append_nil, List.length_cons, List.length_nil, decide_eq_true_eq, Bool.not_eq_true', decide_eq_false_iff_not, Nat.reduceAdd, Nat.zero_add, Nat.reduceLeDiff, Nat.reduceLT, Nat.reduceSub, if_true, if_false, Bool.false_eq_true, ↓reduceIte, Df.fd]
          exact ⟨hs8, ks, _, _, _, by trivial, by trivial⟩
      · rintro ρ h' ⟨hs8, ks, s4, s5, s8, e2, e3⟩
        subst e2
        simp only [↓W_some, ↓W_bind, ↓W_map, ↓w_var, ↓w_own, ↓w_cst, ↓w_tup, ↓w_ofL, ↓w_celL, ↓w_neg, ↓w_bin, ↓w_cmp, ↓w_chn, ↓w_nt, ↓w_an, ↓w_or, ↓w_ite, ↓w_idx, ↓w_slc, ↓w_call, ↓w_callK, ↓w_bi, ↓w_isi, ↓w_gall, ↓w_gany, ↓w_gsum, ↓w_gtup, ↓w_genF, ↓w_nil, ↓w_cons, ↓w_onone, ↓w_osome, ↓w_otnone, ↓w_otsome, ↓w_and1, ↓w_and, ↓w_or1, ↓w_orc, ↓w_tnt, ↓w_tan, ↓w_tor, ↓w_ta1, ↓w_ta, ↓w_to1, ↓w_to, ↓w_tcmp, ↓w_tchn, ↓w_tvar, ↓w_town, ↓w_tcst, ↓w_tidx, ↓w_tbin, ↓w_tslc, ↓w_tcall, ↓w_tcallK, ↓w_tbi, ↓w_tisi, ↓w_tgen, ↓w_disp, ↓w_comp, ↓w_list, ↓w_sorted, ↓w_seq, ↓w_rng1, ↓w_rng2, ↓w_enum, ↓w_zip, ↓w_rev, ↓w_set, ↓w_setL, ↓w_setD, ↓w_pat, ↓w_par2, ↓w_aug, ↓w_augI, ↓w_putI, ↓w_putO, ↓w_augO, ↓w_app, ↓w_expr, ↓w_ret, ↓w_retN, ↓w_iff, ↓w_whil, ↓w_forr, ↓w_brk, ↓w_cont, ↓w_pass, ↓w_frz, ↓w_snil, ↓w_scons, ↓bps_s, add_ii, add_tt, add_ll, sub_ii, lt_ii, le_ii, gt_ii, ge_ii, eq_ii, ne_ii, is_n, isnt_n, is_bb, isnt_bb, isNon_i, isNon_b, isNon_t, isNon_l, isNon_n, tru_b, tru_i, tru_t, tru_l, tru_n, len_t, len_l, len_s, len_d, bi_len, bi_abs, bi_int, bi_intb, bi_tupt, bi_tupl, bi_min, bi_max, bi_sum, it_t, it_l, it_s, li_l, list_t, list_l, list_s, sl_t, sl_l, sl_s, ty_ii, ty_ib, ty_in, ty_bi, ty_bb, ty_bn, bp_nm, bp_tt, bp_tl, bps_0, op_add, op_sub, op_mul, op_fdiv, op_mod, op_pow, cm_eq, cm_ne, cm_lt, cm_le, cm_gt, cm_ge, cm_is, cm_isnt, cm_in, cm_notin, cd_n, cd_b, cd_i, cd_s, wp_0, wp_s, oq_rt, oq_nx, ol_nx, ol_ct, ol_bk, ol_rt, mod_pos, fdiv_pos, mul_l, mul_r, varS_0, varS_s, lookS_0, lookS_s, ownS_0v, ownS_0, ownS_0d, ownS_s, setS_0, setS_s, set_0, set_s, deref_int, deref_bl, deref_non, deref_str, deref_tup, deref_lst, deref_scr, deref_dct, deref_ref0, isCell_ref0, restO_nx, restO_rt, restO_bk, restO_ct, szl, idx_tup0, idx_tup1, idx_tup2, idx_tup3, idx_tup4, idx_tup5, idx_tup6, idx_tup7, idx_tup8, idx_tup9, idx_lst0, idx_lst1, idx_lst2, idx_lst3, idx_lst4, idx_lst5, idx_lst6, idx_lst7, idx_lst8, idx_lst9, Int.reduceLT, Int.reduceLE, Int.reduceNeg, Int.reducePow, and_self, permD, List.getElem?_cons_zero, List.getElem?_cons_succ, Option.bind_some, Option.map_some, startS, List.map_cons, List.map_nil, List.replicate, List.cons_append, List.nil_append, List.append_nil, List.length_cons, List.length_nil, decide_eq_true_eq, Bool.not_eq_true', decide_eq_false_iff_not, Nat.reduceAdd, Nat.zero_add, Nat.reduceLeDiff, Nat.reduceLT, Nat.reduceSub, if_true, if_false, Bool.false_eq_true, ↓reduceIte, Df.fd]
        exact ⟨hs8, _, _, _, _, _, _, _, _, by trivial⟩
  · rintro ρ h' ⟨hs', s1, s2, s3, s4, s5, s6, s7, s8, rfl⟩
    simp only [↓W_some, ↓W_bind, ↓W_map, ↓w_var, ↓w_own, ↓w_cst, ↓w_tup, ↓w_ofL, ↓w_celL, ↓w_neg, ↓w_bin, ↓w_cmp, ↓w_chn, ↓w_nt, ↓w_an, ↓w_or, ↓w_ite, ↓w_idx, ↓w_slc, ↓w_call, ↓w_callK, ↓w_bi, ↓w_isi, ↓w_gall, ↓w_gany, ↓w_gsum, ↓w_gtup, ↓w_genF, ↓w_nil, ↓w_cons, ↓w_onone, ↓w_osome, ↓w_otnone, ↓w_otsome, ↓w_and1, ↓w_and, ↓w_or1, ↓w_orc, ↓w_tnt, ↓w_tan, ↓w_tor, ↓w_ta1, ↓w_ta, ↓w_to1, ↓w_to, ↓w_tcmp, ↓w_tchn, ↓w_tvar, ↓w_town, ↓w_tcst, ↓w_tidx, ↓w_tbin, ↓w_tslc, ↓w_tcall, ↓w_tcallK, ↓w_tbi, ↓w_tisi, ↓w_tgen, ↓w_disp, ↓w_comp, ↓w_list, ↓w_sorted, ↓w_seq, ↓w_rng1, ↓w_rng2, ↓w_enum, ↓w_zip, ↓w_rev, ↓w_set, ↓w_setL, ↓w_setD, ↓w_pat, ↓w_par2, ↓w_aug, ↓w_augI, ↓w_putI, ↓w_putO, ↓w_augO, ↓w_app, ↓w_expr, ↓w_ret, ↓w_retN, ↓w_iff, ↓w_whil, ↓w_forr, ↓w_brk, ↓w_cont, ↓w_pass, ↓w_frz, ↓w_snil, ↓w_scons, ↓bps_s, add_ii, add_tt, add_ll, sub_ii, lt_ii, le_ii, gt_ii, ge_ii, eq_ii, ne_ii, is_n, isnt_n, is_bb, isnt_bb, isNon_i, isNon_b, isNon_t, isNon_l, isNon_n, tru_b, tru_i, tru_t, tru_l, tru_n, len_t, len_l, len_s, len_d, bi_len, bi_abs, bi_int, bi_intb, bi_tupt, bi_tupl, bi_min, bi_max, bi_sum, it_t, it_l, it_s, li_l, list_t, list_l, list_s, sl_t, sl_l, sl_s, ty_ii, ty_ib, ty_in, ty_bi, ty_bb, ty_bn, bp_nm, bp_tt, bp_tl, bps_0, op_add, op_sub, op_mul, op_fdiv, op_mod, op_pow, cm_eq, cm_ne, cm_lt, cm_le, cm_gt, cm_ge, cm_is, cm_isnt, cm_in, cm_notin, cd_n, cd_b, cd_i, cd_s, wp_0, wp_s, oq_rt, oq_nx, ol_nx, ol_ct, ol_bk, ol_rt, mod_pos, fdiv_pos, mul_l, mul_r, varS_0, varS_s, lookS_0, lookS_s, ownS_0v, ownS_0, ownS_0d, ownS_s, setS_0, setS_s, set_0, set_s, deref_int, deref_bl, deref_non, deref_str, deref_tup, deref_lst, deref_scr, deref_dct, deref_ref0, isCell_ref0, restO_nx, restO_rt, restO_bk, restO_ct, szl, idx_tup0, idx_tup1, idx_tup2, idx_tup3, idx_tup4, idx_tup5, idx_tup6, idx_tup7, idx_tup8, idx_tup9, idx_lst0, idx_lst1, idx_lst2, idx_lst3, idx_lst4, idx_lst5, idx_lst6, idx_lst7, idx_lst8, idx_lst9, Int.reduceLT, Int.reduceLE, Int.reduceNeg, Int.reducePow, and_self, permD, List.getElem?_cons_zero, List.getElem?_cons_succ, Option.bind_some, Option.map_some, startS, List.map_cons, List.map_nil, List.replicate, List.cons_append, List.nil_append, List.append_nil, List.length_cons, List.length_nil, decide_eq_true_eq, Bool.not_eq_true', decide_eq_false_iff_not, Nat.reduceAdd, Nat.zero_add, Nat.reduceLeDiff, Nat.reduceLT, Nat.reduceSub, if_true, if_false, Bool.false_eq_true, ↓reduceIte, Df.fd]
    exact q _ hs'
end
end PI.K01

set_option Elab.async false
set_option linter.all false
set_option maxRecDepth 100000
set_option maxHeartbeats 4000000
set_option autoImplicit false
namespace PI.K01
open PySem PySem.Spec PyProof.Rows L2 PI
def paceD (p : Int × Int) : D := .tup [.tup [.int p.1, .tup []], .int p.2]
def modeD (ps : List (Int × Int)) (l s : Int) (ns : List Int) (r : Int) (ms : List Int) (f : Int) : D := .tup [.tup (ps.map paceD), .int l, tabD s ns, tabD r ms, .int 0, .int f]
def EMode (d : D) : Prop := ∃ ps l s ns r ms f, d = modeD ps l s ns r ms f ∧ 0 < ps.length ∧ ps.length ≤ 3 ∧ ns.length ≤ 5 ∧ 0 ≤ r ∧ ms.length ≤ 12
def EBook (d : D) : Prop := ∃ e g t ms, d = .tup [.int e, .int g, .int t, .tup ms, .tup []] ∧ 1 ≤ e ∧ e < g ∧ g ≤ 3000 ∧ (t < 20 → 1 ≤ t ∧ t ≤ g - e) ∧ (¬ t < 20 → 200 ≤ g - e) ∧ 0 < ms.length ∧ ms.length ≤ 2 ∧ ∀ m ∈ ms, EMode m
section
variable {n : Nat} {h : PH} {Q : D × PH → Prop}
theorem evenmode_W {e g : Int} (hs : St h) (h1 : 1 ≤ e) (h2 : e < g) (h3 : g ≤ 3000) (q : ∀ d, EMode d → ∀ h', St h' → Q (d, h')) : W (call T (n + 4) 11 [.ref 0, .int e, .int g] h) Q := by
  refine W_call (f := f_law_even_mode.fd) rfl rfl ?_
  simp only [f_law_even_mode, b11, ↓W_some, ↓W_bind, ↓W_map, ↓w_var, ↓w_own, ↓w_cst, ↓w_tup, ↓w_ofL, ↓w_celL, ↓w_neg, ↓w_bin, ↓w_cmp, ↓w_chn, ↓w_nt, ↓w_an, ↓w_or, ↓w_ite, ↓w_idx, ↓w_slc, ↓w_call, ↓w_callK, ↓w_bi, ↓w_isi, ↓w_gall, ↓w_gany, ↓w_gsum, ↓w_gtup, ↓w_genF, ↓w_nil, ↓w_cons, ↓w_onone, ↓w_osome, ↓w_otnone, ↓w_otsome, ↓w_and1, ↓w_and, ↓w_or1, ↓w_orc, ↓w_tnt, ↓w_tan, ↓w_tor, ↓w_ta1, ↓w_ta, ↓w_to1, ↓w_to, ↓w_tcmp, ↓w_tchn, ↓w_tvar, ↓w_town, ↓w_tcst, ↓w_tidx, ↓w_tbin, ↓w_tslc, ↓w_tcall, ↓w_tcallK, ↓w_tbi, ↓w_tisi, ↓w_tgen, ↓w_disp, ↓w_comp, ↓w_list, ↓w_sorted, ↓w_seq, ↓w_rng1, ↓w_rng2, ↓w_enum, ↓w_zip, ↓w_rev, ↓w_set, ↓w_setL, ↓w_setD, ↓w_pat, ↓w_par2, ↓w_aug, ↓w_augI, ↓w_putI, ↓w_putO, ↓w_augO, ↓w_app, ↓w_expr, ↓w_ret, ↓w_retN, ↓w_iff, ↓w_whil, ↓w_forr, ↓w_brk, ↓w_cont, ↓w_pass, ↓w_frz, ↓w_snil, ↓w_scons, ↓bps_s, add_ii, add_tt, add_ll, sub_ii, lt_ii, le_ii, gt_ii, ge_ii, eq_ii, ne_ii, is_n, isnt_n, is_bb, isnt_bb, isNon_i, isNon_b, isNon_t, isNon_l, isNon_n, tru_b, tru_i, tru_t, tru_l, tru_n, len_t, len_l, len_s, len_d, bi_len, bi_abs, bi_int, bi_intb, bi_tupt, bi_tupl, bi_min, bi_max, bi_sum, it_t, it_l, it_s, li_l, list_t, list_l, list_s, sl_t, sl_l, sl_s, ty_ii, ty_ib, ty_in, ty_bi, ty_bb, ty_bn, bp_nm, bp_tt, bp_tl, bps_0, op_add, op_sub, op_mul, op_fdiv, op_mod, op_pow, cm_eq, cm_ne, cm_lt, cm_le, cm_gt, cm_ge, cm_is, cm_isnt, cm_in, cm_notin, cd_n, cd_b, cd_i, cd_s, wp_0, wp_s, oq_rt, oq_nx, ol_nx, ol_ct, ol_bk, ol_rt, mod_pos, fdiv_pos, mul_l, mul_r, varS_0, varS_s, lookS_0, lookS_s, ownS_0v, ownS_0, ownS_0d, ownS_s, setS_0, setS_s, set_0, set_s, deref_int, deref_bl, deref_non, deref_str, deref_tup, deref_lst, deref_scr, deref_dct, deref_ref0, isCell_ref0, restO_nx, restO_rt, restO_bk, restO_ct, szl, idx_tup0, idx_tup1, idx_tup2, idx_tup3, idx_tup4, idx_tup5, idx_tup6, idx_tup7, idx_tup8, idx_tup9, idx_lst0, idx_lst1, idx_lst2, idx_lst3, idx_lst4, idx_lst5, idx_lst6, idx_lst7, idx_lst8, idx_lst9, Int.reduceLT, Int.reduceLE, Int.reduceNeg, Int.reducePow, and_self, permD, List.getElem?_cons_zero, List.getElem?_cons_succ, Option.bind_some, Option.map_some, startS, List.map_cons, List.map_nil, List.replicate, List.cons_append, List.nil_append, List.append_nil, List.length_cons, List.length_nil, decide_eq_true_eq, Bool.not_eq_true', decide_eq_false_iff_not, Nat.reduceAdd, Nat.zero_add, Nat.reduceLeDiff, Nat.reduceLT, Nat.reduceSub, if_true, if_false, Bool.false_eq_true, ↓reduceIte, Df.fd]
  refine take_W hs (by decide) (by decide) fun v h2 hs2 v0 v1 => ?_
  simp only [small_of (show 0 ≤ 1 + v by omega) (by omega), ↓W_some, ↓W_bind, ↓W_map, ↓w_var, ↓w_own, ↓w_cst, ↓w_tup, ↓w_ofL, ↓w_celL, ↓w_neg, ↓w_bin, ↓w_cmp, ↓w_chn, ↓w_nt, ↓w_an, ↓w_or, ↓w_ite, ↓w_idx, ↓w_slc, ↓w_call, ↓w_callK, ↓w_bi, ↓w_isi, ↓w_gall, ↓w_gany, ↓w_gsum, ↓w_gtup, ↓w_genF, ↓w_nil, ↓w_cons, ↓w_onone, ↓w_osome, ↓w_otnone, ↓w_otsome, ↓w_and1, ↓w_and, ↓w_or1, ↓w_orc, ↓w_tnt, ↓w_tan, ↓w_tor, ↓w_ta1, ↓w_ta, ↓w_to1, ↓w_to, ↓w_tcmp, ↓w_tchn, ↓w_tvar, ↓w_town, ↓w_tcst, ↓w_tidx, ↓w_tbin, ↓w_tslc, ↓w_tcall, ↓w_tcallK, ↓w_tbi, ↓w_tisi, ↓w_tgen, ↓w_disp, ↓w_comp, ↓w_list, ↓w_sorted, ↓w_seq, ↓w_rng1, ↓w_rng2, ↓w_enum, ↓w_zip, ↓w_rev, ↓w_set, ↓w_setL, ↓w_setD, ↓w_pat, ↓w_par2, ↓w_aug, ↓w_augI, ↓w_putI, ↓w_putO, ↓w_augO, ↓w_app, ↓w_expr, ↓w_ret, ↓w_retN, ↓w_iff, ↓w_whil, ↓w_forr, ↓w_brk, ↓w_cont, ↓w_pass, ↓w_frz, ↓w_snil, ↓w_scons, ↓bps_s, add_ii, add_tt, add_ll, sub_ii, lt_ii, le_ii, gt_ii, ge_ii, eq_ii, ne_ii, is_n, isnt_n, is_bb, isnt_bb, isNon_i, isNon_b, isNon_t, isNon_l, isNon_n, tru_b, tru_i, tru_t, tru_l, tru_n, len_t, len_l, len_s, len_d, bi_len, bi_abs, bi_int, bi_intb, bi_tupt, bi_tupl, bi_min, bi_max, bi_sum, it_t, it_l, it_s, li_l, list_t, list_l, list_s, sl_t, sl_l, sl_s, ty_ii, ty_ib, ty_in, ty_bi, ty_bb, ty_bn, bp_nm, bp_tt, bp_tl, bps_0, op_add, op_sub, op_mul, op_fdiv, op_mod, op_pow, cm_eq, cm_ne, cm_lt, cm_le, cm_gt, cm_ge, cm_is, cm_isnt, cm_in, cm_notin, cd_n, cd_b, cd_i, cd_s, wp_0, wp_s, oq_rt, oq_nx, ol_nx, ol_ct, ol_bk, ol_rt, mod_pos, fdiv_pos, mul_l, mul_r, varS_0, varS_s, lookS_0, lookS_s, ownS_0v, ownS_0, ownS_0d, ownS_s, setS_0, setS_s, set_0, set_s, deref_int, deref_bl, deref_non, deref_str, deref_tup, deref_lst, deref_scr, deref_dct, deref_ref0, isCell_ref0, restO_nx, restO_rt, restO_bk, restO_ct, szl, idx_tup0, idx_tup1, idx_tup2, idx_tup3, idx_tup4, idx_tup5, idx_tup6, idx_tup7, idx_tup8, idx_tup9, idx_lst0, idx_lst1, idx_lst2, idx_lst3, idx_lst4, idx_lst5, idx_lst6, idx_lst7, idx_lst8, idx_lst9, Int.reduceLT, Int.reduceLE, Int.reduceNeg, Int.reducePow, and_self, permD, List.getElem?_cons_zero, List.getElem?_cons_succ, Option.bind_some, Option.map_some, startS, List.map_cons, List.map_nil, List.replicate, List.cons_append, List.nil_append, List.append_nil, List.length_cons, List.length_nil, decide_eq_true_eq, Bool.not_eq_true', decide_eq_false_iff_not, Nat.reduceAdd, Nat.zero_add, Nat.reduceLeDiff, Nat.reduceLT, Nat.reduceSub, if_true, if_false, Bool.false_eq_true, ↓reduceIte, Df.fd]
  refine W_forS (fun r ρ h' => St h' ∧ ∃ (ps : List (Int × Int)) (x4 : Option Sl), ρ = [some (.val (.ref 0)), some (.val (.int e)), some (.val (.int g)), some (.own (ps.map paceD)), x4, none, none, none] ∧ (ps.length : Int) + r.length = 1 + v) ?_ ?_ ⟨hs2, [], none, by trivial, by simp [rngL]; omega⟩
  · rintro x r ρ h' ⟨hs', ps, x4, rfl, hl⟩
    rw [List.length_cons] at hl
    simp only [↓W_some, ↓W_bind, ↓W_map, ↓w_var, ↓w_own, ↓w_cst, ↓w_tup, ↓w_ofL, ↓w_celL, ↓w_neg, ↓w_bin, ↓w_cmp, ↓w_chn, ↓w_nt, ↓w_an, ↓w_or, ↓w_ite, ↓w_idx, ↓w_slc, ↓w_call, ↓w_callK, ↓w_bi, ↓w_isi, ↓w_gall, ↓w_gany, ↓w_gsum, ↓w_gtup, ↓w_genF, ↓w_nil, ↓w_cons, ↓w_onone, ↓w_osome, ↓w_otnone, ↓w_otsome, ↓w_and1, ↓w_and, ↓w_or1, ↓w_orc, ↓w_tnt, ↓w_tan, ↓w_tor, ↓w_ta1, ↓w_ta, ↓w_to1, ↓w_to, ↓w_tcmp, ↓w_tchn, ↓w_tvar, ↓w_town, ↓w_tcst, ↓w_tidx, ↓w_tbin, ↓w_tslc, ↓w_tcall, ↓w_tcallK, ↓w_tbi, ↓w_tisi, ↓w_tgen, ↓w_disp, ↓w_comp, ↓w_list, ↓w_sorted, ↓w_seq, ↓w_rng1, ↓w_rng2, ↓w_enum, ↓w_zip, ↓w_rev, ↓w_set, ↓w_setL, ↓w_setD, ↓w_pat, ↓w_par2, ↓w_aug, ↓w_augI, ↓w_putI, ↓w_putO, ↓w_augO, ↓w_app, ↓w_expr, ↓w_ret, ↓w_retN, ↓w_iff, ↓w_whil, ↓w_forr, ↓w_brk, ↓w_cont, ↓w_pass, ↓w_frz, ↓w_snil, ↓w_scons, ↓bps_s, add_ii, add_tt, add_ll, sub_ii, lt_ii, le_ii, gt_ii, ge_ii, eq_ii, ne_ii, is_n, isnt_n, is_bb, isnt_bb, isNon_i, isNon_b, isNon_t, isNon_l, isNon_n, tru_b, tru_i, tru_t, tru_l, tru_n, len_t, len_l, len_s, len_d, bi_len, bi_abs, bi_int, bi_intb, bi_tupt, bi_tupl, bi_min, bi_max, bi_sum, it_t, it_l, it_s, li_l, list_t, list_l, list_s, sl_t, sl_l, sl_s, ty_ii, ty_ib, ty_in, ty_bi, ty_bb, ty_bn, bp_nm, bp_tt, bp_tl, bps_0, op_add, op_sub, op_mul, op_fdiv, op_mod, op_pow, cm_eq, cm_ne, cm_lt, cm_le, cm_gt, cm_ge, cm_is, cm_isnt, cm_in, cm_notin, cd_n, cd_b, cd_i, cd_s, wp_0, wp_s, oq_rt, oq_nx, ol_nx, ol_ct, ol_bk, ol_rt, mod_pos, fdiv_pos, mul_l, mul_r, varS_0, varS_s, lookS_0, lookS_s, ownS_0v, ownS_0, ownS_0d, ownS_s, setS_0, setS_s, set_0, set_s, deref_int, deref_bl, deref_non, deref_str, deref_tup, deref_lst, deref_scr, deref_dct, deref_ref0, isCell_ref0, restO_nx, restO_rt, restO_bk, restO_ct, szl, idx_tup0, idx_tup1, idx_tup2, idx_tup3, idx_tup4, idx_tup5, idx_tup6, idx_tup7, idx_tup8, idx_tup9, idx_lst0, idx_lst1, idx_lst2, idx_lst3, idx_lst4, idx_lst5, idx_lst6, idx_lst7, idx_lst8, idx_lst9, Int.reduceLT, Int.reduceLE, Int.reduceNeg, Int.reducePow, and_self, permD, List.getElem?_cons_zero, List.getElem?_cons_succ, Option.bind_some, Option.map_some, startS, List.map_cons, List.map_nil, List.replicate, List.cons_append, List.nil_append, List.append_nil, List.length_cons, List.length_nil, decide_eq_true_eq, Bool.not_eq_true', decide_eq_false_iff_not, Nat.reduceAdd, Nat.zero_add, Nat.reduceLeDiff, Nat.reduceLT, Nat.reduceSub, if_true, if_false, Bool.false_eq_true, ↓reduceIte, Df.fd]
    refine take_W hs' (by decide) (by decide) fun a h3 hs3 a0 a1 => ?_
    simp only [↓W_some, ↓W_bind, ↓W_map, ↓w_var, ↓w_own, ↓w_cst, ↓w_tup, ↓w_ofL, ↓w_celL, ↓w_neg, ↓w_bin, ↓w_cmp, ↓w_chn, ↓w_nt, ↓w_an, ↓w_or, ↓w_ite, ↓w_idx, ↓w_slc, ↓w_call, ↓w_callK, ↓w_bi, ↓w_isi, ↓w_gall, ↓w_gany, ↓w_gsum, ↓w_gtup, ↓w_genF, ↓w_nil, ↓w_cons, ↓w_onone, ↓w_osome, ↓w_otnone, ↓w_otsome, ↓w_and1, ↓w_and, ↓w_or1, ↓w_orc, ↓w_tnt, ↓w_tan, ↓w_tor, ↓w_ta1, ↓w_ta, ↓w_to1, ↓w_to, ↓w_tcmp, ↓w_tchn, ↓w_tvar, ↓w_town, ↓w_tcst, ↓w_tidx, ↓w_tbin, ↓w_tslc, ↓w_tcall, ↓w_tcallK, ↓w_tbi, ↓w_tisi, ↓w_tgen, ↓w_disp, ↓w_comp, ↓w_list, ↓w_sorted, ↓w_seq, ↓w_rng1, ↓w_rng2, ↓w_enum, ↓w_zip, ↓w_rev, ↓w_set, ↓w_setL, ↓w_setD, ↓w_pat, ↓w_par2, ↓w_aug, ↓w_augI, ↓w_putI, ↓w_putO, ↓w_augO, ↓w_app, ↓w_expr, ↓w_ret, ↓w_retN, ↓w_iff, ↓w_whil, ↓w_forr, ↓w_brk, ↓w_cont, ↓w_pass, ↓w_frz, ↓w_snil, ↓w_scons, ↓bps_s, add_ii, add_tt, add_ll, sub_ii, lt_ii, le_ii, gt_ii, ge_ii, eq_ii, ne_ii, is_n, isnt_n, is_bb, isnt_bb, isNon_i, isNon_b, isNon_t, isNon_l, isNon_n, tru_b, tru_i, tru_t, tru_l, tru_n, len_t, len_l, len_s, len_d, bi_len, bi_abs, bi_int, bi_intb, bi_tupt, bi_tupl, bi_min, bi_max, bi_sum, it_t, it_l, it_s, li_l, list_t, list_l, list_s, sl_t, sl_l, sl_s, ty_ii, ty_ib, ty_in, ty_bi, ty_bb, ty_bn, bp_nm, bp_tt, bp_tl, bps_0, op_add, op_sub, op_mul, op_fdiv, op_mod, op_pow, cm_eq, cm_ne, cm_lt, cm_le, cm_gt, cm_ge, cm_is, cm_isnt, cm_in, cm_notin, cd_n, cd_b, cd_i, cd_s, wp_0, wp_s, oq_rt, oq_nx, ol_nx, ol_ct, ol_bk, ol_rt, mod_pos, fdiv_pos, mul_l, mul_r, varS_0, varS_s, lookS_0, lookS_s, ownS_0v, ownS_0, ownS_0d, ownS_s, setS_0, setS_s, set_0, set_s, deref_int, deref_bl, deref_non, deref_str, deref_tup, deref_lst, deref_scr, deref_dct, deref_ref0, isCell_ref0, restO_nx, restO_rt, restO_bk, restO_ct, szl, idx_tup0, idx_tup1, idx_tup2, idx_tup3, idx_tup4, idx_tup5, idx_tup6, idx_tup7, idx_tup8, idx_tup9, idx_lst0, idx_lst1, idx_lst2, idx_lst3, idx_lst4, idx_lst5, idx_lst6, idx_lst7, idx_lst8, idx_lst9, Int.reduceLT, Int.reduceLE, Int.reduceNeg, Int.reducePow, and_self, permD, List.getElem?_cons_zero, List.getElem?_cons_succ, Option.bind_some, Option.map_some, startS, List.map_cons, List.map_nil, List.replicate, List.cons_append, List.nil_append, List.append_nil, List.length_cons, List.length_nil, decide_eq_true_eq, Bool.not_eq_true', decide_eq_false_iff_not, Nat.reduceAdd, Nat.zero_add, Nat.reduceLeDiff, Nat.reduceLT, Nat.reduceSub, if_true, if_false, Bool.false_eq_true, ↓reduceIte, Df.fd]
    refine take_W hs3 (by omega) (by omega) fun c h4 hs4 c0 c1 => ?_
    have hlen : (ps.map paceD).length < 16777216 := by rw [List.length_map]; omega
    simp only [hlen, ↓W_some, ↓W_bind, ↓W_map, ↓w_var, ↓w_own, ↓w_cst, ↓w_tup, ↓w_ofL, ↓w_celL, ↓w_neg, ↓w_bin, ↓w_cmp, ↓w_chn, ↓w_nt, ↓w_an, ↓w_or, ↓w_ite, ↓w_idx, ↓w_slc, ↓w_call, ↓w_callK, ↓w_bi, ↓w_isi, ↓w_gall, ↓w_gany, ↓w_gsum, ↓w_gtup, ↓w_genF, ↓w_nil, ↓w_cons, ↓w_onone, ↓w_osome, ↓w_otnone, ↓w_otsome, ↓w_and1, ↓w_and, ↓w_or1, ↓w_orc, ↓w_tnt, ↓w_tan, ↓w_tor, ↓w_ta1, ↓w_ta, ↓w_to1, ↓w_to, ↓w_tcmp, ↓w_tchn, ↓w_tvar, ↓w_town, ↓w_tcst, ↓w_tidx, ↓w_tbin, ↓w_tslc, ↓w_tcall, ↓w_tcallK, ↓w_tbi, ↓w_tisi, ↓w_tgen, ↓w_disp, ↓w_comp, ↓w_list, ↓w_sorted, ↓w_seq, ↓w_rng1, ↓w_rng2, ↓w_enum, ↓w_zip, ↓w_rev, ↓w_set, ↓w_setL, ↓w_setD, ↓w_pat, ↓w_par2, ↓w_aug, ↓w_augI, ↓w_putI, ↓w_putO, ↓w_augO, ↓w_app, ↓w_expr, ↓w_ret, ↓w_retN, ↓w_iff, ↓w_whil, ↓w_forr, ↓w_brk, ↓w_cont, ↓w_pass, ↓w_frz, ↓w_snil, ↓w_scons, ↓bps_s, add_ii, add_tt, add_ll, sub_ii, lt_ii, le_ii, gt_ii, ge_ii, eq_ii, ne_ii, is_n, isnt_n, is_bb, isnt_bb, isNon_i, isNon_b, isNon_t, isNon_l, isNon_n, tru_b, tru_i, tru_t, tru_l, tru_n, len_t, len_l, len_s, len_d, bi_len, bi_abs, bi_int, bi_intb, bi_tupt, bi_tupl, bi_min, bi_max, bi_sum, it_t, it_l, it_s, li_l, list_t, list_l, list_s, sl_t, sl_l, sl_s, ty_ii, ty_ib, ty_in, ty_bi, ty_bb, ty_bn, bp_nm, bp_tt, bp_tl, bps_0, op_add, op_sub, op_mul, op_fdiv, op_mod, op_pow, cm_eq, cm_ne, cm_lt, cm_le, cm_gt, cm_ge, cm_is, cm_isnt, cm_in, cm_notin, cd_n, cd_b, cd_i, cd_s, wp_0, wp_s, oq_rt, oq_nx, ol_nx, ol_ct, ol_bk, ol_rt, mod_pos, fdiv_pos, mul_l, mul_r, varS_0, varS_s, lookS_0, lookS_s, ownS_0v, ownS_0, ownS_0d, ownS_s, setS_0, setS_s, set_0, set_s, deref_int, deref_bl, deref_non, deref_str, deref_tup, deref_lst, deref_scr, deref_dct, deref_ref0, isCell_ref0, restO_nx, restO_rt, restO_bk, restO_ct, szl, idx_tup0, idx_tup1, idx_tup2, idx_tup3, idx_tup4, idx_tup5, idx_tup6, idx_tup7, idx_tup8, idx_tup9, idx_lst0, idx_lst1, idx_lst2, idx_lst3, idx_lst4, idx_lst5, idx_lst6, idx_lst7, idx_lst8, idx_lst9, Int.reduceLT, Int.reduceLE, Int.reduceNeg, Int.reducePow, and_self, permD, List.getElem?_cons_zero, List.getElem?_cons_succ, Option.bind_some, Option.map_some, startS, List.map_cons, List.map_nil, List.replicate, List.cons_append, List.nil_append, List.append_nil, List.length_cons, List.length_nil, decide_eq_true_eq, Bool.not_eq_true', decide_eq_false_iff_not, Nat.reduceAdd, Nat.zero_add, Nat.reduceLeDiff, Nat.reduceLT, Nat.reduceSub, if_true, if_false, Bool.false_eq_true, ↓reduceIte, Df.fd]
    refine ⟨hs4, ps ++ [(a, e + c)], some (.val x), ?_, by simp only [List.length_append, List.length_cons, List.length_nil]; omega⟩
    rw [List.map_append]; rfl
  · rintro ρ h' ⟨hs', ps, x4, rfl, hl⟩
    have hl : (ps.length : Int) = 1 + v := by simpa using hl
    simp only [↓W_some, ↓W_bind, ↓W_map, ↓w_var, ↓w_own, ↓w_cst, ↓w_tup, ↓w_ofL, ↓w_celL, ↓w_neg, ↓w_bin, ↓w_cmp, ↓w_chn, ↓w_nt, ↓w_an, ↓w_or, ↓w_ite, ↓w_idx, ↓w_slc, ↓w_call, ↓w_callK, ↓w_bi, ↓w_isi, ↓w_gall, ↓w_gany, ↓w_gsum, ↓w_gtup, ↓w_genF, ↓w_nil, ↓w_cons, ↓w_onone, ↓w_osome, ↓w_otnone, ↓w_otsome, ↓w_and1, ↓w_and, ↓w_or1, ↓w_orc, ↓w_tnt, ↓w_tan, ↓w_tor, ↓w_ta1, ↓w_ta, ↓w_to1, ↓w_to, ↓w_tcmp, ↓w_tchn, ↓w_tvar, ↓w_town, ↓w_tcst, ↓w_tidx, ↓w_tbin, ↓w_tslc, ↓w_tcall, ↓w_tcallK, ↓w_tbi, ↓w_tisi, ↓w_tgen, ↓w_disp, ↓w_comp, ↓w_list, ↓w_sorted, ↓w_seq, ↓w_rng1, ↓w_rng2, ↓w_enum, ↓w_zip, ↓w_rev, ↓w_set, ↓w_setL, ↓w_setD, ↓w_pat, ↓w_par2, ↓w_aug, ↓w_augI, ↓w_putI, ↓w_putO, ↓w_augO, ↓w_app, ↓w_expr, ↓w_ret, ↓w_retN, ↓w_iff, ↓w_whil, ↓w_forr, ↓w_brk, ↓w_cont, ↓w_pass, ↓w_frz, ↓w_snil, ↓w_scons, ↓bps_s, add_ii, add_tt, add_ll, sub_ii, lt_ii, le_ii, gt_ii, ge_ii, eq_ii, ne_ii, is_n, isnt_n, is_bb, isnt_bb, isNon_i, isNon_b, isNon_t, isNon_l, isNon_n, tru_b, tru_i, tru_t, tru_l, tru_n, len_t, len_l, len_s, len_d, bi_len, bi_abs, bi_int, bi_intb, bi_tupt, bi_tupl, bi_min, bi_max, bi_sum, it_t, it_l, it_s, li_l, list_t, list_l, list_s, sl_t, sl_l, sl_s, ty_ii, ty_ib, ty_in, ty_bi, ty_bb, ty_bn, bp_nm, bp_tt, bp_tl, bps_0, op_add, op_sub, op_mul, op_fdiv, op_mod, op_pow, cm_eq, cm_ne, cm_lt, cm_le, cm_gt, cm_ge, cm_is, cm_isnt, cm_in, cm_notin, cd_n, cd_b, cd_i, cd_s, wp_0, wp_s, oq_rt, oq_nx, ol_nx, ol_ct, ol_bk, ol_rt, mod_pos, fdiv_pos, mul_l, mul_r, varS_0, varS_s, lookS_0, lookS_s, ownS_0v, ownS_0, ownS_0d, ownS_s, setS_0, setS_s, set_0, set_s, deref_int, deref_bl, deref_non, deref_str, deref_tup, deref_lst, deref_scr, deref_dct, deref_ref0, isCell_ref0, restO_nx, restO_rt, restO_bk, restO_ct, szl, idx_tup0, idx_tup1, idx_tup2, idx_tup3, idx_tup4, idx_tup5, idx_tup6, idx_tup7, idx_tup8, idx_tup9, idx_lst0, idx_lst1, idx_lst2, idx_lst3, idx_lst4, idx_lst5, idx_lst6, idx_lst7, idx_lst8, idx_lst9, Int.reduceLT, Int.reduceLE, Int.reduceNeg, Int.reducePow, and_self, permD, List.getElem?_cons_zero, List.getElem?_cons_succ, Option.bind_some, Option.map_some, startS, List.map_cons, List.map_nil, List.replicate, List.cons_append, List.nil_append, List.append_nil, List.length_cons, List.length_nil, decide_eq_true_eq, Bool.not_eq_true', decide_eq_false_iff_not, Nat.reduceAdd, Nat.zero_add, Nat.reduceLeDiff, Nat.reduceLT, Nat.reduceSub, if_true, if_false, Bool.false_eq_true, ↓reduceIte, Df.fd]
    refine take_W hs' (by omega) (by omega) fun a h3 hs3 a0 a1 => ?_
    simp only [↓W_some, ↓W_bind, ↓W_map, ↓w_var, ↓w_own, ↓w_cst, ↓w_tup, ↓w_ofL, ↓w_celL, ↓w_neg, ↓w_bin, ↓w_cmp, ↓w_chn, ↓w_nt, ↓w_an, ↓w_or, ↓w_ite, ↓w_idx, ↓w_slc, ↓w_call, ↓w_callK, ↓w_bi, ↓w_isi, ↓w_gall, ↓w_gany, ↓w_gsum, ↓w_gtup, ↓w_genF, ↓w_nil, ↓w_cons, ↓w_onone, ↓w_osome, ↓w_otnone, ↓w_otsome, ↓w_and1, ↓w_and, ↓w_or1, ↓w_orc, ↓w_tnt, ↓w_tan, ↓w_tor, ↓w_ta1, ↓w_ta, ↓w_to1, ↓w_to, ↓w_tcmp, ↓w_tchn, ↓w_tvar, ↓w_town, ↓w_tcst, ↓w_tidx, ↓w_tbin, ↓w_tslc, ↓w_tcall, ↓w_tcallK, ↓w_tbi, ↓w_tisi, ↓w_tgen, ↓w_disp, ↓w_comp, ↓w_list, ↓w_sorted, ↓w_seq, ↓w_rng1, ↓w_rng2, ↓w_enum, ↓w_zip, ↓w_rev, ↓w_set, ↓w_setL, ↓w_setD, ↓w_pat, ↓w_par2, ↓w_aug, ↓w_augI, ↓w_putI, ↓w_putO, ↓w_augO, ↓w_app, ↓w_expr, ↓w_ret, ↓w_retN, ↓w_iff, ↓w_whil, ↓w_forr, ↓w_brk, ↓w_cont, ↓w_pass, ↓w_frz, ↓w_snil, ↓w_scons, ↓bps_s, add_ii, add_tt, add_ll, sub_ii, lt_ii, le_ii, gt_ii, ge_ii, eq_ii, ne_ii, is_n, isnt_n, is_bb, isnt_bb, isNon_i, isNon_b, isNon_t, isNon_l, isNon_n, tru_b, tru_i, tru_t, tru_l, tru_n, len_t, len_l, len_s, len_d, bi_len, bi_abs, bi_int, bi_intb, bi_tupt, bi_tupl, bi_min, bi_max, bi_sum, it_t, it_l, it_s, li_l, list_t, list_l, list_s, sl_t, sl_l, sl_s, ty_ii, ty_ib, ty_in, ty_bi, ty_bb, ty_bn, bp_nm, bp_tt, bp_tl, bps_0, op_add, op_sub, op_mul, op_fdiv, op_mod, op_pow, cm_eq, cm_ne, cm_lt, cm_le, cm_gt, cm_ge, cm_is, cm_isnt, cm_in, cm_notin, cd_n, cd_b, cd_i, cd_s, wp_0, wp_s, oq_rt, oq_nx, ol_nx, ol_ct, ol_bk, ol_rt, mod_pos, fdiv_pos, mul_l, mul_r, varS_0, varS_s, lookS_0, lookS_s, ownS_0v, ownS_0, ownS_0d, ownS_s, setS_0, setS_s, set_0, set_s, deref_int, deref_bl, deref_non, deref_str, deref_tup, deref_lst, deref_scr, deref_dct, deref_ref0, isCell_ref0, restO_nx, restO_rt, restO_bk, restO_ct, szl, idx_tup0, idx_tup1, idx_tup2, idx_tup3, idx_tup4, idx_tup5, idx_tup6, idx_tup7, idx_tup8, idx_tup9, idx_lst0, idx_lst1, idx_lst2, idx_lst3, idx_lst4, idx_lst5, idx_lst6, idx_lst7, idx_lst8, idx_lst9, Int.reduceLT, Int.reduceLE, Int.reduceNeg, Int.reducePow, and_self, permD, List.getElem?_cons_zero, List.getElem?_cons_succ, Option.bind_some, Option.map_some, startS, List.map_cons, List.map_nil, List.replicate, List.cons_append, List.nil_append, List.append_nil, List.length_cons, List.length_nil, decide_eq_true_eq, Bool.not_eq_true', decide_eq_false_iff_not, Nat.reduceAdd, Nat.zero_add, Nat.reduceLeDiff, Nat.reduceLT, Nat.reduceSub, if_true, if_false, Bool.false_eq_true, ↓reduceIte, Df.fd]
    refine pick_W hs3 (by rw [List.length_map]; omega) (by rw [List.length_map]; omega) fun p hp h4 hs4 => ?_
    obtain ⟨⟨p1, p2⟩, _, rfl⟩ := List.mem_map.mp hp
    simp only [paceD, ↓W_some, ↓W_bind, ↓W_map, ↓w_var, ↓w_own, ↓w_cst, ↓w_tup, ↓w_ofL, ↓w_celL, ↓w_neg, ↓w_bin, ↓w_cmp, ↓w_chn, ↓w_nt, ↓w_an, ↓w_or, ↓w_ite, ↓w_idx, ↓w_slc, ↓w_call, ↓w_callK, ↓w_bi, ↓w_isi, ↓w_gall, ↓w_gany, ↓w_gsum, ↓w_gtup, ↓w_genF, ↓w_nil, ↓w_cons, ↓w_onone, ↓w_osome, ↓w_otnone, ↓w_otsome, ↓w_and1, ↓w_and, ↓w_or1, ↓w_orc, ↓w_tnt, ↓w_tan, ↓w_tor, ↓w_ta1, ↓w_ta, ↓w_to1, ↓w_to, ↓w_tcmp, ↓w_tchn, ↓w_tvar, ↓w_town, ↓w_tcst, ↓w_tidx, ↓w_tbin, ↓w_tslc, ↓w_tcall, ↓w_tcallK, ↓w_tbi, ↓w_tisi, ↓w_tgen, ↓w_disp, ↓w_comp, ↓w_list, ↓w_sorted, ↓w_seq, ↓w_rng1, ↓w_rng2, ↓w_enum, ↓w_zip, ↓w_rev, ↓w_set, ↓w_setL, ↓w_setD, ↓w_pat, ↓w_par2, ↓w_aug, ↓w_augI, ↓w_putI, ↓w_putO, ↓w_augO, ↓w_app, ↓w_expr, ↓w_ret, ↓w_retN, ↓w_iff, ↓w_whil, ↓w_forr, ↓w_brk, ↓w_cont, ↓w_pass, ↓w_frz, ↓w_snil, ↓w_scons, ↓bps_s, add_ii, add_tt, add_ll, sub_ii, lt_ii, le_ii, gt_ii, ge_ii, eq_ii, ne_ii, is_n, isnt_n, is_bb, isnt_bb, isNon_i, isNon_b, isNon_t, isNon_l, isNon_n, tru_b, tru_i, tru_t, tru_l, tru_n, len_t, len_l, len_s, len_d, bi_len, bi_abs, bi_int, bi_intb, bi_tupt, bi_tupl, bi_min, bi_max, bi_sum, it_t, it_l, it_s, li_l, list_t, list_l, list_s, sl_t, sl_l, sl_s, ty_ii, ty_ib, ty_in, ty_bi, ty_bb, ty_bn, bp_nm, bp_tt, bp_tl, bps_0, op_add, op_sub, op_mul, op_fdiv, op_mod, op_pow, cm_eq, cm_ne, cm_lt, cm_le, cm_gt, cm_ge, cm_is, cm_isnt, cm_in, cm_notin, cd_n, cd_b, cd_i, cd_s, wp_0, wp_s, oq_rt, oq_nx, ol_nx, ol_ct, ol_bk, ol_rt, mod_pos, fdiv_pos, mul_l, mul_r, varS_0, varS_s, lookS_0, lookS_s, ownS_0v, ownS_0, ownS_0d, ownS_s, setS_0, setS_s, set_0, set_s, deref_int, deref_bl, deref_non, deref_str, deref_tup, deref_lst, deref_scr, deref_dct, deref_ref0, isCell_ref0, restO_nx, restO_rt, restO_bk, restO_ct, szl, idx_tup0, idx_tup1, idx_tup2, idx_tup3, idx_tup4, idx_tup5, idx_tup6, idx_tup7, idx_tup8, idx_tup9, idx_lst0, idx_lst1, idx_lst2, idx_lst3, idx_lst4, idx_lst5, idx_lst6, idx_lst7, idx_lst8, idx_lst9, Int.reduceLT, Int.reduceLE, Int.reduceNeg, Int.reducePow, and_self, permD, List.getElem?_cons_zero, List.getElem?_cons_succ, Option.bind_some, Option.map_some, startS, List.map_cons, List.map_nil, List.replicate, List.cons_append, List.nil_append, List.append_nil, List.length_cons, List.length_nil, decide_eq_true_eq, Bool.not_eq_true', decide_eq_false_iff_not, Nat.reduceAdd, Nat.zero_add, Nat.reduceLeDiff, Nat.reduceLT, Nat.reduceSub, if_true, if_false, Bool.false_eq_true, ↓reduceIte, Df.fd]
    refine pick_W hs4 (by simp) (by simp) fun l hl2 h5 hs5 => ?_
    have hp2 : ∃ l' : Int, l = .int l' := by
      simp only [List.mem_cons, List.mem_nil_iff, or_false] at hl2
      rcases hl2 with rfl | rfl | rfl <;> exact ⟨_, rfl⟩
    obtain ⟨l, rfl⟩ := hp2
    simp only [↓W_some, ↓W_bind, ↓W_map, ↓w_var, ↓w_own, ↓w_cst, ↓w_tup, ↓w_ofL, ↓w_celL, ↓w_neg, ↓w_bin, ↓w_cmp, ↓w_chn, ↓w_nt, ↓w_an, ↓w_or, ↓w_ite, ↓w_idx, ↓w_slc, ↓w_call, ↓w_callK, ↓w_bi, ↓w_isi, ↓w_gall, ↓w_gany, ↓w_gsum, ↓w_gtup, ↓w_genF, ↓w_nil, ↓w_cons, ↓w_onone, ↓w_osome, ↓w_otnone, ↓w_otsome, ↓w_and1, ↓w_and, ↓w_or1, ↓w_orc, ↓w_tnt, ↓w_tan, ↓w_tor, ↓w_ta1, ↓w_ta, ↓w_to1, ↓w_to, ↓w_tcmp, ↓w_tchn, ↓w_tvar, ↓w_town, ↓w_tcst, ↓w_tidx, ↓w_tbin, ↓w_tslc, ↓w_tcall, ↓w_tcallK, ↓w_tbi, ↓w_tisi, ↓w_tgen, ↓w_disp, ↓w_comp, ↓w_list, ↓w_sorted, ↓w_seq, ↓w_rng1, ↓w_rng2, ↓w_enum, ↓w_zip, ↓w_rev, ↓w_set, ↓w_setL, ↓w_setD, ↓w_pat, ↓w_par2, ↓w_aug, ↓w_augI, ↓w_putI, ↓w_putO, ↓w_augO, ↓w_app, ↓w_expr, ↓w_ret, ↓w_retN, ↓w_iff, ↓w_whil, ↓w_forr, ↓w_brk, ↓w_cont, ↓w_pass, ↓w_frz, ↓w_snil, ↓w_scons, ↓bps_s, add_ii, add_tt, add_ll, sub_ii, lt_ii, le_ii, gt_ii, ge_ii, eq_ii, ne_ii, is_n, isnt_n, is_bb, isnt_bb, isNon_i, isNon_b, isNon_t, isNon_l, isNon_n, tru_b, tru_i, tru_t, tru_l, tru_n, len_t, len_l, len_s, len_d, bi_len, bi_abs, bi_int, bi_intb, bi_tupt, bi_tupl, bi_min, bi_max, bi_sum, it_t, it_l, it_s, li_l, list_t, list_l, list_s, sl_t, sl_l, sl_s, ty_ii, ty_ib, ty_in, ty_bi, ty_bb, ty_bn, bp_nm, bp_tt, bp_tl, bps_0, op_add, op_sub, op_mul, op_fdiv, op_mod, op_pow, cm_eq, cm_ne, cm_lt, cm_le, cm_gt, cm_ge, cm_is, cm_isnt, cm_in, cm_notin, cd_n, cd_b, cd_i, cd_s, wp_0, wp_s, oq_rt, oq_nx, ol_nx, ol_ct, ol_bk, ol_rt, mod_pos, fdiv_pos, mul_l, mul_r, varS_0, varS_s, lookS_0, lookS_s, ownS_0v, ownS_0, ownS_0d, ownS_s, setS_0, setS_s, set_0, set_s, deref_int, deref_bl, deref_non, deref_str, deref_tup, deref_lst, deref_scr, deref_dct, deref_ref0, isCell_ref0, restO_nx, restO_rt, restO_bk, restO_ct, szl, idx_tup0, idx_tup1, idx_tup2, idx_tup3, idx_tup4, idx_tup5, idx_tup6, idx_tup7, idx_tup8, idx_tup9, idx_lst0, idx_lst1, idx_lst2, idx_lst3, idx_lst4, idx_lst5, idx_lst6, idx_lst7, idx_lst8, idx_lst9, Int.reduceLT, Int.reduceLE, Int.reduceNeg, Int.reducePow, and_self, permD, List.getElem?_cons_zero, List.getElem?_cons_succ, Option.bind_some, Option.map_some, startS, List.map_cons, List.map_nil, List.replicate, List.cons_append, List.nil_append, List.append_nil, List.length_cons, List.length_nil, decide_eq_true_eq, Bool.not_eq_true', decide_eq_false_iff_not, Nat.reduceAdd, Nat.zero_add, Nat.reduceLeDiff, Nat.reduceLT, Nat.reduceSub, if_true, if_false, Bool.false_eq_true, ↓reduceIte, Df.fd]
    refine take_W hs5 (by decide) (by decide) fun s h6 hs6 s0 s1 => ?_
    simp only [↓W_some, ↓W_bind, ↓W_map, ↓w_var, ↓w_own, ↓w_cst, ↓w_tup, ↓w_ofL, ↓w_celL, ↓w_neg, ↓w_bin, ↓w_cmp, ↓w_chn, ↓w_nt, ↓w_an, ↓w_or, ↓w_ite, ↓w_idx, ↓w_slc, ↓w_call, ↓w_callK, ↓w_bi, ↓w_isi, ↓w_gall, ↓w_gany, ↓w_gsum, ↓w_gtup, ↓w_genF, ↓w_nil, ↓w_cons, ↓w_onone, ↓w_osome, ↓w_otnone, ↓w_otsome, ↓w_and1, ↓w_and, ↓w_or1, ↓w_orc, ↓w_tnt, ↓w_tan, ↓w_tor, ↓w_ta1, ↓w_ta, ↓w_to1, ↓w_to, ↓w_tcmp, ↓w_tchn, ↓w_tvar, ↓w_town, ↓w_tcst, ↓w_tidx, ↓w_tbin, ↓w_tslc, ↓w_tcall, ↓w_tcallK, ↓w_tbi, ↓w_tisi, ↓w_tgen, ↓w_disp, ↓w_comp, ↓w_list, ↓w_sorted, ↓w_seq, ↓w_rng1, ↓w_rng2, ↓w_enum, ↓w_zip, ↓w_rev, ↓w_set, ↓w_setL, ↓w_setD, ↓w_pat, ↓w_par2, ↓w_aug, ↓w_augI, ↓w_putI, ↓w_putO, ↓w_augO, ↓w_app, ↓w_expr, ↓w_ret, ↓w_retN, ↓w_iff, ↓w_whil, ↓w_forr, ↓w_brk, ↓w_cont, ↓w_pass, ↓w_frz, ↓w_snil, ↓w_scons, ↓bps_s, add_ii, add_tt, add_ll, sub_ii, lt_ii, le_ii, gt_ii, ge_ii, eq_ii, ne_ii, is_n, isnt_n, is_bb, isnt_bb, isNon_i, isNon_b, isNon_t, isNon_l, isNon_n, tru_b, tru_i, tru_t, tru_l, tru_n, len_t, len_l, len_s, len_d, bi_len, bi_abs, bi_int, bi_intb, bi_tupt, bi_tupl, bi_min, bi_max, bi_sum, it_t, it_l, it_s, li_l, list_t, list_l, list_s, sl_t, sl_l, sl_s, ty_ii, ty_ib, ty_in, ty_bi, ty_bb, ty_bn, bp_nm, bp_tt, bp_tl, bps_0, op_add, op_sub, op_mul, op_fdiv, op_mod, op_pow, cm_eq, cm_ne, cm_lt, cm_le, cm_gt, cm_ge, cm_is, cm_isnt, cm_in, cm_notin, cd_n, cd_b, cd_i, cd_s, wp_0, wp_s, oq_rt, oq_nx, ol_nx, ol_ct, ol_bk, ol_rt, mod_pos, fdiv_pos, mul_l, mul_r, varS_0, varS_s, lookS_0, lookS_s, ownS_0v, ownS_0, ownS_0d, ownS_s, setS_0, setS_s, set_0, set_s, deref_int, deref_bl, deref_non, deref_str, deref_tup, deref_lst, deref_scr, deref_dct, deref_ref0, isCell_ref0, restO_nx, restO_rt, restO_bk, restO_ct, szl, idx_tup0, idx_tup1, idx_tup2, idx_tup3, idx_tup4, idx_tup5, idx_tup6, idx_tup7, idx_tup8, idx_tup9, idx_lst0, idx_lst1, idx_lst2, idx_lst3, idx_lst4, idx_lst5, idx_lst6, idx_lst7, idx_lst8, idx_lst9, Int.reduceLT, Int.reduceLE, Int.reduceNeg, Int.reducePow, and_self, permD, List.getElem?_cons_zero, List.getElem?_cons_succ, Option.bind_some, Option.map_some, startS, List.map_cons, List.map_nil, List.replicate, List.cons_append, List.nil_append, List.append_nil, List.length_cons, List.length_nil, decide_eq_true_eq, Bool.not_eq_true', decide_eq_false_iff_not, Nat.reduceAdd, Nat.zero_add, Nat.reduceLeDiff, Nat.reduceLT, Nat.reduceSub, if_true, if_false, Bool.false_eq_true, ↓reduceIte, Df.fd]
    refine pick_W hs6 (by simp) (by simp) fun m hm h7 hs7 => ?_
    have hm2 : ∃ m' : Int, m = .int m' ∧ 0 ≤ m' ∧ m' ≤ 5 := by
      simp only [List.mem_cons, List.mem_nil_iff, or_false] at hm
      rcases hm with rfl | rfl | rfl | rfl <;> exact ⟨_, rfl, by decide, by decide⟩
    obtain ⟨m, rfl, m0, m1⟩ := hm2
    have hmax : (if e > 1 then e else 1) = e := by
      split <;> omega
    simp only [hmax, ↓W_some, ↓W_bind, ↓W_map, ↓w_var, ↓w_own, ↓w_cst, ↓w_tup, ↓w_ofL, ↓w_celL, ↓w_neg, ↓w_bin, ↓w_cmp, ↓w_chn, ↓w_nt, ↓w_an, ↓w_or, ↓w_ite, ↓w_idx, ↓w_slc, ↓w_call, ↓w_callK, ↓w_bi, ↓w_isi, ↓w_gall, ↓w_gany, ↓w_gsum, ↓w_gtup, ↓w_genF, ↓w_nil, ↓w_cons, ↓w_onone, ↓w_osome, ↓w_otnone, ↓w_otsome, ↓w_and1, ↓w_and, ↓w_or1, ↓w_orc, ↓w_tnt, ↓w_tan, ↓w_tor, ↓w_ta1, ↓w_ta, ↓w_to1, ↓w_to, ↓w_tcmp, ↓w_tchn, ↓w_tvar, ↓w_town, ↓w_tcst, ↓w_tidx, ↓w_tbin, ↓w_tslc, ↓w_tcall, ↓w_tcallK, ↓w_tbi, ↓w_tisi, ↓w_tgen, ↓w_disp, ↓w_comp, ↓w_list, ↓w_sorted, ↓w_seq, ↓w_rng1, ↓w_rng2, ↓w_enum, ↓w_zip, ↓w_rev, ↓w_set, ↓w_setL, ↓w_setD, ↓w_pat, ↓w_par2, ↓w_aug, ↓w_augI, ↓w_putI, ↓w_putO, ↓w_augO, ↓w_app, ↓w_expr, ↓w_ret, ↓w_retN, ↓w_iff, ↓w_whil, ↓w_forr, ↓w_brk, ↓w_cont, ↓w_pass, ↓w_frz, ↓w_snil, ↓w_scons, ↓bps_s, add_ii, add_tt, add_ll, sub_ii, lt_ii, le_ii, gt_ii, ge_ii, eq_ii, ne_ii, is_n, isnt_n, is_bb, isnt_bb, isNon_i, isNon_b, isNon_t, isNon_l, isNon_n, tru_b, tru_i, tru_t, tru_l, tru_n, len_t, len_l, len_s, len_d, bi_len, bi_abs, bi_int, bi_intb, bi_tupt, bi_tupl, bi_min, bi_max, bi_sum, it_t, it_l, it_s, li_l, list_t, list_l, list_s, sl_t, sl_l, sl_s, ty_ii, ty_ib, ty_in, ty_bi, ty_bb, ty_bn, bp_nm, bp_tt, bp_tl, bps_0, op_add, op_sub, op_mul, op_fdiv, op_mod, op_pow, cm_eq, cm_ne, cm_lt, cm_le, cm_gt, cm_ge, cm_is, cm_isnt, cm_in, cm_notin, cd_n, cd_b, cd_i, cd_s, wp_0, wp_s, oq_rt, oq_nx, ol_nx, ol_ct, ol_bk, ol_rt, mod_pos, fdiv_pos, mul_l, mul_r, varS_0, varS_s, lookS_0, lookS_s, ownS_0v, ownS_0, ownS_0d, ownS_s, setS_0, setS_s, set_0, set_s, deref_int, deref_bl, deref_non, deref_str, deref_tup, deref_lst, deref_scr, deref_dct, deref_ref0, isCell_ref0, restO_nx, restO_rt, restO_bk, restO_ct, szl, idx_tup0, idx_tup1, idx_tup2, idx_tup3, idx_tup4, idx_tup5, idx_tup6, idx_tup7, idx_tup8, idx_tup9, idx_lst0, idx_lst1, idx_lst2, idx_lst3, idx_lst4, idx_lst5, idx_lst6, idx_lst7, idx_lst8, idx_lst9, Int.reduceLT, Int.reduceLE, Int.reduceNeg, Int.reducePow, and_self, permD, List.getElem?_cons_zero, List.getElem?_cons_succ, Option.bind_some, Option.map_some, startS, List.map_cons, List.map_nil, List.replicate, List.cons_append, List.nil_append, List.append_nil, List.length_cons, List.length_nil, decide_eq_true_eq, Bool.not_eq_true', decide_eq_false_iff_not, Nat.reduceAdd, Nat.zero_add, Nat.reduceLeDiff, Nat.reduceLT, Nat.reduceSub, if_true, if_false, Bool.false_eq_true, ↓reduceIte, Df.fd]
    refine rising_W hs7 (by omega) (by omega) m0 (by omega) fun ns hns h8 hs8 => ?_
    simp only [↓W_some, ↓W_bind, ↓W_map, ↓w_var, ↓w_own, ↓w_cst, ↓w_tup, ↓w_ofL, ↓w_celL, ↓w_neg, ↓w_bin, ↓w_cmp, ↓w_chn, ↓w_nt, ↓w_an, ↓w_or, ↓w_ite, ↓w_idx, ↓w_slc, ↓w_call, ↓w_callK, ↓w_bi, ↓w_isi, ↓w_gall, ↓w_gany, ↓w_gsum, ↓w_gtup, ↓w_genF, ↓w_nil, ↓w_cons, ↓w_onone, ↓w_osome, ↓w_otnone, ↓w_otsome, ↓w_and1, ↓w_and, ↓w_or1, ↓w_orc, ↓w_tnt, ↓w_tan, ↓w_tor, ↓w_ta1, ↓w_ta, ↓w_to1, ↓w_to, ↓w_tcmp, ↓w_tchn, ↓w_tvar, ↓w_town, ↓w_tcst, ↓w_tidx, ↓w_tbin, ↓w_tslc, ↓w_tcall, ↓w_tcallK, ↓w_tbi, ↓w_tisi, ↓w_tgen, ↓w_disp, ↓w_comp, ↓w_list, ↓w_sorted, ↓w_seq, ↓w_rng1, ↓w_rng2, ↓w_enum, ↓w_zip, ↓w_rev, ↓w_set, ↓w_setL, ↓w_setD, ↓w_pat, ↓w_par2, ↓w_aug, ↓w_augI, ↓w_putI, ↓w_putO, ↓w_augO, ↓w_app, ↓w_expr, ↓w_ret, ↓w_retN, ↓w_iff, ↓w_whil, ↓w_forr, ↓w_brk, ↓w_cont, ↓w_pass, ↓w_frz, ↓w_snil, ↓w_scons, ↓bps_s, add_ii, add_tt, add_ll, sub_ii, lt_ii, le_ii, gt_ii, ge_ii, eq_ii, ne_ii, is_n, isnt_n, is_bb, isnt_bb, isNon_i, isNon_b, isNon_t, isNon_l, isNon_n, tru_b, tru_i, tru_t, tru_l, tru_n, len_t, len_l, len_s, len_d, bi_len, bi_abs, bi_int, bi_intb, bi_tupt, bi_tupl, bi_min, bi_max, bi_sum, it_t, it_l, it_s, li_l, list_t, list_l, list_s, sl_t, sl_l, sl_s, ty_ii, ty_ib, ty_in, ty_bi, ty_bb, ty_bn, bp_nm, bp_tt, bp_tl, bps_0, op_add, op_sub, op_mul, op_fdiv, op_mod, op_pow, cm_eq, cm_ne, cm_lt, cm_le, cm_gt, cm_ge, cm_is, cm_isnt, cm_in, cm_notin, cd_n, cd_b, cd_i, cd_s, wp_0, wp_s, oq_rt, oq_nx, ol_nx, ol_ct, ol_bk, ol_rt, mod_pos, fdiv_pos, mul_l, mul_r, varS_0, varS_s, lookS_0, lookS_s, ownS_0v, ownS_0, ownS_0d, ownS_s, setS_0, setS_s, set_0, set_s, deref_int, deref_bl, deref_non, deref_str, deref_tup, deref_lst, deref_scr, deref_dct, deref_ref0, isCell_ref0, restO_nx, restO_rt, restO_bk, restO_ct, szl, idx_tup0, idx_tup1, idx_tup2, idx_tup3, idx_tup4, idx_tup5, idx_tup6, idx_tup7, idx_tup8, idx_tup9, idx_lst0, idx_lst1, idx_lst2, idx_lst3, idx_lst4, idx_lst5, idx_lst6, idx_lst7, idx_lst8, idx_lst9, Int.reduceLT, Int.reduceLE, Int.reduceNeg, Int.reducePow, and_self, permD, List.getElem?_cons_zero, List.getElem?_cons_succ, Option.bind_some, Option.map_some, startS, List.map_cons, List.map_nil, List.replicate, List.cons_append, List.nil_append, List.append_nil, List.length_cons, List.length_nil, decide_eq_true_eq, Bool.not_eq_true', decide_eq_false_iff_not, Nat.reduceAdd, Nat.zero_add, Nat.reduceLeDiff, Nat.reduceLT, Nat.reduceSub, if_true, if_false, Bool.false_eq_true, ↓reduceIte, Df.fd]
    refine take_W hs8 (by decide) (by decide) fun r h9 hs9 r0 r1 => ?_
    simp only [↓W_some, ↓W_bind, ↓W_map, ↓w_var, ↓w_own, ↓w_cst, ↓w_tup, ↓w_ofL, ↓w_celL, ↓w_neg, ↓w_bin, ↓w_cmp, ↓w_chn, ↓w_nt, ↓w_an, ↓w_or, ↓w_ite, ↓w_idx, ↓w_slc, ↓w_call, ↓w_callK, ↓w_bi, ↓w_isi, ↓w_gall, ↓w_gany, ↓w_gsum, ↓w_gtup, ↓w_genF, ↓w_nil, ↓w_cons, ↓w_onone, ↓w_osome, ↓w_otnone, ↓w_otsome, ↓w_and1, ↓w_and, ↓w_or1, ↓w_orc, ↓w_tnt, ↓w_tan, ↓w_tor, ↓w_ta1, ↓w_ta, ↓w_to1, ↓w_to, ↓w_tcmp, ↓w_tchn, ↓w_tvar, ↓w_town, ↓w_tcst, ↓w_tidx, ↓w_tbin, ↓w_tslc, ↓w_tcall, ↓w_tcallK, ↓w_tbi, ↓w_tisi, ↓w_tgen, ↓w_disp, ↓w_comp, ↓w_list, ↓w_sorted, ↓w_seq, ↓w_rng1, ↓w_rng2, ↓w_enum, ↓w_zip, ↓w_rev, ↓w_set, ↓w_setL, ↓w_setD, ↓w_pat, ↓w_par2, ↓w_aug, ↓w_augI, ↓w_putI, ↓w_putO, ↓w_augO, ↓w_app, ↓w_expr, ↓w_ret, ↓w_retN, ↓w_iff, ↓w_whil, ↓w_forr, ↓w_brk, ↓w_cont, ↓w_pass, ↓w_frz, ↓w_snil, ↓w_scons, ↓bps_s, add_ii, add_tt, add_ll, sub_ii, lt_ii, le_ii, gt_ii, ge_ii, eq_ii, ne_ii, is_n, isnt_n, is_bb, isnt_bb, isNon_i, isNon_b, isNon_t, isNon_l, isNon_n, tru_b, tru_i, tru_t, tru_l, tru_n, len_t, len_l, len_s, len_d, bi_len, bi_abs, bi_int, bi_intb, bi_tupt, bi_tupl, bi_min, bi_max, bi_sum, it_t, it_l, it_s, li_l, list_t, list_l, list_s, sl_t, sl_l, sl_s, ty_ii, ty_ib, ty_in, ty_bi, ty_bb, ty_bn, bp_nm, bp_tt, bp_tl, bps_0, op_add, op_sub, op_mul, op_fdiv, op_mod, op_pow, cm_eq, cm_ne, cm_lt, cm_le, cm_gt, cm_ge, cm_is, cm_isnt, cm_in, cm_notin, cd_n, cd_b, cd_i, cd_s, wp_0, wp_s, oq_rt, oq_nx, ol_nx, ol_ct, ol_bk, ol_rt, mod_pos, fdiv_pos, mul_l, mul_r, varS_0, varS_s, lookS_0, lookS_s, ownS_0v, ownS_0, ownS_0d, ownS_s, setS_0, setS_s, set_0, set_s, deref_int, deref_bl, deref_non, deref_str, deref_tup, deref_lst, deref_scr, deref_dct, deref_ref0, isCell_ref0, restO_nx, restO_rt, restO_bk, restO_ct, szl, idx_tup0, idx_tup1, idx_tup2, idx_tup3, idx_tup4, idx_tup5, idx_tup6, idx_tup7, idx_tup8, idx_tup9, idx_lst0, idx_lst1, idx_lst2, idx_lst3, idx_lst4, idx_lst5, idx_lst6, idx_lst7, idx_lst8, idx_lst9, Int.reduceLT, Int.reduceLE, Int.reduceNeg, Int.reducePow, and_self, permD, List.getElem?_cons_zero, List.getElem?_cons_succ, Option.bind_some, Option.map_some, startS, List.map_cons, List.map_nil, List.replicate, List.cons_append, List.nil_append, List.append_nil, List.length_cons, List.length_nil, decide_eq_true_eq, Bool.not_eq_true', decide_eq_false_iff_not, Nat.reduceAdd, Nat.zero_add, Nat.reduceLeDiff, Nat.reduceLT, Nat.reduceSub, if_true, if_false, Bool.false_eq_true, ↓reduceIte, Df.fd]
    refine pick_W hs9 (by simp) (by simp) fun k hk h10 hs10 => ?_
    have hk2 : ∃ m' : Int, k = .int m' ∧ 0 ≤ m' ∧ m' ≤ 6 := by
      simp only [List.mem_cons, List.mem_nil_iff, or_false] at hk
      rcases hk with rfl | rfl | rfl | rfl <;> exact ⟨_, rfl, by decide, by decide⟩
    obtain ⟨k, rfl, k0, k1⟩ := hk2
    simp only [hmax, ↓W_some, ↓W_bind, ↓W_map, ↓w_var, ↓w_own, ↓w_cst, ↓w_tup, ↓w_ofL, ↓w_celL, ↓w_neg, ↓w_bin, ↓w_cmp, ↓w_chn, ↓w_nt, ↓w_an, ↓w_or, ↓w_ite, ↓w_idx, ↓w_slc, ↓w_call, ↓w_callK, ↓w_bi, ↓w_isi, ↓w_gall, ↓w_gany, ↓w_gsum, ↓w_gtup, ↓w_genF, ↓w_nil, ↓w_cons, ↓w_onone, ↓w_osome, ↓w_otnone, ↓w_otsome, ↓w_and1, ↓w_and, ↓w_or1, ↓w_orc, ↓w_tnt, ↓w_tan, ↓w_tor, ↓w_ta1, ↓w_ta, ↓w_to1, ↓w_to, ↓w_tcmp, ↓w_tchn, ↓w_tvar, ↓w_town, ↓w_tcst, ↓w_tidx, ↓w_tbin, ↓w_tslc, ↓w_tcall, ↓w_tcallK, ↓w_tbi, ↓w_tisi, ↓w_tgen, ↓w_disp, ↓w_comp, ↓w_list, ↓w_sorted, ↓w_seq, ↓w_rng1, ↓w_rng2, ↓w_enum, ↓w_zip, ↓w_rev, ↓w_set, ↓w_setL, ↓w_setD, ↓w_pat, ↓w_par2, ↓w_aug, ↓w_augI, ↓w_putI, ↓w_putO, ↓w_augO, ↓w_app, ↓w_expr, ↓w_ret, ↓w_retN, ↓w_iff, ↓w_whil, ↓w_forr, ↓w_brk, ↓w_cont, ↓w_pass, ↓w_frz, ↓w_snil, ↓w_scons, ↓bps_s, add_ii, add_tt, add_ll, sub_ii, lt_ii, le_ii, gt_ii, ge_ii, eq_ii, ne_ii, is_n, isnt_n, is_bb, isnt_bb, isNon_i, isNon_b, isNon_t, isNon_l, isNon_n, tru_b, tru_i, tru_t, tru_l, tru_n, len_t, len_l, len_s, len_d, bi_len, bi_abs, bi_int, bi_intb, bi_tupt, bi_tupl, bi_min, bi_max, bi_sum, it_t, it_l, it_s, li_l, list_t, list_l, list_s, sl_t, sl_l, sl_s, ty_ii, ty_ib, ty_in, ty_bi, ty_bb, ty_bn, bp_nm, bp_tt, bp_tl, bps_0, op_add, op_sub, op_mul, op_fdiv, op_mod, op_pow, cm_eq, cm_ne, cm_lt, cm_le, cm_gt, cm_ge, cm_is, cm_isnt, cm_in, cm_notin, cd_n, cd_b, cd_i, cd_s, wp_0, wp_s, oq_rt, oq_nx, ol_nx, ol_ct, ol_bk, ol_rt, mod_pos, fdiv_pos, mul_l, mul_r, varS_0, varS_s, lookS_0, lookS_s, ownS_0v, ownS_0, ownS_0d, ownS_s, setS_0, setS_s, set_0, set_s, deref_int, deref_bl, deref_non, deref_str, deref_tup, deref_lst, deref_scr, deref_dct, deref_ref0, isCell_ref0, restO_nx, restO_rt, restO_bk, restO_ct, szl, idx_tup0, idx_tup1, idx_tup2, idx_tup3, idx_tup4, idx_tup5, idx_tup6, idx_tup7, idx_tup8, idx_tup9, idx_lst0, idx_lst1, idx_lst2, idx_lst3, idx_lst4, idx_lst5, idx_lst6, idx_lst7, idx_lst8, idx_lst9, Int.reduceLT, Int.reduceLE, Int.reduceNeg, Int.reducePow, and_self, permD, List.getElem?_cons_zero, List.getElem?_cons_succ, Option.bind_some, Option.map_some, startS, List.map_cons, List.map_nil, List.replicate, List.cons_append, List.nil_append, List.append_nil, List.length_cons, List.length_nil, decide_eq_true_eq, Bool.not_eq_true', decide_eq_false_iff_not, Nat.reduceAdd, Nat.zero_add, Nat.reduceLeDiff, Nat.reduceLT, Nat.reduceSub, if_true, if_false, Bool.false_eq_true, ↓reduceIte, Df.fd]
    refine rising_W hs10 (by omega) (by omega) k0 (by omega) fun ms hms h11 hs11 => ?_
    simp only [↓W_some, ↓W_bind, ↓W_map, ↓w_var, ↓w_own, ↓w_cst, ↓w_tup, ↓w_ofL, ↓w_celL, ↓w_neg, ↓w_bin, ↓w_cmp, ↓w_chn, ↓w_nt, ↓w_an, ↓w_or, ↓w_ite, ↓w_idx, ↓w_slc, ↓w_call, ↓w_callK, ↓w_bi, ↓w_isi, ↓w_gall, ↓w_gany, ↓w_gsum, ↓w_gtup, ↓w_genF, ↓w_nil, ↓w_cons, ↓w_onone, ↓w_osome, ↓w_otnone, ↓w_otsome, ↓w_and1, ↓w_and, ↓w_or1, ↓w_orc, ↓w_tnt, ↓w_tan, ↓w_tor, ↓w_ta1, ↓w_ta, ↓w_to1, ↓w_to, ↓w_tcmp, ↓w_tchn, ↓w_tvar, ↓w_town, ↓w_tcst, ↓w_tidx, ↓w_tbin, ↓w_tslc, ↓w_tcall, ↓w_tcallK, ↓w_tbi, ↓w_tisi, ↓w_tgen, ↓w_disp, ↓w_comp, ↓w_list, ↓w_sorted, ↓w_seq, ↓w_rng1, ↓w_rng2, ↓w_enum, ↓w_zip, ↓w_rev, ↓w_set, ↓w_setL, ↓w_setD, ↓w_pat, ↓w_par2, ↓w_aug, ↓w_augI, ↓w_putI, ↓w_putO, ↓w_augO, ↓w_app, ↓w_expr, ↓w_ret, ↓w_retN, ↓w_iff, ↓w_whil, ↓w_forr, ↓w_brk, ↓w_cont, ↓w_pass, ↓w_frz, ↓w_snil, ↓w_scons, ↓bps_s, add_ii, add_tt, add_ll, sub_ii, lt_ii, le_ii, gt_ii, ge_ii, eq_ii, ne_ii, is_n, isnt_n, is_bb, isnt_bb, isNon_i, isNon_b, isNon_t, isNon_l, isNon_n, tru_b, tru_i, tru_t, tru_l, tru_n, len_t, len_l, len_s, len_d, bi_len, bi_abs, bi_int, bi_intb, bi_tupt, bi_tupl, bi_min, bi_max, bi_sum, it_t, it_l, it_s, li_l, list_t, list_l, list_s, sl_t, sl_l, sl_s, ty_ii, ty_ib, ty_in, ty_bi, ty_bb, ty_bn, bp_nm, bp_tt, bp_tl, bps_0, op_add, op_sub, op_mul, op_fdiv, op_mod, op_pow, cm_eq, cm_ne, cm_lt, cm_le, cm_gt, cm_ge, cm_is, cm_isnt, cm_in, cm_notin, cd_n, cd_b, cd_i, cd_s, wp_0, wp_s, oq_rt, oq_nx, ol_nx, ol_ct, ol_bk, ol_rt, mod_pos, fdiv_pos, mul_l, mul_r, varS_0, varS_s, lookS_0, lookS_s, ownS_0v, ownS_0, ownS_0d, ownS_s, setS_0, setS_s, set_0, set_s, deref_int, deref_bl, deref_non, deref_str, deref_tup, deref_lst, deref_scr, deref_dct, deref_ref0, isCell_ref0, restO_nx, restO_rt, restO_bk, restO_ct, szl, idx_tup0, idx_tup1, idx_tup2, idx_tup3, idx_tup4, idx_tup5, idx_tup6, idx_tup7, idx_tup8, idx_tup9, idx_lst0, idx_lst1, idx_lst2, idx_lst3, idx_lst4, idx_lst5, idx_lst6, idx_lst7, idx_lst8, idx_lst9, Int.reduceLT, Int.reduceLE, Int.reduceNeg, Int.reducePow, and_self, permD, List.getElem?_cons_zero, List.getElem?_cons_succ, Option.bind_some, Option.map_some, startS, List.map_cons, List.map_nil, List.replicate, List.cons_append, List.nil_append, List.append_nil, List.length_cons, List.length_nil, decide_eq_true_eq, Bool.not_eq_true', decide_eq_false_iff_not, Nat.reduceAdd, Nat.zero_add, Nat.reduceLeDiff, Nat.reduceLT, Nat.reduceSub, if_true, if_false, Bool.false_eq_true, ↓reduceIte, Df.fd]
    refine take_W hs11 (by decide) (by decide) fun f h12 hs12 f0 f1 => ?_
    simp only [↓W_some, ↓W_bind, ↓W_map, ↓w_var, ↓w_own, ↓w_cst, ↓w_tup, ↓w_ofL, ↓w_celL, ↓w_neg, ↓w_bin, ↓w_cmp, ↓w_chn, ↓w_nt, ↓w_an, ↓w_or, ↓w_ite, ↓w_idx, ↓w_slc, ↓w_call, ↓w_callK, ↓w_bi, ↓w_isi, ↓w_gall, ↓w_gany, ↓w_gsum, ↓w_gtup, ↓w_genF, ↓w_nil, ↓w_cons, ↓w_onone, ↓w_osome, ↓w_otnone, ↓w_otsome, ↓w_and1, ↓w_and, ↓w_or1, ↓w_orc, ↓w_tnt, ↓w_tan, ↓w_tor, ↓w_ta1, ↓w_ta, ↓w_to1, ↓w_to, ↓w_tcmp, ↓w_tchn, ↓w_tvar, ↓w_town, ↓w_tcst, ↓w_tidx, ↓w_tbin, ↓w_tslc, ↓w_tcall, ↓w_tcallK, ↓w_tbi, ↓w_tisi, ↓w_tgen, ↓w_disp, ↓w_comp, ↓w_list, ↓w_sorted, ↓w_seq, ↓w_rng1, ↓w_rng2, ↓w_enum, ↓w_zip, ↓w_rev, ↓w_set, ↓w_setL, ↓w_setD, ↓w_pat, ↓w_par2, ↓w_aug, ↓w_augI, ↓w_putI, ↓w_putO, ↓w_augO, ↓w_app, ↓w_expr, ↓w_ret, ↓w_retN, ↓w_iff, ↓w_whil, ↓w_forr, ↓w_brk, ↓w_cont, ↓w_pass, ↓w_frz, ↓w_snil, ↓w_scons, ↓bps_s, add_ii, add_tt, add_ll, sub_ii, lt_ii, le_ii, gt_ii, ge_ii, eq_ii, ne_ii, is_n, isnt_n, is_bb, isnt_bb, isNon_i, isNon_b, isNon_t, isNon_l, isNon_n, tru_b, tru_i, tru_t, tru_l, tru_n, len_t, len_l, len_s, len_d, bi_len, bi_abs, bi_int, bi_intb, bi_tupt, bi_tupl, bi_min, bi_max, bi_sum, it_t, it_l, it_s, li_l, list_t, list_l, list_s, sl_t, sl_l, sl_s, ty_ii, ty_ib, ty_in, ty_bi, ty_bb, ty_bn, bp_nm, bp_tt, bp_tl, bps_0, op_add, op_sub, op_mul, op_fdiv, op_mod, op_pow, cm_eq, cm_ne, cm_lt, cm_le, cm_gt, cm_ge, cm_is, cm_isnt, cm_in, cm_notin, cd_n, cd_b, cd_i, cd_s, wp_0, wp_s, oq_rt, oq_nx, ol_nx, ol_ct, ol_bk, ol_rt, mod_pos, fdiv_pos, mul_l, mul_r, varS_0, varS_s, lookS_0, lookS_s, ownS_0v, ownS_0, ownS_0d, ownS_s, setS_0, setS_s, set_0, set_s, deref_int, deref_bl, deref_non, deref_str, deref_tup, deref_lst, deref_scr, deref_dct, deref_ref0, isCell_ref0, restO_nx, restO_rt, restO_bk, restO_ct, szl, idx_tup0, idx_tup1, idx_tup2, idx_tup3, idx_tup4, idx_tup5, idx_tup6, idx_tup7, idx_tup8, idx_tup9, idx_lst0, idx_lst1, idx_lst2, idx_lst3, idx_lst4, idx_lst5, idx_lst6, idx_lst7, idx_lst8, idx_lst9, Int.reduceLT, Int.reduceLE, Int.reduceNeg, Int.reducePow, and_self, permD, List.getElem?_cons_zero, List.getElem?_cons_succ, Option.bind_some, Option.map_some, startS, List.map_cons, List.map_nil, List.replicate, List.cons_append, List.nil_append, List.append_nil, List.length_cons, List.length_nil, decide_eq_true_eq, Bool.not_eq_true', decide_eq_false_iff_not, Nat.reduceAdd, Nat.zero_add, Nat.reduceLeDiff, Nat.reduceLT, Nat.reduceSub, if_true, if_false, Bool.false_eq_true, ↓reduceIte, Df.fd]
    exact q _ ⟨ps, l, s, ns, r, ms, f, rfl, by omega, by omega, by omega, by omega, by omega⟩ _ hs12
theorem evenbook_W (hs : St h) (q : ∀ d, EBook d → ∀ h', St h' → Q (d, h')) : W (call T (n + 5) 12 [.ref 0, .int 24, .int 10] h) Q := by
  refine W_call (f := f_law_even_book.fd) rfl rfl ?_
  simp only [f_law_even_book, b12, ↓W_some, ↓W_bind, ↓W_map, ↓w_var, ↓w_own, ↓w_cst, ↓w_tup, ↓w_ofL, ↓w_celL, ↓w_neg, ↓w_bin, ↓w_cmp, ↓w_chn, ↓w_nt, ↓w_an, ↓w_or, ↓w_ite, ↓w_idx, ↓w_slc, ↓w_call, ↓w_callK, ↓w_bi, ↓w_isi, ↓w_gall, ↓w_gany, ↓w_gsum, ↓w_gtup, ↓w_genF, ↓w_nil, ↓w_cons, ↓w_onone, ↓w_osome, ↓w_otnone, ↓w_otsome, ↓w_and1, ↓w_and, ↓w_or1, ↓w_orc, ↓w_tnt, ↓w_tan, ↓w_tor, ↓w_ta1, ↓w_ta, ↓w_to1, ↓w_to, ↓w_tcmp, ↓w_tchn, ↓w_tvar, ↓w_town, ↓w_tcst, ↓w_tidx, ↓w_tbin, ↓w_tslc, ↓w_tcall, ↓w_tcallK, ↓w_tbi, ↓w_tisi, ↓w_tgen, ↓w_disp, ↓w_comp, ↓w_list, ↓w_sorted, ↓w_seq, ↓w_rng1, ↓w_rng2, ↓w_enum, ↓w_zip, ↓w_rev, ↓w_set, ↓w_setL, ↓w_setD, ↓w_pat, ↓w_par2, ↓w_aug, ↓w_augI, ↓w_putI, ↓w_putO, ↓w_augO, ↓w_app, ↓w_expr, ↓w_ret, ↓w_retN, ↓w_iff, ↓w_whil, ↓w_forr, ↓w_brk, ↓w_cont, ↓w_pass, ↓w_frz, ↓w_snil, ↓w_scons, ↓bps_s, add_ii, add_tt, add_ll, sub_ii, lt_ii, le_ii, gt_ii, ge_ii, eq_ii, ne_ii, is_n, isnt_n, is_bb, isnt_bb, isNon_i, isNon_b, isNon_t, isNon_l, isNon_n, tru_b, tru_i, tru_t, tru_l, tru_n, len_t, len_l, len_s, len_d, bi_len, bi_abs, bi_int, bi_intb, bi_tupt, bi_tupl, bi_min, bi_max, bi_sum, it_t, it_l, it_s, li_l, list_t, list_l, list_s, sl_t, sl_l, sl_s, ty_ii, ty_ib, ty_in, ty_bi, ty_bb, ty_bn, bp_nm, bp_tt, bp_tl, bps_0, op_add, op_sub, op_mul, op_fdiv, op_mod, op_pow, cm_eq, cm_ne, cm_lt, cm_le, cm_gt, cm_ge, cm_is, cm_isnt, cm_in, cm_notin, cd_n, cd_b, cd_i, cd_s, wp_0, wp_s, oq_rt, oq_nx, ol_nx, ol_ct, ol_bk, ol_rt, mod_pos, fdiv_pos, mul_l, mul_r, varS_0, varS_s, lookS_0, lookS_s, ownS_0v, ownS_0, ownS_0d, ownS_s, setS_0, setS_s, set_0, set_s, deref_int, deref_bl, deref_non, deref_str, deref_tup, deref_lst, deref_scr, deref_dct, deref_ref0, isCell_ref0, restO_nx, restO_rt, restO_bk, restO_ct, szl, idx_tup0, idx_tup1, idx_tup2, idx_tup3, idx_tup4, idx_tup5, idx_tup6, idx_tup7, idx_tup8, idx_tup9, idx_lst0, idx_lst1, idx_lst2, idx_lst3, idx_lst4, idx_lst5, idx_lst6, idx_lst7, idx_lst8, idx_lst9, Int.reduceLT, Int.reduceLE, Int.reduceNeg, Int.reducePow, and_self, permD, List.getElem?_cons_zero, List.getElem?_cons_succ, Option.bind_some, Option.map_some, startS, List.map_cons, List.map_nil, List.replicate, List.cons_append, List.nil_append, List.append_nil, List.length_cons, List.length_nil, decide_eq_true_eq, Bool.not_eq_true', decide_eq_false_iff_not, Nat.reduceAdd, Nat.zero_add, Nat.reduceLeDiff, Nat.reduceLT, Nat.reduceSub, if_true, if_false, Bool.false_eq_true, ↓reduceIte, Df.fd]
  refine pick_W hs (by simp) (by simp) fun p hp h2 hs2 => ?_
  have hp2 : ∃ e : Int, p = .int e ∧ 1 ≤ e ∧ e ≤ 1000 := by
    simp only [List.mem_cons, List.mem_nil_iff, or_false] at hp
    rcases hp with rfl | rfl | rfl <;> exact ⟨_, rfl, by decide, by decide⟩
  obtain ⟨e, rfl, e0, e1⟩ := hp2
  simp only [↓W_some, ↓W_bind, ↓W_map, ↓w_var, ↓w_own, ↓w_cst, ↓w_tup, ↓w_ofL, ↓w_celL, ↓w_neg, ↓w_bin, ↓w_cmp, ↓w_chn, ↓w_nt, ↓w_an, ↓w_or, ↓w_ite, ↓w_idx, ↓w_slc, ↓w_call, ↓w_callK, ↓w_bi, ↓w_isi, ↓w_gall, ↓w_gany, ↓w_gsum, ↓w_gtup, ↓w_genF, ↓w_nil, ↓w_cons, ↓w_onone, ↓w_osome, ↓w_otnone, ↓w_otsome, ↓w_and1, ↓w_and, ↓w_or1, ↓w_orc, ↓w_tnt, ↓w_tan, ↓w_tor, ↓w_ta1, ↓w_ta, ↓w_to1, ↓w_to, ↓w_tcmp, ↓w_tchn, ↓w_tvar, ↓w_town, ↓w_tcst, ↓w_tidx, ↓w_tbin, ↓w_tslc, ↓w_tcall, ↓w_tcallK, ↓w_tbi, ↓w_tisi, ↓w_tgen, ↓w_disp, ↓w_comp, ↓w_list, ↓w_sorted, ↓w_seq, ↓w_rng1, ↓w_rng2, ↓w_enum, ↓w_zip, ↓w_rev, ↓w_set, ↓w_setL, ↓w_setD, ↓w_pat, ↓w_par2, ↓w_aug, ↓w_augI, ↓w_putI, ↓w_putO, ↓w_augO, ↓w_app, ↓w_expr, ↓w_ret, ↓w_retN, ↓w_iff, ↓w_whil, ↓w_forr, ↓w_brk, ↓w_cont, ↓w_pass, ↓w_frz, ↓w_snil, ↓w_scons, ↓bps_s, add_ii, add_tt, add_ll, sub_ii, lt_ii, le_ii, gt_ii, ge_ii, eq_ii, ne_ii, is_n, isnt_n, is_bb, isnt_bb, isNon_i, isNon_b, isNon_t, isNon_l, isNon_n, tru_b, tru_i, tru_t, tru_l, tru_n, len_t, len_l, len_s, len_d, bi_len, bi_abs, bi_int, bi_intb, bi_tupt, bi_tupl, bi_min, bi_max, bi_sum, it_t, it_l, it_s, li_l, list_t, list_l, list_s, sl_t, sl_l, sl_s, ty_ii, ty_ib, ty_in, ty_bi, ty_bb, ty_bn, bp_nm, bp_tt, bp_tl, bps_0, op_add, op_sub, op_mul, op_fdiv, op_mod, op_pow, cm_eq, cm_ne, cm_lt, cm_le, cm_gt, cm_ge, cm_is, cm_isnt, cm_in, cm_notin, cd_n, cd_b, cd_i, cd_s, wp_0, wp_s, oq_rt, oq_nx, ol_nx, ol_ct, ol_bk, ol_rt, mod_pos, fdiv_pos, mul_l, mul_r, varS_0, varS_s, lookS_0, lookS_s, ownS_0v, ownS_0, ownS_0d, ownS_s, setS_0, setS_s, set_0, set_s, deref_int, deref_bl, deref_non, deref_str, deref_tup, deref_lst, deref_scr, deref_dct, deref_ref0, isCell_ref0, restO_nx, restO_rt, restO_bk, restO_ct, szl, idx_tup0, idx_tup1, idx_tup2, idx_tup3, idx_tup4, idx_tup5, idx_tup6, idx_tup7, idx_tup8, idx_tup9, idx_lst0, idx_lst1, idx_lst2, idx_lst3, idx_lst4, idx_lst5, idx_lst6, idx_lst7, idx_lst8, idx_lst9, Int.reduceLT, Int.reduceLE, Int.reduceNeg, Int.reducePow, and_self, permD, List.getElem?_cons_zero, List.getElem?_cons_succ, Option.bind_some, Option.map_some, startS, List.map_cons, List.map_nil, List.replicate, List.cons_append, List.nil_append, List.append_nil, List.length_cons, List.length_nil, decide_eq_true_eq, Bool.not_eq_true', decide_eq_false_iff_not, Nat.reduceAdd, Nat.zero_add, Nat.reduceLeDiff, Nat.reduceLT, Nat.reduceSub, if_true, if_false, Bool.false_eq_true, ↓reduceIte, Df.fd]
  refine take_W hs2 (by decide) (by decide) fun v h3 hs3 v0 v1 => ?_
  have hmin : 0 < (if e + 1 + v - e < 10 then e + 1 + v - e else 10) ∧ (if e + 1 + v - e < 10 then e + 1 + v - e else 10) ≤ 10 ∧ (if e + 1 + v - e < 10 then e + 1 + v - e else 10) ≤ 1 + v := by
    split <;> omega
  simp only [↓W_some, ↓W_bind, ↓W_map, ↓w_var, ↓w_own, ↓w_cst, ↓w_tup, ↓w_ofL, ↓w_celL, ↓w_neg, ↓w_bin, ↓w_cmp, ↓w_chn, ↓w_nt, ↓w_an, ↓w_or, ↓w_ite, ↓w_idx, ↓w_slc, ↓w_call, ↓w_callK, ↓w_bi, ↓w_isi, ↓w_gall, ↓w_gany, ↓w_gsum, ↓w_gtup, ↓w_genF, ↓w_nil, ↓w_cons, ↓w_onone, ↓w_osome, ↓w_otnone, ↓w_otsome, ↓w_and1, ↓w_and, ↓w_or1, ↓w_orc, ↓w_tnt, ↓w_tan, ↓w_tor, ↓w_ta1, ↓w_ta, ↓w_to1, ↓w_to, ↓w_tcmp, ↓w_tchn, ↓w_tvar, ↓w_town, ↓w_tcst, ↓w_tidx, ↓w_tbin, ↓w_tslc, ↓w_tcall, ↓w_tcallK, ↓w_tbi, ↓w_tisi, ↓w_tgen, ↓w_disp, ↓w_comp, ↓w_list, ↓w_sorted, ↓w_seq, ↓w_rng1, ↓w_rng2, ↓w_enum, ↓w_zip, ↓w_rev, ↓w_set, ↓w_setL, ↓w_setD, ↓w_pat, ↓w_par2, ↓w_aug, ↓w_augI, ↓w_putI, ↓w_putO, ↓w_augO, ↓w_app, ↓w_expr, ↓w_ret, ↓w_retN, ↓w_iff, ↓w_whil, ↓w_forr, ↓w_brk, ↓w_cont, ↓w_pass, ↓w_frz, ↓w_snil, ↓w_scons, ↓bps_s, add_ii, add_tt, add_ll, sub_ii, lt_ii, le_ii, gt_ii, ge_ii, eq_ii, ne_ii, is_n, isnt_n, is_bb, isnt_bb, isNon_i, isNon_b, isNon_t, isNon_l, isNon_n, tru_b, tru_i, tru_t, tru_l, tru_n, len_t, len_l, len_s, len_d, bi_len, bi_abs, bi_int, bi_intb, bi_tupt, bi_tupl, bi_min, bi_max, bi_sum, it_t, it_l, it_s, li_l, list_t, list_l, list_s, sl_t, sl_l, sl_s, ty_ii, ty_ib, ty_in, ty_bi, ty_bb, ty_bn, bp_nm, bp_tt, bp_tl, bps_0, op_add, op_sub, op_mul, op_fdiv, op_mod, op_pow, cm_eq, cm_ne, cm_lt, cm_le, cm_gt, cm_ge, cm_is, cm_isnt, cm_in, cm_notin, cd_n, cd_b, cd_i, cd_s, wp_0, wp_s, oq_rt, oq_nx, ol_nx, ol_ct, ol_bk, ol_rt, mod_pos, fdiv_pos, mul_l, mul_r, varS_0, varS_s, lookS_0, lookS_s, ownS_0v, ownS_0, ownS_0d, ownS_s, setS_0, setS_s, set_0, set_s, deref_int, deref_bl, deref_non, deref_str, deref_tup, deref_lst, deref_scr, deref_dct, deref_ref0, isCell_ref0, restO_nx, restO_rt, restO_bk, restO_ct, szl, idx_tup0, idx_tup1, idx_tup2, idx_tup3, idx_tup4, idx_tup5, idx_tup6, idx_tup7, idx_tup8, idx_tup9, idx_lst0, idx_lst1, idx_lst2, idx_lst3, idx_lst4, idx_lst5, idx_lst6, idx_lst7, idx_lst8, idx_lst9, Int.reduceLT, Int.reduceLE, Int.reduceNeg, Int.reducePow, and_self, permD, List.getElem?_cons_zero, List.getElem?_cons_succ, Option.bind_some, Option.map_some, startS, List.map_cons, List.map_nil, List.replicate, List.cons_append, List.nil_append, List.append_nil, List.length_cons, List.length_nil, decide_eq_true_eq, Bool.not_eq_true', decide_eq_false_iff_not, Nat.reduceAdd, Nat.zero_add, Nat.reduceLeDiff, Nat.reduceLT, Nat.reduceSub, if_true, if_false, Bool.false_eq_true, ↓reduceIte, Df.fd]
  refine take_W hs3 (by omega) (by omega) fun t h4 hs4 t0 t1 => ?_
  simp only [↓W_some, ↓W_bind, ↓W_map, ↓w_var, ↓w_own, ↓w_cst, ↓w_tup, ↓w_ofL, ↓w_celL, ↓w_neg, ↓w_bin, ↓w_cmp, ↓w_chn, ↓w_nt, ↓w_an, ↓w_or, ↓w_ite, ↓w_idx, ↓w_slc, ↓w_call, ↓w_callK, ↓w_bi, ↓w_isi, ↓w_gall, ↓w_gany, ↓w_gsum, ↓w_gtup, ↓w_genF, ↓w_nil, ↓w_cons, ↓w_onone, ↓w_osome, ↓w_otnone, ↓w_otsome, ↓w_and1, ↓w_and, ↓w_or1, ↓w_orc, ↓w_tnt, ↓w_tan, ↓w_tor, ↓w_ta1, ↓w_ta, ↓w_to1, ↓w_to, ↓w_tcmp, ↓w_tchn, ↓w_tvar, ↓w_town, ↓w_tcst, ↓w_tidx, ↓w_tbin, ↓w_tslc, ↓w_tcall, ↓w_tcallK, ↓w_tbi, ↓w_tisi, ↓w_tgen, ↓w_disp, ↓w_comp, ↓w_list, ↓w_sorted, ↓w_seq, ↓w_rng1, ↓w_rng2, ↓w_enum, ↓w_zip, ↓w_rev, ↓w_set, ↓w_setL, ↓w_setD, ↓w_pat, ↓w_par2, ↓w_aug, ↓w_augI, ↓w_putI, ↓w_putO, ↓w_augO, ↓w_app, ↓w_expr, ↓w_ret, ↓w_retN, ↓w_iff, ↓w_whil, ↓w_forr, ↓w_brk, ↓w_cont, ↓w_pass, ↓w_frz, ↓w_snil, ↓w_scons, ↓bps_s, add_ii, add_tt, add_ll, sub_ii, lt_ii, le_ii, gt_ii, ge_ii, eq_ii, ne_ii, is_n, isnt_n, is_bb, isnt_bb, isNon_i, isNon_b, isNon_t, isNon_l, isNon_n, tru_b, tru_i, tru_t, tru_l, tru_n, len_t, len_l, len_s, len_d, bi_len, bi_abs, bi_int, bi_intb, bi_tupt, bi_tupl, bi_min, bi_max, bi_sum, it_t, it_l, it_s, li_l, list_t, list_l, list_s, sl_t, sl_l, sl_s, ty_ii, ty_ib, ty_in, ty_bi, ty_bb, ty_bn, bp_nm, bp_tt, bp_tl, bps_0, op_add, op_sub, op_mul, op_fdiv, op_mod, op_pow, cm_eq, cm_ne, cm_lt, cm_le, cm_gt, cm_ge, cm_is, cm_isnt, cm_in, cm_notin, cd_n, cd_b, cd_i, cd_s, wp_0, wp_s, oq_rt, oq_nx, ol_nx, ol_ct, ol_bk, ol_rt, mod_pos, fdiv_pos, mul_l, mul_r, varS_0, varS_s, lookS_0, lookS_s, ownS_0v, ownS_0, ownS_0d, ownS_s, setS_0, setS_s, set_0, set_s, deref_int, deref_bl, deref_non, deref_str, deref_tup, deref_lst, deref_scr, deref_dct, deref_ref0, isCell_ref0, restO_nx, restO_rt, restO_bk, restO_ct, szl, idx_tup0, idx_tup1, idx_tup2, idx_tup3, idx_tup4, idx_tup5, idx_tup6, idx_tup7, idx_tup8, idx_tup9, idx_lst0, idx_lst1, idx_lst2, idx_lst3, idx_lst4, idx_lst5, idx_lst6, idx_lst7, idx_lst8, idx_lst9, Int.reduceLT, Int.reduceLE, Int.reduceNeg, Int.reducePow, and_self, permD, List.getElem?_cons_zero, List.getElem?_cons_succ, Option.bind_some, Option.map_some, startS, List.map_cons, List.map_nil, List.replicate, List.cons_append, List.nil_append, List.append_nil, List.length_cons, List.length_nil, decide_eq_true_eq, Bool.not_eq_true', decide_eq_false_iff_not, Nat.reduceAdd, Nat.zero_add, Nat.reduceLeDiff, Nat.reduceLT, Nat.reduceSub, if_true, if_false, Bool.false_eq_true, ↓reduceIte, Df.fd]
  refine take_W hs4 (by decide) (by decide) fun k h5 hs5 k0 k1 => ?_
  simp only [small_of (show 0 ≤ 1 + k by omega) (by omega), ↓W_some, ↓W_bind, ↓W_map, ↓w_var, ↓w_own, ↓w_cst, ↓w_tup, ↓w_ofL, ↓w_celL, ↓w_neg, ↓w_bin, ↓w_cmp, ↓w_chn, ↓w_nt, ↓w_an, ↓w_or, ↓w_ite, ↓w_idx, ↓w_slc, ↓w_call, ↓w_callK, ↓w_bi, ↓w_isi, ↓w_gall, ↓w_gany, ↓w_gsum, ↓w_gtup, ↓w_genF, ↓w_nil, ↓w_cons, ↓w_onone, ↓w_osome, ↓w_otnone, ↓w_otsome, ↓w_and1, ↓w_and, ↓w_or1, ↓w_orc, ↓w_tnt, ↓w_tan, ↓w_tor, ↓w_ta1, ↓w_ta, ↓w_to1, ↓w_to, ↓w_tcmp, ↓w_tchn, ↓w_tvar, ↓w_town, ↓w_tcst, ↓w_tidx, ↓w_tbin, ↓w_tslc, ↓w_tcall, ↓w_tcallK, ↓w_tbi, ↓w_tisi, ↓w_tgen, ↓w_disp, ↓w_comp, ↓w_list, ↓w_sorted, ↓w_seq, ↓w_rng1, ↓w_rng2, ↓w_enum, ↓w_zip, ↓w_rev, ↓w_set, ↓w_setL, ↓w_setD, ↓w_pat, ↓w_par2, ↓w_aug, ↓w_augI, ↓w_putI, ↓w_putO, ↓w_augO, ↓w_app, ↓w_expr, ↓w_ret, ↓w_retN, ↓w_iff, ↓w_whil, ↓w_forr, ↓w_brk, ↓w_cont, ↓w_pass, ↓w_frz, ↓w_snil, ↓w_scons, ↓bps_s, add_ii, add_tt, add_ll, sub_ii, lt_ii, le_ii, gt_ii, ge_ii, eq_ii, ne_ii, is_n, isnt_n, is_bb, isnt_bb, isNon_i, isNon_b, isNon_t, isNon_l, isNon_n, tru_b, tru_i, tru_t, tru_l, tru_n, len_t, len_l, len_s, len_d, bi_len, bi_abs, bi_int, bi_intb, bi_tupt, bi_tupl, bi_min, bi_max, bi_sum, it_t, it_l, it_s, li_l, list_t, list_l, list_s, sl_t, sl_l, sl_s, ty_ii, ty_ib, ty_in, ty_bi, ty_bb, ty_bn, bp_nm, bp_tt, bp_tl, bps_0, op_add, op_sub, op_mul, op_fdiv, op_mod, op_pow, cm_eq, cm_ne, cm_lt, cm_le, cm_gt, cm_ge, cm_is, cm_isnt, cm_in, cm_notin, cd_n, cd_b, cd_i, cd_s, wp_0, wp_s, oq_rt, oq_nx, ol_nx, ol_ct, ol_bk, ol_rt, mod_pos, fdiv_pos, mul_l, mul_r, varS_0, varS_s, lookS_0, lookS_s, ownS_0v, ownS_0, ownS_0d, ownS_s, setS_0, setS_s, set_0, set_s, deref_int, deref_bl, deref_non, deref_str, deref_tup, deref_lst, deref_scr, deref_dct, deref_ref0, isCell_ref0, restO_nx, restO_rt, restO_bk, restO_ct, szl, idx_tup0, idx_tup1, idx_tup2, idx_tup3, idx_tup4, idx_tup5, idx_tup6, idx_tup7, idx_tup8, idx_tup9, idx_lst0, idx_lst1, idx_lst2, idx_lst3, idx_lst4, idx_lst5, idx_lst6, idx_lst7, idx_lst8, idx_lst9, Int.reduceLT, Int.reduceLE, Int.reduceNeg, Int.reducePow, and_self, permD, List.getElem?_cons_zero, List.getElem?_cons_succ, Option.bind_some, Option.map_some, startS, List.map_cons, List.map_nil, List.replicate, List.cons_append, List.nil_append, List.append_nil, List.length_cons, List.length_nil, decide_eq_true_eq, Bool.not_eq_true', decide_eq_false_iff_not, Nat.reduceAdd, Nat.zero_add, Nat.reduceLeDiff, Nat.reduceLT, Nat.reduceSub, if_true, if_false, Bool.false_eq_true, ↓reduceIte, Df.fd]
  refine W_compL (fun r acc h' => St h' ∧ (∀ m ∈ acc, EMode m) ∧ (acc.length : Int) + r.length = 1 + k) ?_ ?_ (by simp [rngL, szl]; omega) ⟨hs5, fun m hm => by (cases hm), by simp [rngL]; omega⟩
  · rintro x r acc h' ⟨hs', ha, hl⟩
    rw [List.length_cons] at hl
    simp only [↓W_some, ↓W_bind, ↓W_map, ↓w_var, ↓w_own, ↓w_cst, ↓w_tup, ↓w_ofL, ↓w_celL, ↓w_neg, ↓w_bin, ↓w_cmp, ↓w_chn, ↓w_nt, ↓w_an, ↓w_or, ↓w_ite, ↓w_idx, ↓w_slc, ↓w_call, ↓w_callK, ↓w_bi, ↓w_isi, ↓w_gall, ↓w_gany, ↓w_gsum, ↓w_gtup, ↓w_genF, ↓w_nil, ↓w_cons, ↓w_onone, ↓w_osome, ↓w_otnone, ↓w_otsome, ↓w_and1, ↓w_and, ↓w_or1, ↓w_orc, ↓w_tnt, ↓w_tan, ↓w_tor, ↓w_ta1, ↓w_ta, ↓w_to1, ↓w_to, ↓w_tcmp, ↓w_tchn, ↓w_tvar, ↓w_town, ↓w_tcst, ↓w_tidx, ↓w_tbin, ↓w_tslc, ↓w_tcall, ↓w_tcallK, ↓w_tbi, ↓w_tisi, ↓w_tgen, ↓w_disp, ↓w_comp, ↓w_list, ↓w_sorted, ↓w_seq, ↓w_rng1, ↓w_rng2, ↓w_enum, ↓w_zip, ↓w_rev, ↓w_set, ↓w_setL, ↓w_setD, ↓w_pat, ↓w_par2, ↓w_aug, ↓w_augI, ↓w_putI, ↓w_putO, ↓w_augO, ↓w_app, ↓w_expr, ↓w_ret, ↓w_retN, ↓w_iff, ↓w_whil, ↓w_forr, ↓w_brk, ↓w_cont, ↓w_pass, ↓w_frz, ↓w_snil, ↓w_scons, ↓bps_s, add_ii, add_tt, add_ll, sub_ii, lt_ii, le_ii, gt_ii, ge_ii, eq_ii, ne_ii, is_n, isnt_n, is_bb, isnt_bb, isNon_i, isNon_b, isNon_t, isNon_l, isNon_n, tru_b, tru_i, tru_t, tru_l, tru_n, len_t, len_l, len_s, len_d, bi_len, bi_abs, bi_int, bi_intb, bi_tupt, bi_tupl, bi_min, bi_max, bi_sum, it_t, it_l, it_s, li_l, list_t, list_l, list_s, sl_t, sl_l, sl_s, ty_ii, ty_ib, ty_in, ty_bi, ty_bb, ty_bn, bp_nm, bp_tt, bp_tl, bps_0, op_add, op_sub, op_mul, op_fdiv, op_mod, op_pow, cm_eq, cm_ne, cm_lt, cm_le, cm_gt, cm_ge, cm_is, cm_isnt, cm_in, cm_notin, cd_n, cd_b, cd_i, cd_s, wp_0, wp_s, oq_rt, oq_nx, ol_nx, ol_ct, ol_bk, ol_rt, mod_pos, fdiv_pos, mul_l, mul_r, varS_0, varS_s, lookS_0, lookS_s, ownS_0v, ownS_0, ownS_0d, ownS_s, setS_0, setS_s, set_0, set_s, deref_int, deref_bl, deref_non, deref_str, deref_tup, deref_lst, deref_scr, deref_dct, deref_ref0, isCell_ref0, restO_nx, restO_rt, restO_bk, restO_ct, szl, idx_tup0, idx_tup1, idx_tup2, idx_tup3, idx_tup4, idx_tup5, idx_tup6, idx_tup7, idx_tup8, idx_tup9, idx_lst0, idx_lst1, idx_lst2, idx_lst3, idx_lst4, idx_lst5, idx_lst6, idx_lst7, idx_lst8, idx_lst9, Int.reduceLT, Int.reduceLE, Int.reduceNeg, Int.reducePow, and_self, permD, List.getElem?_cons_zero, List.getElem?_cons_succ, Option.bind_some, Option.map_some, startS, List.map_cons, List.map_nil, List.replicate, List.cons_append, List.nil_append, List.append_nil, List.length_cons, List.length_nil, decide_eq_true_eq, Bool.not_eq_true', decide_eq_false_iff_not, Nat.reduceAdd, Nat.zero_add, Nat.reduceLeDiff, Nat.reduceLT, Nat.reduceSub, if_true, if_false, Bool.false_eq_true, ↓reduceIte, Df.fd]
    refine evenmode_W hs' e0 (by omega) (by omega) fun d hd h6 hs6 => ?_
    simp only [↓W_some, ↓W_bind, ↓W_map, ↓w_var, ↓w_own, ↓w_cst, ↓w_tup, ↓w_ofL, ↓w_celL, ↓w_neg, ↓w_bin, ↓w_cmp, ↓w_chn, ↓w_nt, ↓w_an, ↓w_or, ↓w_ite, ↓w_idx, ↓w_slc, ↓w_call, ↓w_callK, ↓w_bi, ↓w_isi, ↓w_gall, ↓w_gany, ↓w_gsum, ↓w_gtup, ↓w_genF, ↓w_nil, ↓w_cons, ↓w_onone, ↓w_osome, ↓w_otnone, ↓w_otsome, ↓w_and1, ↓w_and, ↓w_or1, ↓w_orc, ↓w_tnt, ↓w_tan, ↓w_tor, ↓w_ta1, ↓w_ta, ↓w_to1, ↓w_to, ↓w_tcmp, ↓w_tchn, ↓w_tvar, ↓w_town, ↓w_tcst, ↓w_tidx, ↓w_tbin, ↓w_tslc, ↓w_tcall, ↓w_tcallK, ↓w_tbi, ↓w_tisi, ↓w_tgen, ↓w_disp, ↓w_comp, ↓w_list, ↓w_sorted, ↓w_seq, ↓w_rng1, ↓w_rng2, ↓w_enum, ↓w_zip, ↓w_rev, ↓w_set, ↓w_setL, ↓w_setD, ↓w_pat, ↓w_par2, ↓w_aug, ↓w_augI, ↓w_putI, ↓w_putO, ↓w_augO, ↓w_app, ↓w_expr, ↓w_ret, ↓w_retN, ↓w_iff, ↓w_whil, ↓w_forr, ↓w_brk, ↓w_cont, ↓w_pass, ↓w_frz, ↓w_snil, ↓w_scons, ↓bps_s, add_ii, add_tt, add_ll, sub_ii, lt_ii, le_ii, gt_ii, ge_ii, eq_ii, ne_ii, is_n, isnt_n, is_bb, isnt_bb, isNon_i, isNon_b, isNon_t, isNon_l, isNon_n, tru_b, tru_i, tru_t, tru_l, tru_n, len_t, len_l, len_s, len_d, bi_len, bi_abs, bi_int, bi_intb, bi_tupt, bi_tupl, bi_min, bi_max, bi_sum, it_t, it_l, it_s, li_l, list_t, list_l, list_s, sl_t, sl_l, sl_s, ty_ii, ty_ib, ty_in, ty_bi, ty_bb, ty_bn, bp_nm, bp_tt, bp_tl, bps_0, op_add, op_sub, op_mul, op_fdiv, op_mod, op_pow, cm_eq, cm_ne, cm_lt, cm_le, cm_gt, cm_ge, cm_is, cm_isnt, cm_in, cm_notin, cd_n, cd_b, cd_i, cd_s, wp_0, wp_s, oq_rt, oq_nx, ol_nx, ol_ct, ol_bk, ol_rt, mod_pos, fdiv_pos, mul_l, mul_r, varS_0, varS_s, lookS_0, lookS_s, ownS_0v, ownS_0, ownS_0d, ownS_s, setS_0, setS_s, set_0, set_s, deref_int, deref_bl, deref_non, deref_str, deref_tup, deref_lst, deref_scr, deref_dct, deref_ref0, isCell_ref0, restO_nx, restO_rt, restO_bk, restO_ct, szl, idx_tup0, idx_tup1, idx_tup2, idx_tup3, idx_tup4, idx_tup5, idx_tup6, idx_tup7, idx_tup8, idx_tup9, idx_lst0, idx_lst1, idx_lst2, idx_lst3, idx_lst4, idx_lst5, idx_lst6, idx_lst7, idx_lst8, idx_lst9, Int.reduceLT, Int.reduceLE, Int.reduceNeg, Int.reducePow, and_self, permD, List.getElem?_cons_zero, List.getElem?_cons_succ, Option.bind_some, Option.map_some, startS, List.map_cons, List.map_nil, List.replicate, List.cons_append, List.nil_append, List.append_nil, List.length_cons, List.length_nil, decide_eq_true_eq, Bool.not_eq_true', decide_eq_false_iff_not, Nat.reduceAdd, Nat.zero_add, Nat.reduceLeDiff, Nat.reduceLT, Nat.reduceSub, if_true, if_false, Bool.false_eq_true, ↓reduceIte, Df.fd]
    refine ⟨hs6, fun m hm => ?_, by simp only [List.length_append, List.length_cons, List.length_nil]; omega⟩
    rcases List.mem_append.mp hm with hm | hm
    · exact ha m hm
    · rw [List.mem_singleton] at hm; rw [hm]; exact hd
  · rintro acc h' ⟨hs', ha, hl⟩
    have hl : (acc.length : Int) = 1 + k := by simpa using hl
    simp only [↓W_some, ↓W_bind, ↓W_map, ↓w_var, ↓w_own, ↓w_cst, ↓w_tup, ↓w_ofL, ↓w_celL, ↓w_neg, ↓w_bin, ↓w_cmp, ↓w_chn, ↓w_nt, ↓w_an, ↓w_or, ↓w_ite, ↓w_idx, ↓w_slc, ↓w_call, ↓w_callK, ↓w_bi, ↓w_isi, ↓w_gall, ↓w_gany, ↓w_gsum, ↓w_gtup, ↓w_genF, ↓w_nil, ↓w_cons, ↓w_onone, ↓w_osome, ↓w_otnone, ↓w_otsome, ↓w_and1, ↓w_and, ↓w_or1, ↓w_orc, ↓w_tnt, ↓w_tan, ↓w_tor, ↓w_ta1, ↓w_ta, ↓w_to1, ↓w_to, ↓w_tcmp, ↓w_tchn, ↓w_tvar, ↓w_town, ↓w_tcst, ↓w_tidx, ↓w_tbin, ↓w_tslc, ↓w_tcall, ↓w_tcallK, ↓w_tbi, ↓w_tisi, ↓w_tgen, ↓w_disp, ↓w_comp, ↓w_list, ↓w_sorted, ↓w_seq, ↓w_rng1, ↓w_rng2, ↓w_enum, ↓w_zip, ↓w_rev, ↓w_set, ↓w_setL, ↓w_setD, ↓w_pat, ↓w_par2, ↓w_aug, ↓w_augI, ↓w_putI, ↓w_putO, ↓w_augO, ↓w_app, ↓w_expr, ↓w_ret, ↓w_retN, ↓w_iff, ↓w_whil, ↓w_forr, ↓w_brk, ↓w_cont, ↓w_pass, ↓w_frz, ↓w_snil, ↓w_scons, ↓bps_s, add_ii, add_tt, add_ll, sub_ii, lt_ii, le_ii, gt_ii, ge_ii, eq_ii, ne_ii, is_n, isnt_n, is_bb, isnt_bb, isNon_i, isNon_b, isNon_t, isNon_l, isNon_n, tru_b, tru_i, tru_t, tru_l, tru_n, len_t, len_l, len_s, len_d, bi_len, bi_abs, bi_int, bi_intb, bi_tupt, bi_tupl, bi_min, bi_max, bi_sum, it_t, it_l, it_s, li_l, list_t, list_l, list_s, sl_t, sl_l, sl_s, ty_ii, ty_ib, ty_in, ty_bi, ty_bb, ty_bn, bp_nm, bp_tt, bp_tl, bps_0, op_add, op_sub, op_mul, op_fdiv, op_mod, op_pow, cm_eq, cm_ne, cm_lt, cm_le, cm_gt, cm_ge, cm_is, cm_isnt, cm_in, cm_notin, cd_n, cd_b, cd_i, cd_s, wp_0, wp_s, oq_rt, oq_nx, ol_nx, ol_ct, ol_bk, ol_rt, mod_pos, fdiv_pos, mul_l, mul_r, varS_0, varS_s, lookS_0, lookS_s, ownS_0v, ownS_0, ownS_0d, ownS_s, setS_0, setS_s, set_0, set_s, deref_int, deref_bl, deref_non, deref_str, deref_tup, deref_lst, deref_scr, deref_dct, deref_ref0, isCell_ref0, restO_nx, restO_rt, restO_bk, restO_ct, szl, idx_tup0, idx_tup1, idx_tup2, idx_tup3, idx_tup4, idx_tup5, idx_tup6, idx_tup7, idx_tup8, idx_tup9, idx_lst0, idx_lst1, idx_lst2, idx_lst3, idx_lst4, idx_lst5, idx_lst6, idx_lst7, idx_lst8, idx_lst9, Int.reduceLT, Int.reduceLE, Int.reduceNeg, Int.reducePow, and_self, permD, List.getElem?_cons_zero, List.getElem?_cons_succ, Option.bind_some, Option.map_some, startS, List.map_cons, List.map_nil, List.replicate, List.cons_append, List.nil_append, List.append_nil, List.length_cons, List.length_nil, decide_eq_true_eq, Bool.not_eq_true', decide_eq_false_iff_not, Nat.reduceAdd, Nat.zero_add, Nat.reduceLeDiff, Nat.reduceLT, Nat.reduceSub, if_true, if_false, Bool.false_eq_true, ↓reduceIte, Df.fd]
    exact q _ ⟨e, e + 1 + v, 1 + t, acc, rfl, e0, by omega, by omega, fun _ => by omega, fun z => by omega, by omega, by omega, ha⟩ _ hs'
theorem greatbook_W (hs : St h) (q : ∀ d, EBook d → ∀ h', St h' → Q (d, h')) : W (call T (n + 4) 17 [.ref 0] h) Q := by
  refine W_call (f := f_law_great_book.fd) rfl rfl ?_
  simp only [f_law_great_book, b17, ↓W_some, ↓W_bind, ↓W_map, ↓w_var, ↓w_own, ↓w_cst, ↓w_tup, ↓w_ofL, ↓w_celL, ↓w_neg, ↓w_bin, ↓w_cmp, ↓w_chn, ↓w_nt, ↓w_an, ↓w_or, ↓w_ite, ↓w_idx, ↓w_slc, ↓w_call, ↓w_callK, ↓w_bi, ↓w_isi, ↓w_gall, ↓w_gany, ↓w_gsum, ↓w_gtup, ↓w_genF, ↓w_nil, ↓w_cons, ↓w_onone, ↓w_osome, ↓w_otnone, ↓w_otsome, ↓w_and1, ↓w_and, ↓w_or1, ↓w_orc, ↓w_tnt, ↓w_tan, ↓w_tor, ↓w_ta1, ↓w_ta, ↓w_to1, ↓w_to, ↓w_tcmp, ↓w_tchn, ↓w_tvar, ↓w_town, ↓w_tcst, ↓w_tidx, ↓w_tbin, ↓w_tslc, ↓w_tcall, ↓w_tcallK, ↓w_tbi, ↓w_tisi, ↓w_tgen, ↓w_disp, ↓w_comp, ↓w_list, ↓w_sorted, ↓w_seq, ↓w_rng1, ↓w_rng2, ↓w_enum, ↓w_zip, ↓w_rev, ↓w_set, ↓w_setL, ↓w_setD, ↓w_pat, ↓w_par2, ↓w_aug, ↓w_augI, ↓w_putI, ↓w_putO, ↓w_augO, ↓w_app, ↓w_expr, ↓w_ret, ↓w_retN, ↓w_iff, ↓w_whil, ↓w_forr, ↓w_brk, ↓w_cont, ↓w_pass, ↓w_frz, ↓w_snil, ↓w_scons, ↓bps_s, add_ii, add_tt, add_ll, sub_ii, lt_ii, le_ii, gt_ii, ge_ii, eq_ii, ne_ii, is_n, isnt_n, is_bb, isnt_bb, isNon_i, isNon_b, isNon_t, isNon_l, isNon_n, tru_b, tru_i, tru_t, tru_l, tru_n, len_t, len_l, len_s, len_d, bi_len, bi_abs, bi_int, bi_intb, bi_tupt, bi_tupl, bi_min, bi_max, bi_sum, it_t, it_l, it_s, li_l, list_t, list_l, list_s, sl_t, sl_l, sl_s, ty_ii, ty_ib, ty_in, ty_bi, ty_bb, ty_bn, bp_nm, bp_tt, bp_tl, bps_0, op_add, op_sub, op_mul, op_fdiv, op_mod, op_pow, cm_eq, cm_ne, cm_lt, cm_le, cm_gt, cm_ge, cm_is, cm_isnt, cm_in, cm_notin, cd_n, cd_b, cd_i, cd_s, wp_0, wp_s, oq_rt, oq_nx, ol_nx, ol_ct, ol_bk, ol_rt, mod_pos, fdiv_pos, mul_l, mul_r, varS_0, varS_s, lookS_0, lookS_s, ownS_0v, ownS_0, ownS_0d, ownS_s, setS_0, setS_s, set_0, set_s, deref_int, deref_bl, deref_non, deref_str, deref_tup, deref_lst, deref_scr, deref_dct, deref_ref0, isCell_ref0, restO_nx, restO_rt, restO_bk, restO_ct, szl, idx_tup0, idx_tup1, idx_tup2, idx_tup3, idx_tup4, idx_tup5, idx_tup6, idx_tup7, idx_tup8, idx_tup9, idx_lst0, idx_lst1, idx_lst2, idx_lst3, idx_lst4, idx_lst5, idx_lst6, idx_lst7, idx_lst8, idx_lst9, Int.reduceLT, Int.reduceLE, Int.reduceNeg, Int.reducePow, and_self, permD, List.getElem?_cons_zero, List.getElem?_cons_succ, Option.bind_some, Option.map_some, startS, List.map_cons, List.map_nil, List.replicate, List.cons_append, List.nil_append, List.append_nil, List.length_cons, List.length_nil, decide_eq_true_eq, Bool.not_eq_true', decide_eq_false_iff_not, Nat.reduceAdd, Nat.zero_add, Nat.reduceLeDiff, Nat.reduceLT, Nat.reduceSub, if_true, if_false, Bool.false_eq_true, ↓reduceIte, Df.fd]
  refine take_W hs (by decide) (by decide) fun v h2 hs2 v0 v1 => ?_
  simp only [↓W_some, ↓W_bind, ↓W_map, ↓w_var, ↓w_own, ↓w_cst, ↓w_tup, ↓w_ofL, ↓w_celL, ↓w_neg, ↓w_bin, ↓w_cmp, ↓w_chn, ↓w_nt, ↓w_an, ↓w_or, ↓w_ite, ↓w_idx, ↓w_slc, ↓w_call, ↓w_callK, ↓w_bi, ↓w_isi, ↓w_gall, ↓w_gany, ↓w_gsum, ↓w_gtup, ↓w_genF, ↓w_nil, ↓w_cons, ↓w_onone, ↓w_osome, ↓w_otnone, ↓w_otsome, ↓w_and1, ↓w_and, ↓w_or1, ↓w_orc, ↓w_tnt, ↓w_tan, ↓w_tor, ↓w_ta1, ↓w_ta, ↓w_to1, ↓w_to, ↓w_tcmp, ↓w_tchn, ↓w_tvar, ↓w_town, ↓w_tcst, ↓w_tidx, ↓w_tbin, ↓w_tslc, ↓w_tcall, ↓w_tcallK, ↓w_tbi, ↓w_tisi, ↓w_tgen, ↓w_disp, ↓w_comp, ↓w_list, ↓w_sorted, ↓w_seq, ↓w_rng1, ↓w_rng2, ↓w_enum, ↓w_zip, ↓w_rev, ↓w_set, ↓w_setL, ↓w_setD, ↓w_pat, ↓w_par2, ↓w_aug, ↓w_augI, ↓w_putI, ↓w_putO, ↓w_augO, ↓w_app, ↓w_expr, ↓w_ret, ↓w_retN, ↓w_iff, ↓w_whil, ↓w_forr, ↓w_brk, ↓w_cont, ↓w_pass, ↓w_frz, ↓w_snil, ↓w_scons, ↓bps_s, add_ii, add_tt, add_ll, sub_ii, lt_ii, le_ii, gt_ii, ge_ii, eq_ii, ne_ii, is_n, isnt_n, is_bb, isnt_bb, isNon_i, isNon_b, isNon_t, isNon_l, isNon_n, tru_b, tru_i, tru_t, tru_l, tru_n, len_t, len_l, len_s, len_d, bi_len, bi_abs, bi_int, bi_intb, bi_tupt, bi_tupl, bi_min, bi_max, bi_sum, it_t, it_l, it_s, li_l, list_t, list_l, list_s, sl_t, sl_l, sl_s, ty_ii, ty_ib, ty_in, ty_bi, ty_bb, ty_bn, bp_nm, bp_tt, bp_tl, bps_0, op_add, op_sub, op_mul, op_fdiv, op_mod, op_pow, cm_eq, cm_ne, cm_lt, cm_le, cm_gt, cm_ge, cm_is, cm_isnt, cm_in, cm_notin, cd_n, cd_b, cd_i, cd_s, wp_0, wp_s, oq_rt, oq_nx, ol_nx, ol_ct, ol_bk, ol_rt, mod_pos, fdiv_pos, mul_l, mul_r, varS_0, varS_s, lookS_0, lookS_s, ownS_0v, ownS_0, ownS_0d, ownS_s, setS_0, setS_s, set_0, set_s, deref_int, deref_bl, deref_non, deref_str, deref_tup, deref_lst, deref_scr, deref_dct, deref_ref0, isCell_ref0, restO_nx, restO_rt, restO_bk, restO_ct, szl, idx_tup0, idx_tup1, idx_tup2, idx_tup3, idx_tup4, idx_tup5, idx_tup6, idx_tup7, idx_tup8, idx_tup9, idx_lst0, idx_lst1, idx_lst2, idx_lst3, idx_lst4, idx_lst5, idx_lst6, idx_lst7, idx_lst8, idx_lst9, Int.reduceLT, Int.reduceLE, Int.reduceNeg, Int.reducePow, and_self, permD, List.getElem?_cons_zero, List.getElem?_cons_succ, Option.bind_some, Option.map_some, startS, List.map_cons, List.map_nil, List.replicate, List.cons_append, List.nil_append, List.append_nil, List.length_cons, List.length_nil, decide_eq_true_eq, Bool.not_eq_true', decide_eq_false_iff_not, Nat.reduceAdd, Nat.zero_add, Nat.reduceLeDiff, Nat.reduceLT, Nat.reduceSub, if_true, if_false, Bool.false_eq_true, ↓reduceIte, Df.fd]
  refine take_W hs2 (by decide) (by decide) fun u h3 hs3 u0 u1 => ?_
  have hmin : (if 1 + v + 200 + u < 2000 then 1 + v + 200 + u else 2000) ≤ 2000 ∧ 1 + v + 200 ≤ (if 1 + v + 200 + u < 2000 then 1 + v + 200 + u else 2000) := by
    split <;> omega
  simp only [↓W_some, ↓W_bind, ↓W_map, ↓w_var, ↓w_own, ↓w_cst, ↓w_tup, ↓w_ofL, ↓w_celL, ↓w_neg, ↓w_bin, ↓w_cmp, ↓w_chn, ↓w_nt, ↓w_an, ↓w_or, ↓w_ite, ↓w_idx, ↓w_slc, ↓w_call, ↓w_callK, ↓w_bi, ↓w_isi, ↓w_gall, ↓w_gany, ↓w_gsum, ↓w_gtup, ↓w_genF, ↓w_nil, ↓w_cons, ↓w_onone, ↓w_osome, ↓w_otnone, ↓w_otsome, ↓w_and1, ↓w_and, ↓w_or1, ↓w_orc, ↓w_tnt, ↓w_tan, ↓w_tor, ↓w_ta1, ↓w_ta, ↓w_to1, ↓w_to, ↓w_tcmp, ↓w_tchn, ↓w_tvar, ↓w_town, ↓w_tcst, ↓w_tidx, ↓w_tbin, ↓w_tslc, ↓w_tcall, ↓w_tcallK, ↓w_tbi, ↓w_tisi, ↓w_tgen, ↓w_disp, ↓w_comp, ↓w_list, ↓w_sorted, ↓w_seq, ↓w_rng1, ↓w_rng2, ↓w_enum, ↓w_zip, ↓w_rev, ↓w_set, ↓w_setL, ↓w_setD, ↓w_pat, ↓w_par2, ↓w_aug, ↓w_augI, ↓w_putI, ↓w_putO, ↓w_augO, ↓w_app, ↓w_expr, ↓w_ret, ↓w_retN, ↓w_iff, ↓w_whil, ↓w_forr, ↓w_brk, ↓w_cont, ↓w_pass, ↓w_frz, ↓w_snil, ↓w_scons, ↓bps_s, add_ii, add_tt, add_ll, sub_ii, lt_ii, le_ii, gt_ii, ge_ii, eq_ii, ne_ii, is_n, isnt_n, is_bb, isnt_bb, isNon_i, isNon_b, isNon_t, isNon_l, isNon_n, tru_b, tru_i, tru_t, tru_l, tru_n, len_t, len_l, len_s, len_d, bi_len, bi_abs, bi_int, bi_intb, bi_tupt, bi_tupl, bi_min, bi_max, bi_sum, it_t, it_l, it_s, li_l, list_t, list_l, list_s, sl_t, sl_l, sl_s, ty_ii, ty_ib, ty_in, ty_bi, ty_bb, ty_bn, bp_nm, bp_tt, bp_tl, bps_0, op_add, op_sub, op_mul, op_fdiv, op_mod, op_pow, cm_eq, cm_ne, cm_lt, cm_le, cm_gt, cm_ge, cm_is, cm_isnt, cm_in, cm_notin, cd_n, cd_b, cd_i, cd_s, wp_0, wp_s, oq_rt, oq_nx, ol_nx, ol_ct, ol_bk, ol_rt, mod_pos, fdiv_pos, mul_l, mul_r, varS_0, varS_s, lookS_0, lookS_s, ownS_0v, ownS_0, ownS_0d, ownS_s, setS_0, setS_s, set_0, set_s, deref_int, deref_bl, deref_non, deref_str, deref_tup, deref_lst, deref_scr, deref_dct, deref_ref0, isCell_ref0, restO_nx, restO_rt, restO_bk, restO_ct, szl, idx_tup0, idx_tup1, idx_tup2, idx_tup3, idx_tup4, idx_tup5, idx_tup6, idx_tup7, idx_tup8, idx_tup9, idx_lst0, idx_lst1, idx_lst2, idx_lst3, idx_lst4, idx_lst5, idx_lst6, idx_lst7, idx_lst8, idx_lst9, Int.reduceLT, Int.reduceLE, Int.reduceNeg, Int.reducePow, and_self, permD, List.getElem?_cons_zero, List.getElem?_cons_succ, Option.bind_some, Option.map_some, startS, List.map_cons, List.map_nil, List.replicate, List.cons_append, List.nil_append, List.append_nil, List.length_cons, List.length_nil, decide_eq_true_eq, Bool.not_eq_true', decide_eq_false_iff_not, Nat.reduceAdd, Nat.zero_add, Nat.reduceLeDiff, Nat.reduceLT, Nat.reduceSub, if_true, if_false, Bool.false_eq_true, ↓reduceIte, Df.fd]
  refine take_W hs3 (by decide) (by decide) fun r h4 hs4 r0 r1 => ?_
  simp only [↓W_some, ↓W_bind, ↓W_map, ↓w_var, ↓w_own, ↓w_cst, ↓w_tup, ↓w_ofL, ↓w_celL, ↓w_neg, ↓w_bin, ↓w_cmp, ↓w_chn, ↓w_nt, ↓w_an, ↓w_or, ↓w_ite, ↓w_idx, ↓w_slc, ↓w_call, ↓w_callK, ↓w_bi, ↓w_isi, ↓w_gall, ↓w_gany, ↓w_gsum, ↓w_gtup, ↓w_genF, ↓w_nil, ↓w_cons, ↓w_onone, ↓w_osome, ↓w_otnone, ↓w_otsome, ↓w_and1, ↓w_and, ↓w_or1, ↓w_orc, ↓w_tnt, ↓w_tan, ↓w_tor, ↓w_ta1, ↓w_ta, ↓w_to1, ↓w_to, ↓w_tcmp, ↓w_tchn, ↓w_tvar, ↓w_town, ↓w_tcst, ↓w_tidx, ↓w_tbin, ↓w_tslc, ↓w_tcall, ↓w_tcallK, ↓w_tbi, ↓w_tisi, ↓w_tgen, ↓w_disp, ↓w_comp, ↓w_list, ↓w_sorted, ↓w_seq, ↓w_rng1, ↓w_rng2, ↓w_enum, ↓w_zip, ↓w_rev, ↓w_set, ↓w_setL, ↓w_setD, ↓w_pat, ↓w_par2, ↓w_aug, ↓w_augI, ↓w_putI, ↓w_putO, ↓w_augO, ↓w_app, ↓w_expr, ↓w_ret, ↓w_retN, ↓w_iff, ↓w_whil, ↓w_forr, ↓w_brk, ↓w_cont, ↓w_pass, ↓w_frz, ↓w_snil, ↓w_scons, ↓bps_s, add_ii, add_tt, add_ll, sub_ii, lt_ii, le_ii, gt_ii, ge_ii, eq_ii, ne_ii, is_n, isnt_n, is_bb, isnt_bb, isNon_i, isNon_b, isNon_t, isNon_l, isNon_n, tru_b, tru_i, tru_t, tru_l, tru_n, len_t, len_l, len_s, len_d, bi_len, bi_abs, bi_int, bi_intb, bi_tupt, bi_tupl, bi_min, bi_max, bi_sum, it_t, it_l, it_s, li_l, list_t, list_l, list_s, sl_t, sl_l, sl_s, ty_ii, ty_ib, ty_in, ty_bi, ty_bb, ty_bn, bp_nm, bp_tt, bp_tl, bps_0, op_add, op_sub, op_mul, op_fdiv, op_mod, op_pow, cm_eq, cm_ne, cm_lt, cm_le, cm_gt, cm_ge, cm_is, cm_isnt, cm_in, cm_notin, cd_n, cd_b, cd_i, cd_s, wp_0, wp_s, oq_rt, oq_nx, ol_nx, ol_ct, ol_bk, ol_rt, mod_pos, fdiv_pos, mul_l, mul_r, varS_0, varS_s, lookS_0, lookS_s, ownS_0v, ownS_0, ownS_0d, ownS_s, setS_0, setS_s, set_0, set_s, deref_int, deref_bl, deref_non, deref_str, deref_tup, deref_lst, deref_scr, deref_dct, deref_ref0, isCell_ref0, restO_nx, restO_rt, restO_bk, restO_ct, szl, idx_tup0, idx_tup1, idx_tup2, idx_tup3, idx_tup4, idx_tup5, idx_tup6, idx_tup7, idx_tup8, idx_tup9, idx_lst0, idx_lst1, idx_lst2, idx_lst3, idx_lst4, idx_lst5, idx_lst6, idx_lst7, idx_lst8, idx_lst9, Int.reduceLT, Int.reduceLE, Int.reduceNeg, Int.reducePow, and_self, permD, List.getElem?_cons_zero, List.getElem?_cons_succ, Option.bind_some, Option.map_some, startS, List.map_cons, List.map_nil, List.replicate, List.cons_append, List.nil_append, List.append_nil, List.length_cons, List.length_nil, decide_eq_true_eq, Bool.not_eq_true', decide_eq_false_iff_not, Nat.reduceAdd, Nat.zero_add, Nat.reduceLeDiff, Nat.reduceLT, Nat.reduceSub, if_true, if_false, Bool.false_eq_true, ↓reduceIte, Df.fd]
  refine rising_W hs4 (by omega) (by omega) (by decide) (by decide) fun ns hns h5 hs5 => ?_
  simp only [↓W_some, ↓W_bind, ↓W_map, ↓w_var, ↓w_own, ↓w_cst, ↓w_tup, ↓w_ofL, ↓w_celL, ↓w_neg, ↓w_bin, ↓w_cmp, ↓w_chn, ↓w_nt, ↓w_an, ↓w_or, ↓w_ite, ↓w_idx, ↓w_slc, ↓w_call, ↓w_callK, ↓w_bi, ↓w_isi, ↓w_gall, ↓w_gany, ↓w_gsum, ↓w_gtup, ↓w_genF, ↓w_nil, ↓w_cons, ↓w_onone, ↓w_osome, ↓w_otnone, ↓w_otsome, ↓w_and1, ↓w_and, ↓w_or1, ↓w_orc, ↓w_tnt, ↓w_tan, ↓w_tor, ↓w_ta1, ↓w_ta, ↓w_to1, ↓w_to, ↓w_tcmp, ↓w_tchn, ↓w_tvar, ↓w_town, ↓w_tcst, ↓w_tidx, ↓w_tbin, ↓w_tslc, ↓w_tcall, ↓w_tcallK, ↓w_tbi, ↓w_tisi, ↓w_tgen, ↓w_disp, ↓w_comp, ↓w_list, ↓w_sorted, ↓w_seq, ↓w_rng1, ↓w_rng2, ↓w_enum, ↓w_zip, ↓w_rev, ↓w_set, ↓w_setL, ↓w_setD, ↓w_pat, ↓w_par2, ↓w_aug, ↓w_augI, ↓w_putI, ↓w_putO, ↓w_augO, ↓w_app, ↓w_expr, ↓w_ret, ↓w_retN, ↓w_iff, ↓w_whil, ↓w_forr, ↓w_brk, ↓w_cont, ↓w_pass, ↓w_frz, ↓w_snil, ↓w_scons, ↓bps_s, add_ii, add_tt, add_ll, sub_ii, lt_ii, le_ii, gt_ii, ge_ii, eq_ii, ne_ii, is_n, isnt_n, is_bb, isnt_bb, isNon_i, isNon_b, isNon_t, isNon_l, isNon_n, tru_b, tru_i, tru_t, tru_l, tru_n, len_t, len_l, len_s, len_d, bi_len, bi_abs, bi_int, bi_intb, bi_tupt, bi_tupl, bi_min, bi_max, bi_sum, it_t, it_l, it_s, li_l, list_t, list_l, list_s, sl_t, sl_l, sl_s, ty_ii, ty_ib, ty_in, ty_bi, ty_bb, ty_bn, bp_nm, bp_tt, bp_tl, bps_0, op_add, op_sub, op_mul, op_fdiv, op_mod, op_pow, cm_eq, cm_ne, cm_lt, cm_le, cm_gt, cm_ge, cm_is, cm_isnt, cm_in, cm_notin, cd_n, cd_b, cd_i, cd_s, wp_0, wp_s, oq_rt, oq_nx, ol_nx, ol_ct, ol_bk, ol_rt, mod_pos, fdiv_pos, mul_l, mul_r, varS_0, varS_s, lookS_0, lookS_s, ownS_0v, ownS_0, ownS_0d, ownS_s, setS_0, setS_s, set_0, set_s, deref_int, deref_bl, deref_non, deref_str, deref_tup, deref_lst, deref_scr, deref_dct, deref_ref0, isCell_ref0, restO_nx, restO_rt, restO_bk, restO_ct, szl, idx_tup0, idx_tup1, idx_tup2, idx_tup3, idx_tup4, idx_tup5, idx_tup6, idx_tup7, idx_tup8, idx_tup9, idx_lst0, idx_lst1, idx_lst2, idx_lst3, idx_lst4, idx_lst5, idx_lst6, idx_lst7, idx_lst8, idx_lst9, Int.reduceLT, Int.reduceLE, Int.reduceNeg, Int.reducePow, and_self, permD, List.getElem?_cons_zero, List.getElem?_cons_succ, Option.bind_some, Option.map_some, startS, List.map_cons, List.map_nil, List.replicate, List.cons_append, List.nil_append, List.append_nil, List.length_cons, List.length_nil, decide_eq_true_eq, Bool.not_eq_true', decide_eq_false_iff_not, Nat.reduceAdd, Nat.zero_add, Nat.reduceLeDiff, Nat.reduceLT, Nat.reduceSub, if_true, if_false, Bool.false_eq_true, ↓reduceIte, Df.fd]
  refine q _ ⟨1 + v, _, 200, _, rfl, by omega, by omega, by omega, fun z => by omega, fun _ => by omega, by simp, by simp, fun m hm => ?_⟩ _ hs5
  rw [List.mem_singleton] at hm
  subst hm
  exact ⟨[(1, _)], _, 0, [], r, ns, 0, rfl, by simp, by simp, by simp, r0, by omega⟩
end
end PI.K01

set_option Elab.async false
set_option linter.all false
set_option maxRecDepth 100000
set_option maxHeartbeats 400000
set_option autoImplicit false
namespace PI.K01
open PySem PySem.Spec PyProof.Rows L2 PI
/-- a point: mass and fuel -/
def Pt (x : D) : Prop := ∃ m f : Int, x = .tup [.int m, .int f] ∧ 0 ≤ f ∧ f ≤ 1000
theorem rng_int {lo hi : Int} {x : D} (h : x ∈ rngL lo hi) : ∃ i : Int, x = .int i := by
  unfold rngL at h
  obtain ⟨i, _, rfl⟩ := List.mem_map.mp h
  exact ⟨_, rfl⟩
theorem rng_len {lo hi : Int} : (rngL lo hi).length = (hi - lo).toNat := by
  unfold rngL; simp
theorem emode_r {d : D} (h : EMode d) : ∃ b ns, ModeR d b ns ∧ 0 ≤ b ∧ ns.length ≤ 12 := by
  obtain ⟨ps, l, s, ns, r, ms, f, rfl, _, _, _, h1, h2⟩ := h
  exact ⟨r, ms, ⟨_, _, _, _, _, rfl⟩, h1, h2⟩
section
variable {n : Nat} {h : PH} {Q : D × PH → Prop}
theorem points_W {bk : D} (hb : EBook bk) (hs : St h) (q : ∀ xs : List D, (∀ x ∈ xs, Pt x) → ∀ h', St h' → Q (.lst xs, h')) : W (call T (n + 4) 18 [.ref 0, bk] h) Q := by
  obtain ⟨e, g, t, ms, rfl, e1, eg, g3, tl, tg, ml, ml2, hm⟩ := hb
  refine W_call (f := f_law_points.fd) rfl rfl ?_
  by_cases c : t < 20
  · obtain ⟨t1, t2⟩ := tl c
    simp only [f_law_points, b18, c, decide_true, small_of (show 0 ≤ t + 1 by omega) (by omega), ↓W_some, ↓W_bind, ↓W_map, ↓w_var, ↓w_own, ↓w_cst, ↓w_tup, ↓w_ofL, ↓w_celL, ↓w_neg, ↓w_bin, ↓w_cmp, ↓w_chn, ↓w_nt, ↓w_an, ↓w_or, ↓w_ite, ↓w_idx, ↓w_slc, ↓w_call, ↓w_callK, ↓w_bi, ↓w_isi, ↓w_gall, ↓w_gany, ↓w_gsum, ↓w_gtup, ↓w_genF, ↓w_nil, ↓w_cons, ↓w_onone, ↓w_osome, ↓w_otnone, ↓w_otsome, ↓w_and1, ↓w_and, ↓w_or1, ↓w_orc, ↓w_tnt, ↓w_tan, ↓w_tor, ↓w_ta1, ↓w_ta, ↓w_to1, ↓w_to, ↓w_tcmp, ↓w_tchn, ↓w_tvar, ↓w_town, ↓w_tcst, ↓w_tidx, ↓w_tbin, ↓w_tslc, ↓w_tcall, ↓w_tcallK, ↓w_tbi, ↓w_tisi, ↓w_tgen, ↓w_disp, ↓w_comp, ↓w_list, ↓w_sorted, ↓w_seq, ↓w_rng1, ↓w_rng2, ↓w_enum, ↓w_zip, ↓w_rev, ↓w_set, ↓w_setL, ↓w_setD, ↓w_pat, ↓w_par2, ↓w_aug, ↓w_augI, ↓w_putI, ↓w_putO, ↓w_augO, ↓w_app, ↓w_expr, ↓w_ret, ↓w_retN, ↓w_iff, ↓w_whil, ↓w_forr, ↓w_brk, ↓w_cont, ↓w_pass, ↓w_frz, ↓w_snil, ↓w_scons, ↓bps_s, add_ii, add_tt, add_ll, sub_ii, lt_ii, le_ii, gt_ii, ge_ii, eq_ii, ne_ii, is_n, isnt_n, is_bb, isnt_bb, isNon_i, isNon_b, isNon_t, isNon_l, isNon_n, tru_b, tru_i, tru_t, tru_l, tru_n, len_t, len_l, len_s, len_d, bi_len, bi_abs, bi_int, bi_intb, bi_tupt, bi_tupl, bi_min, bi_max, bi_sum, it_t, it_l, it_s, li_l, list_t, list_l, list_s, sl_t, sl_l, sl_s, ty_ii, ty_ib, ty_in, ty_bi, ty_bb, ty_bn, bp_nm, bp_tt, bp_tl, bps_0, op_add, op_sub, op_mul, op_fdiv, op_mod, op_pow, cm_eq, cm_ne, cm_lt, cm_le, cm_gt, cm_ge, cm_is, cm_isnt, cm_in, cm_notin, cd_n, cd_b, cd_i, cd_s, wp_0, wp_s, oq_rt, oq_nx, ol_nx, ol_ct, ol_bk, ol_rt, mod_pos, fdiv_pos, mul_l, mul_r, varS_0, varS_s, lookS_0, lookS_s, ownS_0v, ownS_0, ownS_0d, ownS_s, setS_0, setS_s, set_0, set_s, deref_int, deref_bl, deref_non, deref_str, deref_tup, deref_lst, deref_scr, deref_dct, deref_ref0, isCell_ref0, restO_nx, restO_rt, restO_bk, restO_ct, szl, idx_tup0, idx_tup1, idx_tup2, idx_tup3, idx_tup4, idx_tup5, idx_tup6, idx_tup7, idx_tup8, idx_tup9, idx_lst0, idx_lst1, idx_lst2, idx_lst3, idx_lst4, idx_lst5, idx_lst6, idx_lst7, idx_lst8, idx_lst9, Int.reduceLT, Int.reduceLE, Int.reduceNeg, Int.reducePow, and_self, permD, List.getElem?_cons_zero, List.getElem?_cons_succ, Option.bind_some, Option.map_some, startS, List.map_cons, List.map_nil, List.replicate, List.cons_append, List.nil_append, List.append_nil, List.length_cons, List.length_nil, decide_eq_true_eq, Bool.not_eq_true', decide_eq_false_iff_not, Nat.reduceAdd, Nat.zero_add, Nat.reduceLeDiff, Nat.reduceLT, Nat.reduceSub, if_true, if_false, Bool.false_eq_true, ↓reduceIte, Df.fd]
    refine W_forS (fun r ρ h' => h' = h ∧ ∃ (xs fs : List D) (f0 : Int) (s2 s4 s5 s6 : Option Sl), ρ = [some (.val (.ref 0)), some (.val (.tup [.int e, .int g, .int t, .tup ms, .tup []])), s2, some (.val (.lst xs)), s4, s5, s6] ∧ (∀ x ∈ xs, Pt x) ∧ xs.length + 3001 * r.length ≤ 3001 * 21 ∧ (∀ x ∈ r, ∃ i : Int, x = .int i ∧ 0 ≤ i ∧ i ≤ t)) ?_ ?_ ⟨rfl, [], [], 0, none, none, none, none, rfl, fun x hx => by (cases hx), by simp only [rng_len, List.length_nil]; omega, fun x hx => ?_⟩
    · rintro x r ρ h' ⟨e1', xs, fs, f0, s2, s4, s5, s6, e2, hx, hl, hr⟩
      subst e1' e2
      obtain ⟨i, rfl, i0, i1⟩ := hr x (List.mem_cons_self ..)
      rw [List.length_cons] at hl
      simp only [small_of (show 0 ≤ e + i by omega) (by omega), small_of (show 0 ≤ g + 1 by omega) (by omega), ↓W_some, ↓W_bind, ↓W_map, ↓w_var, ↓w_own, ↓w_cst, ↓w_tup, ↓w_ofL, ↓w_celL, ↓w_neg, ↓w_bin, ↓w_cmp, ↓w_chn, ↓w_nt, ↓w_an, ↓w_or, ↓w_ite, ↓w_idx, ↓w_slc, ↓w_call, ↓w_callK, ↓w_bi, ↓w_isi, ↓w_gall, ↓w_gany, ↓w_gsum, ↓w_gtup, ↓w_genF, ↓w_nil, ↓w_cons, ↓w_onone, ↓w_osome, ↓w_otnone, ↓w_otsome, ↓w_and1, ↓w_and, ↓w_or1, ↓w_orc, ↓w_tnt, ↓w_tan, ↓w_tor, ↓w_ta1, ↓w_ta, ↓w_to1, ↓w_to, ↓w_tcmp, ↓w_tchn, ↓w_tvar, ↓w_town, ↓w_tcst, ↓w_tidx, ↓w_tbin, ↓w_tslc, ↓w_tcall, ↓w_tcallK, ↓w_tbi, ↓w_tisi, ↓w_tgen, ↓w_disp, ↓w_comp, ↓w_list, ↓w_sorted, ↓w_seq, ↓w_rng1, ↓w_rng2, ↓w_enum, ↓w_zip, ↓w_rev, ↓w_set, ↓w_setL, ↓w_setD, ↓w_pat, ↓w_par2, ↓w_aug, ↓w_augI, ↓w_putI, ↓w_putO, ↓w_augO, ↓w_app, ↓w_expr, ↓w_ret, ↓w_retN, ↓w_iff, ↓w_whil, ↓w_forr, ↓w_brk, ↓w_cont, ↓w_pass, ↓w_frz, ↓w_snil, ↓w_scons, ↓bps_s, add_ii, add_tt, add_ll, sub_ii, lt_ii, le_ii, gt_ii, ge_ii, eq_ii, ne_ii, is_n, isnt_n, is_bb, isnt_bb, isNon_i, isNon_b, isNon_t, isNon_l, isNon_n, tru_b, tru_i, tru_t, tru_l, tru_n, len_t, len_l, len_s, len_d, bi_len, bi_abs, bi_int, bi_intb, bi_tupt, bi_tupl, bi_min, bi_max, bi_sum, it_t, it_l, it_s, li_l, list_t, list_l, list_s, sl_t, sl_l, sl_s, ty_ii, ty_ib, ty_in, ty_bi, ty_bb, ty_bn, bp_nm, bp_tt, bp_tl, bps_0, op_add, op_sub, op_mul, op_fdiv, op_mod, op_pow, cm_eq, cm_ne, cm_lt, cm_le, cm_gt, cm_ge, cm_is, cm_isnt, cm_in, cm_notin, cd_n, cd_b, cd_i, cd_s, wp_0, wp_s, oq_rt, oq_nx, ol_nx, ol_ct, ol_bk, ol_rt, mod_pos, fdiv_pos, mul_l, mul_r, varS_0, varS_s, lookS_0, lookS_s, ownS_0v, ownS_0, ownS_0d, ownS_s, setS_0, setS_s, set_0, set_s, deref_int, deref_bl, deref_non, deref_str, deref_tup, deref_lst, deref_scr, deref_dct, deref_ref0, isCell_ref0, restO_nx, restO_rt, restO_bk, restO_ct, szl, idx_tup0, idx_tup1, idx_tup2, idx_tup3, idx_tup4, idx_tup5, idx_tup6, idx_tup7, idx_tup8, idx_tup9, idx_lst0, idx_lst1, idx_lst2, idx_lst3, idx_lst4, idx_lst5, idx_lst6, idx_lst7, idx_lst8, idx_lst9, Int.reduceLT, Int.reduceLE, Int.reduceNeg, Int.reducePow, and_self, permD, List.getElem?_cons_zero, List.getElem?_cons_succ, Option.bind_some, Option.map_some, startS, List.map_cons, List.map_nil, List.replicate, List.cons_append, List.nil_append, List.append_nil, List.length_cons, List.length_nil, decide_eq_true_eq, Bool.not_eq_true', decide_eq_false_iff_not, Nat.reduceAdd, Nat.zero_add, Nat.reduceLeDiff, Nat.reduceLT, Nat.reduceSub, if_true, if_false, Bool.false_eq_true, ↓reduceIte, Df.fd]
      refine W_compL (fun r' acc h2 => h2 = h' ∧ (∀ y ∈ acc, Pt y) ∧ (∀ y ∈ r', ∃ j : Int, y = .int j) ∧ acc.length + r'.length ≤ 3001) ?_ ?_ (by simp only [rng_len, List.length_nil, szl]; omega) ⟨rfl, fun y hy => by (cases hy), fun y hy => rng_int hy, by simp only [rng_len, List.length_nil]; omega⟩
      · rintro y r' acc h2 ⟨rfl, ha, hj, hal⟩
        obtain ⟨j, rfl⟩ := hj y (List.mem_cons_self ..)
        rw [List.length_cons] at hal
        simp only [↓W_some, ↓W_bind, ↓W_map, ↓w_var, ↓w_own, ↓w_cst, ↓w_tup, ↓w_ofL, ↓w_celL, ↓w_neg, ↓w_bin, ↓w_cmp, ↓w_chn, ↓w_nt, ↓w_an, ↓w_or, ↓w_ite, ↓w_idx, ↓w_slc, ↓w_call, ↓w_callK, ↓w_bi, ↓w_isi, ↓w_gall, ↓w_gany, ↓w_gsum, ↓w_gtup, ↓w_genF, ↓w_nil, ↓w_cons, ↓w_onone, ↓w_osome, ↓w_otnone, ↓w_otsome, ↓w_and1, ↓w_and, ↓w_or1, ↓w_orc, ↓w_tnt, ↓w_tan, ↓w_tor, ↓w_ta1, ↓w_ta, ↓w_to1, ↓w_to, ↓w_tcmp, ↓w_tchn, ↓w_tvar, ↓w_town, ↓w_tcst, ↓w_tidx, ↓w_tbin, ↓w_tslc, ↓w_tcall, ↓w_tcallK, ↓w_tbi, ↓w_tisi, ↓w_tgen, ↓w_disp, ↓w_comp, ↓w_list, ↓w_sorted, ↓w_seq, ↓w_rng1, ↓w_rng2, ↓w_enum, ↓w_zip, ↓w_rev, ↓w_set, ↓w_setL, ↓w_setD, ↓w_pat, ↓w_par2, ↓w_aug, ↓w_augI, ↓w_putI, ↓w_putO, ↓w_augO, ↓w_app, ↓w_expr, ↓w_ret, ↓w_retN, ↓w_iff, ↓w_whil, ↓w_forr, ↓w_brk, ↓w_cont, ↓w_pass, ↓w_frz, ↓w_snil, ↓w_scons, ↓bps_s, add_ii, add_tt, add_ll, sub_ii, lt_ii, le_ii, gt_ii, ge_ii, eq_ii, ne_ii, is_n, isnt_n, is_bb, isnt_bb, isNon_i, isNon_b, isNon_t, isNon_l, isNon_n, tru_b, tru_i, tru_t, tru_l, tru_n, len_t, len_l, len_s, len_d, bi_len, bi_abs, bi_int, bi_intb, bi_tupt, bi_tupl, bi_min, bi_max, bi_sum, it_t, it_l, it_s, li_l, list_t, list_l, list_s, sl_t, sl_l, sl_s, ty_ii, ty_ib, ty_in, ty_bi, ty_bb, ty_bn, bp_nm, bp_tt, bp_tl, bps_0, op_add, op_sub, op_mul, op_fdiv, op_mod, op_pow, cm_eq, cm_ne, cm_lt, cm_le, cm_gt, cm_ge, cm_is, cm_isnt, cm_in, cm_notin, cd_n, cd_b, cd_i, cd_s, wp_0, wp_s, oq_rt, oq_nx, ol_nx, ol_ct, ol_bk, ol_rt, mod_pos, fdiv_pos, mul_l, mul_r, varS_0, varS_s, lookS_0, lookS_s, ownS_0v, ownS_0, ownS_0d, ownS_s, setS_0, setS_s, set_0, set_s, deref_int, deref_bl, deref_non, deref_str, deref_tup, deref_lst, deref_scr, deref_dct, deref_ref0, isCell_ref0, restO_nx, restO_rt, restO_bk, restO_ct, szl, idx_tup0, idx_tup1, idx_tup2, idx_tup3, idx_tup4, idx_tup5, idx_tup6, idx_tup7, idx_tup8, idx_tup9, idx_lst0, idx_lst1, idx_lst2, idx_lst3, idx_lst4, idx_lst5, idx_lst6, idx_lst7, idx_lst8, idx_lst9, Int.reduceLT, Int.reduceLE, Int.reduceNeg, Int.reducePow, and_self, permD, List.getElem?_cons_zero, List.getElem?_cons_succ, Option.bind_some, Option.map_some, startS, List.map_cons, List.map_nil, List.replicate, List.cons_append, List.nil_append, List.append_nil, List.length_cons, List.length_nil, decide_eq_true_eq, Bool.not_eq_true', decide_eq_false_iff_not, Nat.reduceAdd, Nat.zero_add, Nat.reduceLeDiff, Nat.reduceLT, Nat.reduceSub, if_true, if_false, Bool.false_eq_true, ↓reduceIte, Df.fd]
        refine ⟨by trivial, fun z hz => ?_, fun z hz => hj z (List.mem_cons_of_mem _ hz), by simp only [List.length_append, List.length_cons, List.length_nil]; omega⟩
        rcases List.mem_append.mp hz with hz | hz
        · exact ha z hz
        · rw [List.mem_singleton] at hz; subst hz; exact ⟨j, i, rfl, i0, by omega⟩
      · rintro acc h2 ⟨rfl, ha, hj, hal⟩
        have hal : acc.length ≤ 3001 := by simp only [List.length_nil] at hal; omega
        simp only [add_ll (show xs.length + acc.length ≤ sizeLine by rw [szl]; omega), ↓W_some, ↓W_bind, ↓W_map, ↓w_var, ↓w_own, ↓w_cst, ↓w_tup, ↓w_ofL, ↓w_celL, ↓w_neg, ↓w_bin, ↓w_cmp, ↓w_chn, ↓w_nt, ↓w_an, ↓w_or, ↓w_ite, ↓w_idx, ↓w_slc, ↓w_call, ↓w_callK, ↓w_bi, ↓w_isi, ↓w_gall, ↓w_gany, ↓w_gsum, ↓w_gtup, ↓w_genF, ↓w_nil, ↓w_cons, ↓w_onone, ↓w_osome, ↓w_otnone, ↓w_otsome, ↓w_and1, ↓w_and, ↓w_or1, ↓w_orc, ↓w_tnt, ↓w_tan, ↓w_tor, ↓w_ta1, ↓w_ta, ↓w_to1, ↓w_to, ↓w_tcmp, ↓w_tchn, ↓w_tvar, ↓w_town, ↓w_tcst, ↓w_tidx, ↓w_tbin, ↓w_tslc, ↓w_tcall, ↓w_tcallK, ↓w_tbi, ↓w_tisi, ↓w_tgen, ↓w_disp, ↓w_comp, ↓w_list, ↓w_sorted, ↓w_seq, ↓w_rng1, ↓w_rng2, ↓w_enum, ↓w_zip, ↓w_rev, ↓w_set, ↓w_setL, ↓w_setD, ↓w_pat, ↓w_par2, ↓w_aug, ↓w_augI, ↓w_putI, ↓w_putO, ↓w_augO, ↓w_app, ↓w_expr, ↓w_ret, ↓w_retN, ↓w_iff, ↓w_whil, ↓w_forr, ↓w_brk, ↓w_cont, ↓w_pass, ↓w_frz, ↓w_snil, ↓w_scons, ↓bps_s, add_ii, add_tt, add_ll, sub_ii, lt_ii, le_ii, gt_ii, ge_ii, eq_ii, ne_ii, is_n, isnt_n, is_bb, isnt_bb, isNon_i, isNon_b, isNon_t, isNon_l, isNon_n, tru_b, tru_i, tru_t, tru_l, tru_n, len_t, len_l, len_s, len_d, bi_len, bi_abs, bi_int, bi_intb, bi_tupt, bi_tupl, bi_min, bi_max, bi_sum, it_t, it_l, it_s, li_l, list_t, list_l, list_s, sl_t, sl_l, sl_s, ty_ii, ty_ib, ty_in, ty_bi, ty_bb, ty_bn, bp_nm, bp_tt, bp_tl, bps_0, op_add, op_sub, op_mul, op_fdiv, op_mod, op_pow, cm_eq, cm_ne, cm_lt, cm_le, cm_gt, cm_ge, cm_is, cm_isnt, cm_in, cm_notin, cd_n, cd_b, cd_i, cd_s, wp_0, wp_s, oq_rt, oq_nx, ol_nx, ol_ct, ol_bk, ol_rt, mod_pos, fdiv_pos, mul_l, mul_r, varS_0, varS_s, lookS_0, lookS_s, ownS_0v, ownS_0, ownS_0d, ownS_s, setS_0, setS_s, set_0, set_s, deref_int, deref_bl, deref_non, deref_str, deref_tup, deref_lst, deref_scr, deref_dct, deref_ref0, isCell_ref0, restO_nx, restO_rt, restO_bk, restO_ct, szl, idx_tup0, idx_tup1, idx_tup2, idx_tup3, idx_tup4, idx_tup5, idx_tup6, idx_tup7, idx_tup8, idx_tup9, idx_lst0, idx_lst1, idx_lst2, idx_lst3, idx_lst4, idx_lst5, idx_lst6, idx_lst7, idx_lst8, idx_lst9, Int.reduceLT, Int.reduceLE, Int.reduceNeg, Int.reducePow, and_self, permD, List.getElem?_cons_zero, List.getElem?_cons_succ, Option.bind_some, Option.map_some, startS, List.map_cons, List.map_nil, List.replicate, List.cons_append, List.nil_append, List.append_nil, List.length_cons, List.length_nil, decide_eq_true_eq, Bool.not_eq_true', decide_eq_false_iff_not, Nat.reduceAdd, Nat.zero_add, Nat.reduceLeDiff, Nat.reduceLT, Nat.reduceSub, if_true, if_false, Bool.false_eq_true, ↓reduceIte, Df.fd]
        refine ⟨by trivial, xs ++ acc, [], 0, _, _, _, _, rfl, fun z hz => ?_, ?_, fun z hz => hr z (List.mem_cons_of_mem _ hz)⟩
        rotate_left
        · rw [List.length_append]; omega
        rcases List.mem_append.mp hz with hz | hz
        · exact hx z hz
        · exact ha z hz
    · rintro ρ h' ⟨e1', xs, fs, f0, s2, s4, s5, s6, e2, hx, hl, hr⟩
      subst e1' e2
      simp only [↓W_some, ↓W_bind, ↓W_map, ↓w_var, ↓w_own, ↓w_cst, ↓w_tup, ↓w_ofL, ↓w_celL, ↓w_neg, ↓w_bin, ↓w_cmp, ↓w_chn, ↓w_nt, ↓w_an, ↓w_or, ↓w_ite, ↓w_idx, ↓w_slc, ↓w_call, ↓w_callK, ↓w_bi, ↓w_isi, ↓w_gall, ↓w_gany, ↓w_gsum, ↓w_gtup, ↓w_genF, ↓w_nil, ↓w_cons, ↓w_onone, ↓w_osome, ↓w_otnone, ↓w_otsome, ↓w_and1, ↓w_and, ↓w_or1, ↓w_orc, ↓w_tnt, ↓w_tan, ↓w_tor, ↓w_ta1, ↓w_ta, ↓w_to1, ↓w_to, ↓w_tcmp, ↓w_tchn, ↓w_tvar, ↓w_town, ↓w_tcst, ↓w_tidx, ↓w_tbin, ↓w_tslc, ↓w_tcall, ↓w_tcallK, ↓w_tbi, ↓w_tisi, ↓w_tgen, ↓w_disp, ↓w_comp, ↓w_list, ↓w_sorted, ↓w_seq, ↓w_rng1, ↓w_rng2, ↓w_enum, ↓w_zip, ↓w_rev, ↓w_set, ↓w_setL, ↓w_setD, ↓w_pat, ↓w_par2, ↓w_aug, ↓w_augI, ↓w_putI, ↓w_putO, ↓w_augO, ↓w_app, ↓w_expr, ↓w_ret, ↓w_retN, ↓w_iff, ↓w_whil, ↓w_forr, ↓w_brk, ↓w_cont, ↓w_pass, ↓w_frz, ↓w_snil, ↓w_scons, ↓bps_s, add_ii, add_tt, add_ll, sub_ii, lt_ii, le_ii, gt_ii, ge_ii, eq_ii, ne_ii, is_n, isnt_n, is_bb, isnt_bb, isNon_i, isNon_b, isNon_t, isNon_l, isNon_n, tru_b, tru_i, tru_t, tru_l, tru_n, len_t, len_l, len_s, len_d, bi_len, bi_abs, bi_int, bi_intb, bi_tupt, bi_tupl, bi_min, bi_max, bi_sum, it_t, it_l, it_s, li_l, list_t, list_l, list_s, sl_t, sl_l, sl_s, ty_ii, ty_ib, ty_in, ty_bi, ty_bb, ty_bn, bp_nm, bp_tt, bp_tl, bps_0, op_add, op_sub, op_mul, op_fdiv, op_mod, op_pow, cm_eq, cm_ne, cm_lt, cm_le, cm_gt, cm_ge, cm_is, cm_isnt, cm_in, cm_notin, cd_n, cd_b, cd_i, cd_s, wp_0, wp_s, oq_rt, oq_nx, ol_nx, ol_ct, ol_bk, ol_rt, mod_pos, fdiv_pos, mul_l, mul_r, varS_0, varS_s, lookS_0, lookS_s, ownS_0v, ownS_0, ownS_0d, ownS_s, setS_0, setS_s, set_0, set_s, deref_int, deref_bl, deref_non, deref_str, deref_tup, deref_lst, deref_scr, deref_dct, deref_ref0, isCell_ref0, restO_nx, restO_rt, restO_bk, restO_ct, szl, idx_tup0, idx_tup1, idx_tup2, idx_tup3, idx_tup4, idx_tup5, idx_tup6, idx_tup7, idx_tup8, idx_tup9, idx_lst0, idx_lst1, idx_lst2, idx_lst3, idx_lst4, idx_lst5, idx_lst6, idx_lst7, idx_lst8, idx_lst9, Int.reduceLT, Int.reduceLE, Int.reduceNeg, Int.reducePow, and_self, permD, List.getElem?_cons_zero, List.getElem?_cons_succ, Option.bind_some, Option.map_some, startS, List.map_cons, List.map_nil, List.replicate, List.cons_append, List.nil_append, List.append_nil, List.length_cons, List.length_nil, decide_eq_true_eq, Bool.not_eq_true', decide_eq_false_iff_not, Nat.reduceAdd, Nat.zero_add, Nat.reduceLeDiff, Nat.reduceLT, Nat.reduceSub, if_true, if_false, Bool.false_eq_true, ↓reduceIte, Df.fd]
      refine shuffled_W hs (by simp only [List.length_nil] at hl; omega) fun ys hy hyl h2 hs2 => ?_
      simp only [cut_take (show (0 : Int) ≤ 90 by decide), ↓W_some, ↓W_bind, ↓W_map, ↓w_var, ↓w_own, ↓w_cst, ↓w_tup, ↓w_ofL, ↓w_celL, ↓w_neg, ↓w_bin, ↓w_cmp, ↓w_chn, ↓w_nt, ↓w_an, ↓w_or, ↓w_ite, ↓w_idx, ↓w_slc, ↓w_call, ↓w_callK, ↓w_bi, ↓w_isi, ↓w_gall, ↓w_gany, ↓w_gsum, ↓w_gtup, ↓w_genF, ↓w_nil, ↓w_cons, ↓w_onone, ↓w_osome, ↓w_otnone, ↓w_otsome, ↓w_and1, ↓w_and, ↓w_or1, ↓w_orc, ↓w_tnt, ↓w_tan, ↓w_tor, ↓w_ta1, ↓w_ta, ↓w_to1, ↓w_to, ↓w_tcmp, ↓w_tchn, ↓w_tvar, ↓w_town, ↓w_tcst, ↓w_tidx, ↓w_tbin, ↓w_tslc, ↓w_tcall, ↓w_tcallK, ↓w_tbi, ↓w_tisi, ↓w_tgen, ↓w_disp, ↓w_comp, ↓w_list, ↓w_sorted, ↓w_seq, ↓w_rng1, ↓w_rng2, ↓w_enum, ↓w_zip, ↓w_rev, ↓w_set, ↓w_setL, ↓w_setD, ↓w_pat, ↓w_par2, ↓w_aug, ↓w_augI, ↓w_putI, ↓w_putO, ↓w_augO, ↓w_app, ↓w_expr, ↓w_ret, ↓w_retN, ↓w_iff, ↓w_whil, ↓w_forr, ↓w_brk, ↓w_cont, ↓w_pass, ↓w_frz, ↓w_snil, ↓w_scons, ↓bps_s, add_ii, add_tt, add_ll, sub_ii, lt_ii, le_ii, gt_ii, ge_ii, eq_ii, ne_ii, is_n, isnt_n, is_bb, isnt_bb, isNon_i, isNon_b, isNon_t, isNon_l, isNon_n, tru_b, tru_i, tru_t, tru_l, tru_n, len_t, len_l, len_s, len_d, bi_len, bi_abs, bi_int, bi_intb, bi_tupt, bi_tupl, bi_min, bi_max, bi_sum, it_t, it_l, it_s, li_l, list_t, list_l, list_s, sl_t, sl_l, sl_s, ty_ii, ty_ib, ty_in, ty_bi, ty_bb, ty_bn, bp_nm, bp_tt, bp_tl, bps_0, op_add, op_sub, op_mul, op_fdiv, op_mod, op_pow, cm_eq, cm_ne, cm_lt, cm_le, cm_gt, cm_ge, cm_is, cm_isnt, cm_in, cm_notin, cd_n, cd_b, cd_i, cd_s, wp_0, wp_s, oq_rt, oq_nx, ol_nx, ol_ct, ol_bk, ol_rt, mod_pos, fdiv_pos, mul_l, mul_r, varS_0, varS_s, lookS_0, lookS_s, ownS_0v, ownS_0, ownS_0d, ownS_s, setS_0, setS_s, set_0, set_s, deref_int, deref_bl, deref_non, deref_str, deref_tup, deref_lst, deref_scr, deref_dct, deref_ref0, isCell_ref0, restO_nx, restO_rt, restO_bk, restO_ct, szl, idx_tup0, idx_tup1, idx_tup2, idx_tup3, idx_tup4, idx_tup5, idx_tup6, idx_tup7, idx_tup8, idx_tup9, idx_lst0, idx_lst1, idx_lst2, idx_lst3, idx_lst4, idx_lst5, idx_lst6, idx_lst7, idx_lst8, idx_lst9, Int.reduceLT, Int.reduceLE, Int.reduceNeg, Int.reducePow, and_self, permD, List.getElem?_cons_zero, List.getElem?_cons_succ, Option.bind_some, Option.map_some, startS, List.map_cons, List.map_nil, List.replicate, List.cons_append, List.nil_append, List.append_nil, List.length_cons, List.length_nil, decide_eq_true_eq, Bool.not_eq_true', decide_eq_false_iff_not, Nat.reduceAdd, Nat.zero_add, Nat.reduceLeDiff, Nat.reduceLT, Nat.reduceSub, if_true, if_false, Bool.false_eq_true, ↓reduceIte, Df.fd]
      exact q _ (fun x hx' => hx x (hy x (List.mem_of_mem_take hx'))) _ hs2
    · rw [rng_map] at hx
      obtain ⟨i, hi, rfl⟩ := List.mem_map.mp hx
      rw [List.mem_range] at hi
      exact ⟨_, rfl, by omega, by omega⟩
  · have tg := tg c
    cases ms with
    | nil => simp at ml
    | cons m0 mr =>
      obtain ⟨ps, l, s, ns, r, ms', f, rfl, _⟩ := hm m0 (List.mem_cons_self ..)
      simp only [f_law_points, b18, c, decide_false, small_of (show (0 : Int) ≤ 12 by decide) (by decide), ↓W_some, ↓W_bind, ↓W_map, ↓w_var, ↓w_own, ↓w_cst, ↓w_tup, ↓w_ofL, ↓w_celL, ↓w_neg, ↓w_bin, ↓w_cmp, ↓w_chn, ↓w_nt, ↓w_an, ↓w_or, ↓w_ite, ↓w_idx, ↓w_slc, ↓w_call, ↓w_callK, ↓w_bi, ↓w_isi, ↓w_gall, ↓w_gany, ↓w_gsum, ↓w_gtup, ↓w_genF, ↓w_nil, ↓w_cons, ↓w_onone, ↓w_osome, ↓w_otnone, ↓w_otsome, ↓w_and1, ↓w_and, ↓w_or1, ↓w_orc, ↓w_tnt, ↓w_tan, ↓w_tor, ↓w_ta1, ↓w_ta, ↓w_to1, ↓w_to, ↓w_tcmp, ↓w_tchn, ↓w_tvar, ↓w_town, ↓w_tcst, ↓w_tidx, ↓w_tbin, ↓w_tslc, ↓w_tcall, ↓w_tcallK, ↓w_tbi, ↓w_tisi, ↓w_tgen, ↓w_disp, ↓w_comp, ↓w_list, ↓w_sorted, ↓w_seq, ↓w_rng1, ↓w_rng2, ↓w_enum, ↓w_zip, ↓w_rev, ↓w_set, ↓w_setL, ↓w_setD, ↓w_pat, ↓w_par2, ↓w_aug, ↓w_augI, ↓w_putI, ↓w_putO, ↓w_augO, ↓w_app, ↓w_expr, ↓w_ret, ↓w_retN, ↓w_iff, ↓w_whil, ↓w_forr, ↓w_brk, ↓w_cont, ↓w_pass, ↓w_frz, ↓w_snil, ↓w_scons, ↓bps_s, add_ii, add_tt, add_ll, sub_ii, lt_ii, le_ii, gt_ii, ge_ii, eq_ii, ne_ii, is_n, isnt_n, is_bb, isnt_bb, isNon_i, isNon_b, isNon_t, isNon_l, isNon_n, tru_b, tru_i, tru_t, tru_l, tru_n, len_t, len_l, len_s, len_d, bi_len, bi_abs, bi_int, bi_intb, bi_tupt, bi_tupl, bi_min, bi_max, bi_sum, it_t, it_l, it_s, li_l, list_t, list_l, list_s, sl_t, sl_l, sl_s, ty_ii, ty_ib, ty_in, ty_bi, ty_bb, ty_bn, bp_nm, bp_tt, bp_tl, bps_0, op_add, op_sub, op_mul, op_fdiv, op_mod, op_pow, cm_eq, cm_ne, cm_lt, cm_le, cm_gt, cm_ge, cm_is, cm_isnt, cm_in, cm_notin, cd_n, cd_b, cd_i, cd_s, wp_0, wp_s, oq_rt, oq_nx, ol_nx, ol_ct, ol_bk, ol_rt, mod_pos, fdiv_pos, mul_l, mul_r, varS_0, varS_s, lookS_0, lookS_s, ownS_0v, ownS_0, ownS_0d, ownS_s, setS_0, setS_s, set_0, set_s, deref_int, deref_bl, deref_non, deref_str, deref_tup, deref_lst, deref_scr, deref_dct, deref_ref0, isCell_ref0, restO_nx, restO_rt, restO_bk, restO_ct, szl, idx_tup0, idx_tup1, idx_tup2, idx_tup3, idx_tup4, idx_tup5, idx_tup6, idx_tup7, idx_tup8, idx_tup9, idx_lst0, idx_lst1, idx_lst2, idx_lst3, idx_lst4, idx_lst5, idx_lst6, idx_lst7, idx_lst8, idx_lst9, Int.reduceLT, Int.reduceLE, Int.reduceNeg, Int.reducePow, and_self, permD, List.getElem?_cons_zero, List.getElem?_cons_succ, Option.bind_some, Option.map_some, startS, List.map_cons, List.map_nil, List.replicate, List.cons_append, List.nil_append, List.append_nil, List.length_cons, List.length_nil, decide_eq_true_eq, Bool.not_eq_true', decide_eq_false_iff_not, Nat.reduceAdd, Nat.zero_add, Nat.reduceLeDiff, Nat.reduceLT, Nat.reduceSub, if_true, if_false, Bool.false_eq_true, ↓reduceIte, Df.fd]
      refine W_compL (fun r' acc h2 => St h2 ∧ (∀ y ∈ acc, ∃ i : Int, y = .int i ∧ 0 ≤ i ∧ i ≤ 200) ∧ acc.length + r'.length ≤ 12) ?_ ?_ (by simp only [rng_len, List.length_nil, szl]; omega) ⟨hs, fun y hy => by (cases hy), by simp only [rng_len, List.length_nil]; omega⟩
      · rintro y r' acc h2 ⟨hs2, ha, hal⟩
        rw [List.length_cons] at hal
        simp only [↓W_some, ↓W_bind, ↓W_map, ↓w_var, ↓w_own, ↓w_cst, ↓w_tup, ↓w_ofL, ↓w_celL, ↓w_neg, ↓w_bin, ↓w_cmp, ↓w_chn, ↓w_nt, ↓w_an, ↓w_or, ↓w_ite, ↓w_idx, ↓w_slc, ↓w_call, ↓w_callK, ↓w_bi, ↓w_isi, ↓w_gall, ↓w_gany, ↓w_gsum, ↓w_gtup, ↓w_genF, ↓w_nil, ↓w_cons, ↓w_onone, ↓w_osome, ↓w_otnone, ↓w_otsome, ↓w_and1, ↓w_and, ↓w_or1, ↓w_orc, ↓w_tnt, ↓w_tan, ↓w_tor, ↓w_ta1, ↓w_ta, ↓w_to1, ↓w_to, ↓w_tcmp, ↓w_tchn, ↓w_tvar, ↓w_town, ↓w_tcst, ↓w_tidx, ↓w_tbin, ↓w_tslc, ↓w_tcall, ↓w_tcallK, ↓w_tbi, ↓w_tisi, ↓w_tgen, ↓w_disp, ↓w_comp, ↓w_list, ↓w_sorted, ↓w_seq, ↓w_rng1, ↓w_rng2, ↓w_enum, ↓w_zip, ↓w_rev, ↓w_set, ↓w_setL, ↓w_setD, ↓w_pat, ↓w_par2, ↓w_aug, ↓w_augI, ↓w_putI, ↓w_putO, ↓w_augO, ↓w_app, ↓w_expr, ↓w_ret, ↓w_retN, ↓w_iff, ↓w_whil, ↓w_forr, ↓w_brk, ↓w_cont, ↓w_pass, ↓w_frz, ↓w_snil, ↓w_scons, ↓bps_s, add_ii, add_tt, add_ll, sub_ii, lt_ii, le_ii, gt_ii, ge_ii, eq_ii, ne_ii, is_n, isnt_n, is_bb, isnt_bb, isNon_i, isNon_b, isNon_t, isNon_l, isNon_n, tru_b, tru_i, tru_t, tru_l, tru_n, len_t, len_l, len_s, len_d, bi_len, bi_abs, bi_int, bi_intb, bi_tupt, bi_tupl, bi_min, bi_max, bi_sum, it_t, it_l, it_s, li_l, list_t, list_l, list_s, sl_t, sl_l, sl_s, ty_ii, ty_ib, ty_in, ty_bi, ty_bb, ty_bn, bp_nm, bp_tt, bp_tl, bps_0, op_add, op_sub, op_mul, op_fdiv, op_mod, op_pow, cm_eq, cm_ne, cm_lt, cm_le, cm_gt, cm_ge, cm_is, cm_isnt, cm_in, cm_notin, cd_n, cd_b, cd_i, cd_s, wp_0, wp_s, oq_rt, oq_nx, ol_nx, ol_ct, ol_bk, ol_rt, mod_pos, fdiv_pos, mul_l, mul_r, varS_0, varS_s, lookS_0, lookS_s, ownS_0v, ownS_0, ownS_0d, ownS_s, setS_0, setS_s, set_0, set_s, deref_int, deref_bl, deref_non, deref_str, deref_tup, deref_lst, deref_scr, deref_dct, deref_ref0, isCell_ref0, restO_nx, restO_rt, restO_bk, restO_ct, szl, idx_tup0, idx_tup1, idx_tup2, idx_tup3, idx_tup4, idx_tup5, idx_tup6, idx_tup7, idx_tup8, idx_tup9, idx_lst0, idx_lst1, idx_lst2, idx_lst3, idx_lst4, idx_lst5, idx_lst6, idx_lst7, idx_lst8, idx_lst9, Int.reduceLT, Int.reduceLE, Int.reduceNeg, Int.reducePow, and_self, permD, List.getElem?_cons_zero, List.getElem?_cons_succ, Option.bind_some, Option.map_some, startS, List.map_cons, List.map_nil, List.replicate, List.cons_append, List.nil_append, List.append_nil, List.length_cons, List.length_nil, decide_eq_true_eq, Bool.not_eq_true', decide_eq_false_iff_not, Nat.reduceAdd, Nat.zero_add, Nat.reduceLeDiff, Nat.reduceLT, Nat.reduceSub, if_true, if_false, Bool.false_eq_true, ↓reduceIte, Df.fd]
        refine take_W hs2 (by decide) (by decide) fun v h3 hs3 v0 v1 => ?_
        simp only [modeD, ↓W_some, ↓W_bind, ↓W_map, ↓w_var, ↓w_own, ↓w_cst, ↓w_tup, ↓w_ofL, ↓w_celL, ↓w_neg, ↓w_bin, ↓w_cmp, ↓w_chn, ↓w_nt, ↓w_an, ↓w_or, ↓w_ite, ↓w_idx, ↓w_slc, ↓w_call, ↓w_callK, ↓w_bi, ↓w_isi, ↓w_gall, ↓w_gany, ↓w_gsum, ↓w_gtup, ↓w_genF, ↓w_nil, ↓w_cons, ↓w_onone, ↓w_osome, ↓w_otnone, ↓w_otsome, ↓w_and1, ↓w_and, ↓w_or1, ↓w_orc, ↓w_tnt, ↓w_tan, ↓w_tor, ↓w_ta1, ↓w_ta, ↓w_to1, ↓w_to, ↓w_tcmp, ↓w_tchn, ↓w_tvar, ↓w_town, ↓w_tcst, ↓w_tidx, ↓w_tbin, ↓w_tslc, ↓w_tcall, ↓w_tcallK, ↓w_tbi, ↓w_tisi, ↓w_tgen, ↓w_disp, ↓w_comp, ↓w_list, ↓w_sorted, ↓w_seq, ↓w_rng1, ↓w_rng2, ↓w_enum, ↓w_zip, ↓w_rev, ↓w_set, ↓w_setL, ↓w_setD, ↓w_pat, ↓w_par2, ↓w_aug, ↓w_augI, ↓w_putI, ↓w_putO, ↓w_augO, ↓w_app, ↓w_expr, ↓w_ret, ↓w_retN, ↓w_iff, ↓w_whil, ↓w_forr, ↓w_brk, ↓w_cont, ↓w_pass, ↓w_frz, ↓w_snil, ↓w_scons, ↓bps_s, add_ii, add_tt, add_ll, sub_ii, lt_ii, le_ii, gt_ii, ge_ii, eq_ii, ne_ii, is_n, isnt_n, is_bb, isnt_bb, isNon_i, isNon_b, isNon_t, isNon_l, isNon_n, tru_b, tru_i, tru_t, tru_l, tru_n, len_t, len_l, len_s, len_d, bi_len, bi_abs, bi_int, bi_intb, bi_tupt, bi_tupl, bi_min, bi_max, bi_sum, it_t, it_l, it_s, li_l, list_t, list_l, list_s, sl_t, sl_l, sl_s, ty_ii, ty_ib, ty_in, ty_bi, ty_bb, ty_bn, bp_nm, bp_tt, bp_tl, bps_0, op_add, op_sub, op_mul, op_fdiv, op_mod, op_pow, cm_eq, cm_ne, cm_lt, cm_le, cm_gt, cm_ge, cm_is, cm_isnt, cm_in, cm_notin, cd_n, cd_b, cd_i, cd_s, wp_0, wp_s, oq_rt, oq_nx, ol_nx, ol_ct, ol_bk, ol_rt, mod_pos, fdiv_pos, mul_l, mul_r, varS_0, varS_s, lookS_0, lookS_s, ownS_0v, ownS_0, ownS_0d, ownS_s, setS_0, setS_s, set_0, set_s, deref_int, deref_bl, deref_non, deref_str, deref_tup, deref_lst, deref_scr, deref_dct, deref_ref0, isCell_ref0, restO_nx, restO_rt, restO_bk, restO_ct, szl, idx_tup0, idx_tup1, idx_tup2, idx_tup3, idx_tup4, idx_tup5, idx_tup6, idx_tup7, idx_tup8, idx_tup9, idx_lst0, idx_lst1, idx_lst2, idx_lst3, idx_lst4, idx_lst5, idx_lst6, idx_lst7, idx_lst8, idx_lst9, Int.reduceLT, Int.reduceLE, Int.reduceNeg, Int.reducePow, and_self, permD, List.getElem?_cons_zero, List.getElem?_cons_succ, Option.bind_some, Option.map_some, startS, List.map_cons, List.map_nil, List.replicate, List.cons_append, List.nil_append, List.append_nil, List.length_cons, List.length_nil, decide_eq_true_eq, Bool.not_eq_true', decide_eq_false_iff_not, Nat.reduceAdd, Nat.zero_add, Nat.reduceLeDiff, Nat.reduceLT, Nat.reduceSub, if_true, if_false, Bool.false_eq_true, ↓reduceIte, Df.fd]
        refine value_W ?_
        simp only [↓W_some, ↓W_bind, ↓W_map, ↓w_var, ↓w_own, ↓w_cst, ↓w_tup, ↓w_ofL, ↓w_celL, ↓w_neg, ↓w_bin, ↓w_cmp, ↓w_chn, ↓w_nt, ↓w_an, ↓w_or, ↓w_ite, ↓w_idx, ↓w_slc, ↓w_call, ↓w_callK, ↓w_bi, ↓w_isi, ↓w_gall, ↓w_gany, ↓w_gsum, ↓w_gtup, ↓w_genF, ↓w_nil, ↓w_cons, ↓w_onone, ↓w_osome, ↓w_otnone, ↓w_otsome, ↓w_and1, ↓w_and, ↓w_or1, ↓w_orc, ↓w_tnt, ↓w_tan, ↓w_tor, ↓w_ta1, ↓w_ta, ↓w_to1, ↓w_to, ↓w_tcmp, ↓w_tchn, ↓w_tvar, ↓w_town, ↓w_tcst, ↓w_tidx, ↓w_tbin, ↓w_tslc, ↓w_tcall, ↓w_tcallK, ↓w_tbi, ↓w_tisi, ↓w_tgen, ↓w_disp, ↓w_comp, ↓w_list, ↓w_sorted, ↓w_seq, ↓w_rng1, ↓w_rng2, ↓w_enum, ↓w_zip, ↓w_rev, ↓w_set, ↓w_setL, ↓w_setD, ↓w_pat, ↓w_par2, ↓w_aug, ↓w_augI, ↓w_putI, ↓w_putO, ↓w_augO, ↓w_app, ↓w_expr, ↓w_ret, ↓w_retN, ↓w_iff, ↓w_whil, ↓w_forr, ↓w_brk, ↓w_cont, ↓w_pass, ↓w_frz, ↓w_snil, ↓w_scons, ↓bps_s, add_ii, add_tt, add_ll, sub_ii, lt_ii, le_ii, gt_ii, ge_ii, eq_ii, ne_ii, is_n, isnt_n, is_bb, isnt_bb, isNon_i, isNon_b, isNon_t, isNon_l, isNon_n, tru_b, tru_i, tru_t, tru_l, tru_n, len_t, len_l, len_s, len_d, bi_len, bi_abs, bi_int, bi_intb, bi_tupt, bi_tupl, bi_min, bi_max, bi_sum, it_t, it_l, it_s, li_l, list_t, list_l, list_s, sl_t, sl_l, sl_s, ty_ii, ty_ib, ty_in, ty_bi, ty_bb, ty_bn, bp_nm, bp_tt, bp_tl, bps_0, op_add, op_sub, op_mul, op_fdiv, op_mod, op_pow, cm_eq, cm_ne, cm_lt, cm_le, cm_gt, cm_ge, cm_is, cm_isnt, cm_in, cm_notin, cd_n, cd_b, cd_i, cd_s, wp_0, wp_s, oq_rt, oq_nx, ol_nx, ol_ct, ol_bk, ol_rt, mod_pos, fdiv_pos, mul_l, mul_r, varS_0, varS_s, lookS_0, lookS_s, ownS_0v, ownS_0, ownS_0d, ownS_s, setS_0, setS_s, set_0, set_s, deref_int, deref_bl, deref_non, deref_str, deref_tup, deref_lst, deref_scr, deref_dct, deref_ref0, isCell_ref0, restO_nx, restO_rt, restO_bk, restO_ct, szl, idx_tup0, idx_tup1, idx_tup2, idx_tup3, idx_tup4, idx_tup5, idx_tup6, idx_tup7, idx_tup8, idx_tup9, idx_lst0, idx_lst1, idx_lst2, idx_lst3, idx_lst4, idx_lst5, idx_lst6, idx_lst7, idx_lst8, idx_lst9, Int.reduceLT, Int.reduceLE, Int.reduceNeg, Int.reducePow, and_self, permD, List.getElem?_cons_zero, List.getElem?_cons_succ, Option.bind_some, Option.map_some, startS, List.map_cons, List.map_nil, List.replicate, List.cons_append, List.nil_append, List.append_nil, List.length_cons, List.length_nil, decide_eq_true_eq, Bool.not_eq_true', decide_eq_false_iff_not, Nat.reduceAdd, Nat.zero_add, Nat.reduceLeDiff, Nat.reduceLT, Nat.reduceSub, if_true, if_false, Bool.false_eq_true, ↓reduceIte, Df.fd]
        have hz := Int.emod_nonneg (val r ms' g) (show (201 : Int) ≠ 0 by decide)
        have hz2 := Int.emod_lt_of_pos (val r ms' g) (show (0 : Int) < 201 by decide)
        refine pick_W hs3 (by simp) (by simp) fun p hp h4 hs4 => ?_
        have hp2 : ∃ i : Int, p = .int i ∧ 0 ≤ i ∧ i ≤ 200 := by
          simp only [List.mem_cons, List.mem_nil_iff, or_false] at hp
          rcases hp with rfl | rfl | rfl | rfl
          · exact ⟨_, rfl, by omega, by omega⟩
          · exact ⟨_, rfl, by omega, by omega⟩
          · exact ⟨_, rfl, by omega, by omega⟩
          · exact ⟨_, rfl, by omega, by omega⟩
        simp only [↓W_some, ↓W_bind, ↓W_map, ↓w_var, ↓w_own, ↓w_cst, ↓w_tup, ↓w_ofL, ↓w_celL, ↓w_neg, ↓w_bin, ↓w_cmp, ↓w_chn, ↓w_nt, ↓w_an, ↓w_or, ↓w_ite, ↓w_idx, ↓w_slc, ↓w_call, ↓w_callK, ↓w_bi, ↓w_isi, ↓w_gall, ↓w_gany, ↓w_gsum, ↓w_gtup, ↓w_genF, ↓w_nil, ↓w_cons, ↓w_onone, ↓w_osome, ↓w_otnone, ↓w_otsome, ↓w_and1, ↓w_and, ↓w_or1, ↓w_orc, ↓w_tnt, ↓w_tan, ↓w_tor, ↓w_ta1, ↓w_ta, ↓w_to1, ↓w_to, ↓w_tcmp, ↓w_tchn, ↓w_tvar, ↓w_town, ↓w_tcst, ↓w_tidx, ↓w_tbin, ↓w_tslc, ↓w_tcall, ↓w_tcallK, ↓w_tbi, ↓w_tisi, ↓w_tgen, ↓w_disp, ↓w_comp, ↓w_list, ↓w_sorted, ↓w_seq, ↓w_rng1, ↓w_rng2, ↓w_enum, ↓w_zip, ↓w_rev, ↓w_set, ↓w_setL, ↓w_setD, ↓w_pat, ↓w_par2, ↓w_aug, ↓w_augI, ↓w_putI, ↓w_putO, ↓w_augO, ↓w_app, ↓w_expr, ↓w_ret, ↓w_retN, ↓w_iff, ↓w_whil, ↓w_forr, ↓w_brk, ↓w_cont, ↓w_pass, ↓w_frz, ↓w_snil, ↓w_scons, ↓bps_s, add_ii, add_tt, add_ll, sub_ii, lt_ii, le_ii, gt_ii, ge_ii, eq_ii, ne_ii, is_n, isnt_n, is_bb, isnt_bb, isNon_i, isNon_b, isNon_t, isNon_l, isNon_n, tru_b, tru_i, tru_t, tru_l, tru_n, len_t, len_l, len_s, len_d, bi_len, bi_abs, bi_int, bi_intb, bi_tupt, bi_tupl, bi_min, bi_max, bi_sum, it_t, it_l, it_s, li_l, list_t, list_l, list_s, sl_t, sl_l, sl_s, ty_ii, ty_ib, ty_in, ty_bi, ty_bb, ty_bn, bp_nm, bp_tt, bp_tl, bps_0, op_add, op_sub, op_mul, op_fdiv, op_mod, op_pow, cm_eq, cm_ne, cm_lt, cm_le, cm_gt, cm_ge, cm_is, cm_isnt, cm_in, cm_notin, cd_n, cd_b, cd_i, cd_s, wp_0, wp_s, oq_rt, oq_nx, ol_nx, ol_ct, ol_bk, ol_rt, mod_pos, fdiv_pos, mul_l, mul_r, varS_0, varS_s, lookS_0, lookS_s, ownS_0v, ownS_0, ownS_0d, ownS_s, setS_0, setS_s, set_0, set_s, deref_int, deref_bl, deref_non, deref_str, deref_tup, deref_lst, deref_scr, deref_dct, deref_ref0, isCell_ref0, restO_nx, restO_rt, restO_bk, restO_ct, szl, idx_tup0, idx_tup1, idx_tup2, idx_tup3, idx_tup4, idx_tup5, idx_tup6, idx_tup7, idx_tup8, idx_tup9, idx_lst0, idx_lst1, idx_lst2, idx_lst3, idx_lst4, idx_lst5, idx_lst6, idx_lst7, idx_lst8, idx_lst9, Int.reduceLT, Int.reduceLE, Int.reduceNeg, Int.reducePow, and_self, permD, List.getElem?_cons_zero, List.getElem?_cons_succ, Option.bind_some, Option.map_some, startS, List.map_cons, List.map_nil, List.replicate, List.cons_append, List.nil_append, List.append_nil, List.length_cons, List.length_nil, decide_eq_true_eq, Bool.not_eq_true', decide_eq_false_iff_not, Nat.reduceAdd, Nat.zero_add, Nat.reduceLeDiff, Nat.reduceLT, Nat.reduceSub, if_true, if_false, Bool.false_eq_true, ↓reduceIte, Df.fd]
        refine ⟨hs4, fun z hz => ?_, by simp only [List.length_append, List.length_cons, List.length_nil]; omega⟩
        rcases List.mem_append.mp hz with hz | hz
        · exact ha z hz
        · rw [List.mem_singleton] at hz; subst hz; exact hp2
      · rintro acc h2 ⟨hs2, ha, hal⟩
        have hal : acc.length ≤ 12 := by simp only [List.length_nil] at hal; omega
        simp only [↓W_some, ↓W_bind, ↓W_map, ↓w_var, ↓w_own, ↓w_cst, ↓w_tup, ↓w_ofL, ↓w_celL, ↓w_neg, ↓w_bin, ↓w_cmp, ↓w_chn, ↓w_nt, ↓w_an, ↓w_or, ↓w_ite, ↓w_idx, ↓w_slc, ↓w_call, ↓w_callK, ↓w_bi, ↓w_isi, ↓w_gall, ↓w_gany, ↓w_gsum, ↓w_gtup, ↓w_genF, ↓w_nil, ↓w_cons, ↓w_onone, ↓w_osome, ↓w_otnone, ↓w_otsome, ↓w_and1, ↓w_and, ↓w_or1, ↓w_orc, ↓w_tnt, ↓w_tan, ↓w_tor, ↓w_ta1, ↓w_ta, ↓w_to1, ↓w_to, ↓w_tcmp, ↓w_tchn, ↓w_tvar, ↓w_town, ↓w_tcst, ↓w_tidx, ↓w_tbin, ↓w_tslc, ↓w_tcall, ↓w_tcallK, ↓w_tbi, ↓w_tisi, ↓w_tgen, ↓w_disp, ↓w_comp, ↓w_list, ↓w_sorted, ↓w_seq, ↓w_rng1, ↓w_rng2, ↓w_enum, ↓w_zip, ↓w_rev, ↓w_set, ↓w_setL, ↓w_setD, ↓w_pat, ↓w_par2, ↓w_aug, ↓w_augI, ↓w_putI, ↓w_putO, ↓w_augO, ↓w_app, ↓w_expr, ↓w_ret, ↓w_retN, ↓w_iff, ↓w_whil, ↓w_forr, ↓w_brk, ↓w_cont, ↓w_pass, ↓w_frz, ↓w_snil, ↓w_scons, ↓bps_s, add_ii, add_tt, add_ll, sub_ii, lt_ii, le_ii, gt_ii, ge_ii, eq_ii, ne_ii, is_n, isnt_n, is_bb, isnt_bb, isNon_i, isNon_b, isNon_t, isNon_l, isNon_n, tru_b, tru_i, tru_t, tru_l, tru_n, len_t, len_l, len_s, len_d, bi_len, bi_abs, bi_int, bi_intb, bi_tupt, bi_tupl, bi_min, bi_max, bi_sum, it_t, it_l, it_s, li_l, list_t, list_l, list_s, sl_t, sl_l, sl_s, ty_ii, ty_ib, ty_in, ty_bi, ty_bb, ty_bn, bp_nm, bp_tt, bp_tl, bps_0, op_add, op_sub, op_mul, op_fdiv, op_mod, op_pow, cm_eq, cm_ne, cm_lt, cm_le, cm_gt, cm_ge, cm_is, cm_isnt, cm_in, cm_notin, cd_n, cd_b, cd_i, cd_s, wp_0, wp_s, oq_rt, oq_nx, ol_nx, ol_ct, ol_bk, ol_rt, mod_pos, fdiv_pos, mul_l, mul_r, varS_0, varS_s, lookS_0, lookS_s, ownS_0v, ownS_0, ownS_0d, ownS_s, setS_0, setS_s, set_0, set_s, deref_int, deref_bl, deref_non, deref_str, deref_tup, deref_lst, deref_scr, deref_dct, deref_ref0, isCell_ref0, restO_nx, restO_rt, restO_bk, restO_ct, szl, idx_tup0, idx_tup1, idx_tup2, idx_tup3, idx_tup4, idx_tup5, idx_tup6, idx_tup7, idx_tup8, idx_tup9, idx_lst0, idx_lst1, idx_lst2, idx_lst3, idx_lst4, idx_lst5, idx_lst6, idx_lst7, idx_lst8, idx_lst9, Int.reduceLT, Int.reduceLE, Int.reduceNeg, Int.reducePow, and_self, permD, List.getElem?_cons_zero, List.getElem?_cons_succ, Option.bind_some, Option.map_some, startS, List.map_cons, List.map_nil, List.replicate, List.cons_append, List.nil_append, List.append_nil, List.length_cons, List.length_nil, decide_eq_true_eq, Bool.not_eq_true', decide_eq_false_iff_not, Nat.reduceAdd, Nat.zero_add, Nat.reduceLeDiff, Nat.reduceLT, Nat.reduceSub, if_true, if_false, Bool.false_eq_true, ↓reduceIte, Df.fd]
        refine W_compL (fun r' acc h2 => St h2 ∧ (∀ y ∈ acc, Pt y) ∧ ∀ y ∈ r', ∃ i : Int, y = .int i ∧ 0 ≤ i ∧ i ≤ 200) ?_ ?_ (by simp only [List.length_nil, szl]; omega) ⟨hs2, fun y hy => by (cases hy), ha⟩
        · rintro y r' acc' h2 ⟨hs2, ha, hr⟩
          obtain ⟨i, rfl, i0, i1⟩ := hr y (List.mem_cons_self ..)
          simp only [↓W_some, ↓W_bind, ↓W_map, ↓w_var, ↓w_own, ↓w_cst, ↓w_tup, ↓w_ofL, ↓w_celL, ↓w_neg, ↓w_bin, ↓w_cmp, ↓w_chn, ↓w_nt, ↓w_an, ↓w_or, ↓w_ite, ↓w_idx, ↓w_slc, ↓w_call, ↓w_callK, ↓w_bi, ↓w_isi, ↓w_gall, ↓w_gany, ↓w_gsum, ↓w_gtup, ↓w_genF, ↓w_nil, ↓w_cons, ↓w_onone, ↓w_osome, ↓w_otnone, ↓w_otsome, ↓w_and1, ↓w_and, ↓w_or1, ↓w_orc, ↓w_tnt, ↓w_tan, ↓w_tor, ↓w_ta1, ↓w_ta, ↓w_to1, ↓w_to, ↓w_tcmp, ↓w_tchn, ↓w_tvar, ↓w_town, ↓w_tcst, ↓w_tidx, ↓w_tbin, ↓w_tslc, ↓w_tcall, ↓w_tcallK, ↓w_tbi, ↓w_tisi, ↓w_tgen, ↓w_disp, ↓w_comp, ↓w_list, ↓w_sorted, ↓w_seq, ↓w_rng1, ↓w_rng2, ↓w_enum, ↓w_zip, ↓w_rev, ↓w_set, ↓w_setL, ↓w_setD, ↓w_pat, ↓w_par2, ↓w_aug, ↓w_augI, ↓w_putI, ↓w_putO, ↓w_augO, ↓w_app, ↓w_expr, ↓w_ret, ↓w_retN, ↓w_iff, ↓w_whil, ↓w_forr, ↓w_brk, ↓w_cont, ↓w_pass, ↓w_frz, ↓w_snil, ↓w_scons, ↓bps_s, add_ii, add_tt, add_ll, sub_ii, lt_ii, le_ii, gt_ii, ge_ii, eq_ii, ne_ii, is_n, isnt_n, is_bb, isnt_bb, isNon_i, isNon_b, isNon_t, isNon_l, isNon_n, tru_b, tru_i, tru_t, tru_l, tru_n, len_t, len_l, len_s, len_d, bi_len, bi_abs, bi_int, bi_intb, bi_tupt, bi_tupl, bi_min, bi_max, bi_sum, it_t, it_l, it_s, li_l, list_t, list_l, list_s, sl_t, sl_l, sl_s, ty_ii, ty_ib, ty_in, ty_bi, ty_bb, ty_bn, bp_nm, bp_tt, bp_tl, bps_0, op_add, op_sub, op_mul, op_fdiv, op_mod, op_pow, cm_eq, cm_ne, cm_lt, cm_le, cm_gt, cm_ge, cm_is, cm_isnt, cm_in, cm_notin, cd_n, cd_b, cd_i, cd_s, wp_0, wp_s, oq_rt, oq_nx, ol_nx, ol_ct, ol_bk, ol_rt, mod_pos, fdiv_pos, mul_l, mul_r, varS_0, varS_s, lookS_0, lookS_s, ownS_0v, ownS_0, ownS_0d, ownS_s, setS_0, setS_s, set_0, set_s, deref_int, deref_bl, deref_non, deref_str, deref_tup, deref_lst, deref_scr, deref_dct, deref_ref0, isCell_ref0, restO_nx, restO_rt, restO_bk, restO_ct, szl, idx_tup0, idx_tup1, idx_tup2, idx_tup3, idx_tup4, idx_tup5, idx_tup6, idx_tup7, idx_tup8, idx_tup9, idx_lst0, idx_lst1, idx_lst2, idx_lst3, idx_lst4, idx_lst5, idx_lst6, idx_lst7, idx_lst8, idx_lst9, Int.reduceLT, Int.reduceLE, Int.reduceNeg, Int.reducePow, and_self, permD, List.getElem?_cons_zero, List.getElem?_cons_succ, Option.bind_some, Option.map_some, startS, List.map_cons, List.map_nil, List.replicate, List.cons_append, List.nil_append, List.append_nil, List.length_cons, List.length_nil, decide_eq_true_eq, Bool.not_eq_true', decide_eq_false_iff_not, Nat.reduceAdd, Nat.zero_add, Nat.reduceLeDiff, Nat.reduceLT, Nat.reduceSub, if_true, if_false, Bool.false_eq_true, ↓reduceIte, Df.fd]
          refine take_W hs2 (by omega) (by omega) fun v h3 hs3 v0 v1 => ?_
          simp only [↓W_some, ↓W_bind, ↓W_map, ↓w_var, ↓w_own, ↓w_cst, ↓w_tup, ↓w_ofL, ↓w_celL, ↓w_neg, ↓w_bin, ↓w_cmp, ↓w_chn, ↓w_nt, ↓w_an, ↓w_or, ↓w_ite, ↓w_idx, ↓w_slc, ↓w_call, ↓w_callK, ↓w_bi, ↓w_isi, ↓w_gall, ↓w_gany, ↓w_gsum, ↓w_gtup, ↓w_genF, ↓w_nil, ↓w_cons, ↓w_onone, ↓w_osome, ↓w_otnone, ↓w_otsome, ↓w_and1, ↓w_and, ↓w_or1, ↓w_orc, ↓w_tnt, ↓w_tan, ↓w_tor, ↓w_ta1, ↓w_ta, ↓w_to1, ↓w_to, ↓w_tcmp, ↓w_tchn, ↓w_tvar, ↓w_town, ↓w_tcst, ↓w_tidx, ↓w_tbin, ↓w_tslc, ↓w_tcall, ↓w_tcallK, ↓w_tbi, ↓w_tisi, ↓w_tgen, ↓w_disp, ↓w_comp, ↓w_list, ↓w_sorted, ↓w_seq, ↓w_rng1, ↓w_rng2, ↓w_enum, ↓w_zip, ↓w_rev, ↓w_set, ↓w_setL, ↓w_setD, ↓w_pat, ↓w_par2, ↓w_aug, ↓w_augI, ↓w_putI, ↓w_putO, ↓w_augO, ↓w_app, ↓w_expr, ↓w_ret, ↓w_retN, ↓w_iff, ↓w_whil, ↓w_forr, ↓w_brk, ↓w_cont, ↓w_pass, ↓w_frz, ↓w_snil, ↓w_scons, ↓bps_s, add_ii, add_tt, add_ll, sub_ii, lt_ii, le_ii, gt_ii, ge_ii, eq_ii, ne_ii, is_n, isnt_n, is_bb, isnt_bb, isNon_i, isNon_b, isNon_t, isNon_l, isNon_n, tru_b, tru_i, tru_t, tru_l, tru_n, len_t, len_l, len_s, len_d, bi_len, bi_abs, bi_int, bi_intb, bi_tupt, bi_tupl, bi_min, bi_max, bi_sum, it_t, it_l, it_s, li_l, list_t, list_l, list_s, sl_t, sl_l, sl_s, ty_ii, ty_ib, ty_in, ty_bi, ty_bb, ty_bn, bp_nm, bp_tt, bp_tl, bps_0, op_add, op_sub, op_mul, op_fdiv, op_mod, op_pow, cm_eq, cm_ne, cm_lt, cm_le, cm_gt, cm_ge, cm_is, cm_isnt, cm_in, cm_notin, cd_n, cd_b, cd_i, cd_s, wp_0, wp_s, oq_rt, oq_nx, ol_nx, ol_ct, ol_bk, ol_rt, mod_pos, fdiv_pos, mul_l, mul_r, varS_0, varS_s, lookS_0, lookS_s, ownS_0v, ownS_0, ownS_0d, ownS_s, setS_0, setS_s, set_0, set_s, deref_int, deref_bl, deref_non, deref_str, deref_tup, deref_lst, deref_scr, deref_dct, deref_ref0, isCell_ref0, restO_nx, restO_rt, restO_bk, restO_ct, szl, idx_tup0, idx_tup1, idx_tup2, idx_tup3, idx_tup4, idx_tup5, idx_tup6, idx_tup7, idx_tup8, idx_tup9, idx_lst0, idx_lst1, idx_lst2, idx_lst3, idx_lst4, idx_lst5, idx_lst6, idx_lst7, idx_lst8, idx_lst9, Int.reduceLT, Int.reduceLE, Int.reduceNeg, Int.reducePow, and_self, permD, List.getElem?_cons_zero, List.getElem?_cons_succ, Option.bind_some, Option.map_some, startS, List.map_cons, List.map_nil, List.replicate, List.cons_append, List.nil_append, List.append_nil, List.length_cons, List.length_nil, decide_eq_true_eq, Bool.not_eq_true', decide_eq_false_iff_not, Nat.reduceAdd, Nat.zero_add, Nat.reduceLeDiff, Nat.reduceLT, Nat.reduceSub, if_true, if_false, Bool.false_eq_true, ↓reduceIte, Df.fd]
          refine ⟨hs3, fun z hz => ?_, fun z hz => hr z (List.mem_cons_of_mem _ hz)⟩
          rcases List.mem_append.mp hz with hz | hz
          · exact ha z hz
          · rw [List.mem_singleton] at hz; subst hz; exact ⟨_, _, rfl, i0, by omega⟩
        · rintro acc' h2 ⟨hs2, ha, hr⟩
          simp only [↓W_some, ↓W_bind, ↓W_map, ↓w_var, ↓w_own, ↓w_cst, ↓w_tup, ↓w_ofL, ↓w_celL, ↓w_neg, ↓w_bin, ↓w_cmp, ↓w_chn, ↓w_nt, ↓w_an, ↓w_or, ↓w_ite, ↓w_idx, ↓w_slc, ↓w_call, ↓w_callK, ↓w_bi, ↓w_isi, ↓w_gall, ↓w_gany, ↓w_gsum, ↓w_gtup, ↓w_genF, ↓w_nil, ↓w_cons, ↓w_onone, ↓w_osome, ↓w_otnone, ↓w_otsome, ↓w_and1, ↓w_and, ↓w_or1, ↓w_orc, ↓w_tnt, ↓w_tan, ↓w_tor, ↓w_ta1, ↓w_ta, ↓w_to1, ↓w_to, ↓w_tcmp, ↓w_tchn, ↓w_tvar, ↓w_town, ↓w_tcst, ↓w_tidx, ↓w_tbin, ↓w_tslc, ↓w_tcall, ↓w_tcallK, ↓w_tbi, ↓w_tisi, ↓w_tgen, ↓w_disp, ↓w_comp, ↓w_list, ↓w_sorted, ↓w_seq, ↓w_rng1, ↓w_rng2, ↓w_enum, ↓w_zip, ↓w_rev, ↓w_set, ↓w_setL, ↓w_setD, ↓w_pat, ↓w_par2, ↓w_aug, ↓w_augI, ↓w_putI, ↓w_putO, ↓w_augO, ↓w_app, ↓w_expr, ↓w_ret, ↓w_retN, ↓w_iff, ↓w_whil, ↓w_forr, ↓w_brk, ↓w_cont, ↓w_pass, ↓w_frz, ↓w_snil, ↓w_scons, ↓bps_s, add_ii, add_tt, add_ll, sub_ii, lt_ii, le_ii, gt_ii, ge_ii, eq_ii, ne_ii, is_n, isnt_n, is_bb, isnt_bb, isNon_i, isNon_b, isNon_t, isNon_l, isNon_n, tru_b, tru_i, tru_t, tru_l, tru_n, len_t, len_l, len_s, len_d, bi_len, bi_abs, bi_int, bi_intb, bi_tupt, bi_tupl, bi_min, bi_max, bi_sum, it_t, it_l, it_s, li_l, list_t, list_l, list_s, sl_t, sl_l, sl_s, ty_ii, ty_ib, ty_in, ty_bi, ty_bb, ty_bn, bp_nm, bp_tt, bp_tl, bps_0, op_add, op_sub, op_mul, op_fdiv, op_mod, op_pow, cm_eq, cm_ne, cm_lt, cm_le, cm_gt, cm_ge, cm_is, cm_isnt, cm_in, cm_notin, cd_n, cd_b, cd_i, cd_s, wp_0, wp_s, oq_rt, oq_nx, ol_nx, ol_ct, ol_bk, ol_rt, mod_pos, fdiv_pos, mul_l, mul_r, varS_0, varS_s, lookS_0, lookS_s, ownS_0v, ownS_0, ownS_0d, ownS_s, setS_0, setS_s, set_0, set_s, deref_int, deref_bl, deref_non, deref_str, deref_tup, deref_lst, deref_scr, deref_dct, deref_ref0, isCell_ref0, restO_nx, restO_rt, restO_bk, restO_ct, szl, idx_tup0, idx_tup1, idx_tup2, idx_tup3, idx_tup4, idx_tup5, idx_tup6, idx_tup7, idx_tup8, idx_tup9, idx_lst0, idx_lst1, idx_lst2, idx_lst3, idx_lst4, idx_lst5, idx_lst6, idx_lst7, idx_lst8, idx_lst9, Int.reduceLT, Int.reduceLE, Int.reduceNeg, Int.reducePow, and_self, permD, List.getElem?_cons_zero, List.getElem?_cons_succ, Option.bind_some, Option.map_some, startS, List.map_cons, List.map_nil, List.replicate, List.cons_append, List.nil_append, List.append_nil, List.length_cons, List.length_nil, decide_eq_true_eq, Bool.not_eq_true', decide_eq_false_iff_not, Nat.reduceAdd, Nat.zero_add, Nat.reduceLeDiff, Nat.reduceLT, Nat.reduceSub, if_true, if_false, Bool.false_eq_true, ↓reduceIte, Df.fd]
          exact q _ ha _ hs2
theorem spares_W {bk : D} (hb : EBook bk) (hs : St h) (q : ∀ h', St h' → Q (.bl true, h')) : W (call T (n + 5) 19 [.ref 0, bk] h) Q := by
  have hb' := hb
  obtain ⟨e, g, t, ms, rfl, e1, eg, g3, tl, tg, ml, ml2, hm⟩ := hb
  refine W_call (f := f_law_spares_are_told.fd) rfl rfl ?_
  simp only [f_law_spares_are_told, b19, small_of (show (0 : Int) ≤ ms.length by omega) (by omega), ↓W_some, ↓W_bind, ↓W_map, ↓w_var, ↓w_own, ↓w_cst, ↓w_tup, ↓w_ofL, ↓w_celL, ↓w_neg, ↓w_bin, ↓w_cmp, ↓w_chn, ↓w_nt, ↓w_an, ↓w_or, ↓w_ite, ↓w_idx, ↓w_slc, ↓w_call, ↓w_callK, ↓w_bi, ↓w_isi, ↓w_gall, ↓w_gany, ↓w_gsum, ↓w_gtup, ↓w_genF, ↓w_nil, ↓w_cons, ↓w_onone, ↓w_osome, ↓w_otnone, ↓w_otsome, ↓w_and1, ↓w_and, ↓w_or1, ↓w_orc, ↓w_tnt, ↓w_tan, ↓w_tor, ↓w_ta1, ↓w_ta, ↓w_to1, ↓w_to, ↓w_tcmp, ↓w_tchn, ↓w_tvar, ↓w_town, ↓w_tcst, ↓w_tidx, ↓w_tbin, ↓w_tslc, ↓w_tcall, ↓w_tcallK, ↓w_tbi, ↓w_tisi, ↓w_tgen, ↓w_disp, ↓w_comp, ↓w_list, ↓w_sorted, ↓w_seq, ↓w_rng1, ↓w_rng2, ↓w_enum, ↓w_zip, ↓w_rev, ↓w_set, ↓w_setL, ↓w_setD, ↓w_pat, ↓w_par2, ↓w_aug, ↓w_augI, ↓w_putI, ↓w_putO, ↓w_augO, ↓w_app, ↓w_expr, ↓w_ret, ↓w_retN, ↓w_iff, ↓w_whil, ↓w_forr, ↓w_brk, ↓w_cont, ↓w_pass, ↓w_frz, ↓w_snil, ↓w_scons, ↓bps_s, add_ii, add_tt, add_ll, sub_ii, lt_ii, le_ii, gt_ii, ge_ii, eq_ii, ne_ii, is_n, isnt_n, is_bb, isnt_bb, isNon_i, isNon_b, isNon_t, isNon_l, isNon_n, tru_b, tru_i, tru_t, tru_l, tru_n, len_t, len_l, len_s, len_d, bi_len, bi_abs, bi_int, bi_intb, bi_tupt, bi_tupl, bi_min, bi_max, bi_sum, it_t, it_l, it_s, li_l, list_t, list_l, list_s, sl_t, sl_l, sl_s, ty_ii, ty_ib, ty_in, ty_bi, ty_bb, ty_bn, bp_nm, bp_tt, bp_tl, bps_0, op_add, op_sub, op_mul, op_fdiv, op_mod, op_pow, cm_eq, cm_ne, cm_lt, cm_le, cm_gt, cm_ge, cm_is, cm_isnt, cm_in, cm_notin, cd_n, cd_b, cd_i, cd_s, wp_0, wp_s, oq_rt, oq_nx, ol_nx, ol_ct, ol_bk, ol_rt, mod_pos, fdiv_pos, mul_l, mul_r, varS_0, varS_s, lookS_0, lookS_s, ownS_0v, ownS_0, ownS_0d, ownS_s, setS_0, setS_s, set_0, set_s, deref_int, deref_bl, deref_non, deref_str, deref_tup, deref_lst, deref_scr, deref_dct, deref_ref0, isCell_ref0, restO_nx, restO_rt, restO_bk, restO_ct, szl, idx_tup0, idx_tup1, idx_tup2, idx_tup3, idx_tup4, idx_tup5, idx_tup6, idx_tup7, idx_tup8, idx_tup9, idx_lst0, idx_lst1, idx_lst2, idx_lst3, idx_lst4, idx_lst5, idx_lst6, idx_lst7, idx_lst8, idx_lst9, Int.reduceLT, Int.reduceLE, Int.reduceNeg, Int.reducePow, and_self, permD, List.getElem?_cons_zero, List.getElem?_cons_succ, Option.bind_some, Option.map_some, startS, List.map_cons, List.map_nil, List.replicate, List.cons_append, List.nil_append, List.append_nil, List.length_cons, List.length_nil, decide_eq_true_eq, Bool.not_eq_true', decide_eq_false_iff_not, Nat.reduceAdd, Nat.zero_add, Nat.reduceLeDiff, Nat.reduceLT, Nat.reduceSub, if_true, if_false, Bool.false_eq_true, ↓reduceIte, Df.fd]
  refine W_forS (fun r ρ h' => St h' ∧ ∃ (s2 s3 s4 s5 : Option Sl), ρ = [some (.val (.ref 0)), some (.val (.tup [.int e, .int g, .int t, .tup ms, .tup []])), s2, s3, s4, s5] ∧ (∀ x ∈ r, ∃ i : Nat, x = .int (i : Int) ∧ i < ms.length)) ?_ ?_ ⟨hs, none, none, none, none, rfl, fun x hx => ?_⟩
  · rintro x r ρ h' ⟨hs', s2, s3, s4, s5, rfl, hr⟩
    obtain ⟨i, rfl, hi⟩ := hr x (List.mem_cons_self ..)
    have hmd : idxD (.tup ms) (.int (i : Int)) = some ms[i] := atI_at (j := i) rfl (List.getElem?_eq_getElem hi)
    obtain ⟨b, ns, hR, hb0, hnl⟩ := emode_r (hm _ (List.getElem_mem hi))
    simp only [↓W_some, ↓W_bind, ↓W_map, ↓w_var, ↓w_own, ↓w_cst, ↓w_tup, ↓w_ofL, ↓w_celL, ↓w_neg, ↓w_bin, ↓w_cmp, ↓w_chn, ↓w_nt, ↓w_an, ↓w_or, ↓w_ite, ↓w_idx, ↓w_slc, ↓w_call, ↓w_callK, ↓w_bi, ↓w_isi, ↓w_gall, ↓w_gany, ↓w_gsum, ↓w_gtup, ↓w_genF, ↓w_nil, ↓w_cons, ↓w_onone, ↓w_osome, ↓w_otnone, ↓w_otsome, ↓w_and1, ↓w_and, ↓w_or1, ↓w_orc, ↓w_tnt, ↓w_tan, ↓w_tor, ↓w_ta1, ↓w_ta, ↓w_to1, ↓w_to, ↓w_tcmp, ↓w_tchn, ↓w_tvar, ↓w_town, ↓w_tcst, ↓w_tidx, ↓w_tbin, ↓w_tslc, ↓w_tcall, ↓w_tcallK, ↓w_tbi, ↓w_tisi, ↓w_tgen, ↓w_disp, ↓w_comp, ↓w_list, ↓w_sorted, ↓w_seq, ↓w_rng1, ↓w_rng2, ↓w_enum, ↓w_zip, ↓w_rev, ↓w_set, ↓w_setL, ↓w_setD, ↓w_pat, ↓w_par2, ↓w_aug, ↓w_augI, ↓w_putI, ↓w_putO, ↓w_augO, ↓w_app, ↓w_expr, ↓w_ret, ↓w_retN, ↓w_iff, ↓w_whil, ↓w_forr, ↓w_brk, ↓w_cont, ↓w_pass, ↓w_frz, ↓w_snil, ↓w_scons, ↓bps_s, add_ii, add_tt, add_ll, sub_ii, lt_ii, le_ii, gt_ii, ge_ii, eq_ii, ne_ii, is_n, isnt_n, is_bb, isnt_bb, isNon_i, isNon_b, isNon_t, isNon_l, isNon_n, tru_b, tru_i, tru_t, tru_l, tru_n, len_t, len_l, len_s, len_d, bi_len, bi_abs, bi_int, bi_intb, bi_tupt, bi_tupl, bi_min, bi_max, bi_sum, it_t, it_l, it_s, li_l, list_t, list_l, list_s, sl_t, sl_l, sl_s, ty_ii, ty_ib, ty_in, ty_bi, ty_bb, ty_bn, bp_nm, bp_tt, bp_tl, bps_0, op_add, op_sub, op_mul, op_fdiv, op_mod, op_pow, cm_eq, cm_ne, cm_lt, cm_le, cm_gt, cm_ge, cm_is, cm_isnt, cm_in, cm_notin, cd_n, cd_b, cd_i, cd_s, wp_0, wp_s, oq_rt, oq_nx, ol_nx, ol_ct, ol_bk, ol_rt, mod_pos, fdiv_pos, mul_l, mul_r, varS_0, varS_s, lookS_0, lookS_s, ownS_0v, ownS_0, ownS_0d, ownS_s, setS_0, setS_s, set_0, set_s, deref_int, deref_bl, deref_non, deref_str, deref_tup, deref_lst, deref_scr, deref_dct, deref_ref0, isCell_ref0, restO_nx, restO_rt, restO_bk, restO_ct, szl, idx_tup0, idx_tup1, idx_tup2, idx_tup3, idx_tup4, idx_tup5, idx_tup6, idx_tup7, idx_tup8, idx_tup9, idx_lst0, idx_lst1, idx_lst2, idx_lst3, idx_lst4, idx_lst5, idx_lst6, idx_lst7, idx_lst8, idx_lst9, Int.reduceLT, Int.reduceLE, Int.reduceNeg, Int.reducePow, and_self, permD, List.getElem?_cons_zero, List.getElem?_cons_succ, Option.bind_some, Option.map_some, startS, List.map_cons, List.map_nil, List.replicate, List.cons_append, List.nil_append, List.append_nil, List.length_cons, List.length_nil, decide_eq_true_eq, Bool.not_eq_true', decide_eq_false_iff_not, Nat.reduceAdd, Nat.zero_add, Nat.reduceLeDiff, Nat.reduceLT, Nat.reduceSub, if_true, if_false, Bool.false_eq_true, ↓reduceIte, Df.fd]
    refine points_W hb' hs' fun xs hxs h2 hs2 => ?_
    simp only [↓W_some, ↓W_bind, ↓W_map, ↓w_var, ↓w_own, ↓w_cst, ↓w_tup, ↓w_ofL, ↓w_celL, ↓w_neg, ↓w_bin, ↓w_cmp, ↓w_chn, ↓w_nt, ↓w_an, ↓w_or, ↓w_ite, ↓w_idx, ↓w_slc, ↓w_call, ↓w_callK, ↓w_bi, ↓w_isi, ↓w_gall, ↓w_gany, ↓w_gsum, ↓w_gtup, ↓w_genF, ↓w_nil, ↓w_cons, ↓w_onone, ↓w_osome, ↓w_otnone, ↓w_otsome, ↓w_and1, ↓w_and, ↓w_or1, ↓w_orc, ↓w_tnt, ↓w_tan, ↓w_tor, ↓w_ta1, ↓w_ta, ↓w_to1, ↓w_to, ↓w_tcmp, ↓w_tchn, ↓w_tvar, ↓w_town, ↓w_tcst, ↓w_tidx, ↓w_tbin, ↓w_tslc, ↓w_tcall, ↓w_tcallK, ↓w_tbi, ↓w_tisi, ↓w_tgen, ↓w_disp, ↓w_comp, ↓w_list, ↓w_sorted, ↓w_seq, ↓w_rng1, ↓w_rng2, ↓w_enum, ↓w_zip, ↓w_rev, ↓w_set, ↓w_setL, ↓w_setD, ↓w_pat, ↓w_par2, ↓w_aug, ↓w_augI, ↓w_putI, ↓w_putO, ↓w_augO, ↓w_app, ↓w_expr, ↓w_ret, ↓w_retN, ↓w_iff, ↓w_whil, ↓w_forr, ↓w_brk, ↓w_cont, ↓w_pass, ↓w_frz, ↓w_snil, ↓w_scons, ↓bps_s, add_ii, add_tt, add_ll, sub_ii, lt_ii, le_ii, gt_ii, ge_ii, eq_ii, ne_ii, is_n, isnt_n, is_bb, isnt_bb, isNon_i, isNon_b, isNon_t, isNon_l, isNon_n, tru_b, tru_i, tru_t, tru_l, tru_n, len_t, len_l, len_s, len_d, bi_len, bi_abs, bi_int, bi_intb, bi_tupt, bi_tupl, bi_min, bi_max, bi_sum, it_t, it_l, it_s, li_l, list_t, list_l, list_s, sl_t, sl_l, sl_s, ty_ii, ty_ib, ty_in, ty_bi, ty_bb, ty_bn, bp_nm, bp_tt, bp_tl, bps_0, op_add, op_sub, op_mul, op_fdiv, op_mod, op_pow, cm_eq, cm_ne, cm_lt, cm_le, cm_gt, cm_ge, cm_is, cm_isnt, cm_in, cm_notin, cd_n, cd_b, cd_i, cd_s, wp_0, wp_s, oq_rt, oq_nx, ol_nx, ol_ct, ol_bk, ol_rt, mod_pos, fdiv_pos, mul_l, mul_r, varS_0, varS_s, lookS_0, lookS_s, ownS_0v, ownS_0, ownS_0d, ownS_s, setS_0, setS_s, set_0, set_s, deref_int, deref_bl, deref_non, deref_str, deref_tup, deref_lst, deref_scr, deref_dct, deref_ref0, isCell_ref0, restO_nx, restO_rt, restO_bk, restO_ct, szl, idx_tup0, idx_tup1, idx_tup2, idx_tup3, idx_tup4, idx_tup5, idx_tup6, idx_tup7, idx_tup8, idx_tup9, idx_lst0, idx_lst1, idx_lst2, idx_lst3, idx_lst4, idx_lst5, idx_lst6, idx_lst7, idx_lst8, idx_lst9, Int.reduceLT, Int.reduceLE, Int.reduceNeg, Int.reducePow, and_self, permD, List.getElem?_cons_zero, List.getElem?_cons_succ, Option.bind_some, Option.map_some, startS, List.map_cons, List.map_nil, List.replicate, List.cons_append, List.nil_append, List.append_nil, List.length_cons, List.length_nil, decide_eq_true_eq, Bool.not_eq_true', decide_eq_false_iff_not, Nat.reduceAdd, Nat.zero_add, Nat.reduceLeDiff, Nat.reduceLT, Nat.reduceSub, if_true, if_false, Bool.false_eq_true, ↓reduceIte, Df.fd]
    refine W_forS (fun r' ρ h' => St h' ∧ ∃ (s3 s4 s5 : Option Sl), ρ = [some (.val (.ref 0)), some (.val (.tup [.int e, .int g, .int t, .tup ms, .tup []])), some (.val (.int (i : Int))), s3, s4, s5] ∧ (∀ x ∈ r', Pt x)) ?_ ?_ ⟨hs2, s3, s4, s5, rfl, hxs⟩
    · rintro y r' ρ h' ⟨hs3, s3, s4, s5, rfl, hr'⟩
      obtain ⟨m, f, rfl, f0, f1⟩ := hr' y (List.mem_cons_self ..)
      simp only [↓W_some, ↓W_bind, ↓W_map, ↓w_var, ↓w_own, ↓w_cst, ↓w_tup, ↓w_ofL, ↓w_celL, ↓w_neg, ↓w_bin, ↓w_cmp, ↓w_chn, ↓w_nt, ↓w_an, ↓w_or, ↓w_ite, ↓w_idx, ↓w_slc, ↓w_call, ↓w_callK, ↓w_bi, ↓w_isi, ↓w_gall, ↓w_gany, ↓w_gsum, ↓w_gtup, ↓w_genF, ↓w_nil, ↓w_cons, ↓w_onone, ↓w_osome, ↓w_otnone, ↓w_otsome, ↓w_and1, ↓w_and, ↓w_or1, ↓w_orc, ↓w_tnt, ↓w_tan, ↓w_tor, ↓w_ta1, ↓w_ta, ↓w_to1, ↓w_to, ↓w_tcmp, ↓w_tchn, ↓w_tvar, ↓w_town, ↓w_tcst, ↓w_tidx, ↓w_tbin, ↓w_tslc, ↓w_tcall, ↓w_tcallK, ↓w_tbi, ↓w_tisi, ↓w_tgen, ↓w_disp, ↓w_comp, ↓w_list, ↓w_sorted, ↓w_seq, ↓w_rng1, ↓w_rng2, ↓w_enum, ↓w_zip, ↓w_rev, ↓w_set, ↓w_setL, ↓w_setD, ↓w_pat, ↓w_par2, ↓w_aug, ↓w_augI, ↓w_putI, ↓w_putO, ↓w_augO, ↓w_app, ↓w_expr, ↓w_ret, ↓w_retN, ↓w_iff, ↓w_whil, ↓w_forr, ↓w_brk, ↓w_cont, ↓w_pass, ↓w_frz, ↓w_snil, ↓w_scons, ↓bps_s, add_ii, add_tt, add_ll, sub_ii, lt_ii, le_ii, gt_ii, ge_ii, eq_ii, ne_ii, is_n, isnt_n, is_bb, isnt_bb, isNon_i, isNon_b, isNon_t, isNon_l, isNon_n, tru_b, tru_i, tru_t, tru_l, tru_n, len_t, len_l, len_s, len_d, bi_len, bi_abs, bi_int, bi_intb, bi_tupt, bi_tupl, bi_min, bi_max, bi_sum, it_t, it_l, it_s, li_l, list_t, list_l, list_s, sl_t, sl_l, sl_s, ty_ii, ty_ib, ty_in, ty_bi, ty_bb, ty_bn, bp_nm, bp_tt, bp_tl, bps_0, op_add, op_sub, op_mul, op_fdiv, op_mod, op_pow, cm_eq, cm_ne, cm_lt, cm_le, cm_gt, cm_ge, cm_is, cm_isnt, cm_in, cm_notin, cd_n, cd_b, cd_i, cd_s, wp_0, wp_s, oq_rt, oq_nx, ol_nx, ol_ct, ol_bk, ol_rt, mod_pos, fdiv_pos, mul_l, mul_r, varS_0, varS_s, lookS_0, lookS_s, ownS_0v, ownS_0, ownS_0d, ownS_s, setS_0, setS_s, set_0, set_s, deref_int, deref_bl, deref_non, deref_str, deref_tup, deref_lst, deref_scr, deref_dct, deref_ref0, isCell_ref0, restO_nx, restO_rt, restO_bk, restO_ct, szl, idx_tup0, idx_tup1, idx_tup2, idx_tup3, idx_tup4, idx_tup5, idx_tup6, idx_tup7, idx_tup8, idx_tup9, idx_lst0, idx_lst1, idx_lst2, idx_lst3, idx_lst4, idx_lst5, idx_lst6, idx_lst7, idx_lst8, idx_lst9, Int.reduceLT, Int.reduceLE, Int.reduceNeg, Int.reducePow, and_self, permD, List.getElem?_cons_zero, List.getElem?_cons_succ, Option.bind_some, Option.map_some, startS, List.map_cons, List.map_nil, List.replicate, List.cons_append, List.nil_append, List.append_nil, List.length_cons, List.length_nil, decide_eq_true_eq, Bool.not_eq_true', decide_eq_false_iff_not, Nat.reduceAdd, Nat.zero_add, Nat.reduceLeDiff, Nat.reduceLT, Nat.reduceSub, if_true, if_false, Bool.false_eq_true, ↓reduceIte, Df.fd]
      refine lawspare_W (y := .non) hmd hR f0 f1 fun d hd => ?_
      simp only [↓W_some, ↓W_bind, ↓W_map, ↓w_var, ↓w_own, ↓w_cst, ↓w_tup, ↓w_ofL, ↓w_celL, ↓w_neg, ↓w_bin, ↓w_cmp, ↓w_chn, ↓w_nt, ↓w_an, ↓w_or, ↓w_ite, ↓w_idx, ↓w_slc, ↓w_call, ↓w_callK, ↓w_bi, ↓w_isi, ↓w_gall, ↓w_gany, ↓w_gsum, ↓w_gtup, ↓w_genF, ↓w_nil, ↓w_cons, ↓w_onone, ↓w_osome, ↓w_otnone, ↓w_otsome, ↓w_and1, ↓w_and, ↓w_or1, ↓w_orc, ↓w_tnt, ↓w_tan, ↓w_tor, ↓w_ta1, ↓w_ta, ↓w_to1, ↓w_to, ↓w_tcmp, ↓w_tchn, ↓w_tvar, ↓w_town, ↓w_tcst, ↓w_tidx, ↓w_tbin, ↓w_tslc, ↓w_tcall, ↓w_tcallK, ↓w_tbi, ↓w_tisi, ↓w_tgen, ↓w_disp, ↓w_comp, ↓w_list, ↓w_sorted, ↓w_seq, ↓w_rng1, ↓w_rng2, ↓w_enum, ↓w_zip, ↓w_rev, ↓w_set, ↓w_setL, ↓w_setD, ↓w_pat, ↓w_par2, ↓w_aug, ↓w_augI, ↓w_putI, ↓w_putO, ↓w_augO, ↓w_app, ↓w_expr, ↓w_ret, ↓w_retN, ↓w_iff, ↓w_whil, ↓w_forr, ↓w_brk, ↓w_cont, ↓w_pass, ↓w_frz, ↓w_snil, ↓w_scons, ↓bps_s, add_ii, add_tt, add_ll, sub_ii, lt_ii, le_ii, gt_ii, ge_ii, eq_ii, ne_ii, is_n, isnt_n, is_bb, isnt_bb, isNon_i, isNon_b, isNon_t, isNon_l, isNon_n, tru_b, tru_i, tru_t, tru_l, tru_n, len_t, len_l, len_s, len_d, bi_len, bi_abs, bi_int, bi_intb, bi_tupt, bi_tupl, bi_min, bi_max, bi_sum, it_t, it_l, it_s, li_l, list_t, list_l, list_s, sl_t, sl_l, sl_s, ty_ii, ty_ib, ty_in, ty_bi, ty_bb, ty_bn, bp_nm, bp_tt, bp_tl, bps_0, op_add, op_sub, op_mul, op_fdiv, op_mod, op_pow, cm_eq, cm_ne, cm_lt, cm_le, cm_gt, cm_ge, cm_is, cm_isnt, cm_in, cm_notin, cd_n, cd_b, cd_i, cd_s, wp_0, wp_s, oq_rt, oq_nx, ol_nx, ol_ct, ol_bk, ol_rt, mod_pos, fdiv_pos, mul_l, mul_r, varS_0, varS_s, lookS_0, lookS_s, ownS_0v, ownS_0, ownS_0d, ownS_s, setS_0, setS_s, set_0, set_s, deref_int, deref_bl, deref_non, deref_str, deref_tup, deref_lst, deref_scr, deref_dct, deref_ref0, isCell_ref0, restO_nx, restO_rt, restO_bk, restO_ct, szl, idx_tup0, idx_tup1, idx_tup2, idx_tup3, idx_tup4, idx_tup5, idx_tup6, idx_tup7, idx_tup8, idx_tup9, idx_lst0, idx_lst1, idx_lst2, idx_lst3, idx_lst4, idx_lst5, idx_lst6, idx_lst7, idx_lst8, idx_lst9, Int.reduceLT, Int.reduceLE, Int.reduceNeg, Int.reducePow, and_self, permD, List.getElem?_cons_zero, List.getElem?_cons_succ, Option.bind_some, Option.map_some, startS, List.map_cons, List.map_nil, List.replicate, List.cons_append, List.nil_append, List.append_nil, List.length_cons, List.length_nil, decide_eq_true_eq, Bool.not_eq_true', decide_eq_false_iff_not, Nat.reduceAdd, Nat.zero_add, Nat.reduceLeDiff, Nat.reduceLT, Nat.reduceSub, if_true, if_false, Bool.false_eq_true, ↓reduceIte, Df.fd]
      refine spare_W (y := .non) hmd hR hb0 (by omega) fun d2 hd2 => ?_
      have ed := spr_same hd2 hd
      subst ed
      simp only [↓W_some, ↓W_bind, ↓W_map, ↓w_var, ↓w_own, ↓w_cst, ↓w_tup, ↓w_ofL, ↓w_celL, ↓w_neg, ↓w_bin, ↓w_cmp, ↓w_chn, ↓w_nt, ↓w_an, ↓w_or, ↓w_ite, ↓w_idx, ↓w_slc, ↓w_call, ↓w_callK, ↓w_bi, ↓w_isi, ↓w_gall, ↓w_gany, ↓w_gsum, ↓w_gtup, ↓w_genF, ↓w_nil, ↓w_cons, ↓w_onone, ↓w_osome, ↓w_otnone, ↓w_otsome, ↓w_and1, ↓w_and, ↓w_or1, ↓w_orc, ↓w_tnt, ↓w_tan, ↓w_tor, ↓w_ta1, ↓w_ta, ↓w_to1, ↓w_to, ↓w_tcmp, ↓w_tchn, ↓w_tvar, ↓w_town, ↓w_tcst, ↓w_tidx, ↓w_tbin, ↓w_tslc, ↓w_tcall, ↓w_tcallK, ↓w_tbi, ↓w_tisi, ↓w_tgen, ↓w_disp, ↓w_comp, ↓w_list, ↓w_sorted, ↓w_seq, ↓w_rng1, ↓w_rng2, ↓w_enum, ↓w_zip, ↓w_rev, ↓w_set, ↓w_setL, ↓w_setD, ↓w_pat, ↓w_par2, ↓w_aug, ↓w_augI, ↓w_putI, ↓w_putO, ↓w_augO, ↓w_app, ↓w_expr, ↓w_ret, ↓w_retN, ↓w_iff, ↓w_whil, ↓w_forr, ↓w_brk, ↓w_cont, ↓w_pass, ↓w_frz, ↓w_snil, ↓w_scons, ↓bps_s, add_ii, add_tt, add_ll, sub_ii, lt_ii, le_ii, gt_ii, ge_ii, eq_ii, ne_ii, is_n, isnt_n, is_bb, isnt_bb, isNon_i, isNon_b, isNon_t, isNon_l, isNon_n, tru_b, tru_i, tru_t, tru_l, tru_n, len_t, len_l, len_s, len_d, bi_len, bi_abs, bi_int, bi_intb, bi_tupt, bi_tupl, bi_min, bi_max, bi_sum, it_t, it_l, it_s, li_l, list_t, list_l, list_s, sl_t, sl_l, sl_s, ty_ii, ty_ib, ty_in, ty_bi, ty_bb, ty_bn, bp_nm, bp_tt, bp_tl, bps_0, op_add, op_sub, op_mul, op_fdiv, op_mod, op_pow, cm_eq, cm_ne, cm_lt, cm_le, cm_gt, cm_ge, cm_is, cm_isnt, cm_in, cm_notin, cd_n, cd_b, cd_i, cd_s, wp_0, wp_s, oq_rt, oq_nx, ol_nx, ol_ct, ol_bk, ol_rt, mod_pos, fdiv_pos, mul_l, mul_r, varS_0, varS_s, lookS_0, lookS_s, ownS_0v, ownS_0, ownS_0d, ownS_s, setS_0, setS_s, set_0, set_s, deref_int, deref_bl, deref_non, deref_str, deref_tup, deref_lst, deref_scr, deref_dct, deref_ref0, isCell_ref0, restO_nx, restO_rt, restO_bk, restO_ct, szl, idx_tup0, idx_tup1, idx_tup2, idx_tup3, idx_tup4, idx_tup5, idx_tup6, idx_tup7, idx_tup8, idx_tup9, idx_lst0, idx_lst1, idx_lst2, idx_lst3, idx_lst4, idx_lst5, idx_lst6, idx_lst7, idx_lst8, idx_lst9, Int.reduceLT, Int.reduceLE, Int.reduceNeg, Int.reducePow, and_self, permD, List.getElem?_cons_zero, List.getElem?_cons_succ, Option.bind_some, Option.map_some, startS, List.map_cons, List.map_nil, List.replicate, List.cons_append, List.nil_append, List.append_nil, List.length_cons, List.length_nil, decide_eq_true_eq, Bool.not_eq_true', decide_eq_false_iff_not, Nat.reduceAdd, Nat.zero_add, Nat.reduceLeDiff, Nat.reduceLT, Nat.reduceSub, if_true, if_false, Bool.false_eq_true, ↓reduceIte, Df.fd]
      refine is_spr hd ?_
      simp only [Bool.not_true, ↓W_some, ↓W_bind, ↓W_map, ↓w_var, ↓w_own, ↓w_cst, ↓w_tup, ↓w_ofL, ↓w_celL, ↓w_neg, ↓w_bin, ↓w_cmp, ↓w_chn, ↓w_nt, ↓w_an, ↓w_or, ↓w_ite, ↓w_idx, ↓w_slc, ↓w_call, ↓w_callK, ↓w_bi, ↓w_isi, ↓w_gall, ↓w_gany, ↓w_gsum, ↓w_gtup, ↓w_genF, ↓w_nil, ↓w_cons, ↓w_onone, ↓w_osome, ↓w_otnone, ↓w_otsome, ↓w_and1, ↓w_and, ↓w_or1, ↓w_orc, ↓w_tnt, ↓w_tan, ↓w_tor, ↓w_ta1, ↓w_ta, ↓w_to1, ↓w_to, ↓w_tcmp, ↓w_tchn, ↓w_tvar, ↓w_town, ↓w_tcst, ↓w_tidx, ↓w_tbin, ↓w_tslc, ↓w_tcall, ↓w_tcallK, ↓w_tbi, ↓w_tisi, ↓w_tgen, ↓w_disp, ↓w_comp, ↓w_list, ↓w_sorted, ↓w_seq, ↓w_rng1, ↓w_rng2, ↓w_enum, ↓w_zip, ↓w_rev, ↓w_set, ↓w_setL, ↓w_setD, ↓w_pat, ↓w_par2, ↓w_aug, ↓w_augI, ↓w_putI, ↓w_putO, ↓w_augO, ↓w_app, ↓w_expr, ↓w_ret, ↓w_retN, ↓w_iff, ↓w_whil, ↓w_forr, ↓w_brk, ↓w_cont, ↓w_pass, ↓w_frz, ↓w_snil, ↓w_scons, ↓bps_s, add_ii, add_tt, add_ll, sub_ii, lt_ii, le_ii, gt_ii, ge_ii, eq_ii, ne_ii, is_n, isnt_n, is_bb, isnt_bb, isNon_i, isNon_b, isNon_t, isNon_l, isNon_n, tru_b, tru_i, tru_t, tru_l, tru_n, len_t, len_l, len_s, len_d, bi_len, bi_abs, bi_int, bi_intb, bi_tupt, bi_tupl, bi_min, bi_max, bi_sum, it_t, it_l, it_s, li_l, list_t, list_l, list_s, sl_t, sl_l, sl_s, ty_ii, ty_ib, ty_in, ty_bi, ty_bb, ty_bn, bp_nm, bp_tt, bp_tl, bps_0, op_add, op_sub, op_mul, op_fdiv, op_mod, op_pow, cm_eq, cm_ne, cm_lt, cm_le, cm_gt, cm_ge, cm_is, cm_isnt, cm_in, cm_notin, cd_n, cd_b, cd_i, cd_s, wp_0, wp_s, oq_rt, oq_nx, ol_nx, ol_ct, ol_bk, ol_rt, mod_pos, fdiv_pos, mul_l, mul_r, varS_0, varS_s, lookS_0, lookS_s, ownS_0v, ownS_0, ownS_0d, ownS_s, setS_0, setS_s, set_0, set_s, deref_int, deref_bl, deref_non, deref_str, deref_tup, deref_lst, deref_scr, deref_dct, deref_ref0, isCell_ref0, restO_nx, restO_rt, restO_bk, restO_ct, szl, idx_tup0, idx_tup1, idx_tup2, idx_tup3, idx_tup4, idx_tup5, idx_tup6, idx_tup7, idx_tup8, idx_tup9, idx_lst0, idx_lst1, idx_lst2, idx_lst3, idx_lst4, idx_lst5, idx_lst6, idx_lst7, idx_lst8, idx_lst9, Int.reduceLT, Int.reduceLE, Int.reduceNeg, Int.reducePow, and_self, permD, List.getElem?_cons_zero, List.getElem?_cons_succ, Option.bind_some, Option.map_some, startS, List.map_cons, List.map_nil, List.replicate, List.cons_append, List.nil_append, List.append_nil, List.length_cons, List.length_nil, decide_eq_true_eq, Bool.not_eq_true', decide_eq_false_iff_not, Nat.reduceAdd, Nat.zero_add, Nat.reduceLeDiff, Nat.reduceLT, Nat.reduceSub, if_true, if_false, Bool.false_eq_true, ↓reduceIte, Df.fd]
      refine spare_W (y := .non) hmd hR hb0 (by omega) fun d3 hd3 => ?_
      have ed := spr_same hd3 hd
      subst ed
      simp only [↓W_some, ↓W_bind, ↓W_map, ↓w_var, ↓w_own, ↓w_cst, ↓w_tup, ↓w_ofL, ↓w_celL, ↓w_neg, ↓w_bin, ↓w_cmp, ↓w_chn, ↓w_nt, ↓w_an, ↓w_or, ↓w_ite, ↓w_idx, ↓w_slc, ↓w_call, ↓w_callK, ↓w_bi, ↓w_isi, ↓w_gall, ↓w_gany, ↓w_gsum, ↓w_gtup, ↓w_genF, ↓w_nil, ↓w_cons, ↓w_onone, ↓w_osome, ↓w_otnone, ↓w_otsome, ↓w_and1, ↓w_and, ↓w_or1, ↓w_orc, ↓w_tnt, ↓w_tan, ↓w_tor, ↓w_ta1, ↓w_ta, ↓w_to1, ↓w_to, ↓w_tcmp, ↓w_tchn, ↓w_tvar, ↓w_town, ↓w_tcst, ↓w_tidx, ↓w_tbin, ↓w_tslc, ↓w_tcall, ↓w_tcallK, ↓w_tbi, ↓w_tisi, ↓w_tgen, ↓w_disp, ↓w_comp, ↓w_list, ↓w_sorted, ↓w_seq, ↓w_rng1, ↓w_rng2, ↓w_enum, ↓w_zip, ↓w_rev, ↓w_set, ↓w_setL, ↓w_setD, ↓w_pat, ↓w_par2, ↓w_aug, ↓w_augI, ↓w_putI, ↓w_putO, ↓w_augO, ↓w_app, ↓w_expr, ↓w_ret, ↓w_retN, ↓w_iff, ↓w_whil, ↓w_forr, ↓w_brk, ↓w_cont, ↓w_pass, ↓w_frz, ↓w_snil, ↓w_scons, ↓bps_s, add_ii, add_tt, add_ll, sub_ii, lt_ii, le_ii, gt_ii, ge_ii, eq_ii, ne_ii, is_n, isnt_n, is_bb, isnt_bb, isNon_i, isNon_b, isNon_t, isNon_l, isNon_n, tru_b, tru_i, tru_t, tru_l, tru_n, len_t, len_l, len_s, len_d, bi_len, bi_abs, bi_int, bi_intb, bi_tupt, bi_tupl, bi_min, bi_max, bi_sum, it_t, it_l, it_s, li_l, list_t, list_l, list_s, sl_t, sl_l, sl_s, ty_ii, ty_ib, ty_in, ty_bi, ty_bb, ty_bn, bp_nm, bp_tt, bp_tl, bps_0, op_add, op_sub, op_mul, op_fdiv, op_mod, op_pow, cm_eq, cm_ne, cm_lt, cm_le, cm_gt, cm_ge, cm_is, cm_isnt, cm_in, cm_notin, cd_n, cd_b, cd_i, cd_s, wp_0, wp_s, oq_rt, oq_nx, ol_nx, ol_ct, ol_bk, ol_rt, mod_pos, fdiv_pos, mul_l, mul_r, varS_0, varS_s, lookS_0, lookS_s, ownS_0v, ownS_0, ownS_0d, ownS_s, setS_0, setS_s, set_0, set_s, deref_int, deref_bl, deref_non, deref_str, deref_tup, deref_lst, deref_scr, deref_dct, deref_ref0, isCell_ref0, restO_nx, restO_rt, restO_bk, restO_ct, szl, idx_tup0, idx_tup1, idx_tup2, idx_tup3, idx_tup4, idx_tup5, idx_tup6, idx_tup7, idx_tup8, idx_tup9, idx_lst0, idx_lst1, idx_lst2, idx_lst3, idx_lst4, idx_lst5, idx_lst6, idx_lst7, idx_lst8, idx_lst9, Int.reduceLT, Int.reduceLE, Int.reduceNeg, Int.reducePow, and_self, permD, List.getElem?_cons_zero, List.getElem?_cons_succ, Option.bind_some, Option.map_some, startS, List.map_cons, List.map_nil, List.replicate, List.cons_append, List.nil_append, List.append_nil, List.length_cons, List.length_nil, decide_eq_true_eq, Bool.not_eq_true', decide_eq_false_iff_not, Nat.reduceAdd, Nat.zero_add, Nat.reduceLeDiff, Nat.reduceLT, Nat.reduceSub, if_true, if_false, Bool.false_eq_true, ↓reduceIte, Df.fd]
      refine is_spr hd ?_
      simp only [Bool.not_true, ↓W_some, ↓W_bind, ↓W_map, ↓w_var, ↓w_own, ↓w_cst, ↓w_tup, ↓w_ofL, ↓w_celL, ↓w_neg, ↓w_bin, ↓w_cmp, ↓w_chn, ↓w_nt, ↓w_an, ↓w_or, ↓w_ite, ↓w_idx, ↓w_slc, ↓w_call, ↓w_callK, ↓w_bi, ↓w_isi, ↓w_gall, ↓w_gany, ↓w_gsum, ↓w_gtup, ↓w_genF, ↓w_nil, ↓w_cons, ↓w_onone, ↓w_osome, ↓w_otnone, ↓w_otsome, ↓w_and1, ↓w_and, ↓w_or1, ↓w_orc, ↓w_tnt, ↓w_tan, ↓w_tor, ↓w_ta1, ↓w_ta, ↓w_to1, ↓w_to, ↓w_tcmp, ↓w_tchn, ↓w_tvar, ↓w_town, ↓w_tcst, ↓w_tidx, ↓w_tbin, ↓w_tslc, ↓w_tcall, ↓w_tcallK, ↓w_tbi, ↓w_tisi, ↓w_tgen, ↓w_disp, ↓w_comp, ↓w_list, ↓w_sorted, ↓w_seq, ↓w_rng1, ↓w_rng2, ↓w_enum, ↓w_zip, ↓w_rev, ↓w_set, ↓w_setL, ↓w_setD, ↓w_pat, ↓w_par2, ↓w_aug, ↓w_augI, ↓w_putI, ↓w_putO, ↓w_augO, ↓w_app, ↓w_expr, ↓w_ret, ↓w_retN, ↓w_iff, ↓w_whil, ↓w_forr, ↓w_brk, ↓w_cont, ↓w_pass, ↓w_frz, ↓w_snil, ↓w_scons, ↓bps_s, add_ii, add_tt, add_ll, sub_ii, lt_ii, le_ii, gt_ii, ge_ii, eq_ii, ne_ii, is_n, isnt_n, is_bb, isnt_bb, isNon_i, isNon_b, isNon_t, isNon_l, isNon_n, tru_b, tru_i, tru_t, tru_l, tru_n, len_t, len_l, len_s, len_d, bi_len, bi_abs, bi_int, bi_intb, bi_tupt, bi_tupl, bi_min, bi_max, bi_sum, it_t, it_l, it_s, li_l, list_t, list_l, list_s, sl_t, sl_l, sl_s, ty_ii, ty_ib, ty_in, ty_bi, ty_bb, ty_bn, bp_nm, bp_tt, bp_tl, bps_0, op_add, op_sub, op_mul, op_fdiv, op_mod, op_pow, cm_eq, cm_ne, cm_lt, cm_le, cm_gt, cm_ge, cm_is, cm_isnt, cm_in, cm_notin, cd_n, cd_b, cd_i, cd_s, wp_0, wp_s, oq_rt, oq_nx, ol_nx, ol_ct, ol_bk, ol_rt, mod_pos, fdiv_pos, mul_l, mul_r, varS_0, varS_s, lookS_0, lookS_s, ownS_0v, ownS_0, ownS_0d, ownS_s, setS_0, setS_s, set_0, set_s, deref_int, deref_bl, deref_non, deref_str, deref_tup, deref_lst, deref_scr, deref_dct, deref_ref0, isCell_ref0, restO_nx, restO_rt, restO_bk, restO_ct, szl, idx_tup0, idx_tup1, idx_tup2, idx_tup3, idx_tup4, idx_tup5, idx_tup6, idx_tup7, idx_tup8, idx_tup9, idx_lst0, idx_lst1, idx_lst2, idx_lst3, idx_lst4, idx_lst5, idx_lst6, idx_lst7, idx_lst8, idx_lst9, Int.reduceLT, Int.reduceLE, Int.reduceNeg, Int.reducePow, and_self, permD, List.getElem?_cons_zero, List.getElem?_cons_succ, Option.bind_some, Option.map_some, startS, List.map_cons, List.map_nil, List.replicate, List.cons_append, List.nil_append, List.append_nil, List.length_cons, List.length_nil, decide_eq_true_eq, Bool.not_eq_true', decide_eq_false_iff_not, Nat.reduceAdd, Nat.zero_add, Nat.reduceLeDiff, Nat.reduceLT, Nat.reduceSub, if_true, if_false, Bool.false_eq_true, ↓reduceIte, Df.fd]
      exact ⟨hs3, _, _, _, rfl, fun z hz => hr' z (List.mem_cons_of_mem _ hz)⟩
    · rintro ρ h' ⟨hs3, s3, s4, s5, rfl, hr'⟩
      simp only [↓W_some, ↓W_bind, ↓W_map, ↓w_var, ↓w_own, ↓w_cst, ↓w_tup, ↓w_ofL, ↓w_celL, ↓w_neg, ↓w_bin, ↓w_cmp, ↓w_chn, ↓w_nt, ↓w_an, ↓w_or, ↓w_ite, ↓w_idx, ↓w_slc, ↓w_call, ↓w_callK, ↓w_bi, ↓w_isi, ↓w_gall, ↓w_gany, ↓w_gsum, ↓w_gtup, ↓w_genF, ↓w_nil, ↓w_cons, ↓w_onone, ↓w_osome, ↓w_otnone, ↓w_otsome, ↓w_and1, ↓w_and, ↓w_or1, ↓w_orc, ↓w_tnt, ↓w_tan, ↓w_tor, ↓w_ta1, ↓w_ta, ↓w_to1, ↓w_to, ↓w_tcmp, ↓w_tchn, ↓w_tvar, ↓w_town, ↓w_tcst, ↓w_tidx, ↓w_tbin, ↓w_tslc, ↓w_tcall, ↓w_tcallK, ↓w_tbi, ↓w_tisi, ↓w_tgen, ↓w_disp, ↓w_comp, ↓w_list, ↓w_sorted, ↓w_seq, ↓w_rng1, ↓w_rng2, ↓w_enum, ↓w_zip, ↓w_rev, ↓w_set, ↓w_setL, ↓w_setD, ↓w_pat, ↓w_par2, ↓w_aug, ↓w_augI, ↓w_putI, ↓w_putO, ↓w_augO, ↓w_app, ↓w_expr, ↓w_ret, ↓w_retN, ↓w_iff, ↓w_whil, ↓w_forr, ↓w_brk, ↓w_cont, ↓w_pass, ↓w_frz, ↓w_snil, ↓w_scons, ↓bps_s, add_ii, add_tt, add_ll, sub_ii, lt_ii, le_ii, gt_ii, ge_ii, eq_ii, ne_ii, is_n, isnt_n, is_bb, isnt_bb, isNon_i, isNon_b, isNon_t, isNon_l, isNon_n, tru_b, tru_i, tru_t, tru_l, tru_n, len_t, len_l, len_s, len_d, bi_len, bi_abs, bi_int, bi_intb, bi_tupt, bi_tupl, bi_min, bi_max, bi_sum, it_t, it_l, it_s, li_l, list_t, list_l, list_s, sl_t, sl_l, sl_s, ty_ii, ty_ib, ty_in, ty_bi, ty_bb, ty_bn, bp_nm, bp_tt, bp_tl, bps_0, op_add, op_sub, op_mul, op_fdiv, op_mod, op_pow, cm_eq, cm_ne, cm_lt, cm_le, cm_gt, cm_ge, cm_is, cm_isnt, cm_in, cm_notin, cd_n, cd_b, cd_i, cd_s, wp_0, wp_s, oq_rt, oq_nx, ol_nx, ol_ct, ol_bk, ol_rt, mod_pos, fdiv_pos, mul_l, mul_r, varS_0, varS_s, lookS_0, lookS_s, ownS_0v, ownS_0, ownS_0d, ownS_s, setS_0, setS_s, set_0, set_s, deref_int, deref_bl, deref_non, deref_str, deref_tup, deref_lst, deref_scr, deref_dct, deref_ref0, isCell_ref0, restO_nx, restO_rt, restO_bk, restO_ct, szl, idx_tup0, idx_tup1, idx_tup2, idx_tup3, idx_tup4, idx_tup5, idx_tup6, idx_tup7, idx_tup8, idx_tup9, idx_lst0, idx_lst1, idx_lst2, idx_lst3, idx_lst4, idx_lst5, idx_lst6, idx_lst7, idx_lst8, idx_lst9, Int.reduceLT, Int.reduceLE, Int.reduceNeg, Int.reducePow, and_self, permD, List.getElem?_cons_zero, List.getElem?_cons_succ, Option.bind_some, Option.map_some, startS, List.map_cons, List.map_nil, List.replicate, List.cons_append, List.nil_append, List.append_nil, List.length_cons, List.length_nil, decide_eq_true_eq, Bool.not_eq_true', decide_eq_false_iff_not, Nat.reduceAdd, Nat.zero_add, Nat.reduceLeDiff, Nat.reduceLT, Nat.reduceSub, if_true, if_false, Bool.false_eq_true, ↓reduceIte, Df.fd]
      exact ⟨hs3, _, _, _, _, rfl, fun z hz => hr z (List.mem_cons_of_mem _ hz)⟩
  · rintro ρ h' ⟨hs', s2, s3, s4, s5, rfl, hr⟩
    simp only [↓W_some, ↓W_bind, ↓W_map, ↓w_var, ↓w_own, ↓w_cst, ↓w_tup, ↓w_ofL, ↓w_celL, ↓w_neg, ↓w_bin, ↓w_cmp, ↓w_chn, ↓w_nt, ↓w_an, ↓w_or, ↓w_ite, ↓w_idx, ↓w_slc, ↓w_call, ↓w_callK, ↓w_bi, ↓w_isi, ↓w_gall, ↓w_gany, ↓w_gsum, ↓w_gtup, ↓w_genF, ↓w_nil, ↓w_cons, ↓w_onone, ↓w_osome, ↓w_otnone, ↓w_otsome, ↓w_and1, ↓w_and, ↓w_or1, ↓w_orc, ↓w_tnt, ↓w_tan, ↓w_tor, ↓w_ta1, ↓w_ta, ↓w_to1, ↓w_to, ↓w_tcmp, ↓w_tchn, ↓w_tvar, ↓w_town, ↓w_tcst, ↓w_tidx, ↓w_tbin, ↓w_tslc, ↓w_tcall, ↓w_tcallK, ↓w_tbi, ↓w_tisi, ↓w_tgen, ↓w_disp, ↓w_comp, ↓w_list, ↓w_sorted, ↓w_seq, ↓w_rng1, ↓w_rng2, ↓w_enum, ↓w_zip, ↓w_rev, ↓w_set, ↓w_setL, ↓w_setD, ↓w_pat, ↓w_par2, ↓w_aug, ↓w_augI, ↓w_putI, ↓w_putO, ↓w_augO, ↓w_app, ↓w_expr, ↓w_ret, ↓w_retN, ↓w_iff, ↓w_whil, ↓w_forr, ↓w_brk, ↓w_cont, ↓w_pass, ↓w_frz, ↓w_snil, ↓w_scons, ↓bps_s, add_ii, add_tt, add_ll, sub_ii, lt_ii, le_ii, gt_ii, ge_ii, eq_ii, ne_ii, is_n, isnt_n, is_bb, isnt_bb, isNon_i, isNon_b, isNon_t, isNon_l, isNon_n, tru_b, tru_i, tru_t, tru_l, tru_n, len_t, len_l, len_s, len_d, bi_len, bi_abs, bi_int, bi_intb, bi_tupt, bi_tupl, bi_min, bi_max, bi_sum, it_t, it_l, it_s, li_l, list_t, list_l, list_s, sl_t, sl_l, sl_s, ty_ii, ty_ib, ty_in, ty_bi, ty_bb, ty_bn, bp_nm, bp_tt, bp_tl, bps_0, op_add, op_sub, op_mul, op_fdiv, op_mod, op_pow, cm_eq, cm_ne, cm_lt, cm_le, cm_gt, cm_ge, cm_is, cm_isnt, cm_in, cm_notin, cd_n, cd_b, cd_i, cd_s, wp_0, wp_s, oq_rt, oq_nx, ol_nx, ol_ct, ol_bk, ol_rt, mod_pos, fdiv_pos, mul_l, mul_r, varS_0, varS_s, lookS_0, lookS_s, ownS_0v, ownS_0, ownS_0d, ownS_s, setS_0, setS_s, set_0, set_s, deref_int, deref_bl, deref_non, deref_str, deref_tup, deref_lst, deref_scr, deref_dct, deref_ref0, isCell_ref0, restO_nx, restO_rt, restO_bk, restO_ct, szl, idx_tup0, idx_tup1, idx_tup2, idx_tup3, idx_tup4, idx_tup5, idx_tup6, idx_tup7, idx_tup8, idx_tup9, idx_lst0, idx_lst1, idx_lst2, idx_lst3, idx_lst4, idx_lst5, idx_lst6, idx_lst7, idx_lst8, idx_lst9, Int.reduceLT, Int.reduceLE, Int.reduceNeg, Int.reducePow, and_self, permD, List.getElem?_cons_zero, List.getElem?_cons_succ, Option.bind_some, Option.map_some, startS, List.map_cons, List.map_nil, List.replicate, List.cons_append, List.nil_append, List.append_nil, List.length_cons, List.length_nil, decide_eq_true_eq, Bool.not_eq_true', decide_eq_false_iff_not, Nat.reduceAdd, Nat.zero_add, Nat.reduceLeDiff, Nat.reduceLT, Nat.reduceSub, if_true, if_false, Bool.false_eq_true, ↓reduceIte, Df.fd]
    exact q _ hs'
  · rw [rng_map] at hx
    obtain ⟨i, hi, rfl⟩ := List.mem_map.mp hx
    rw [List.mem_range] at hi
    exact ⟨i, rfl, by omega⟩
end
end PI.K01

set_option Elab.async false
set_option linter.all false
set_option maxRecDepth 100000
set_option maxHeartbeats 400000
set_option autoImplicit false
namespace PI.K01
open PySem PySem.Spec PyProof.Rows L2 PI
def gpaceD (p : Int × List Int × Int) : D := .tup [.tup [.int p.1, .tup (p.2.1.map .int)], .int p.2.2]
def gmodeD (ps : List (Int × List Int × Int)) (l s : Int) (ns : List Int) (r : Int) (ms : List Int) (rate f : Int) : D := .tup [.tup (ps.map gpaceD), .int l, tabD s ns, tabD r ms, .int rate, .int f]
def evenB (ps : List (Int × List Int × Int)) (ns : List Int) (rate : Int) : Bool := decide (rate = 0) && decide (ns.length ≤ 5) && ps.all fun p => p.2.1.isEmpty
theorem allL_map {α : Type} {f : D → PH → R1 (Option D)} {c : α → D} {g : α → Bool} {h : PH} : ∀ {ps : List α}, (∀ p ∈ ps, f (c p) h = some (some (.bl (g p)), h)) → allL f false (ps.map c) h = some (ps.all g, h)
  | [], _ => by rw [List.map_nil]; unfold allL; rfl
  | p :: r, hf => by
    rw [List.map_cons]
    unfold allL
    rw [hf p (List.mem_cons_self ..), Option.bind_some]
    show (if g p = false then some (false, h) else allL f false (r.map c) h) = _
    cases e : g p with
    | false => simp [e]
    | true => simp only [Bool.true_eq_false, if_false]; rw [allL_map fun q hq => hf q (List.mem_cons_of_mem _ hq)]; simp [e]
theorem pt_ints (ns : List Int) : PT 1 (.tup (ns.map .int)) := fun x hx => by
  obtain ⟨i, _, rfl⟩ := List.mem_map.mp hx
  exact trivial
section
variable {n : Nat} {h : PH} {Q : D × PH → Prop}
theorem iseven_W {e g t x : D} {ms : List D} {k : Int} {ps : List (Int × List Int × Int)} {l s : Int} {ns : List Int} {r : Int} {rs : List Int} {rate f : Int} (hk : idxD (.tup ms) (.int k) = some (gmodeD ps l s ns r rs rate f)) (q : Q (.bl (evenB ps ns rate), h)) : W (call T (n + 1) 3 [.tup [e, g, t, .tup ms, x], .int k] h) Q := by
  refine W_call (f := f_is_even.fd) rfl rfl ?_
  have hlen : ((ns.map D.int).length : Int) = ns.length := by rw [List.length_map]
  simp only [f_is_even, b3, hk, ↓W_some, ↓W_bind, ↓W_map, ↓w_var, ↓w_own, ↓w_cst, ↓w_tup, ↓w_ofL, ↓w_celL, ↓w_neg, ↓w_bin, ↓w_cmp, ↓w_chn, ↓w_nt, ↓w_an, ↓w_or, ↓w_ite, ↓w_idx, ↓w_slc, ↓w_call, ↓w_callK, ↓w_bi, ↓w_isi, ↓w_gall, ↓w_gany, ↓w_gsum, ↓w_gtup, ↓w_genF, ↓w_nil, ↓w_cons, ↓w_onone, ↓w_osome, ↓w_otnone, ↓w_otsome, ↓w_and1, ↓w_and, ↓w_or1, ↓w_orc, ↓w_tnt, ↓w_tan, ↓w_tor, ↓w_ta1, ↓w_ta, ↓w_to1, ↓w_to, ↓w_tcmp, ↓w_tchn, ↓w_tvar, ↓w_town, ↓w_tcst, ↓w_tidx, ↓w_tbin, ↓w_tslc, ↓w_tcall, ↓w_tcallK, ↓w_tbi, ↓w_tisi, ↓w_tgen, ↓w_disp, ↓w_comp, ↓w_list, ↓w_sorted, ↓w_seq, ↓w_rng1, ↓w_rng2, ↓w_enum, ↓w_zip, ↓w_rev, ↓w_set, ↓w_setL, ↓w_setD, ↓w_pat, ↓w_par2, ↓w_aug, ↓w_augI, ↓w_putI, ↓w_putO, ↓w_augO, ↓w_app, ↓w_expr, ↓w_ret, ↓w_retN, ↓w_iff, ↓w_whil, ↓w_forr, ↓w_brk, ↓w_cont, ↓w_pass, ↓w_frz, ↓w_snil, ↓w_scons, ↓bps_s, add_ii, add_tt, add_ll, sub_ii, lt_ii, le_ii, gt_ii, ge_ii, eq_ii, ne_ii, is_n, isnt_n, is_bb, isnt_bb, isNon_i, isNon_b, isNon_t, isNon_l, isNon_n, tru_b, tru_i, tru_t, tru_l, tru_n, len_t, len_l, len_s, len_d, bi_len, bi_abs, bi_int, bi_intb, bi_tupt, bi_tupl, bi_min, bi_max, bi_sum, it_t, it_l, it_s, li_l, list_t, list_l, list_s, sl_t, sl_l, sl_s, ty_ii, ty_ib, ty_in, ty_bi, ty_bb, ty_bn, bp_nm, bp_tt, bp_tl, bps_0, op_add, op_sub, op_mul, op_fdiv, op_mod, op_pow, cm_eq, cm_ne, cm_lt, cm_le, cm_gt, cm_ge, cm_is, cm_isnt, cm_in, cm_notin, cd_n, cd_b, cd_i, cd_s, wp_0, wp_s, oq_rt, oq_nx, ol_nx, ol_ct, ol_bk, ol_rt, mod_pos, fdiv_pos, mul_l, mul_r, varS_0, varS_s, lookS_0, lookS_s, ownS_0v, ownS_0, ownS_0d, ownS_s, setS_0, setS_s, set_0, set_s, deref_int, deref_bl, deref_non, deref_str, deref_tup, deref_lst, deref_scr, deref_dct, deref_ref0, isCell_ref0, restO_nx, restO_rt, restO_bk, restO_ct, szl, idx_tup0, idx_tup1, idx_tup2, idx_tup3, idx_tup4, idx_tup5, idx_tup6, idx_tup7, idx_tup8, idx_tup9, idx_lst0, idx_lst1, idx_lst2, idx_lst3, idx_lst4, idx_lst5, idx_lst6, idx_lst7, idx_lst8, idx_lst9, not_true_eq_false, not_false_eq_true, Int.reduceLT, Int.reduceLE, Int.reduceNeg, Int.reducePow, and_self, permD, List.getElem?_cons_zero, List.getElem?_cons_succ, Option.bind_some, Option.map_some, startS, List.map_cons, List.map_nil, List.replicate, List.cons_append, List.nil_append, List.append_nil, List.length_cons, List.length_nil, decide_eq_true_eq, Bool.not_eq_true', decide_eq_false_iff_not, Nat.reduceAdd, Nat.zero_add, Nat.reduceLeDiff, Nat.reduceLT, Nat.reduceSub, if_true, if_false, Bool.false_eq_true, ↓reduceIte, Df.fd]
  simp only [gmodeD, tabD, ↓W_some, ↓W_bind, ↓W_map, ↓w_var, ↓w_own, ↓w_cst, ↓w_tup, ↓w_ofL, ↓w_celL, ↓w_neg, ↓w_bin, ↓w_cmp, ↓w_chn, ↓w_nt, ↓w_an, ↓w_or, ↓w_ite, ↓w_idx, ↓w_slc, ↓w_call, ↓w_callK, ↓w_bi, ↓w_isi, ↓w_gall, ↓w_gany, ↓w_gsum, ↓w_gtup, ↓w_genF, ↓w_nil, ↓w_cons, ↓w_onone, ↓w_osome, ↓w_otnone, ↓w_otsome, ↓w_and1, ↓w_and, ↓w_or1, ↓w_orc, ↓w_tnt, ↓w_tan, ↓w_tor, ↓w_ta1, ↓w_ta, ↓w_to1, ↓w_to, ↓w_tcmp, ↓w_tchn, ↓w_tvar, ↓w_town, ↓w_tcst, ↓w_tidx, ↓w_tbin, ↓w_tslc, ↓w_tcall, ↓w_tcallK, ↓w_tbi, ↓w_tisi, ↓w_tgen, ↓w_disp, ↓w_comp, ↓w_list, ↓w_sorted, ↓w_seq, ↓w_rng1, ↓w_rng2, ↓w_enum, ↓w_zip, ↓w_rev, ↓w_set, ↓w_setL, ↓w_setD, ↓w_pat, ↓w_par2, ↓w_aug, ↓w_augI, ↓w_putI, ↓w_putO, ↓w_augO, ↓w_app, ↓w_expr, ↓w_ret, ↓w_retN, ↓w_iff, ↓w_whil, ↓w_forr, ↓w_brk, ↓w_cont, ↓w_pass, ↓w_frz, ↓w_snil, ↓w_scons, ↓bps_s, add_ii, add_tt, add_ll, sub_ii, lt_ii, le_ii, gt_ii, ge_ii, eq_ii, ne_ii, is_n, isnt_n, is_bb, isnt_bb, isNon_i, isNon_b, isNon_t, isNon_l, isNon_n, tru_b, tru_i, tru_t, tru_l, tru_n, len_t, len_l, len_s, len_d, bi_len, bi_abs, bi_int, bi_intb, bi_tupt, bi_tupl, bi_min, bi_max, bi_sum, it_t, it_l, it_s, li_l, list_t, list_l, list_s, sl_t, sl_l, sl_s, ty_ii, ty_ib, ty_in, ty_bi, ty_bb, ty_bn, bp_nm, bp_tt, bp_tl, bps_0, op_add, op_sub, op_mul, op_fdiv, op_mod, op_pow, cm_eq, cm_ne, cm_lt, cm_le, cm_gt, cm_ge, cm_is, cm_isnt, cm_in, cm_notin, cd_n, cd_b, cd_i, cd_s, wp_0, wp_s, oq_rt, oq_nx, ol_nx, ol_ct, ol_bk, ol_rt, mod_pos, fdiv_pos, mul_l, mul_r, varS_0, varS_s, lookS_0, lookS_s, ownS_0v, ownS_0, ownS_0d, ownS_s, setS_0, setS_s, set_0, set_s, deref_int, deref_bl, deref_non, deref_str, deref_tup, deref_lst, deref_scr, deref_dct, deref_ref0, isCell_ref0, restO_nx, restO_rt, restO_bk, restO_ct, szl, idx_tup0, idx_tup1, idx_tup2, idx_tup3, idx_tup4, idx_tup5, idx_tup6, idx_tup7, idx_tup8, idx_tup9, idx_lst0, idx_lst1, idx_lst2, idx_lst3, idx_lst4, idx_lst5, idx_lst6, idx_lst7, idx_lst8, idx_lst9, not_true_eq_false, not_false_eq_true, Int.reduceLT, Int.reduceLE, Int.reduceNeg, Int.reducePow, and_self, permD, List.getElem?_cons_zero, List.getElem?_cons_succ, Option.bind_some, Option.map_some, startS, List.map_cons, List.map_nil, List.replicate, List.cons_append, List.nil_append, List.append_nil, List.length_cons, List.length_nil, decide_eq_true_eq, Bool.not_eq_true', decide_eq_false_iff_not, Nat.reduceAdd, Nat.zero_add, Nat.reduceLeDiff, Nat.reduceLT, Nat.reduceSub, if_true, if_false, Bool.false_eq_true, ↓reduceIte, Df.fd]
  by_cases c : rate = 0
  · subst c
    by_cases c2 : (5 : Int) < ns.length
    · have e1 : evenB ps ns 0 = false := by
        unfold evenB
        rw [decide_eq_false (show ¬ ns.length ≤ 5 by omega), Bool.and_false, Bool.false_and]
      simp only [c2, hlen, decide_true, Bool.not_true, ↓W_some, ↓W_bind, ↓W_map, ↓w_var, ↓w_own, ↓w_cst, ↓w_tup, ↓w_ofL, ↓w_celL, ↓w_neg, ↓w_bin, ↓w_cmp, ↓w_chn, ↓w_nt, ↓w_an, ↓w_or, ↓w_ite, ↓w_idx, ↓w_slc, ↓w_call, ↓w_callK, ↓w_bi, ↓w_isi, ↓w_gall, ↓w_gany, ↓w_gsum, ↓w_gtup, ↓w_genF, ↓w_nil, ↓w_cons, ↓w_onone, ↓w_osome, ↓w_otnone, ↓w_otsome, ↓w_and1, ↓w_and, ↓w_or1, ↓w_orc, ↓w_tnt, ↓w_tan, ↓w_tor, ↓w_ta1, ↓w_ta, ↓w_to1, ↓w_to, ↓w_tcmp, ↓w_tchn, ↓w_tvar, ↓w_town, ↓w_tcst, ↓w_tidx, ↓w_tbin, ↓w_tslc, ↓w_tcall, ↓w_tcallK, ↓w_tbi, ↓w_tisi, ↓w_tgen, ↓w_disp, ↓w_comp, ↓w_list, ↓w_sorted, ↓w_seq, ↓w_rng1, ↓w_rng2, ↓w_enum, ↓w_zip, ↓w_rev, ↓w_set, ↓w_setL, ↓w_setD, ↓w_pat, ↓w_par2, ↓w_aug, ↓w_augI, ↓w_putI, ↓w_putO, ↓w_augO, ↓w_app, ↓w_expr, ↓w_ret, ↓w_retN, ↓w_iff, ↓w_whil, ↓w_forr, ↓w_brk, ↓w_cont, ↓w_pass, ↓w_frz, ↓w_snil, ↓w_scons, ↓bps_s, add_ii, add_tt, add_ll, sub_ii, lt_ii, le_ii, gt_ii, ge_ii, eq_ii, ne_ii, is_n, isnt_n, is_bb, isnt_bb, isNon_i, isNon_b, isNon_t, isNon_l, isNon_n, tru_b, tru_i, tru_t, tru_l, tru_n, len_t, len_l, len_s, len_d, bi_len, bi_abs, bi_int, bi_intb, bi_tupt, bi_tupl, bi_min, bi_max, bi_sum, it_t, it_l, it_s, li_l, list_t, list_l, list_s, sl_t, sl_l, sl_s, ty_ii, ty_ib, ty_in, ty_bi, ty_bb, ty_bn, bp_nm, bp_tt, bp_tl, bps_0, op_add, op_sub, op_mul, op_fdiv, op_mod, op_pow, cm_eq, cm_ne, cm_lt, cm_le, cm_gt, cm_ge, cm_is, cm_isnt, cm_in, cm_notin, cd_n, cd_b, cd_i, cd_s, wp_0, wp_s, oq_rt, oq_nx, ol_nx, ol_ct, ol_bk, ol_rt, mod_pos, fdiv_pos, mul_l, mul_r, varS_0, varS_s, lookS_0, lookS_s, ownS_0v, ownS_0, ownS_0d, ownS_s, setS_0, setS_s, set_0, set_s, deref_int, deref_bl, deref_non, deref_str, deref_tup, deref_lst, deref_scr, deref_dct, deref_ref0, isCell_ref0, restO_nx, restO_rt, restO_bk, restO_ct, szl, idx_tup0, idx_tup1, idx_tup2, idx_tup3, idx_tup4, idx_tup5, idx_tup6, idx_tup7, idx_tup8, idx_tup9, idx_lst0, idx_lst1, idx_lst2, idx_lst3, idx_lst4, idx_lst5, idx_lst6, idx_lst7, idx_lst8, idx_lst9, not_true_eq_false, not_false_eq_true, Int.reduceLT, Int.reduceLE, Int.reduceNeg, Int.reducePow, and_self, permD, List.getElem?_cons_zero, List.getElem?_cons_succ, Option.bind_some, Option.map_some, startS, List.map_cons, List.map_nil, List.replicate, List.cons_append, List.nil_append, List.append_nil, List.length_cons, List.length_nil, decide_eq_true_eq, Bool.not_eq_true', decide_eq_false_iff_not, Nat.reduceAdd, Nat.zero_add, Nat.reduceLeDiff, Nat.reduceLT, Nat.reduceSub, if_true, if_false, Bool.false_eq_true, ↓reduceIte, Df.fd]
      rw [e1] at q
      exact q
    · simp only [c2, hlen, decide_true, decide_false, Bool.not_true, ↓W_some, ↓W_bind, ↓W_map, ↓w_var, ↓w_own, ↓w_cst, ↓w_tup, ↓w_ofL, ↓w_celL, ↓w_neg, ↓w_bin, ↓w_cmp, ↓w_chn, ↓w_nt, ↓w_an, ↓w_or, ↓w_ite, ↓w_idx, ↓w_slc, ↓w_call, ↓w_callK, ↓w_bi, ↓w_isi, ↓w_gall, ↓w_gany, ↓w_gsum, ↓w_gtup, ↓w_genF, ↓w_nil, ↓w_cons, ↓w_onone, ↓w_osome, ↓w_otnone, ↓w_otsome, ↓w_and1, ↓w_and, ↓w_or1, ↓w_orc, ↓w_tnt, ↓w_tan, ↓w_tor, ↓w_ta1, ↓w_ta, ↓w_to1, ↓w_to, ↓w_tcmp, ↓w_tchn, ↓w_tvar, ↓w_town, ↓w_tcst, ↓w_tidx, ↓w_tbin, ↓w_tslc, ↓w_tcall, ↓w_tcallK, ↓w_tbi, ↓w_tisi, ↓w_tgen, ↓w_disp, ↓w_comp, ↓w_list, ↓w_sorted, ↓w_seq, ↓w_rng1, ↓w_rng2, ↓w_enum, ↓w_zip, ↓w_rev, ↓w_set, ↓w_setL, ↓w_setD, ↓w_pat, ↓w_par2, ↓w_aug, ↓w_augI, ↓w_putI, ↓w_putO, ↓w_augO, ↓w_app, ↓w_expr, ↓w_ret, ↓w_retN, ↓w_iff, ↓w_whil, ↓w_forr, ↓w_brk, ↓w_cont, ↓w_pass, ↓w_frz, ↓w_snil, ↓w_scons, ↓bps_s, add_ii, add_tt, add_ll, sub_ii, lt_ii, le_ii, gt_ii, ge_ii, eq_ii, ne_ii, is_n, isnt_n, is_bb, isnt_bb, isNon_i, isNon_b, isNon_t, isNon_l, isNon_n, tru_b, tru_i, tru_t, tru_l, tru_n, len_t, len_l, len_s, len_d, bi_len, bi_abs, bi_int, bi_intb, bi_tupt, bi_tupl, bi_min, bi_max, bi_sum, it_t, it_l, it_s, li_l, list_t, list_l, list_s, sl_t, sl_l, sl_s, ty_ii, ty_ib, ty_in, ty_bi, ty_bb, ty_bn, bp_nm, bp_tt, bp_tl, bps_0, op_add, op_sub, op_mul, op_fdiv, op_mod, op_pow, cm_eq, cm_ne, cm_lt, cm_le, cm_gt, cm_ge, cm_is, cm_isnt, cm_in, cm_notin, cd_n, cd_b, cd_i, cd_s, wp_0, wp_s, oq_rt, oq_nx, ol_nx, ol_ct, ol_bk, ol_rt, mod_pos, fdiv_pos, mul_l, mul_r, varS_0, varS_s, lookS_0, lookS_s, ownS_0v, ownS_0, ownS_0d, ownS_s, setS_0, setS_s, set_0, set_s, deref_int, deref_bl, deref_non, deref_str, deref_tup, deref_lst, deref_scr, deref_dct, deref_ref0, isCell_ref0, restO_nx, restO_rt, restO_bk, restO_ct, szl, idx_tup0, idx_tup1, idx_tup2, idx_tup3, idx_tup4, idx_tup5, idx_tup6, idx_tup7, idx_tup8, idx_tup9, idx_lst0, idx_lst1, idx_lst2, idx_lst3, idx_lst4, idx_lst5, idx_lst6, idx_lst7, idx_lst8, idx_lst9, not_true_eq_false, not_false_eq_true, Int.reduceLT, Int.reduceLE, Int.reduceNeg, Int.reducePow, and_self, permD, List.getElem?_cons_zero, List.getElem?_cons_succ, Option.bind_some, Option.map_some, startS, List.map_cons, List.map_nil, List.replicate, List.cons_append, List.nil_append, List.append_nil, List.length_cons, List.length_nil, decide_eq_true_eq, Bool.not_eq_true', decide_eq_false_iff_not, Nat.reduceAdd, Nat.zero_add, Nat.reduceLeDiff, Nat.reduceLT, Nat.reduceSub, if_true, if_false, Bool.false_eq_true, ↓reduceIte, Df.fd]
      have ea : allL (genF (call T n) (P.tu [.nm 8, .nm 9]) [8, 9] .none (.cmp .eq (.idx (.var 8) (.cst (.int 1))) (.tup .nil)) [some (.val (.tup [e, g, t, .tup ms, x])), some (.val (.int k)), some (.val (.tup (ps.map gpaceD))), some (.val (.int l)), some (.val (.tup [.int s, .tup (ns.map .int)])), some (.val (.tup [.int r, .tup (rs.map .int)])), some (.val (.int 0)), some (.val (.int f)), none, none]) false (ps.map gpaceD) h = some (ps.all fun p => p.2.1.isEmpty, h) := by
        refine allL_map fun p hp => W.eq ?_
        have e2 : eqD (.tup (p.2.1.map D.int)) (.tup []) = some (.bl p.2.1.isEmpty) := by
          rw [eqD_pt (pt_ints _) (show PT 1 (.tup []) from fun x hx => by cases hx) (by decide)]
          congr 2
          rw [Bool.eq_iff_iff, sameD_iff]
          cases p.2.1 <;> simp
        simp only [gpaceD, e2, ↓W_some, ↓W_bind, ↓W_map, ↓w_var, ↓w_own, ↓w_cst, ↓w_tup, ↓w_ofL, ↓w_celL, ↓w_neg, ↓w_bin, ↓w_cmp, ↓w_chn, ↓w_nt, ↓w_an, ↓w_or, ↓w_ite, ↓w_idx, ↓w_slc, ↓w_call, ↓w_callK, ↓w_bi, ↓w_isi, ↓w_gall, ↓w_gany, ↓w_gsum, ↓w_gtup, ↓w_genF, ↓w_nil, ↓w_cons, ↓w_onone, ↓w_osome, ↓w_otnone, ↓w_otsome, ↓w_and1, ↓w_and, ↓w_or1, ↓w_orc, ↓w_tnt, ↓w_tan, ↓w_tor, ↓w_ta1, ↓w_ta, ↓w_to1, ↓w_to, ↓w_tcmp, ↓w_tchn, ↓w_tvar, ↓w_town, ↓w_tcst, ↓w_tidx, ↓w_tbin, ↓w_tslc, ↓w_tcall, ↓w_tcallK, ↓w_tbi, ↓w_tisi, ↓w_tgen, ↓w_disp, ↓w_comp, ↓w_list, ↓w_sorted, ↓w_seq, ↓w_rng1, ↓w_rng2, ↓w_enum, ↓w_zip, ↓w_rev, ↓w_set, ↓w_setL, ↓w_setD, ↓w_pat, ↓w_par2, ↓w_aug, ↓w_augI, ↓w_putI, ↓w_putO, ↓w_augO, ↓w_app, ↓w_expr, ↓w_ret, ↓w_retN, ↓w_iff, ↓w_whil, ↓w_forr, ↓w_brk, ↓w_cont, ↓w_pass, ↓w_frz, ↓w_snil, ↓w_scons, ↓bps_s, add_ii, add_tt, add_ll, sub_ii, lt_ii, le_ii, gt_ii, ge_ii, eq_ii, ne_ii, is_n, isnt_n, is_bb, isnt_bb, isNon_i, isNon_b, isNon_t, isNon_l, isNon_n, tru_b, tru_i, tru_t, tru_l, tru_n, len_t, len_l, len_s, len_d, bi_len, bi_abs, bi_int, bi_intb, bi_tupt, bi_tupl, bi_min, bi_max, bi_sum, it_t, it_l, it_s, li_l, list_t, list_l, list_s, sl_t, sl_l, sl_s, ty_ii, ty_ib, ty_in, ty_bi, ty_bb, ty_bn, bp_nm, bp_tt, bp_tl, bps_0, op_add, op_sub, op_mul, op_fdiv, op_mod, op_pow, cm_eq, cm_ne, cm_lt, cm_le, cm_gt, cm_ge, cm_is, cm_isnt, cm_in, cm_notin, cd_n, cd_b, cd_i, cd_s, wp_0, wp_s, oq_rt, oq_nx, ol_nx, ol_ct, ol_bk, ol_rt, mod_pos, fdiv_pos, mul_l, mul_r, varS_0, varS_s, lookS_0, lookS_s, ownS_0v, ownS_0, ownS_0d, ownS_s, setS_0, setS_s, set_0, set_s, deref_int, deref_bl, deref_non, deref_str, deref_tup, deref_lst, deref_scr, deref_dct, deref_ref0, isCell_ref0, restO_nx, restO_rt, restO_bk, restO_ct, szl, idx_tup0, idx_tup1, idx_tup2, idx_tup3, idx_tup4, idx_tup5, idx_tup6, idx_tup7, idx_tup8, idx_tup9, idx_lst0, idx_lst1, idx_lst2, idx_lst3, idx_lst4, idx_lst5, idx_lst6, idx_lst7, idx_lst8, idx_lst9, not_true_eq_false, not_false_eq_true, Int.reduceLT, Int.reduceLE, Int.reduceNeg, Int.reducePow, and_self, permD, List.getElem?_cons_zero, List.getElem?_cons_succ, Option.bind_some, Option.map_some, startS, List.map_cons, List.map_nil, List.replicate, List.cons_append, List.nil_append, List.append_nil, List.length_cons, List.length_nil, decide_eq_true_eq, Bool.not_eq_true', decide_eq_false_iff_not, Nat.reduceAdd, Nat.zero_add, Nat.reduceLeDiff, Nat.reduceLT, Nat.reduceSub, if_true, if_false, Bool.false_eq_true, ↓reduceIte, Df.fd]
      rw [ea]
      simp only [↓W_some, ↓W_bind, ↓W_map, ↓w_var, ↓w_own, ↓w_cst, ↓w_tup, ↓w_ofL, ↓w_celL, ↓w_neg, ↓w_bin, ↓w_cmp, ↓w_chn, ↓w_nt, ↓w_an, ↓w_or, ↓w_ite, ↓w_idx, ↓w_slc, ↓w_call, ↓w_callK, ↓w_bi, ↓w_isi, ↓w_gall, ↓w_gany, ↓w_gsum, ↓w_gtup, ↓w_genF, ↓w_nil, ↓w_cons, ↓w_onone, ↓w_osome, ↓w_otnone, ↓w_otsome, ↓w_and1, ↓w_and, ↓w_or1, ↓w_orc, ↓w_tnt, ↓w_tan, ↓w_tor, ↓w_ta1, ↓w_ta, ↓w_to1, ↓w_to, ↓w_tcmp, ↓w_tchn, ↓w_tvar, ↓w_town, ↓w_tcst, ↓w_tidx, ↓w_tbin, ↓w_tslc, ↓w_tcall, ↓w_tcallK, ↓w_tbi, ↓w_tisi, ↓w_tgen, ↓w_disp, ↓w_comp, ↓w_list, ↓w_sorted, ↓w_seq, ↓w_rng1, ↓w_rng2, ↓w_enum, ↓w_zip, ↓w_rev, ↓w_set, ↓w_setL, ↓w_setD, ↓w_pat, ↓w_par2, ↓w_aug, ↓w_augI, ↓w_putI, ↓w_putO, ↓w_augO, ↓w_app, ↓w_expr, ↓w_ret, ↓w_retN, ↓w_iff, ↓w_whil, ↓w_forr, ↓w_brk, ↓w_cont, ↓w_pass, ↓w_frz, ↓w_snil, ↓w_scons, ↓bps_s, add_ii, add_tt, add_ll, sub_ii, lt_ii, le_ii, gt_ii, ge_ii, eq_ii, ne_ii, is_n, isnt_n, is_bb, isnt_bb, isNon_i, isNon_b, isNon_t, isNon_l, isNon_n, tru_b, tru_i, tru_t, tru_l, tru_n, len_t, len_l, len_s, len_d, bi_len, bi_abs, bi_int, bi_intb, bi_tupt, bi_tupl, bi_min, bi_max, bi_sum, it_t, it_l, it_s, li_l, list_t, list_l, list_s, sl_t, sl_l, sl_s, ty_ii, ty_ib, ty_in, ty_bi, ty_bb, ty_bn, bp_nm, bp_tt, bp_tl, bps_0, op_add, op_sub, op_mul, op_fdiv, op_mod, op_pow, cm_eq, cm_ne, cm_lt, cm_le, cm_gt, cm_ge, cm_is, cm_isnt, cm_in, cm_notin, cd_n, cd_b, cd_i, cd_s, wp_0, wp_s, oq_rt, oq_nx, ol_nx, ol_ct, ol_bk, ol_rt, mod_pos, fdiv_pos, mul_l, mul_r, varS_0, varS_s, lookS_0, lookS_s, ownS_0v, ownS_0, ownS_0d, ownS_s, setS_0, setS_s, set_0, set_s, deref_int, deref_bl, deref_non, deref_str, deref_tup, deref_lst, deref_scr, deref_dct, deref_ref0, isCell_ref0, restO_nx, restO_rt, restO_bk, restO_ct, szl, idx_tup0, idx_tup1, idx_tup2, idx_tup3, idx_tup4, idx_tup5, idx_tup6, idx_tup7, idx_tup8, idx_tup9, idx_lst0, idx_lst1, idx_lst2, idx_lst3, idx_lst4, idx_lst5, idx_lst6, idx_lst7, idx_lst8, idx_lst9, not_true_eq_false, not_false_eq_true, Int.reduceLT, Int.reduceLE, Int.reduceNeg, Int.reducePow, and_self, permD, List.getElem?_cons_zero, List.getElem?_cons_succ, Option.bind_some, Option.map_some, startS, List.map_cons, List.map_nil, List.replicate, List.cons_append, List.nil_append, List.append_nil, List.length_cons, List.length_nil, decide_eq_true_eq, Bool.not_eq_true', decide_eq_false_iff_not, Nat.reduceAdd, Nat.zero_add, Nat.reduceLeDiff, Nat.reduceLT, Nat.reduceSub, if_true, if_false, Bool.false_eq_true, ↓reduceIte, Df.fd]
      have e1 : evenB ps ns 0 = ps.all fun p => p.2.1.isEmpty := by
        unfold evenB
        rw [decide_eq_true (show ns.length ≤ 5 by omega)]
        simp
      rw [e1] at q
      exact q
  · have e1 : evenB ps ns rate = false := by
      unfold evenB
      rw [decide_eq_false c, Bool.false_and, Bool.false_and]
    simp only [c, decide_false, Bool.not_false, ↓W_some, ↓W_bind, ↓W_map, ↓w_var, ↓w_own, ↓w_cst, ↓w_tup, ↓w_ofL, ↓w_celL, ↓w_neg, ↓w_bin, ↓w_cmp, ↓w_chn, ↓w_nt, ↓w_an, ↓w_or, ↓w_ite, ↓w_idx, ↓w_slc, ↓w_call, ↓w_callK, ↓w_bi, ↓w_isi, ↓w_gall, ↓w_gany, ↓w_gsum, ↓w_gtup, ↓w_genF, ↓w_nil, ↓w_cons, ↓w_onone, ↓w_osome, ↓w_otnone, ↓w_otsome, ↓w_and1, ↓w_and, ↓w_or1, ↓w_orc, ↓w_tnt, ↓w_tan, ↓w_tor, ↓w_ta1, ↓w_ta, ↓w_to1, ↓w_to, ↓w_tcmp, ↓w_tchn, ↓w_tvar, ↓w_town, ↓w_tcst, ↓w_tidx, ↓w_tbin, ↓w_tslc, ↓w_tcall, ↓w_tcallK, ↓w_tbi, ↓w_tisi, ↓w_tgen, ↓w_disp, ↓w_comp, ↓w_list, ↓w_sorted, ↓w_seq, ↓w_rng1, ↓w_rng2, ↓w_enum, ↓w_zip, ↓w_rev, ↓w_set, ↓w_setL, ↓w_setD, ↓w_pat, ↓w_par2, ↓w_aug, ↓w_augI, ↓w_putI, ↓w_putO, ↓w_augO, ↓w_app, ↓w_expr, ↓w_ret, ↓w_retN, ↓w_iff, ↓w_whil, ↓w_forr, ↓w_brk, ↓w_cont, ↓w_pass, ↓w_frz, ↓w_snil, ↓w_scons, ↓bps_s, add_ii, add_tt, add_ll, sub_ii, lt_ii, le_ii, gt_ii, ge_ii, eq_ii, ne_ii, is_n, isnt_n, is_bb, isnt_bb, isNon_i, isNon_b, isNon_t, isNon_l, isNon_n, tru_b, tru_i, tru_t, tru_l, tru_n, len_t, len_l, len_s, len_d, bi_len, bi_abs, bi_int, bi_intb, bi_tupt, bi_tupl, bi_min, bi_max, bi_sum, it_t, it_l, it_s, li_l, list_t, list_l, list_s, sl_t, sl_l, sl_s, ty_ii, ty_ib, ty_in, ty_bi, ty_bb, ty_bn, bp_nm, bp_tt, bp_tl, bps_0, op_add, op_sub, op_mul, op_fdiv, op_mod, op_pow, cm_eq, cm_ne, cm_lt, cm_le, cm_gt, cm_ge, cm_is, cm_isnt, cm_in, cm_notin, cd_n, cd_b, cd_i, cd_s, wp_0, wp_s, oq_rt, oq_nx, ol_nx, ol_ct, ol_bk, ol_rt, mod_pos, fdiv_pos, mul_l, mul_r, varS_0, varS_s, lookS_0, lookS_s, ownS_0v, ownS_0, ownS_0d, ownS_s, setS_0, setS_s, set_0, set_s, deref_int, deref_bl, deref_non, deref_str, deref_tup, deref_lst, deref_scr, deref_dct, deref_ref0, isCell_ref0, restO_nx, restO_rt, restO_bk, restO_ct, szl, idx_tup0, idx_tup1, idx_tup2, idx_tup3, idx_tup4, idx_tup5, idx_tup6, idx_tup7, idx_tup8, idx_tup9, idx_lst0, idx_lst1, idx_lst2, idx_lst3, idx_lst4, idx_lst5, idx_lst6, idx_lst7, idx_lst8, idx_lst9, not_true_eq_false, not_false_eq_true, Int.reduceLT, Int.reduceLE, Int.reduceNeg, Int.reducePow, and_self, permD, List.getElem?_cons_zero, List.getElem?_cons_succ, Option.bind_some, Option.map_some, startS, List.map_cons, List.map_nil, List.replicate, List.cons_append, List.nil_append, List.append_nil, List.length_cons, List.length_nil, decide_eq_true_eq, Bool.not_eq_true', decide_eq_false_iff_not, Nat.reduceAdd, Nat.zero_add, Nat.reduceLeDiff, Nat.reduceLT, Nat.reduceSub, if_true, if_false, Bool.false_eq_true, ↓reduceIte, Df.fd]
    rw [e1] at q
    exact q
end
end PI.K01

set_option Elab.async false
set_option linter.all false
set_option maxRecDepth 100000
set_option maxHeartbeats 1000000
set_option autoImplicit false
namespace PI.K01
open PySem PySem.Spec PyProof.Rows L2 PI
/-- a mode with what is due of it -/
def Due (x : D) : Prop := ∃ ps l s ns r rs rate f, x = .lst [gmodeD ps l s ns r rs rate f, .bl (evenB ps ns rate)]
def up (p : Int × Int) : Int × List Int × Int := (p.1, [], p.2)
theorem map_up (ps : List (Int × Int)) : ps.map paceD = (ps.map up).map gpaceD := by
  rw [List.map_map]; rfl
theorem all_up (ps : List (Int × Int)) : ((ps.map up).all fun p => p.2.1.isEmpty) = true := by
  rw [List.all_map]; simp [up]
theorem due_mk {P S R : D} {b : Bool} {l rate f : Int} (ps : List (Int × List Int × Int)) (s : Int) (ns : List Int) (r : Int) (rs : List Int) (h1 : P = .tup (ps.map gpaceD)) (h2 : S = tabD s ns) (h3 : R = tabD r rs) (h4 : evenB ps ns rate = b) : Due (.lst [.tup [P, .int l, S, R, .int rate, .int f], .bl b]) := by
  subst h1 h2 h3 h4
  exact ⟨ps, l, s, ns, r, rs, rate, f, rfl⟩
theorem add_l22 {x0 x1 y0 y1 : D} : addD (.lst [x0, x1]) (.lst [y0, y1]) = some (.lst [x0, x1, y0, y1]) := add_ll (by rw [szl]; exact Nat.le_of_ble_eq_true rfl)
theorem add_l42 {x0 x1 x2 x3 y0 y1 : D} : addD (.lst [x0, x1, x2, x3]) (.lst [y0, y1]) = some (.lst [x0, x1, x2, x3, y0, y1]) := add_ll (by rw [szl]; exact Nat.le_of_ble_eq_true rfl)
theorem add_l61 {x0 x1 x2 x3 x4 x5 y0 : D} : addD (.lst [x0, x1, x2, x3, x4, x5]) (.lst [y0]) = some (.lst [x0, x1, x2, x3, x4, x5, y0]) := add_ll (by rw [szl]; exact Nat.le_of_ble_eq_true rfl)
theorem add_l72 {x0 x1 x2 x3 x4 x5 x6 y0 y1 : D} : addD (.lst [x0, x1, x2, x3, x4, x5, x6]) (.lst [y0, y1]) = some (.lst [x0, x1, x2, x3, x4, x5, x6, y0, y1]) := add_ll (by rw [szl]; exact Nat.le_of_ble_eq_true rfl)
theorem add_l91 {x0 x1 x2 x3 x4 x5 x6 x7 x8 y0 : D} : addD (.lst [x0, x1, x2, x3, x4, x5, x6, x7, x8]) (.lst [y0]) = some (.lst [x0, x1, x2, x3, x4, x5, x6, x7, x8, y0]) := add_ll (by rw [szl]; exact Nat.le_of_ble_eq_true rfl)
theorem add_t11 {x y z w : D} : addD (.tup [x, y, z]) (.tup [w]) = some (.tup [x, y, z, w]) := add_tt (by rw [szl]; exact Nat.le_of_ble_eq_true rfl)
theorem mul_t3 {p : D} : mulD (.tup [p]) (.int 3) = some (.tup [p, p, p]) := by
  unfold mulD; simp [List.replicate]
theorem mul_t4 {p : D} : mulD (.tup [p]) (.int 4) = some (.tup [p, p, p, p]) := by
  unfold mulD; simp [List.replicate]
section
variable {n : Nat} {h : PH} {Q : D × PH → Prop}
theorem changed_W {bk : D} (hb : EBook bk) (hs : St h) (q : ∀ xs : List D, (∀ x ∈ xs, Due x) → ∀ h', St h' → Q (.lst xs, h')) : W (call T (n + 4) 20 [.ref 0, bk] h) Q := by
  obtain ⟨e, g, t, ms, rfl, e1, eg, g3, tl, tg, ml, ml2, hm⟩ := hb
  refine W_call (f := f_law_changed.fd) rfl rfl ?_
  simp only [f_law_changed, b20, ↓W_some, ↓W_bind, ↓W_map, ↓w_var, ↓w_own, ↓w_cst, ↓w_tup, ↓w_ofL, ↓w_celL, ↓w_neg, ↓w_bin, ↓w_cmp, ↓w_chn, ↓w_nt, ↓w_an, ↓w_or, ↓w_ite, ↓w_idx, ↓w_slc, ↓w_call, ↓w_callK, ↓w_bi, ↓w_isi, ↓w_gall, ↓w_gany, ↓w_gsum, ↓w_gtup, ↓w_genF, ↓w_nil, ↓w_cons, ↓w_onone, ↓w_osome, ↓w_otnone, ↓w_otsome, ↓w_and1, ↓w_and, ↓w_or1, ↓w_orc, ↓w_tnt, ↓w_tan, ↓w_tor, ↓w_ta1, ↓w_ta, ↓w_to1, ↓w_to, ↓w_tcmp, ↓w_tchn, ↓w_tvar, ↓w_town, ↓w_tcst, ↓w_tidx, ↓w_tbin, ↓w_tslc, ↓w_tcall, ↓w_tcallK, ↓w_tbi, ↓w_tisi, ↓w_tgen, ↓w_disp, ↓w_comp, ↓w_list, ↓w_sorted, ↓w_seq, ↓w_rng1, ↓w_rng2, ↓w_enum, ↓w_zip, ↓w_rev, ↓w_set, ↓w_setL, ↓w_setD, ↓w_pat, ↓w_par2, ↓w_aug, ↓w_augI, ↓w_putI, ↓w_putO, ↓w_augO, ↓w_app, ↓w_expr, ↓w_ret, ↓w_retN, ↓w_iff, ↓w_whil, ↓w_forr, ↓w_brk, ↓w_cont, ↓w_pass, ↓w_frz, ↓w_snil, ↓w_scons, ↓bps_s, add_ii, add_tt, add_ll, sub_ii, lt_ii, le_ii, gt_ii, ge_ii, eq_ii, ne_ii, is_n, isnt_n, is_bb, isnt_bb, isNon_i, isNon_b, isNon_t, isNon_l, isNon_n, tru_b, tru_i, tru_t, tru_l, tru_n, len_t, len_l, len_s, len_d, bi_len, bi_abs, bi_int, bi_intb, bi_tupt, bi_tupl, bi_min, bi_max, bi_sum, it_t, it_l, it_s, li_l, list_t, list_l, list_s, sl_t, sl_l, sl_s, ty_ii, ty_ib, ty_in, ty_bi, ty_bb, ty_bn, bp_nm, bp_tt, bp_tl, bps_0, op_add, op_sub, op_mul, op_fdiv, op_mod, op_pow, cm_eq, cm_ne, cm_lt, cm_le, cm_gt, cm_ge, cm_is, cm_isnt, cm_in, cm_notin, cd_n, cd_b, cd_i, cd_s, wp_0, wp_s, oq_rt, oq_nx, ol_nx, ol_ct, ol_bk, ol_rt, mod_pos, fdiv_pos, mul_l, mul_r, varS_0, varS_s, lookS_0, lookS_s, ownS_0v, ownS_0, ownS_0d, ownS_s, setS_0, setS_s, set_0, set_s, deref_int, deref_bl, deref_non, deref_str, deref_tup, deref_lst, deref_scr, deref_dct, deref_ref0, isCell_ref0, restO_nx, restO_rt, restO_bk, restO_ct, szl, idx_tup0, idx_tup1, idx_tup2, idx_tup3, idx_tup4, idx_tup5, idx_tup6, idx_tup7, idx_tup8, idx_tup9, idx_lst0, idx_lst1, idx_lst2, idx_lst3, idx_lst4, idx_lst5, idx_lst6, idx_lst7, idx_lst8, idx_lst9, not_true_eq_false, not_false_eq_true, Int.reduceLT, Int.reduceLE, Int.reduceNeg, Int.reducePow, and_self, permD, List.getElem?_cons_zero, List.getElem?_cons_succ, Option.bind_some, Option.map_some, startS, List.map_cons, List.map_nil, List.replicate, List.cons_append, List.nil_append, List.append_nil, List.length_cons, List.length_nil, decide_eq_true_eq, Bool.not_eq_true', decide_eq_false_iff_not, Nat.reduceAdd, Nat.zero_add, Nat.reduceLeDiff, Nat.reduceLT, Nat.reduceSub, if_true, if_false, Bool.false_eq_true, ↓reduceIte, Df.fd]
  refine pickT_W hs ml (by omega) fun d hd h2 hs2 => ?_
  obtain ⟨ps, l, s, ns, r, rs, f, rfl, p0, p3, n5, r0, rl⟩ := hm d hd
  simp only [modeD, small_of (show (0 : Int) ≤ 6 by decide) (by decide), ↓W_some, ↓W_bind, ↓W_map, ↓w_var, ↓w_own, ↓w_cst, ↓w_tup, ↓w_ofL, ↓w_celL, ↓w_neg, ↓w_bin, ↓w_cmp, ↓w_chn, ↓w_nt, ↓w_an, ↓w_or, ↓w_ite, ↓w_idx, ↓w_slc, ↓w_call, ↓w_callK, ↓w_bi, ↓w_isi, ↓w_gall, ↓w_gany, ↓w_gsum, ↓w_gtup, ↓w_genF, ↓w_nil, ↓w_cons, ↓w_onone, ↓w_osome, ↓w_otnone, ↓w_otsome, ↓w_and1, ↓w_and, ↓w_or1, ↓w_orc, ↓w_tnt, ↓w_tan, ↓w_tor, ↓w_ta1, ↓w_ta, ↓w_to1, ↓w_to, ↓w_tcmp, ↓w_tchn, ↓w_tvar, ↓w_town, ↓w_tcst, ↓w_tidx, ↓w_tbin, ↓w_tslc, ↓w_tcall, ↓w_tcallK, ↓w_tbi, ↓w_tisi, ↓w_tgen, ↓w_disp, ↓w_comp, ↓w_list, ↓w_sorted, ↓w_seq, ↓w_rng1, ↓w_rng2, ↓w_enum, ↓w_zip, ↓w_rev, ↓w_set, ↓w_setL, ↓w_setD, ↓w_pat, ↓w_par2, ↓w_aug, ↓w_augI, ↓w_putI, ↓w_putO, ↓w_augO, ↓w_app, ↓w_expr, ↓w_ret, ↓w_retN, ↓w_iff, ↓w_whil, ↓w_forr, ↓w_brk, ↓w_cont, ↓w_pass, ↓w_frz, ↓w_snil, ↓w_scons, ↓bps_s, add_ii, add_tt, add_ll, sub_ii, lt_ii, le_ii, gt_ii, ge_ii, eq_ii, ne_ii, is_n, isnt_n, is_bb, isnt_bb, isNon_i, isNon_b, isNon_t, isNon_l, isNon_n, tru_b, tru_i, tru_t, tru_l, tru_n, len_t, len_l, len_s, len_d, bi_len, bi_abs, bi_int, bi_intb, bi_tupt, bi_tupl, bi_min, bi_max, bi_sum, it_t, it_l, it_s, li_l, list_t, list_l, list_s, sl_t, sl_l, sl_s, ty_ii, ty_ib, ty_in, ty_bi, ty_bb, ty_bn, bp_nm, bp_tt, bp_tl, bps_0, op_add, op_sub, op_mul, op_fdiv, op_mod, op_pow, cm_eq, cm_ne, cm_lt, cm_le, cm_gt, cm_ge, cm_is, cm_isnt, cm_in, cm_notin, cd_n, cd_b, cd_i, cd_s, wp_0, wp_s, oq_rt, oq_nx, ol_nx, ol_ct, ol_bk, ol_rt, mod_pos, fdiv_pos, mul_l, mul_r, varS_0, varS_s, lookS_0, lookS_s, ownS_0v, ownS_0, ownS_0d, ownS_s, setS_0, setS_s, set_0, set_s, deref_int, deref_bl, deref_non, deref_str, deref_tup, deref_lst, deref_scr, deref_dct, deref_ref0, isCell_ref0, restO_nx, restO_rt, restO_bk, restO_ct, szl, idx_tup0, idx_tup1, idx_tup2, idx_tup3, idx_tup4, idx_tup5, idx_tup6, idx_tup7, idx_tup8, idx_tup9, idx_lst0, idx_lst1, idx_lst2, idx_lst3, idx_lst4, idx_lst5, idx_lst6, idx_lst7, idx_lst8, idx_lst9, not_true_eq_false, not_false_eq_true, Int.reduceLT, Int.reduceLE, Int.reduceNeg, Int.reducePow, and_self, permD, List.getElem?_cons_zero, List.getElem?_cons_succ, Option.bind_some, Option.map_some, startS, List.map_cons, List.map_nil, List.replicate, List.cons_append, List.nil_append, List.append_nil, List.length_cons, List.length_nil, decide_eq_true_eq, Bool.not_eq_true', decide_eq_false_iff_not, Nat.reduceAdd, Nat.zero_add, Nat.reduceLeDiff, Nat.reduceLT, Nat.reduceSub, if_true, if_false, Bool.false_eq_true, ↓reduceIte, Df.fd]
  refine W_compL (fun r' acc h' => h' = h2 ∧ ∃ as : List Int, acc = as.map .int ∧ as.length + r'.length = 6 ∧ ∀ x ∈ r', ∃ i : Int, x = .int i) ?_ ?_ (by simp only [rng_len, List.length_nil, szl]; omega) ⟨rfl, [], rfl, by simp only [rng_len, List.length_nil]; omega, fun x hx => rng_int hx⟩
  · rintro x r' acc h' ⟨rfl, as, rfl, hl, hr⟩
    obtain ⟨i, rfl⟩ := hr x (List.mem_cons_self ..)
    rw [List.length_cons] at hl
    simp only [↓W_some, ↓W_bind, ↓W_map, ↓w_var, ↓w_own, ↓w_cst, ↓w_tup, ↓w_ofL, ↓w_celL, ↓w_neg, ↓w_bin, ↓w_cmp, ↓w_chn, ↓w_nt, ↓w_an, ↓w_or, ↓w_ite, ↓w_idx, ↓w_slc, ↓w_call, ↓w_callK, ↓w_bi, ↓w_isi, ↓w_gall, ↓w_gany, ↓w_gsum, ↓w_gtup, ↓w_genF, ↓w_nil, ↓w_cons, ↓w_onone, ↓w_osome, ↓w_otnone, ↓w_otsome, ↓w_and1, ↓w_and, ↓w_or1, ↓w_orc, ↓w_tnt, ↓w_tan, ↓w_tor, ↓w_ta1, ↓w_ta, ↓w_to1, ↓w_to, ↓w_tcmp, ↓w_tchn, ↓w_tvar, ↓w_town, ↓w_tcst, ↓w_tidx, ↓w_tbin, ↓w_tslc, ↓w_tcall, ↓w_tcallK, ↓w_tbi, ↓w_tisi, ↓w_tgen, ↓w_disp, ↓w_comp, ↓w_list, ↓w_sorted, ↓w_seq, ↓w_rng1, ↓w_rng2, ↓w_enum, ↓w_zip, ↓w_rev, ↓w_set, ↓w_setL, ↓w_setD, ↓w_pat, ↓w_par2, ↓w_aug, ↓w_augI, ↓w_putI, ↓w_putO, ↓w_augO, ↓w_app, ↓w_expr, ↓w_ret, ↓w_retN, ↓w_iff, ↓w_whil, ↓w_forr, ↓w_brk, ↓w_cont, ↓w_pass, ↓w_frz, ↓w_snil, ↓w_scons, ↓bps_s, add_ii, add_tt, add_ll, sub_ii, lt_ii, le_ii, gt_ii, ge_ii, eq_ii, ne_ii, is_n, isnt_n, is_bb, isnt_bb, isNon_i, isNon_b, isNon_t, isNon_l, isNon_n, tru_b, tru_i, tru_t, tru_l, tru_n, len_t, len_l, len_s, len_d, bi_len, bi_abs, bi_int, bi_intb, bi_tupt, bi_tupl, bi_min, bi_max, bi_sum, it_t, it_l, it_s, li_l, list_t, list_l, list_s, sl_t, sl_l, sl_s, ty_ii, ty_ib, ty_in, ty_bi, ty_bb, ty_bn, bp_nm, bp_tt, bp_tl, bps_0, op_add, op_sub, op_mul, op_fdiv, op_mod, op_pow, cm_eq, cm_ne, cm_lt, cm_le, cm_gt, cm_ge, cm_is, cm_isnt, cm_in, cm_notin, cd_n, cd_b, cd_i, cd_s, wp_0, wp_s, oq_rt, oq_nx, ol_nx, ol_ct, ol_bk, ol_rt, mod_pos, fdiv_pos, mul_l, mul_r, varS_0, varS_s, lookS_0, lookS_s, ownS_0v, ownS_0, ownS_0d, ownS_s, setS_0, setS_s, set_0, set_s, deref_int, deref_bl, deref_non, deref_str, deref_tup, deref_lst, deref_scr, deref_dct, deref_ref0, isCell_ref0, restO_nx, restO_rt, restO_bk, restO_ct, szl, idx_tup0, idx_tup1, idx_tup2, idx_tup3, idx_tup4, idx_tup5, idx_tup6, idx_tup7, idx_tup8, idx_tup9, idx_lst0, idx_lst1, idx_lst2, idx_lst3, idx_lst4, idx_lst5, idx_lst6, idx_lst7, idx_lst8, idx_lst9, not_true_eq_false, not_false_eq_true, Int.reduceLT, Int.reduceLE, Int.reduceNeg, Int.reducePow, and_self, permD, List.getElem?_cons_zero, List.getElem?_cons_succ, Option.bind_some, Option.map_some, startS, List.map_cons, List.map_nil, List.replicate, List.cons_append, List.nil_append, List.append_nil, List.length_cons, List.length_nil, decide_eq_true_eq, Bool.not_eq_true', decide_eq_false_iff_not, Nat.reduceAdd, Nat.zero_add, Nat.reduceLeDiff, Nat.reduceLT, Nat.reduceSub, if_true, if_false, Bool.false_eq_true, ↓reduceIte, Df.fd]
    exact ⟨by trivial, as ++ [1 + 3 * i], by rw [List.map_append]; rfl, by simp only [List.length_append, List.length_cons, List.length_nil]; omega, fun z hz => hr z (List.mem_cons_of_mem _ hz)⟩
  · rintro acc h' ⟨rfl, as, rfl, hl, hr⟩
    have hl : as.length = 6 := by simp only [List.length_nil] at hl; omega
    simp only [↓W_some, ↓W_bind, ↓W_map, ↓w_var, ↓w_own, ↓w_cst, ↓w_tup, ↓w_ofL, ↓w_celL, ↓w_neg, ↓w_bin, ↓w_cmp, ↓w_chn, ↓w_nt, ↓w_an, ↓w_or, ↓w_ite, ↓w_idx, ↓w_slc, ↓w_call, ↓w_callK, ↓w_bi, ↓w_isi, ↓w_gall, ↓w_gany, ↓w_gsum, ↓w_gtup, ↓w_genF, ↓w_nil, ↓w_cons, ↓w_onone, ↓w_osome, ↓w_otnone, ↓w_otsome, ↓w_and1, ↓w_and, ↓w_or1, ↓w_orc, ↓w_tnt, ↓w_tan, ↓w_tor, ↓w_ta1, ↓w_ta, ↓w_to1, ↓w_to, ↓w_tcmp, ↓w_tchn, ↓w_tvar, ↓w_town, ↓w_tcst, ↓w_tidx, ↓w_tbin, ↓w_tslc, ↓w_tcall, ↓w_tcallK, ↓w_tbi, ↓w_tisi, ↓w_tgen, ↓w_disp, ↓w_comp, ↓w_list, ↓w_sorted, ↓w_seq, ↓w_rng1, ↓w_rng2, ↓w_enum, ↓w_zip, ↓w_rev, ↓w_set, ↓w_setL, ↓w_setD, ↓w_pat, ↓w_par2, ↓w_aug, ↓w_augI, ↓w_putI, ↓w_putO, ↓w_augO, ↓w_app, ↓w_expr, ↓w_ret, ↓w_retN, ↓w_iff, ↓w_whil, ↓w_forr, ↓w_brk, ↓w_cont, ↓w_pass, ↓w_frz, ↓w_snil, ↓w_scons, ↓bps_s, add_ii, add_tt, add_ll, sub_ii, lt_ii, le_ii, gt_ii, ge_ii, eq_ii, ne_ii, is_n, isnt_n, is_bb, isnt_bb, isNon_i, isNon_b, isNon_t, isNon_l, isNon_n, tru_b, tru_i, tru_t, tru_l, tru_n, len_t, len_l, len_s, len_d, bi_len, bi_abs, bi_int, bi_intb, bi_tupt, bi_tupl, bi_min, bi_max, bi_sum, it_t, it_l, it_s, li_l, list_t, list_l, list_s, sl_t, sl_l, sl_s, ty_ii, ty_ib, ty_in, ty_bi, ty_bb, ty_bn, bp_nm, bp_tt, bp_tl, bps_0, op_add, op_sub, op_mul, op_fdiv, op_mod, op_pow, cm_eq, cm_ne, cm_lt, cm_le, cm_gt, cm_ge, cm_is, cm_isnt, cm_in, cm_notin, cd_n, cd_b, cd_i, cd_s, wp_0, wp_s, oq_rt, oq_nx, ol_nx, ol_ct, ol_bk, ol_rt, mod_pos, fdiv_pos, mul_l, mul_r, varS_0, varS_s, lookS_0, lookS_s, ownS_0v, ownS_0, ownS_0d, ownS_s, setS_0, setS_s, set_0, set_s, deref_int, deref_bl, deref_non, deref_str, deref_tup, deref_lst, deref_scr, deref_dct, deref_ref0, isCell_ref0, restO_nx, restO_rt, restO_bk, restO_ct, szl, idx_tup0, idx_tup1, idx_tup2, idx_tup3, idx_tup4, idx_tup5, idx_tup6, idx_tup7, idx_tup8, idx_tup9, idx_lst0, idx_lst1, idx_lst2, idx_lst3, idx_lst4, idx_lst5, idx_lst6, idx_lst7, idx_lst8, idx_lst9, not_true_eq_false, not_false_eq_true, Int.reduceLT, Int.reduceLE, Int.reduceNeg, Int.reducePow, and_self, permD, List.getElem?_cons_zero, List.getElem?_cons_succ, Option.bind_some, Option.map_some, startS, List.map_cons, List.map_nil, List.replicate, List.cons_append, List.nil_append, List.append_nil, List.length_cons, List.length_nil, decide_eq_true_eq, Bool.not_eq_true', decide_eq_false_iff_not, Nat.reduceAdd, Nat.zero_add, Nat.reduceLeDiff, Nat.reduceLT, Nat.reduceSub, if_true, if_false, Bool.false_eq_true, ↓reduceIte, Df.fd]
    refine take_W hs2 (by rw [List.length_map]; omega) (by rw [List.length_map]; omega) fun v h3 hs3 v0 v1 => ?_
    rw [List.length_map] at v1
    simp only [↓W_some, ↓W_bind, ↓W_map, ↓w_var, ↓w_own, ↓w_cst, ↓w_tup, ↓w_ofL, ↓w_celL, ↓w_neg, ↓w_bin, ↓w_cmp, ↓w_chn, ↓w_nt, ↓w_an, ↓w_or, ↓w_ite, ↓w_idx, ↓w_slc, ↓w_call, ↓w_callK, ↓w_bi, ↓w_isi, ↓w_gall, ↓w_gany, ↓w_gsum, ↓w_gtup, ↓w_genF, ↓w_nil, ↓w_cons, ↓w_onone, ↓w_osome, ↓w_otnone, ↓w_otsome, ↓w_and1, ↓w_and, ↓w_or1, ↓w_orc, ↓w_tnt, ↓w_tan, ↓w_tor, ↓w_ta1, ↓w_ta, ↓w_to1, ↓w_to, ↓w_tcmp, ↓w_tchn, ↓w_tvar, ↓w_town, ↓w_tcst, ↓w_tidx, ↓w_tbin, ↓w_tslc, ↓w_tcall, ↓w_tcallK, ↓w_tbi, ↓w_tisi, ↓w_tgen, ↓w_disp, ↓w_comp, ↓w_list, ↓w_sorted, ↓w_seq, ↓w_rng1, ↓w_rng2, ↓w_enum, ↓w_zip, ↓w_rev, ↓w_set, ↓w_setL, ↓w_setD, ↓w_pat, ↓w_par2, ↓w_aug, ↓w_augI, ↓w_putI, ↓w_putO, ↓w_augO, ↓w_app, ↓w_expr, ↓w_ret, ↓w_retN, ↓w_iff, ↓w_whil, ↓w_forr, ↓w_brk, ↓w_cont, ↓w_pass, ↓w_frz, ↓w_snil, ↓w_scons, ↓bps_s, add_ii, add_tt, add_ll, sub_ii, lt_ii, le_ii, gt_ii, ge_ii, eq_ii, ne_ii, is_n, isnt_n, is_bb, isnt_bb, isNon_i, isNon_b, isNon_t, isNon_l, isNon_n, tru_b, tru_i, tru_t, tru_l, tru_n, len_t, len_l, len_s, len_d, bi_len, bi_abs, bi_int, bi_intb, bi_tupt, bi_tupl, bi_min, bi_max, bi_sum, it_t, it_l, it_s, li_l, list_t, list_l, list_s, sl_t, sl_l, sl_s, ty_ii, ty_ib, ty_in, ty_bi, ty_bb, ty_bn, bp_nm, bp_tt, bp_tl, bps_0, op_add, op_sub, op_mul, op_fdiv, op_mod, op_pow, cm_eq, cm_ne, cm_lt, cm_le, cm_gt, cm_ge, cm_is, cm_isnt, cm_in, cm_notin, cd_n, cd_b, cd_i, cd_s, wp_0, wp_s, oq_rt, oq_nx, ol_nx, ol_ct, ol_bk, ol_rt, mod_pos, fdiv_pos, mul_l, mul_r, varS_0, varS_s, lookS_0, lookS_s, ownS_0v, ownS_0, ownS_0d, ownS_s, setS_0, setS_s, set_0, set_s, deref_int, deref_bl, deref_non, deref_str, deref_tup, deref_lst, deref_scr, deref_dct, deref_ref0, isCell_ref0, restO_nx, restO_rt, restO_bk, restO_ct, szl, idx_tup0, idx_tup1, idx_tup2, idx_tup3, idx_tup4, idx_tup5, idx_tup6, idx_tup7, idx_tup8, idx_tup9, idx_lst0, idx_lst1, idx_lst2, idx_lst3, idx_lst4, idx_lst5, idx_lst6, idx_lst7, idx_lst8, idx_lst9, not_true_eq_false, not_false_eq_true, Int.reduceLT, Int.reduceLE, Int.reduceNeg, Int.reducePow, and_self, permD, List.getElem?_cons_zero, List.getElem?_cons_succ, Option.bind_some, Option.map_some, startS, List.map_cons, List.map_nil, List.replicate, List.cons_append, List.nil_append, List.append_nil, List.length_cons, List.length_nil, decide_eq_true_eq, Bool.not_eq_true', decide_eq_false_iff_not, Nat.reduceAdd, Nat.zero_add, Nat.reduceLeDiff, Nat.reduceLT, Nat.reduceSub, if_true, if_false, Bool.false_eq_true, ↓reduceIte, Df.fd]
    refine pick_W hs3 (by simp) (by simp) fun x hx h4 hs4 => ?_
    have hx2 : ∃ i : Int, x = .int i := by
      simp only [List.mem_cons, List.mem_nil_iff, or_false] at hx
      rcases hx with rfl | rfl | rfl | rfl <;> exact ⟨_, rfl⟩
    obtain ⟨x, rfl⟩ := hx2
    obtain ⟨k, rfl⟩ : ∃ k : Nat, v = k := ⟨v.toNat, by omega⟩
    have hk : k < ps.length := by omega
    have hi : idxD (.tup (ps.map paceD)) (.int (k : Int)) = some (.tup [.tup [.int ps[k].1, .tup []], .int ps[k].2]) := atI_at (j := k) rfl (by rw [List.getElem?_map, List.getElem?_eq_getElem hk]; rfl)
    have ht : ((ps.map paceD).take k).length ≤ 3 := by rw [List.length_take, List.length_map]; omega
    have hd : ((ps.map paceD).drop (k + 1)).length ≤ 3 := by rw [List.length_drop, List.length_map]; omega
    have ea : ∀ z : D, addD (.tup ((ps.map paceD).take k)) (.tup [z]) = some (.tup ((ps.map paceD).take k ++ [z])) := fun z => add_tt (by rw [szl, List.length_singleton]; omega)
    have eb : ∀ z : D, addD (.tup ((ps.map paceD).take k ++ [z])) (.tup ((ps.map paceD).drop (k + 1))) = some (.tup ((ps.map paceD).take k ++ [z] ++ (ps.map paceD).drop (k + 1))) := fun z => add_tt (by rw [szl, List.length_append, List.length_singleton]; omega)
    have ec : ∀ zs : List D, zs.length ≤ 10 → addD (.tup (as.map D.int)) (.tup zs) = some (.tup (as.map D.int ++ zs)) := fun zs hz => add_tt (by rw [szl, List.length_map]; omega)
    have c1 : cutD (ps.map paceD) none (some (k : Int)) = (ps.map paceD).take k := cut_take (by omega)
    have c2 : cutD (ps.map paceD) (some ((k : Int) + 1)) none = (ps.map paceD).drop (k + 1) := cut_drop (by omega)
    have c3 : cutD (as.map D.int) none (some (5 : Int)) = (as.take 5).map D.int := by rw [cut_take (by decide), List.map_take]; rfl
    have c4 : cutD (as.map D.int) (some (1 : Int)) none = (as.drop 1).map D.int := by rw [cut_drop (by decide), List.map_drop]; rfl
    simp only [add_l22, add_l42, add_l61, add_l72, add_l91, add_t11, hi, c1, c2, c3, c4, ea, eb, mul_t3, mul_t4, ec [.int 500, .int 501, .int 502, .int 503, .int 504, .int 2000] (by decide), ↓W_some, ↓W_bind, ↓W_map, ↓w_var, ↓w_own, ↓w_cst, ↓w_tup, ↓w_ofL, ↓w_celL, ↓w_neg, ↓w_bin, ↓w_cmp, ↓w_chn, ↓w_nt, ↓w_an, ↓w_or, ↓w_ite, ↓w_idx, ↓w_slc, ↓w_call, ↓w_callK, ↓w_bi, ↓w_isi, ↓w_gall, ↓w_gany, ↓w_gsum, ↓w_gtup, ↓w_genF, ↓w_nil, ↓w_cons, ↓w_onone, ↓w_osome, ↓w_otnone, ↓w_otsome, ↓w_and1, ↓w_and, ↓w_or1, ↓w_orc, ↓w_tnt, ↓w_tan, ↓w_tor, ↓w_ta1, ↓w_ta, ↓w_to1, ↓w_to, ↓w_tcmp, ↓w_tchn, ↓w_tvar, ↓w_town, ↓w_tcst, ↓w_tidx, ↓w_tbin, ↓w_tslc, ↓w_tcall, ↓w_tcallK, ↓w_tbi, ↓w_tisi, ↓w_tgen, ↓w_disp, ↓w_comp, ↓w_list, ↓w_sorted, ↓w_seq, ↓w_rng1, ↓w_rng2, ↓w_enum, ↓w_zip, ↓w_rev, ↓w_set, ↓w_setL, ↓w_setD, ↓w_pat, ↓w_par2, ↓w_aug, ↓w_augI, ↓w_putI, ↓w_putO, ↓w_augO, ↓w_app, ↓w_expr, ↓w_ret, ↓w_retN, ↓w_iff, ↓w_whil, ↓w_forr, ↓w_brk, ↓w_cont, ↓w_pass, ↓w_frz, ↓w_snil, ↓w_scons, ↓bps_s, add_ii, add_tt, add_ll, sub_ii, lt_ii, le_ii, gt_ii, ge_ii, eq_ii, ne_ii, is_n, isnt_n, is_bb, isnt_bb, isNon_i, isNon_b, isNon_t, isNon_l, isNon_n, tru_b, tru_i, tru_t, tru_l, tru_n, len_t, len_l, len_s, len_d, bi_len, bi_abs, bi_int, bi_intb, bi_tupt, bi_tupl, bi_min, bi_max, bi_sum, it_t, it_l, it_s, li_l, list_t, list_l, list_s, sl_t, sl_l, sl_s, ty_ii, ty_ib, ty_in, ty_bi, ty_bb, ty_bn, bp_nm, bp_tt, bp_tl, bps_0, op_add, op_sub, op_mul, op_fdiv, op_mod, op_pow, cm_eq, cm_ne, cm_lt, cm_le, cm_gt, cm_ge, cm_is, cm_isnt, cm_in, cm_notin, cd_n, cd_b, cd_i, cd_s, wp_0, wp_s, oq_rt, oq_nx, ol_nx, ol_ct, ol_bk, ol_rt, mod_pos, fdiv_pos, mul_l, mul_r, varS_0, varS_s, lookS_0, lookS_s, ownS_0v, ownS_0, ownS_0d, ownS_s, setS_0, setS_s, set_0, set_s, deref_int, deref_bl, deref_non, deref_str, deref_tup, deref_lst, deref_scr, deref_dct, deref_ref0, isCell_ref0, restO_nx, restO_rt, restO_bk, restO_ct, szl, idx_tup0, idx_tup1, idx_tup2, idx_tup3, idx_tup4, idx_tup5, idx_tup6, idx_tup7, idx_tup8, idx_tup9, idx_lst0, idx_lst1, idx_lst2, idx_lst3, idx_lst4, idx_lst5, idx_lst6, idx_lst7, idx_lst8, idx_lst9, not_true_eq_false, not_false_eq_true, Int.reduceLT, Int.reduceLE, Int.reduceNeg, Int.reducePow, and_self, permD, List.getElem?_cons_zero, List.getElem?_cons_succ, Option.bind_some, Option.map_some, startS, List.map_cons, List.map_nil, List.replicate, List.cons_append, List.nil_append, List.append_nil, List.length_cons, List.length_nil, decide_eq_true_eq, Bool.not_eq_true', decide_eq_false_iff_not, Nat.reduceAdd, Nat.zero_add, Nat.reduceLeDiff, Nat.reduceLT, Nat.reduceSub, if_true, if_false, Bool.false_eq_true, ↓reduceIte, Df.fd]
    have hu := all_up ps
    have ev0 : ∀ (ns : List Int), ns.length ≤ 5 → evenB (ps.map up) ns 0 = true := fun ns h => by
      unfold evenB
      rw [hu, decide_eq_true h]; rfl
    have ev1 : ∀ (ns : List Int) (z : Int), z ≠ 0 → evenB (ps.map up) ns z = false := fun ns z h => by
      unfold evenB
      rw [decide_eq_false h]; rfl
    refine q _ (fun y hy => ?_) _ hs4
    simp only [List.mem_cons, List.mem_nil_iff, or_false] at hy
    rcases hy with rfl | rfl | rfl | rfl | rfl | rfl | rfl | rfl | rfl | rfl
    · exact due_mk (ps.map up) s ns r rs (by rw [map_up]) rfl rfl (ev0 ns n5)
    · exact due_mk (ps.map up) s ns r rs (by rw [map_up]) rfl rfl (ev1 ns 1 (by decide))
    · exact due_mk (ps.map up) s ns r rs (by rw [map_up]) rfl rfl (ev1 ns 200 (by decide))
    · exact due_mk (ps.map up) 5 as r rs (by rw [map_up]) rfl rfl (by
        unfold evenB
        rw [decide_eq_false (show ¬ as.length ≤ 5 by omega), Bool.and_false, Bool.false_and])
    · exact due_mk (ps.map up) 5 (as.take 5) r rs (by rw [map_up]) rfl rfl (ev0 _ (by rw [List.length_take]; omega))
    · exact due_mk (ps.map up) 5 (as.drop 1) r rs (by rw [map_up]) rfl rfl (ev0 _ (by rw [List.length_drop]; omega))
    · refine due_mk ((ps.map up).take k ++ [(1, [x], ps[k].2)] ++ (ps.map up).drop (k + 1)) s ns r rs ?_ rfl rfl ?_
      · rw [map_up, List.map_append, List.map_append, List.map_take, List.map_drop]; rfl
      · unfold evenB
        simp
    · refine due_mk [up ps[k], up ps[k], up ps[k], (1, [x], ps[k].2)] s ns r rs rfl rfl rfl ?_
      unfold evenB
      simp [up]
    · refine due_mk [up ps[k], up ps[k], up ps[k], up ps[k]] s ns r rs rfl rfl rfl ?_
      unfold evenB
      rw [decide_eq_true n5]
      simp [up]
    · exact due_mk (ps.map up) s ns 9 (as ++ [500, 501, 502, 503, 504, 2000]) (by rw [map_up]) rfl (by unfold tabD; rw [List.map_append]; rfl) (ev0 ns n5)
end
end PI.K01

set_option Elab.async false
set_option linter.all false
set_option maxRecDepth 100000
set_option maxHeartbeats 1000000
set_option autoImplicit false
namespace PI.K01
open PySem PySem.Spec PyProof.Rows L2 PI
theorem pt_tab (b : Int) (ns : List Int) : PT 2 (tabD b ns) := fun x hx => by
  simp only [List.mem_cons, List.mem_nil_iff, or_false] at hx
  rcases hx with rfl | rfl
  · trivial
  · exact pt_ints ns
theorem pt_gpace (p : Int × List Int × Int) : PT 3 (gpaceD p) := fun x hx => by
  simp only [List.mem_cons, List.mem_nil_iff, or_false] at hx
  rcases hx with rfl | rfl
  · exact pt_tab p.1 p.2.1
  · trivial
theorem pt_gmode (ps : List (Int × List Int × Int)) (l s : Int) (ns : List Int) (r : Int) (ms : List Int) (rate f : Int) : PT 5 (gmodeD ps l s ns r ms rate f) := fun x hx => by
  simp only [List.mem_cons, List.mem_nil_iff, or_false] at hx
  rcases hx with rfl | rfl | rfl | rfl | rfl | rfl
  · exact fun y hy => by
      obtain ⟨p, _, rfl⟩ := List.mem_map.mp hy
      exact pt_gpace p
  · trivial
  · exact (pt_tab s ns).le (by decide)
  · exact (pt_tab r ms).le (by decide)
  · trivial
  · trivial
/-- a mode and whether it is even -/
def Ev (d : D) (b : Bool) : Prop := ∃ ps l s ns r rs rate f, d = gmodeD ps l s ns r rs rate f ∧ evenB ps ns rate = b
theorem even_W {n : Nat} {h : PH} {Q : D × PH → Prop} {e g t x d : D} {b : Bool} {ms : List D} {k : Int} (hd : Ev d b) (hk : idxD (.tup ms) (.int k) = some d) (q : Q (.bl b, h)) : W (call T (n + 1) 3 [.tup [e, g, t, .tup ms, x], .int k] h) Q := by
  obtain ⟨ps, l, s, ns, r, rs, rate, f, rfl, rfl⟩ := hd
  exact iseven_W hk q
theorem add_t32 {x y z u v : D} : addD (.tup [x, y, z]) (.tup [u, v]) = some (.tup [x, y, z, u, v]) := add_tt (by rw [szl]; exact Nat.le_of_ble_eq_true rfl)
theorem add_tt11 {x y : D} : addD (.tup [x]) (.tup [y]) = some (.tup [x, y]) := add_tt (by rw [szl]; exact Nat.le_of_ble_eq_true rfl)
theorem law_W {ns : List Int} : W (call T 20 21 [.scr ns] []) fun r => r.1 = .bl true := by
  refine W_call (n := 19) (f := f_law.fd) rfl rfl ?_
  simp only [f_law, b21, ↓W_some, ↓W_bind, ↓W_map, ↓w_var, ↓w_own, ↓w_cst, ↓w_tup, ↓w_ofL, ↓w_celL, ↓w_neg, ↓w_bin, ↓w_cmp, ↓w_chn, ↓w_nt, ↓w_an, ↓w_or, ↓w_ite, ↓w_idx, ↓w_slc, ↓w_call, ↓w_callK, ↓w_bi, ↓w_isi, ↓w_gall, ↓w_gany, ↓w_gsum, ↓w_gtup, ↓w_genF, ↓w_nil, ↓w_cons, ↓w_onone, ↓w_osome, ↓w_otnone, ↓w_otsome, ↓w_and1, ↓w_and, ↓w_or1, ↓w_orc, ↓w_tnt, ↓w_tan, ↓w_tor, ↓w_ta1, ↓w_ta, ↓w_to1, ↓w_to, ↓w_tcmp, ↓w_tchn, ↓w_tvar, ↓w_town, ↓w_tcst, ↓w_tidx, ↓w_tbin, ↓w_tslc, ↓w_tcall, ↓w_tcallK, ↓w_tbi, ↓w_tisi, ↓w_tgen, ↓w_disp, ↓w_comp, ↓w_list, ↓w_sorted, ↓w_seq, ↓w_rng1, ↓w_rng2, ↓w_enum, ↓w_zip, ↓w_rev, ↓w_set, ↓w_setL, ↓w_setD, ↓w_pat, ↓w_par2, ↓w_aug, ↓w_augI, ↓w_putI, ↓w_putO, ↓w_augO, ↓w_app, ↓w_expr, ↓w_ret, ↓w_retN, ↓w_iff, ↓w_whil, ↓w_forr, ↓w_brk, ↓w_cont, ↓w_pass, ↓w_frz, ↓w_snil, ↓w_scons, ↓bps_s, add_ii, add_tt, add_ll, sub_ii, lt_ii, le_ii, gt_ii, ge_ii, eq_ii, ne_ii, is_n, isnt_n, is_bb, isnt_bb, isNon_i, isNon_b, isNon_t, isNon_l, isNon_n, tru_b, tru_i, tru_t, tru_l, tru_n, len_t, len_l, len_s, len_d, bi_len, bi_abs, bi_int, bi_intb, bi_tupt, bi_tupl, bi_min, bi_max, bi_sum, it_t, it_l, it_s, li_l, list_t, list_l, list_s, sl_t, sl_l, sl_s, ty_ii, ty_ib, ty_in, ty_bi, ty_bb, ty_bn, bp_nm, bp_tt, bp_tl, bps_0, op_add, op_sub, op_mul, op_fdiv, op_mod, op_pow, cm_eq, cm_ne, cm_lt, cm_le, cm_gt, cm_ge, cm_is, cm_isnt, cm_in, cm_notin, cd_n, cd_b, cd_i, cd_s, wp_0, wp_s, oq_rt, oq_nx, ol_nx, ol_ct, ol_bk, ol_rt, mod_pos, fdiv_pos, mul_l, mul_r, varS_0, varS_s, lookS_0, lookS_s, ownS_0v, ownS_0, ownS_0d, ownS_s, setS_0, setS_s, set_0, set_s, deref_int, deref_bl, deref_non, deref_str, deref_tup, deref_lst, deref_scr, deref_dct, deref_ref0, isCell_ref0, restO_nx, restO_rt, restO_bk, restO_ct, szl, idx_tup0, idx_tup1, idx_tup2, idx_tup3, idx_tup4, idx_tup5, idx_tup6, idx_tup7, idx_tup8, idx_tup9, idx_lst0, idx_lst1, idx_lst2, idx_lst3, idx_lst4, idx_lst5, idx_lst6, idx_lst7, idx_lst8, idx_lst9, not_true_eq_false, not_false_eq_true, Int.reduceLT, Int.reduceLE, Int.reduceNeg, Int.reducePow, and_self, permD, List.getElem?_cons_zero, List.getElem?_cons_succ, Option.bind_some, Option.map_some, startS, List.map_cons, List.map_nil, List.replicate, List.cons_append, List.nil_append, List.append_nil, List.length_cons, List.length_nil, decide_eq_true_eq, Bool.not_eq_true', decide_eq_false_iff_not, Nat.reduceAdd, Nat.zero_add, Nat.reduceLeDiff, Nat.reduceLT, Nat.reduceSub, if_true, if_false, Bool.false_eq_true, ↓reduceIte, Df.fd]
  refine start_W (n := 17) fun v => ?_
  have hs : St [.lst [.int 0, .int 0, .int 0, .int v, .lst ((ns.take 63).map .int), .int 0]] := ⟨0, 0, 0, v, _, 0, rfl, Int.le_refl _⟩
  generalize [Cell.lst [.int 0, .int 0, .int 0, .int v, .lst ((ns.take 63).map .int), .int 0]] = h1 at hs
  simp only [↓W_some, ↓W_bind, ↓W_map, ↓w_var, ↓w_own, ↓w_cst, ↓w_tup, ↓w_ofL, ↓w_celL, ↓w_neg, ↓w_bin, ↓w_cmp, ↓w_chn, ↓w_nt, ↓w_an, ↓w_or, ↓w_ite, ↓w_idx, ↓w_slc, ↓w_call, ↓w_callK, ↓w_bi, ↓w_isi, ↓w_gall, ↓w_gany, ↓w_gsum, ↓w_gtup, ↓w_genF, ↓w_nil, ↓w_cons, ↓w_onone, ↓w_osome, ↓w_otnone, ↓w_otsome, ↓w_and1, ↓w_and, ↓w_or1, ↓w_orc, ↓w_tnt, ↓w_tan, ↓w_tor, ↓w_ta1, ↓w_ta, ↓w_to1, ↓w_to, ↓w_tcmp, ↓w_tchn, ↓w_tvar, ↓w_town, ↓w_tcst, ↓w_tidx, ↓w_tbin, ↓w_tslc, ↓w_tcall, ↓w_tcallK, ↓w_tbi, ↓w_tisi, ↓w_tgen, ↓w_disp, ↓w_comp, ↓w_list, ↓w_sorted, ↓w_seq, ↓w_rng1, ↓w_rng2, ↓w_enum, ↓w_zip, ↓w_rev, ↓w_set, ↓w_setL, ↓w_setD, ↓w_pat, ↓w_par2, ↓w_aug, ↓w_augI, ↓w_putI, ↓w_putO, ↓w_augO, ↓w_app, ↓w_expr, ↓w_ret, ↓w_retN, ↓w_iff, ↓w_whil, ↓w_forr, ↓w_brk, ↓w_cont, ↓w_pass, ↓w_frz, ↓w_snil, ↓w_scons, ↓bps_s, add_ii, add_tt, add_ll, sub_ii, lt_ii, le_ii, gt_ii, ge_ii, eq_ii, ne_ii, is_n, isnt_n, is_bb, isnt_bb, isNon_i, isNon_b, isNon_t, isNon_l, isNon_n, tru_b, tru_i, tru_t, tru_l, tru_n, len_t, len_l, len_s, len_d, bi_len, bi_abs, bi_int, bi_intb, bi_tupt, bi_tupl, bi_min, bi_max, bi_sum, it_t, it_l, it_s, li_l, list_t, list_l, list_s, sl_t, sl_l, sl_s, ty_ii, ty_ib, ty_in, ty_bi, ty_bb, ty_bn, bp_nm, bp_tt, bp_tl, bps_0, op_add, op_sub, op_mul, op_fdiv, op_mod, op_pow, cm_eq, cm_ne, cm_lt, cm_le, cm_gt, cm_ge, cm_is, cm_isnt, cm_in, cm_notin, cd_n, cd_b, cd_i, cd_s, wp_0, wp_s, oq_rt, oq_nx, ol_nx, ol_ct, ol_bk, ol_rt, mod_pos, fdiv_pos, mul_l, mul_r, varS_0, varS_s, lookS_0, lookS_s, ownS_0v, ownS_0, ownS_0d, ownS_s, setS_0, setS_s, set_0, set_s, deref_int, deref_bl, deref_non, deref_str, deref_tup, deref_lst, deref_scr, deref_dct, deref_ref0, isCell_ref0, restO_nx, restO_rt, restO_bk, restO_ct, szl, idx_tup0, idx_tup1, idx_tup2, idx_tup3, idx_tup4, idx_tup5, idx_tup6, idx_tup7, idx_tup8, idx_tup9, idx_lst0, idx_lst1, idx_lst2, idx_lst3, idx_lst4, idx_lst5, idx_lst6, idx_lst7, idx_lst8, idx_lst9, not_true_eq_false, not_false_eq_true, Int.reduceLT, Int.reduceLE, Int.reduceNeg, Int.reducePow, and_self, permD, List.getElem?_cons_zero, List.getElem?_cons_succ, Option.bind_some, Option.map_some, startS, List.map_cons, List.map_nil, List.replicate, List.cons_append, List.nil_append, List.append_nil, List.length_cons, List.length_nil, decide_eq_true_eq, Bool.not_eq_true', decide_eq_false_iff_not, Nat.reduceAdd, Nat.zero_add, Nat.reduceLeDiff, Nat.reduceLT, Nat.reduceSub, if_true, if_false, Bool.false_eq_true, ↓reduceIte, Df.fd]
  refine tables_W (n := 15) hs fun h2 hs2 => ?_
  simp only [Bool.not_true, ↓W_some, ↓W_bind, ↓W_map, ↓w_var, ↓w_own, ↓w_cst, ↓w_tup, ↓w_ofL, ↓w_celL, ↓w_neg, ↓w_bin, ↓w_cmp, ↓w_chn, ↓w_nt, ↓w_an, ↓w_or, ↓w_ite, ↓w_idx, ↓w_slc, ↓w_call, ↓w_callK, ↓w_bi, ↓w_isi, ↓w_gall, ↓w_gany, ↓w_gsum, ↓w_gtup, ↓w_genF, ↓w_nil, ↓w_cons, ↓w_onone, ↓w_osome, ↓w_otnone, ↓w_otsome, ↓w_and1, ↓w_and, ↓w_or1, ↓w_orc, ↓w_tnt, ↓w_tan, ↓w_tor, ↓w_ta1, ↓w_ta, ↓w_to1, ↓w_to, ↓w_tcmp, ↓w_tchn, ↓w_tvar, ↓w_town, ↓w_tcst, ↓w_tidx, ↓w_tbin, ↓w_tslc, ↓w_tcall, ↓w_tcallK, ↓w_tbi, ↓w_tisi, ↓w_tgen, ↓w_disp, ↓w_comp, ↓w_list, ↓w_sorted, ↓w_seq, ↓w_rng1, ↓w_rng2, ↓w_enum, ↓w_zip, ↓w_rev, ↓w_set, ↓w_setL, ↓w_setD, ↓w_pat, ↓w_par2, ↓w_aug, ↓w_augI, ↓w_putI, ↓w_putO, ↓w_augO, ↓w_app, ↓w_expr, ↓w_ret, ↓w_retN, ↓w_iff, ↓w_whil, ↓w_forr, ↓w_brk, ↓w_cont, ↓w_pass, ↓w_frz, ↓w_snil, ↓w_scons, ↓bps_s, add_ii, add_tt, add_ll, sub_ii, lt_ii, le_ii, gt_ii, ge_ii, eq_ii, ne_ii, is_n, isnt_n, is_bb, isnt_bb, isNon_i, isNon_b, isNon_t, isNon_l, isNon_n, tru_b, tru_i, tru_t, tru_l, tru_n, len_t, len_l, len_s, len_d, bi_len, bi_abs, bi_int, bi_intb, bi_tupt, bi_tupl, bi_min, bi_max, bi_sum, it_t, it_l, it_s, li_l, list_t, list_l, list_s, sl_t, sl_l, sl_s, ty_ii, ty_ib, ty_in, ty_bi, ty_bb, ty_bn, bp_nm, bp_tt, bp_tl, bps_0, op_add, op_sub, op_mul, op_fdiv, op_mod, op_pow, cm_eq, cm_ne, cm_lt, cm_le, cm_gt, cm_ge, cm_is, cm_isnt, cm_in, cm_notin, cd_n, cd_b, cd_i, cd_s, wp_0, wp_s, oq_rt, oq_nx, ol_nx, ol_ct, ol_bk, ol_rt, mod_pos, fdiv_pos, mul_l, mul_r, varS_0, varS_s, lookS_0, lookS_s, ownS_0v, ownS_0, ownS_0d, ownS_s, setS_0, setS_s, set_0, set_s, deref_int, deref_bl, deref_non, deref_str, deref_tup, deref_lst, deref_scr, deref_dct, deref_ref0, isCell_ref0, restO_nx, restO_rt, restO_bk, restO_ct, szl, idx_tup0, idx_tup1, idx_tup2, idx_tup3, idx_tup4, idx_tup5, idx_tup6, idx_tup7, idx_tup8, idx_tup9, idx_lst0, idx_lst1, idx_lst2, idx_lst3, idx_lst4, idx_lst5, idx_lst6, idx_lst7, idx_lst8, idx_lst9, not_true_eq_false, not_false_eq_true, Int.reduceLT, Int.reduceLE, Int.reduceNeg, Int.reducePow, and_self, permD, List.getElem?_cons_zero, List.getElem?_cons_succ, Option.bind_some, Option.map_some, startS, List.map_cons, List.map_nil, List.replicate, List.cons_append, List.nil_append, List.append_nil, List.length_cons, List.length_nil, decide_eq_true_eq, Bool.not_eq_true', decide_eq_false_iff_not, Nat.reduceAdd, Nat.zero_add, Nat.reduceLeDiff, Nat.reduceLT, Nat.reduceSub, if_true, if_false, Bool.false_eq_true, ↓reduceIte, Df.fd]
  refine evenbook_W (n := 14) hs2 fun bk hb h3 hs3 => ?_
  have hb' := hb
  obtain ⟨e, g, t, ms, rfl, e1, eg, g3, tl, tg, ml, ml2, hm⟩ := hb
  simp only [↓W_some, ↓W_bind, ↓W_map, ↓w_var, ↓w_own, ↓w_cst, ↓w_tup, ↓w_ofL, ↓w_celL, ↓w_neg, ↓w_bin, ↓w_cmp, ↓w_chn, ↓w_nt, ↓w_an, ↓w_or, ↓w_ite, ↓w_idx, ↓w_slc, ↓w_call, ↓w_callK, ↓w_bi, ↓w_isi, ↓w_gall, ↓w_gany, ↓w_gsum, ↓w_gtup, ↓w_genF, ↓w_nil, ↓w_cons, ↓w_onone, ↓w_osome, ↓w_otnone, ↓w_otsome, ↓w_and1, ↓w_and, ↓w_or1, ↓w_orc, ↓w_tnt, ↓w_tan, ↓w_tor, ↓w_ta1, ↓w_ta, ↓w_to1, ↓w_to, ↓w_tcmp, ↓w_tchn, ↓w_tvar, ↓w_town, ↓w_tcst, ↓w_tidx, ↓w_tbin, ↓w_tslc, ↓w_tcall, ↓w_tcallK, ↓w_tbi, ↓w_tisi, ↓w_tgen, ↓w_disp, ↓w_comp, ↓w_list, ↓w_sorted, ↓w_seq, ↓w_rng1, ↓w_rng2, ↓w_enum, ↓w_zip, ↓w_rev, ↓w_set, ↓w_setL, ↓w_setD, ↓w_pat, ↓w_par2, ↓w_aug, ↓w_augI, ↓w_putI, ↓w_putO, ↓w_augO, ↓w_app, ↓w_expr, ↓w_ret, ↓w_retN, ↓w_iff, ↓w_whil, ↓w_forr, ↓w_brk, ↓w_cont, ↓w_pass, ↓w_frz, ↓w_snil, ↓w_scons, ↓bps_s, add_ii, add_tt, add_ll, sub_ii, lt_ii, le_ii, gt_ii, ge_ii, eq_ii, ne_ii, is_n, isnt_n, is_bb, isnt_bb, isNon_i, isNon_b, isNon_t, isNon_l, isNon_n, tru_b, tru_i, tru_t, tru_l, tru_n, len_t, len_l, len_s, len_d, bi_len, bi_abs, bi_int, bi_intb, bi_tupt, bi_tupl, bi_min, bi_max, bi_sum, it_t, it_l, it_s, li_l, list_t, list_l, list_s, sl_t, sl_l, sl_s, ty_ii, ty_ib, ty_in, ty_bi, ty_bb, ty_bn, bp_nm, bp_tt, bp_tl, bps_0, op_add, op_sub, op_mul, op_fdiv, op_mod, op_pow, cm_eq, cm_ne, cm_lt, cm_le, cm_gt, cm_ge, cm_is, cm_isnt, cm_in, cm_notin, cd_n, cd_b, cd_i, cd_s, wp_0, wp_s, oq_rt, oq_nx, ol_nx, ol_ct, ol_bk, ol_rt, mod_pos, fdiv_pos, mul_l, mul_r, varS_0, varS_s, lookS_0, lookS_s, ownS_0v, ownS_0, ownS_0d, ownS_s, setS_0, setS_s, set_0, set_s, deref_int, deref_bl, deref_non, deref_str, deref_tup, deref_lst, deref_scr, deref_dct, deref_ref0, isCell_ref0, restO_nx, restO_rt, restO_bk, restO_ct, szl, idx_tup0, idx_tup1, idx_tup2, idx_tup3, idx_tup4, idx_tup5, idx_tup6, idx_tup7, idx_tup8, idx_tup9, idx_lst0, idx_lst1, idx_lst2, idx_lst3, idx_lst4, idx_lst5, idx_lst6, idx_lst7, idx_lst8, idx_lst9, not_true_eq_false, not_false_eq_true, Int.reduceLT, Int.reduceLE, Int.reduceNeg, Int.reducePow, and_self, permD, List.getElem?_cons_zero, List.getElem?_cons_succ, Option.bind_some, Option.map_some, startS, List.map_cons, List.map_nil, List.replicate, List.cons_append, List.nil_append, List.append_nil, List.length_cons, List.length_nil, decide_eq_true_eq, Bool.not_eq_true', decide_eq_false_iff_not, Nat.reduceAdd, Nat.zero_add, Nat.reduceLeDiff, Nat.reduceLT, Nat.reduceSub, if_true, if_false, Bool.false_eq_true, ↓reduceIte, Df.fd]
  refine spares_W (n := 14) hb' hs3 fun h4 hs4 => ?_
  simp only [Bool.not_true, ↓W_some, ↓W_bind, ↓W_map, ↓w_var, ↓w_own, ↓w_cst, ↓w_tup, ↓w_ofL, ↓w_celL, ↓w_neg, ↓w_bin, ↓w_cmp, ↓w_chn, ↓w_nt, ↓w_an, ↓w_or, ↓w_ite, ↓w_idx, ↓w_slc, ↓w_call, ↓w_callK, ↓w_bi, ↓w_isi, ↓w_gall, ↓w_gany, ↓w_gsum, ↓w_gtup, ↓w_genF, ↓w_nil, ↓w_cons, ↓w_onone, ↓w_osome, ↓w_otnone, ↓w_otsome, ↓w_and1, ↓w_and, ↓w_or1, ↓w_orc, ↓w_tnt, ↓w_tan, ↓w_tor, ↓w_ta1, ↓w_ta, ↓w_to1, ↓w_to, ↓w_tcmp, ↓w_tchn, ↓w_tvar, ↓w_town, ↓w_tcst, ↓w_tidx, ↓w_tbin, ↓w_tslc, ↓w_tcall, ↓w_tcallK, ↓w_tbi, ↓w_tisi, ↓w_tgen, ↓w_disp, ↓w_comp, ↓w_list, ↓w_sorted, ↓w_seq, ↓w_rng1, ↓w_rng2, ↓w_enum, ↓w_zip, ↓w_rev, ↓w_set, ↓w_setL, ↓w_setD, ↓w_pat, ↓w_par2, ↓w_aug, ↓w_augI, ↓w_putI, ↓w_putO, ↓w_augO, ↓w_app, ↓w_expr, ↓w_ret, ↓w_retN, ↓w_iff, ↓w_whil, ↓w_forr, ↓w_brk, ↓w_cont, ↓w_pass, ↓w_frz, ↓w_snil, ↓w_scons, ↓bps_s, add_ii, add_tt, add_ll, sub_ii, lt_ii, le_ii, gt_ii, ge_ii, eq_ii, ne_ii, is_n, isnt_n, is_bb, isnt_bb, isNon_i, isNon_b, isNon_t, isNon_l, isNon_n, tru_b, tru_i, tru_t, tru_l, tru_n, len_t, len_l, len_s, len_d, bi_len, bi_abs, bi_int, bi_intb, bi_tupt, bi_tupl, bi_min, bi_max, bi_sum, it_t, it_l, it_s, li_l, list_t, list_l, list_s, sl_t, sl_l, sl_s, ty_ii, ty_ib, ty_in, ty_bi, ty_bb, ty_bn, bp_nm, bp_tt, bp_tl, bps_0, op_add, op_sub, op_mul, op_fdiv, op_mod, op_pow, cm_eq, cm_ne, cm_lt, cm_le, cm_gt, cm_ge, cm_is, cm_isnt, cm_in, cm_notin, cd_n, cd_b, cd_i, cd_s, wp_0, wp_s, oq_rt, oq_nx, ol_nx, ol_ct, ol_bk, ol_rt, mod_pos, fdiv_pos, mul_l, mul_r, varS_0, varS_s, lookS_0, lookS_s, ownS_0v, ownS_0, ownS_0d, ownS_s, setS_0, setS_s, set_0, set_s, deref_int, deref_bl, deref_non, deref_str, deref_tup, deref_lst, deref_scr, deref_dct, deref_ref0, isCell_ref0, restO_nx, restO_rt, restO_bk, restO_ct, szl, idx_tup0, idx_tup1, idx_tup2, idx_tup3, idx_tup4, idx_tup5, idx_tup6, idx_tup7, idx_tup8, idx_tup9, idx_lst0, idx_lst1, idx_lst2, idx_lst3, idx_lst4, idx_lst5, idx_lst6, idx_lst7, idx_lst8, idx_lst9, not_true_eq_false, not_false_eq_true, Int.reduceLT, Int.reduceLE, Int.reduceNeg, Int.reducePow, and_self, permD, List.getElem?_cons_zero, List.getElem?_cons_succ, Option.bind_some, Option.map_some, startS, List.map_cons, List.map_nil, List.replicate, List.cons_append, List.nil_append, List.append_nil, List.length_cons, List.length_nil, decide_eq_true_eq, Bool.not_eq_true', decide_eq_false_iff_not, Nat.reduceAdd, Nat.zero_add, Nat.reduceLeDiff, Nat.reduceLT, Nat.reduceSub, if_true, if_false, Bool.false_eq_true, ↓reduceIte, Df.fd]
  refine greatbook_W (n := 15) hs4 fun bk2 hb2 h5 hs5 => ?_
  simp only [↓W_some, ↓W_bind, ↓W_map, ↓w_var, ↓w_own, ↓w_cst, ↓w_tup, ↓w_ofL, ↓w_celL, ↓w_neg, ↓w_bin, ↓w_cmp, ↓w_chn, ↓w_nt, ↓w_an, ↓w_or, ↓w_ite, ↓w_idx, ↓w_slc, ↓w_call, ↓w_callK, ↓w_bi, ↓w_isi, ↓w_gall, ↓w_gany, ↓w_gsum, ↓w_gtup, ↓w_genF, ↓w_nil, ↓w_cons, ↓w_onone, ↓w_osome, ↓w_otnone, ↓w_otsome, ↓w_and1, ↓w_and, ↓w_or1, ↓w_orc, ↓w_tnt, ↓w_tan, ↓w_tor, ↓w_ta1, ↓w_ta, ↓w_to1, ↓w_to, ↓w_tcmp, ↓w_tchn, ↓w_tvar, ↓w_town, ↓w_tcst, ↓w_tidx, ↓w_tbin, ↓w_tslc, ↓w_tcall, ↓w_tcallK, ↓w_tbi, ↓w_tisi, ↓w_tgen, ↓w_disp, ↓w_comp, ↓w_list, ↓w_sorted, ↓w_seq, ↓w_rng1, ↓w_rng2, ↓w_enum, ↓w_zip, ↓w_rev, ↓w_set, ↓w_setL, ↓w_setD, ↓w_pat, ↓w_par2, ↓w_aug, ↓w_augI, ↓w_putI, ↓w_putO, ↓w_augO, ↓w_app, ↓w_expr, ↓w_ret, ↓w_retN, ↓w_iff, ↓w_whil, ↓w_forr, ↓w_brk, ↓w_cont, ↓w_pass, ↓w_frz, ↓w_snil, ↓w_scons, ↓bps_s, add_ii, add_tt, add_ll, sub_ii, lt_ii, le_ii, gt_ii, ge_ii, eq_ii, ne_ii, is_n, isnt_n, is_bb, isnt_bb, isNon_i, isNon_b, isNon_t, isNon_l, isNon_n, tru_b, tru_i, tru_t, tru_l, tru_n, len_t, len_l, len_s, len_d, bi_len, bi_abs, bi_int, bi_intb, bi_tupt, bi_tupl, bi_min, bi_max, bi_sum, it_t, it_l, it_s, li_l, list_t, list_l, list_s, sl_t, sl_l, sl_s, ty_ii, ty_ib, ty_in, ty_bi, ty_bb, ty_bn, bp_nm, bp_tt, bp_tl, bps_0, op_add, op_sub, op_mul, op_fdiv, op_mod, op_pow, cm_eq, cm_ne, cm_lt, cm_le, cm_gt, cm_ge, cm_is, cm_isnt, cm_in, cm_notin, cd_n, cd_b, cd_i, cd_s, wp_0, wp_s, oq_rt, oq_nx, ol_nx, ol_ct, ol_bk, ol_rt, mod_pos, fdiv_pos, mul_l, mul_r, varS_0, varS_s, lookS_0, lookS_s, ownS_0v, ownS_0, ownS_0d, ownS_s, setS_0, setS_s, set_0, set_s, deref_int, deref_bl, deref_non, deref_str, deref_tup, deref_lst, deref_scr, deref_dct, deref_ref0, isCell_ref0, restO_nx, restO_rt, restO_bk, restO_ct, szl, idx_tup0, idx_tup1, idx_tup2, idx_tup3, idx_tup4, idx_tup5, idx_tup6, idx_tup7, idx_tup8, idx_tup9, idx_lst0, idx_lst1, idx_lst2, idx_lst3, idx_lst4, idx_lst5, idx_lst6, idx_lst7, idx_lst8, idx_lst9, not_true_eq_false, not_false_eq_true, Int.reduceLT, Int.reduceLE, Int.reduceNeg, Int.reducePow, and_self, permD, List.getElem?_cons_zero, List.getElem?_cons_succ, Option.bind_some, Option.map_some, startS, List.map_cons, List.map_nil, List.replicate, List.cons_append, List.nil_append, List.append_nil, List.length_cons, List.length_nil, decide_eq_true_eq, Bool.not_eq_true', decide_eq_false_iff_not, Nat.reduceAdd, Nat.zero_add, Nat.reduceLeDiff, Nat.reduceLT, Nat.reduceSub, if_true, if_false, Bool.false_eq_true, ↓reduceIte, Df.fd]
  refine spares_W (n := 14) hb2 hs5 fun h6 hs6 => ?_
  simp only [Bool.not_true, ↓W_some, ↓W_bind, ↓W_map, ↓w_var, ↓w_own, ↓w_cst, ↓w_tup, ↓w_ofL, ↓w_celL, ↓w_neg, ↓w_bin, ↓w_cmp, ↓w_chn, ↓w_nt, ↓w_an, ↓w_or, ↓w_ite, ↓w_idx, ↓w_slc, ↓w_call, ↓w_callK, ↓w_bi, ↓w_isi, ↓w_gall, ↓w_gany, ↓w_gsum, ↓w_gtup, ↓w_genF, ↓w_nil, ↓w_cons, ↓w_onone, ↓w_osome, ↓w_otnone, ↓w_otsome, ↓w_and1, ↓w_and, ↓w_or1, ↓w_orc, ↓w_tnt, ↓w_tan, ↓w_tor, ↓w_ta1, ↓w_ta, ↓w_to1, ↓w_to, ↓w_tcmp, ↓w_tchn, ↓w_tvar, ↓w_town, ↓w_tcst, ↓w_tidx, ↓w_tbin, ↓w_tslc, ↓w_tcall, ↓w_tcallK, ↓w_tbi, ↓w_tisi, ↓w_tgen, ↓w_disp, ↓w_comp, ↓w_list, ↓w_sorted, ↓w_seq, ↓w_rng1, ↓w_rng2, ↓w_enum, ↓w_zip, ↓w_rev, ↓w_set, ↓w_setL, ↓w_setD, ↓w_pat, ↓w_par2, ↓w_aug, ↓w_augI, ↓w_putI, ↓w_putO, ↓w_augO, ↓w_app, ↓w_expr, ↓w_ret, ↓w_retN, ↓w_iff, ↓w_whil, ↓w_forr, ↓w_brk, ↓w_cont, ↓w_pass, ↓w_frz, ↓w_snil, ↓w_scons, ↓bps_s, add_ii, add_tt, add_ll, sub_ii, lt_ii, le_ii, gt_ii, ge_ii, eq_ii, ne_ii, is_n, isnt_n, is_bb, isnt_bb, isNon_i, isNon_b, isNon_t, isNon_l, isNon_n, tru_b, tru_i, tru_t, tru_l, tru_n, len_t, len_l, len_s, len_d, bi_len, bi_abs, bi_int, bi_intb, bi_tupt, bi_tupl, bi_min, bi_max, bi_sum, it_t, it_l, it_s, li_l, list_t, list_l, list_s, sl_t, sl_l, sl_s, ty_ii, ty_ib, ty_in, ty_bi, ty_bb, ty_bn, bp_nm, bp_tt, bp_tl, bps_0, op_add, op_sub, op_mul, op_fdiv, op_mod, op_pow, cm_eq, cm_ne, cm_lt, cm_le, cm_gt, cm_ge, cm_is, cm_isnt, cm_in, cm_notin, cd_n, cd_b, cd_i, cd_s, wp_0, wp_s, oq_rt, oq_nx, ol_nx, ol_ct, ol_bk, ol_rt, mod_pos, fdiv_pos, mul_l, mul_r, varS_0, varS_s, lookS_0, lookS_s, ownS_0v, ownS_0, ownS_0d, ownS_s, setS_0, setS_s, set_0, set_s, deref_int, deref_bl, deref_non, deref_str, deref_tup, deref_lst, deref_scr, deref_dct, deref_ref0, isCell_ref0, restO_nx, restO_rt, restO_bk, restO_ct, szl, idx_tup0, idx_tup1, idx_tup2, idx_tup3, idx_tup4, idx_tup5, idx_tup6, idx_tup7, idx_tup8, idx_tup9, idx_lst0, idx_lst1, idx_lst2, idx_lst3, idx_lst4, idx_lst5, idx_lst6, idx_lst7, idx_lst8, idx_lst9, not_true_eq_false, not_false_eq_true, Int.reduceLT, Int.reduceLE, Int.reduceNeg, Int.reducePow, and_self, permD, List.getElem?_cons_zero, List.getElem?_cons_succ, Option.bind_some, Option.map_some, startS, List.map_cons, List.map_nil, List.replicate, List.cons_append, List.nil_append, List.append_nil, List.length_cons, List.length_nil, decide_eq_true_eq, Bool.not_eq_true', decide_eq_false_iff_not, Nat.reduceAdd, Nat.zero_add, Nat.reduceLeDiff, Nat.reduceLT, Nat.reduceSub, if_true, if_false, Bool.false_eq_true, ↓reduceIte, Df.fd]
  refine changed_W (n := 15) hb' hs6 fun xs hxs h7 hs7 => ?_
  simp only [↓W_some, ↓W_bind, ↓W_map, ↓w_var, ↓w_own, ↓w_cst, ↓w_tup, ↓w_ofL, ↓w_celL, ↓w_neg, ↓w_bin, ↓w_cmp, ↓w_chn, ↓w_nt, ↓w_an, ↓w_or, ↓w_ite, ↓w_idx, ↓w_slc, ↓w_call, ↓w_callK, ↓w_bi, ↓w_isi, ↓w_gall, ↓w_gany, ↓w_gsum, ↓w_gtup, ↓w_genF, ↓w_nil, ↓w_cons, ↓w_onone, ↓w_osome, ↓w_otnone, ↓w_otsome, ↓w_and1, ↓w_and, ↓w_or1, ↓w_orc, ↓w_tnt, ↓w_tan, ↓w_tor, ↓w_ta1, ↓w_ta, ↓w_to1, ↓w_to, ↓w_tcmp, ↓w_tchn, ↓w_tvar, ↓w_town, ↓w_tcst, ↓w_tidx, ↓w_tbin, ↓w_tslc, ↓w_tcall, ↓w_tcallK, ↓w_tbi, ↓w_tisi, ↓w_tgen, ↓w_disp, ↓w_comp, ↓w_list, ↓w_sorted, ↓w_seq, ↓w_rng1, ↓w_rng2, ↓w_enum, ↓w_zip, ↓w_rev, ↓w_set, ↓w_setL, ↓w_setD, ↓w_pat, ↓w_par2, ↓w_aug, ↓w_augI, ↓w_putI, ↓w_putO, ↓w_augO, ↓w_app, ↓w_expr, ↓w_ret, ↓w_retN, ↓w_iff, ↓w_whil, ↓w_forr, ↓w_brk, ↓w_cont, ↓w_pass, ↓w_frz, ↓w_snil, ↓w_scons, ↓bps_s, add_ii, add_tt, add_ll, sub_ii, lt_ii, le_ii, gt_ii, ge_ii, eq_ii, ne_ii, is_n, isnt_n, is_bb, isnt_bb, isNon_i, isNon_b, isNon_t, isNon_l, isNon_n, tru_b, tru_i, tru_t, tru_l, tru_n, len_t, len_l, len_s, len_d, bi_len, bi_abs, bi_int, bi_intb, bi_tupt, bi_tupl, bi_min, bi_max, bi_sum, it_t, it_l, it_s, li_l, list_t, list_l, list_s, sl_t, sl_l, sl_s, ty_ii, ty_ib, ty_in, ty_bi, ty_bb, ty_bn, bp_nm, bp_tt, bp_tl, bps_0, op_add, op_sub, op_mul, op_fdiv, op_mod, op_pow, cm_eq, cm_ne, cm_lt, cm_le, cm_gt, cm_ge, cm_is, cm_isnt, cm_in, cm_notin, cd_n, cd_b, cd_i, cd_s, wp_0, wp_s, oq_rt, oq_nx, ol_nx, ol_ct, ol_bk, ol_rt, mod_pos, fdiv_pos, mul_l, mul_r, varS_0, varS_s, lookS_0, lookS_s, ownS_0v, ownS_0, ownS_0d, ownS_s, setS_0, setS_s, set_0, set_s, deref_int, deref_bl, deref_non, deref_str, deref_tup, deref_lst, deref_scr, deref_dct, deref_ref0, isCell_ref0, restO_nx, restO_rt, restO_bk, restO_ct, szl, idx_tup0, idx_tup1, idx_tup2, idx_tup3, idx_tup4, idx_tup5, idx_tup6, idx_tup7, idx_tup8, idx_tup9, idx_lst0, idx_lst1, idx_lst2, idx_lst3, idx_lst4, idx_lst5, idx_lst6, idx_lst7, idx_lst8, idx_lst9, not_true_eq_false, not_false_eq_true, Int.reduceLT, Int.reduceLE, Int.reduceNeg, Int.reducePow, and_self, permD, List.getElem?_cons_zero, List.getElem?_cons_succ, Option.bind_some, Option.map_some, startS, List.map_cons, List.map_nil, List.replicate, List.cons_append, List.nil_append, List.append_nil, List.length_cons, List.length_nil, decide_eq_true_eq, Bool.not_eq_true', decide_eq_false_iff_not, Nat.reduceAdd, Nat.zero_add, Nat.reduceLeDiff, Nat.reduceLT, Nat.reduceSub, if_true, if_false, Bool.false_eq_true, ↓reduceIte, Df.fd]
  cases ms with
  | nil => simp at ml
  | cons m0 mr =>
    have hm0 : Ev m0 true := by
      obtain ⟨ps, l, s, ns, r, rs, f, rfl, _, _, n5, _⟩ := hm m0 (List.mem_cons_self ..)
      refine ⟨ps.map up, l, s, ns, r, rs, 0, f, by rw [gmodeD, ← map_up]; rfl, ?_⟩
      unfold evenB
      rw [all_up, decide_eq_true n5]; rfl
    refine W_forS (fun r ρ h' => St h' ∧ ∃ (s3 s4 s5 s6 s7 s8 : Option Sl), ρ = [some (.val (.scr ns)), some (.val (.ref 0)), some (.val (.tup [.int e, .int g, .int t, .tup (m0 :: mr), .tup []])), s3, s4, s5, s6, s7, s8] ∧ ∀ x ∈ r, Due x) ?_ ?_ ⟨hs7, none, none, none, none, none, none, rfl, hxs⟩
    · rintro x r ρ h' ⟨hs8, s3, s4, s5, s6, s7, s8, rfl, hr⟩
      have hx : ∃ m b, x = .lst [m, .bl b] ∧ Ev m b := by
        obtain ⟨ps, l, s, ns, r, rs, rate, f, rfl⟩ := hr x (List.mem_cons_self ..)
        exact ⟨_, _, rfl, ps, l, s, ns, r, rs, rate, f, rfl, rfl⟩
      obtain ⟨m, b, rfl, hmb⟩ := hx
      have k1 : cutD (m0 :: mr) none (some (1 : Int)) = [m0] := by rw [cut_take (by decide)]; rfl
      have k3 : cutD [D.int e, .int g, .int t, .tup (m0 :: mr), .tup []] none (some (3 : Int)) = [D.int e, .int g, .int t] := by rw [cut_take (by decide)]; rfl
      simp only [k1, add_tt11, ↓W_some, ↓W_bind, ↓W_map, ↓w_var, ↓w_own, ↓w_cst, ↓w_tup, ↓w_ofL, ↓w_celL, ↓w_neg, ↓w_bin, ↓w_cmp, ↓w_chn, ↓w_nt, ↓w_an, ↓w_or, ↓w_ite, ↓w_idx, ↓w_slc, ↓w_call, ↓w_callK, ↓w_bi, ↓w_isi, ↓w_gall, ↓w_gany, ↓w_gsum, ↓w_gtup, ↓w_genF, ↓w_nil, ↓w_cons, ↓w_onone, ↓w_osome, ↓w_otnone, ↓w_otsome, ↓w_and1, ↓w_and, ↓w_or1, ↓w_orc, ↓w_tnt, ↓w_tan, ↓w_tor, ↓w_ta1, ↓w_ta, ↓w_to1, ↓w_to, ↓w_tcmp, ↓w_tchn, ↓w_tvar, ↓w_town, ↓w_tcst, ↓w_tidx, ↓w_tbin, ↓w_tslc, ↓w_tcall, ↓w_tcallK, ↓w_tbi, ↓w_tisi, ↓w_tgen, ↓w_disp, ↓w_comp, ↓w_list, ↓w_sorted, ↓w_seq, ↓w_rng1, ↓w_rng2, ↓w_enum, ↓w_zip, ↓w_rev, ↓w_set, ↓w_setL, ↓w_setD, ↓w_pat, ↓w_par2, ↓w_aug, ↓w_augI, ↓w_putI, ↓w_putO, ↓w_augO, ↓w_app, ↓w_expr, ↓w_ret, ↓w_retN, ↓w_iff, ↓w_whil, ↓w_forr, ↓w_brk, ↓w_cont, ↓w_pass, ↓w_frz, ↓w_snil, ↓w_scons, ↓bps_s, add_ii, add_tt, add_ll, sub_ii, lt_ii, le_ii, gt_ii, ge_ii, eq_ii, ne_ii, is_n, isnt_n, is_bb, isnt_bb, isNon_i, isNon_b, isNon_t, isNon_l, isNon_n, tru_b, tru_i, tru_t, tru_l, tru_n, len_t, len_l, len_s, len_d, bi_len, bi_abs, bi_int, bi_intb, bi_tupt, bi_tupl, bi_min, bi_max, bi_sum, it_t, it_l, it_s, li_l, list_t, list_l, list_s, sl_t, sl_l, sl_s, ty_ii, ty_ib, ty_in, ty_bi, ty_bb, ty_bn, bp_nm, bp_tt, bp_tl, bps_0, op_add, op_sub, op_mul, op_fdiv, op_mod, op_pow, cm_eq, cm_ne, cm_lt, cm_le, cm_gt, cm_ge, cm_is, cm_isnt, cm_in, cm_notin, cd_n, cd_b, cd_i, cd_s, wp_0, wp_s, oq_rt, oq_nx, ol_nx, ol_ct, ol_bk, ol_rt, mod_pos, fdiv_pos, mul_l, mul_r, varS_0, varS_s, lookS_0, lookS_s, ownS_0v, ownS_0, ownS_0d, ownS_s, setS_0, setS_s, set_0, set_s, deref_int, deref_bl, deref_non, deref_str, deref_tup, deref_lst, deref_scr, deref_dct, deref_ref0, isCell_ref0, restO_nx, restO_rt, restO_bk, restO_ct, szl, idx_tup0, idx_tup1, idx_tup2, idx_tup3, idx_tup4, idx_tup5, idx_tup6, idx_tup7, idx_tup8, idx_tup9, idx_lst0, idx_lst1, idx_lst2, idx_lst3, idx_lst4, idx_lst5, idx_lst6, idx_lst7, idx_lst8, idx_lst9, not_true_eq_false, not_false_eq_true, Int.reduceLT, Int.reduceLE, Int.reduceNeg, Int.reducePow, and_self, permD, List.getElem?_cons_zero, List.getElem?_cons_succ, Option.bind_some, Option.map_some, startS, List.map_cons, List.map_nil, List.replicate, List.cons_append, List.nil_append, List.append_nil, List.length_cons, List.length_nil, decide_eq_true_eq, Bool.not_eq_true', decide_eq_false_iff_not, Nat.reduceAdd, Nat.zero_add, Nat.reduceLeDiff, Nat.reduceLT, Nat.reduceSub, if_true, if_false, Bool.false_eq_true, ↓reduceIte, Df.fd]
      refine pick_W (n := 16) hs8 (by simp) (by simp) fun md hmd h9 hs9 => ?_
      have hmd2 : ∃ zs : List D, md = .tup zs ∧ zs.length ≤ 2 ∧ ∀ z ∈ zs, z = m ∨ z = m0 := by
        simp only [List.mem_cons, List.mem_nil_iff, or_false] at hmd
        rcases hmd with rfl | rfl | rfl
        · exact ⟨[m], rfl, by simp, fun z hz => by simp at hz; exact .inl hz⟩
        · exact ⟨[m0, m], rfl, by simp, fun z hz => by simp at hz; exact hz.symm⟩
        · exact ⟨[m, m0], rfl, by simp, fun z hz => by simp at hz; exact hz⟩
      obtain ⟨zs, rfl, zl, hz⟩ := hmd2
      simp only [k3, add_t32, small_of (show (0 : Int) ≤ zs.length by omega) (by omega), ↓W_some, ↓W_bind, ↓W_map, ↓w_var, ↓w_own, ↓w_cst, ↓w_tup, ↓w_ofL, ↓w_celL, ↓w_neg, ↓w_bin, ↓w_cmp, ↓w_chn, ↓w_nt, ↓w_an, ↓w_or, ↓w_ite, ↓w_idx, ↓w_slc, ↓w_call, ↓w_callK, ↓w_bi, ↓w_isi, ↓w_gall, ↓w_gany, ↓w_gsum, ↓w_gtup, ↓w_genF, ↓w_nil, ↓w_cons, ↓w_onone, ↓w_osome, ↓w_otnone, ↓w_otsome, ↓w_and1, ↓w_and, ↓w_or1, ↓w_orc, ↓w_tnt, ↓w_tan, ↓w_tor, ↓w_ta1, ↓w_ta, ↓w_to1, ↓w_to, ↓w_tcmp, ↓w_tchn, ↓w_tvar, ↓w_town, ↓w_tcst, ↓w_tidx, ↓w_tbin, ↓w_tslc, ↓w_tcall, ↓w_tcallK, ↓w_tbi, ↓w_tisi, ↓w_tgen, ↓w_disp, ↓w_comp, ↓w_list, ↓w_sorted, ↓w_seq, ↓w_rng1, ↓w_rng2, ↓w_enum, ↓w_zip, ↓w_rev, ↓w_set, ↓w_setL, ↓w_setD, ↓w_pat, ↓w_par2, ↓w_aug, ↓w_augI, ↓w_putI, ↓w_putO, ↓w_augO, ↓w_app, ↓w_expr, ↓w_ret, ↓w_retN, ↓w_iff, ↓w_whil, ↓w_forr, ↓w_brk, ↓w_cont, ↓w_pass, ↓w_frz, ↓w_snil, ↓w_scons, ↓bps_s, add_ii, add_tt, add_ll, sub_ii, lt_ii, le_ii, gt_ii, ge_ii, eq_ii, ne_ii, is_n, isnt_n, is_bb, isnt_bb, isNon_i, isNon_b, isNon_t, isNon_l, isNon_n, tru_b, tru_i, tru_t, tru_l, tru_n, len_t, len_l, len_s, len_d, bi_len, bi_abs, bi_int, bi_intb, bi_tupt, bi_tupl, bi_min, bi_max, bi_sum, it_t, it_l, it_s, li_l, list_t, list_l, list_s, sl_t, sl_l, sl_s, ty_ii, ty_ib, ty_in, ty_bi, ty_bb, ty_bn, bp_nm, bp_tt, bp_tl, bps_0, op_add, op_sub, op_mul, op_fdiv, op_mod, op_pow, cm_eq, cm_ne, cm_lt, cm_le, cm_gt, cm_ge, cm_is, cm_isnt, cm_in, cm_notin, cd_n, cd_b, cd_i, cd_s, wp_0, wp_s, oq_rt, oq_nx, ol_nx, ol_ct, ol_bk, ol_rt, mod_pos, fdiv_pos, mul_l, mul_r, varS_0, varS_s, lookS_0, lookS_s, ownS_0v, ownS_0, ownS_0d, ownS_s, setS_0, setS_s, set_0, set_s, deref_int, deref_bl, deref_non, deref_str, deref_tup, deref_lst, deref_scr, deref_dct, deref_ref0, isCell_ref0, restO_nx, restO_rt, restO_bk, restO_ct, szl, idx_tup0, idx_tup1, idx_tup2, idx_tup3, idx_tup4, idx_tup5, idx_tup6, idx_tup7, idx_tup8, idx_tup9, idx_lst0, idx_lst1, idx_lst2, idx_lst3, idx_lst4, idx_lst5, idx_lst6, idx_lst7, idx_lst8, idx_lst9, not_true_eq_false, not_false_eq_true, Int.reduceLT, Int.reduceLE, Int.reduceNeg, Int.reducePow, and_self, permD, List.getElem?_cons_zero, List.getElem?_cons_succ, Option.bind_some, Option.map_some, startS, List.map_cons, List.map_nil, List.replicate, List.cons_append, List.nil_append, List.append_nil, List.length_cons, List.length_nil, decide_eq_true_eq, Bool.not_eq_true', decide_eq_false_iff_not, Nat.reduceAdd, Nat.zero_add, Nat.reduceLeDiff, Nat.reduceLT, Nat.reduceSub, if_true, if_false, Bool.false_eq_true, ↓reduceIte, Df.fd]
      refine W_forS (fun r' ρ h' => St h' ∧ ∃ (s7 s8 : Option Sl), ρ = [some (.val (.scr ns)), some (.val (.ref 0)), some (.val (.tup [.int e, .int g, .int t, .tup (m0 :: mr), .tup []])), some (.val m), some (.val (.bl b)), some (.val (.tup zs)), some (.val (.tup [.int e, .int g, .int t, .tup zs, .tup []])), s7, s8] ∧ ∀ x ∈ r', ∃ i : Nat, x = .int (i : Int) ∧ i < zs.length) ?_ ?_ ⟨hs9, s7, s8, rfl, fun x hx => ?_⟩
      · rintro x r' ρ h' ⟨hs10, s7, s8, rfl, hr'⟩
        obtain ⟨i, rfl, hi⟩ := hr' x (List.mem_cons_self ..)
        have hk : idxD (.tup zs) (.int (i : Int)) = some zs[i] := atI_at (j := i) rfl (List.getElem?_eq_getElem hi)
        have hzi := hz zs[i] (List.getElem_mem hi)
        have pm : PT 5 m := by obtain ⟨ps, l, s, ns, r, rs, rate, f, rfl, _⟩ := hmb; exact pt_gmode _ _ _ _ _ _ _ _
        have pm0 : PT 5 m0 := by obtain ⟨ps, l, s, ns, r, rs, rate, f, rfl, _⟩ := hm0; exact pt_gmode _ _ _ _ _ _ _ _
        have pz : PT 5 zs[i] := by rcases hzi with z | z <;> rw [z] <;> assumption
        have he : eqD zs[i] m = some (.bl (sameD zs[i] m)) := eqD_pt pz pm (by decide)
        have dz : deref h' zs[i] = zs[i] := by revert pz; cases zs[i] <;> first | (intro _; rfl) | (intro z; exact z.elim)
        have dm : deref h' m = m := by revert pm; cases m <;> first | (intro _; rfl) | (intro z; exact z.elim)
        by_cases c : zs[i] = m
        · have hEv : Ev zs[i] b := by rw [c]; exact hmb
          have hsame : sameD zs[i] m = true := sameD_iff.mpr c
          simp only [hk, he, dz, dm, hsame, ↓W_some, ↓W_bind, ↓W_map, ↓w_var, ↓w_own, ↓w_cst, ↓w_tup, ↓w_ofL, ↓w_celL, ↓w_neg, ↓w_bin, ↓w_cmp, ↓w_chn, ↓w_nt, ↓w_an, ↓w_or, ↓w_ite, ↓w_idx, ↓w_slc, ↓w_call, ↓w_callK, ↓w_bi, ↓w_isi, ↓w_gall, ↓w_gany, ↓w_gsum, ↓w_gtup, ↓w_genF, ↓w_nil, ↓w_cons, ↓w_onone, ↓w_osome, ↓w_otnone, ↓w_otsome, ↓w_and1, ↓w_and, ↓w_or1, ↓w_orc, ↓w_tnt, ↓w_tan, ↓w_tor, ↓w_ta1, ↓w_ta, ↓w_to1, ↓w_to, ↓w_tcmp, ↓w_tchn, ↓w_tvar, ↓w_town, ↓w_tcst, ↓w_tidx, ↓w_tbin, ↓w_tslc, ↓w_tcall, ↓w_tcallK, ↓w_tbi, ↓w_tisi, ↓w_tgen, ↓w_disp, ↓w_comp, ↓w_list, ↓w_sorted, ↓w_seq, ↓w_rng1, ↓w_rng2, ↓w_enum, ↓w_zip, ↓w_rev, ↓w_set, ↓w_setL, ↓w_setD, ↓w_pat, ↓w_par2, ↓w_aug, ↓w_augI, ↓w_putI, ↓w_putO, ↓w_augO, ↓w_app, ↓w_expr, ↓w_ret, ↓w_retN, ↓w_iff, ↓w_whil, ↓w_forr, ↓w_brk, ↓w_cont, ↓w_pass, ↓w_frz, ↓w_snil, ↓w_scons, ↓bps_s, add_ii, add_tt, add_ll, sub_ii, lt_ii, le_ii, gt_ii, ge_ii, eq_ii, ne_ii, is_n, isnt_n, is_bb, isnt_bb, isNon_i, isNon_b, isNon_t, isNon_l, isNon_n, tru_b, tru_i, tru_t, tru_l, tru_n, len_t, len_l, len_s, len_d, bi_len, bi_abs, bi_int, bi_intb, bi_tupt, bi_tupl, bi_min, bi_max, bi_sum, it_t, it_l, it_s, li_l, list_t, list_l, list_s, sl_t, sl_l, sl_s, ty_ii, ty_ib, ty_in, ty_bi, ty_bb, ty_bn, bp_nm, bp_tt, bp_tl, bps_0, op_add, op_sub, op_mul, op_fdiv, op_mod, op_pow, cm_eq, cm_ne, cm_lt, cm_le, cm_gt, cm_ge, cm_is, cm_isnt, cm_in, cm_notin, cd_n, cd_b, cd_i, cd_s, wp_0, wp_s, oq_rt, oq_nx, ol_nx, ol_ct, ol_bk, ol_rt, mod_pos, fdiv_pos, mul_l, mul_r, varS_0, varS_s, lookS_0, lookS_s, ownS_0v, ownS_0, ownS_0d, ownS_s, setS_0, setS_s, set_0, set_s, deref_int, deref_bl, deref_non, deref_str, deref_tup, deref_lst, deref_scr, deref_dct, deref_ref0, isCell_ref0, restO_nx, restO_rt, restO_bk, restO_ct, szl, idx_tup0, idx_tup1, idx_tup2, idx_tup3, idx_tup4, idx_tup5, idx_tup6, idx_tup7, idx_tup8, idx_tup9, idx_lst0, idx_lst1, idx_lst2, idx_lst3, idx_lst4, idx_lst5, idx_lst6, idx_lst7, idx_lst8, idx_lst9, not_true_eq_false, not_false_eq_true, Int.reduceLT, Int.reduceLE, Int.reduceNeg, Int.reducePow, and_self, permD, List.getElem?_cons_zero, List.getElem?_cons_succ, Option.bind_some, Option.map_some, startS, List.map_cons, List.map_nil, List.replicate, List.cons_append, List.nil_append, List.append_nil, List.length_cons, List.length_nil, decide_eq_true_eq, Bool.not_eq_true', decide_eq_false_iff_not, Nat.reduceAdd, Nat.zero_add, Nat.reduceLeDiff, Nat.reduceLT, Nat.reduceSub, if_true, if_false, Bool.false_eq_true, ↓reduceIte, Df.fd]
          refine even_W (n := 18) hEv hk ?_
          simp only [↓W_some, ↓W_bind, ↓W_map, ↓w_var, ↓w_own, ↓w_cst, ↓w_tup, ↓w_ofL, ↓w_celL, ↓w_neg, ↓w_bin, ↓w_cmp, ↓w_chn, ↓w_nt, ↓w_an, ↓w_or, ↓w_ite, ↓w_idx, ↓w_slc, ↓w_call, ↓w_callK, ↓w_bi, ↓w_isi, ↓w_gall, ↓w_gany, ↓w_gsum, ↓w_gtup, ↓w_genF, ↓w_nil, ↓w_cons, ↓w_onone, ↓w_osome, ↓w_otnone, ↓w_otsome, ↓w_and1, ↓w_and, ↓w_or1, ↓w_orc, ↓w_tnt, ↓w_tan, ↓w_tor, ↓w_ta1, ↓w_ta, ↓w_to1, ↓w_to, ↓w_tcmp, ↓w_tchn, ↓w_tvar, ↓w_town, ↓w_tcst, ↓w_tidx, ↓w_tbin, ↓w_tslc, ↓w_tcall, ↓w_tcallK, ↓w_tbi, ↓w_tisi, ↓w_tgen, ↓w_disp, ↓w_comp, ↓w_list, ↓w_sorted, ↓w_seq, ↓w_rng1, ↓w_rng2, ↓w_enum, ↓w_zip, ↓w_rev, ↓w_set, ↓w_setL, ↓w_setD, ↓w_pat, ↓w_par2, ↓w_aug, ↓w_augI, ↓w_putI, ↓w_putO, ↓w_augO, ↓w_app, ↓w_expr, ↓w_ret, ↓w_retN, ↓w_iff, ↓w_whil, ↓w_forr, ↓w_brk, ↓w_cont, ↓w_pass, ↓w_frz, ↓w_snil, ↓w_scons, ↓bps_s, add_ii, add_tt, add_ll, sub_ii, lt_ii, le_ii, gt_ii, ge_ii, eq_ii, ne_ii, is_n, isnt_n, is_bb, isnt_bb, isNon_i, isNon_b, isNon_t, isNon_l, isNon_n, tru_b, tru_i, tru_t, tru_l, tru_n, len_t, len_l, len_s, len_d, bi_len, bi_abs, bi_int, bi_intb, bi_tupt, bi_tupl, bi_min, bi_max, bi_sum, it_t, it_l, it_s, li_l, list_t, list_l, list_s, sl_t, sl_l, sl_s, ty_ii, ty_ib, ty_in, ty_bi, ty_bb, ty_bn, bp_nm, bp_tt, bp_tl, bps_0, op_add, op_sub, op_mul, op_fdiv, op_mod, op_pow, cm_eq, cm_ne, cm_lt, cm_le, cm_gt, cm_ge, cm_is, cm_isnt, cm_in, cm_notin, cd_n, cd_b, cd_i, cd_s, wp_0, wp_s, oq_rt, oq_nx, ol_nx, ol_ct, ol_bk, ol_rt, mod_pos, fdiv_pos, mul_l, mul_r, varS_0, varS_s, lookS_0, lookS_s, ownS_0v, ownS_0, ownS_0d, ownS_s, setS_0, setS_s, set_0, set_s, deref_int, deref_bl, deref_non, deref_str, deref_tup, deref_lst, deref_scr, deref_dct, deref_ref0, isCell_ref0, restO_nx, restO_rt, restO_bk, restO_ct, szl, idx_tup0, idx_tup1, idx_tup2, idx_tup3, idx_tup4, idx_tup5, idx_tup6, idx_tup7, idx_tup8, idx_tup9, idx_lst0, idx_lst1, idx_lst2, idx_lst3, idx_lst4, idx_lst5, idx_lst6, idx_lst7, idx_lst8, idx_lst9, not_true_eq_false, not_false_eq_true, Int.reduceLT, Int.reduceLE, Int.reduceNeg, Int.reducePow, and_self, permD, List.getElem?_cons_zero, List.getElem?_cons_succ, Option.bind_some, Option.map_some, startS, List.map_cons, List.map_nil, List.replicate, List.cons_append, List.nil_append, List.append_nil, List.length_cons, List.length_nil, decide_eq_true_eq, Bool.not_eq_true', decide_eq_false_iff_not, Nat.reduceAdd, Nat.zero_add, Nat.reduceLeDiff, Nat.reduceLT, Nat.reduceSub, if_true, if_false, Bool.false_eq_true, ↓reduceIte, Df.fd]
          refine isdue_W (n := 18) ?_
          simp only [beq_self_eq_true, Bool.not_true, ↓W_some, ↓W_bind, ↓W_map, ↓w_var, ↓w_own, ↓w_cst, ↓w_tup, ↓w_ofL, ↓w_celL, ↓w_neg, ↓w_bin, ↓w_cmp, ↓w_chn, ↓w_nt, ↓w_an, ↓w_or, ↓w_ite, ↓w_idx, ↓w_slc, ↓w_call, ↓w_callK, ↓w_bi, ↓w_isi, ↓w_gall, ↓w_gany, ↓w_gsum, ↓w_gtup, ↓w_genF, ↓w_nil, ↓w_cons, ↓w_onone, ↓w_osome, ↓w_otnone, ↓w_otsome, ↓w_and1, ↓w_and, ↓w_or1, ↓w_orc, ↓w_tnt, ↓w_tan, ↓w_tor, ↓w_ta1, ↓w_ta, ↓w_to1, ↓w_to, ↓w_tcmp, ↓w_tchn, ↓w_tvar, ↓w_town, ↓w_tcst, ↓w_tidx, ↓w_tbin, ↓w_tslc, ↓w_tcall, ↓w_tcallK, ↓w_tbi, ↓w_tisi, ↓w_tgen, ↓w_disp, ↓w_comp, ↓w_list, ↓w_sorted, ↓w_seq, ↓w_rng1, ↓w_rng2, ↓w_enum, ↓w_zip, ↓w_rev, ↓w_set, ↓w_setL, ↓w_setD, ↓w_pat, ↓w_par2, ↓w_aug, ↓w_augI, ↓w_putI, ↓w_putO, ↓w_augO, ↓w_app, ↓w_expr, ↓w_ret, ↓w_retN, ↓w_iff, ↓w_whil, ↓w_forr, ↓w_brk, ↓w_cont, ↓w_pass, ↓w_frz, ↓w_snil, ↓w_scons, ↓bps_s, add_ii, add_tt, add_ll, sub_ii, lt_ii, le_ii, gt_ii, ge_ii, eq_ii, ne_ii, is_n, isnt_n, is_bb, isnt_bb, isNon_i, isNon_b, isNon_t, isNon_l, isNon_n, tru_b, tru_i, tru_t, tru_l, tru_n, len_t, len_l, len_s, len_d, bi_len, bi_abs, bi_int, bi_intb, bi_tupt, bi_tupl, bi_min, bi_max, bi_sum, it_t, it_l, it_s, li_l, list_t, list_l, list_s, sl_t, sl_l, sl_s, ty_ii, ty_ib, ty_in, ty_bi, ty_bb, ty_bn, bp_nm, bp_tt, bp_tl, bps_0, op_add, op_sub, op_mul, op_fdiv, op_mod, op_pow, cm_eq, cm_ne, cm_lt, cm_le, cm_gt, cm_ge, cm_is, cm_isnt, cm_in, cm_notin, cd_n, cd_b, cd_i, cd_s, wp_0, wp_s, oq_rt, oq_nx, ol_nx, ol_ct, ol_bk, ol_rt, mod_pos, fdiv_pos, mul_l, mul_r, varS_0, varS_s, lookS_0, lookS_s, ownS_0v, ownS_0, ownS_0d, ownS_s, setS_0, setS_s, set_0, set_s, deref_int, deref_bl, deref_non, deref_str, deref_tup, deref_lst, deref_scr, deref_dct, deref_ref0, isCell_ref0, restO_nx, restO_rt, restO_bk, restO_ct, szl, idx_tup0, idx_tup1, idx_tup2, idx_tup3, idx_tup4, idx_tup5, idx_tup6, idx_tup7, idx_tup8, idx_tup9, idx_lst0, idx_lst1, idx_lst2, idx_lst3, idx_lst4, idx_lst5, idx_lst6, idx_lst7, idx_lst8, idx_lst9, not_true_eq_false, not_false_eq_true, Int.reduceLT, Int.reduceLE, Int.reduceNeg, Int.reducePow, and_self, permD, List.getElem?_cons_zero, List.getElem?_cons_succ, Option.bind_some, Option.map_some, startS, List.map_cons, List.map_nil, List.replicate, List.cons_append, List.nil_append, List.append_nil, List.length_cons, List.length_nil, decide_eq_true_eq, Bool.not_eq_true', decide_eq_false_iff_not, Nat.reduceAdd, Nat.zero_add, Nat.reduceLeDiff, Nat.reduceLT, Nat.reduceSub, if_true, if_false, Bool.false_eq_true, ↓reduceIte, Df.fd]
          refine even_W (n := 18) hEv hk ?_
          simp only [↓W_some, ↓W_bind, ↓W_map, ↓w_var, ↓w_own, ↓w_cst, ↓w_tup, ↓w_ofL, ↓w_celL, ↓w_neg, ↓w_bin, ↓w_cmp, ↓w_chn, ↓w_nt, ↓w_an, ↓w_or, ↓w_ite, ↓w_idx, ↓w_slc, ↓w_call, ↓w_callK, ↓w_bi, ↓w_isi, ↓w_gall, ↓w_gany, ↓w_gsum, ↓w_gtup, ↓w_genF, ↓w_nil, ↓w_cons, ↓w_onone, ↓w_osome, ↓w_otnone, ↓w_otsome, ↓w_and1, ↓w_and, ↓w_or1, ↓w_orc, ↓w_tnt, ↓w_tan, ↓w_tor, ↓w_ta1, ↓w_ta, ↓w_to1, ↓w_to, ↓w_tcmp, ↓w_tchn, ↓w_tvar, ↓w_town, ↓w_tcst, ↓w_tidx, ↓w_tbin, ↓w_tslc, ↓w_tcall, ↓w_tcallK, ↓w_tbi, ↓w_tisi, ↓w_tgen, ↓w_disp, ↓w_comp, ↓w_list, ↓w_sorted, ↓w_seq, ↓w_rng1, ↓w_rng2, ↓w_enum, ↓w_zip, ↓w_rev, ↓w_set, ↓w_setL, ↓w_setD, ↓w_pat, ↓w_par2, ↓w_aug, ↓w_augI, ↓w_putI, ↓w_putO, ↓w_augO, ↓w_app, ↓w_expr, ↓w_ret, ↓w_retN, ↓w_iff, ↓w_whil, ↓w_forr, ↓w_brk, ↓w_cont, ↓w_pass, ↓w_frz, ↓w_snil, ↓w_scons, ↓bps_s, add_ii, add_tt, add_ll, sub_ii, lt_ii, le_ii, gt_ii, ge_ii, eq_ii, ne_ii, is_n, isnt_n, is_bb, isnt_bb, isNon_i, isNon_b, isNon_t, isNon_l, isNon_n, tru_b, tru_i, tru_t, tru_l, tru_n, len_t, len_l, len_s, len_d, bi_len, bi_abs, bi_int, bi_intb, bi_tupt, bi_tupl, bi_min, bi_max, bi_sum, it_t, it_l, it_s, li_l, list_t, list_l, list_s, sl_t, sl_l, sl_s, ty_ii, ty_ib, ty_in, ty_bi, ty_bb, ty_bn, bp_nm, bp_tt, bp_tl, bps_0, op_add, op_sub, op_mul, op_fdiv, op_mod, op_pow, cm_eq, cm_ne, cm_lt, cm_le, cm_gt, cm_ge, cm_is, cm_isnt, cm_in, cm_notin, cd_n, cd_b, cd_i, cd_s, wp_0, wp_s, oq_rt, oq_nx, ol_nx, ol_ct, ol_bk, ol_rt, mod_pos, fdiv_pos, mul_l, mul_r, varS_0, varS_s, lookS_0, lookS_s, ownS_0v, ownS_0, ownS_0d, ownS_s, setS_0, setS_s, set_0, set_s, deref_int, deref_bl, deref_non, deref_str, deref_tup, deref_lst, deref_scr, deref_dct, deref_ref0, isCell_ref0, restO_nx, restO_rt, restO_bk, restO_ct, szl, idx_tup0, idx_tup1, idx_tup2, idx_tup3, idx_tup4, idx_tup5, idx_tup6, idx_tup7, idx_tup8, idx_tup9, idx_lst0, idx_lst1, idx_lst2, idx_lst3, idx_lst4, idx_lst5, idx_lst6, idx_lst7, idx_lst8, idx_lst9, not_true_eq_false, not_false_eq_true, Int.reduceLT, Int.reduceLE, Int.reduceNeg, Int.reducePow, and_self, permD, List.getElem?_cons_zero, List.getElem?_cons_succ, Option.bind_some, Option.map_some, startS, List.map_cons, List.map_nil, List.replicate, List.cons_append, List.nil_append, List.append_nil, List.length_cons, List.length_nil, decide_eq_true_eq, Bool.not_eq_true', decide_eq_false_iff_not, Nat.reduceAdd, Nat.zero_add, Nat.reduceLeDiff, Nat.reduceLT, Nat.reduceSub, if_true, if_false, Bool.false_eq_true, ↓reduceIte, Df.fd]
          refine isdue_W (n := 18) ?_
          simp only [beq_self_eq_true, Bool.not_true, ↓W_some, ↓W_bind, ↓W_map, ↓w_var, ↓w_own, ↓w_cst, ↓w_tup, ↓w_ofL, ↓w_celL, ↓w_neg, ↓w_bin, ↓w_cmp, ↓w_chn, ↓w_nt, ↓w_an, ↓w_or, ↓w_ite, ↓w_idx, ↓w_slc, ↓w_call, ↓w_callK, ↓w_bi, ↓w_isi, ↓w_gall, ↓w_gany, ↓w_gsum, ↓w_gtup, ↓w_genF, ↓w_nil, ↓w_cons, ↓w_onone, ↓w_osome, ↓w_otnone, ↓w_otsome, ↓w_and1, ↓w_and, ↓w_or1, ↓w_orc, ↓w_tnt, ↓w_tan, ↓w_tor, ↓w_ta1, ↓w_ta, ↓w_to1, ↓w_to, ↓w_tcmp, ↓w_tchn, ↓w_tvar, ↓w_town, ↓w_tcst, ↓w_tidx, ↓w_tbin, ↓w_tslc, ↓w_tcall, ↓w_tcallK, ↓w_tbi, ↓w_tisi, ↓w_tgen, ↓w_disp, ↓w_comp, ↓w_list, ↓w_sorted, ↓w_seq, ↓w_rng1, ↓w_rng2, ↓w_enum, ↓w_zip, ↓w_rev, ↓w_set, ↓w_setL, ↓w_setD, ↓w_pat, ↓w_par2, ↓w_aug, ↓w_augI, ↓w_putI, ↓w_putO, ↓w_augO, ↓w_app, ↓w_expr, ↓w_ret, ↓w_retN, ↓w_iff, ↓w_whil, ↓w_forr, ↓w_brk, ↓w_cont, ↓w_pass, ↓w_frz, ↓w_snil, ↓w_scons, ↓bps_s, add_ii, add_tt, add_ll, sub_ii, lt_ii, le_ii, gt_ii, ge_ii, eq_ii, ne_ii, is_n, isnt_n, is_bb, isnt_bb, isNon_i, isNon_b, isNon_t, isNon_l, isNon_n, tru_b, tru_i, tru_t, tru_l, tru_n, len_t, len_l, len_s, len_d, bi_len, bi_abs, bi_int, bi_intb, bi_tupt, bi_tupl, bi_min, bi_max, bi_sum, it_t, it_l, it_s, li_l, list_t, list_l, list_s, sl_t, sl_l, sl_s, ty_ii, ty_ib, ty_in, ty_bi, ty_bb, ty_bn, bp_nm, bp_tt, bp_tl, bps_0, op_add, op_sub, op_mul, op_fdiv, op_mod, op_pow, cm_eq, cm_ne, cm_lt, cm_le, cm_gt, cm_ge, cm_is, cm_isnt, cm_in, cm_notin, cd_n, cd_b, cd_i, cd_s, wp_0, wp_s, oq_rt, oq_nx, ol_nx, ol_ct, ol_bk, ol_rt, mod_pos, fdiv_pos, mul_l, mul_r, varS_0, varS_s, lookS_0, lookS_s, ownS_0v, ownS_0, ownS_0d, ownS_s, setS_0, setS_s, set_0, set_s, deref_int, deref_bl, deref_non, deref_str, deref_tup, deref_lst, deref_scr, deref_dct, deref_ref0, isCell_ref0, restO_nx, restO_rt, restO_bk, restO_ct, szl, idx_tup0, idx_tup1, idx_tup2, idx_tup3, idx_tup4, idx_tup5, idx_tup6, idx_tup7, idx_tup8, idx_tup9, idx_lst0, idx_lst1, idx_lst2, idx_lst3, idx_lst4, idx_lst5, idx_lst6, idx_lst7, idx_lst8, idx_lst9, not_true_eq_false, not_false_eq_true, Int.reduceLT, Int.reduceLE, Int.reduceNeg, Int.reducePow, and_self, permD, List.getElem?_cons_zero, List.getElem?_cons_succ, Option.bind_some, Option.map_some, startS, List.map_cons, List.map_nil, List.replicate, List.cons_append, List.nil_append, List.append_nil, List.length_cons, List.length_nil, decide_eq_true_eq, Bool.not_eq_true', decide_eq_false_iff_not, Nat.reduceAdd, Nat.zero_add, Nat.reduceLeDiff, Nat.reduceLT, Nat.reduceSub, if_true, if_false, Bool.false_eq_true, ↓reduceIte, Df.fd]
          exact ⟨hs10, _, _, rfl, fun z hz => hr' z (List.mem_cons_of_mem _ hz)⟩
        · have hEv : Ev zs[i] true := by rcases hzi with z | z
                                         · exact absurd z c
                                         · rw [z]; exact hm0
          have hsame : sameD zs[i] m = false := by
            cases e : sameD zs[i] m with
            | false => rfl
            | true => exact absurd (sameD_iff.mp e) c
          simp only [hk, he, dz, dm, hsame, ↓W_some, ↓W_bind, ↓W_map, ↓w_var, ↓w_own, ↓w_cst, ↓w_tup, ↓w_ofL, ↓w_celL, ↓w_neg, ↓w_bin, ↓w_cmp, ↓w_chn, ↓w_nt, ↓w_an, ↓w_or, ↓w_ite, ↓w_idx, ↓w_slc, ↓w_call, ↓w_callK, ↓w_bi, ↓w_isi, ↓w_gall, ↓w_gany, ↓w_gsum, ↓w_gtup, ↓w_genF, ↓w_nil, ↓w_cons, ↓w_onone, ↓w_osome, ↓w_otnone, ↓w_otsome, ↓w_and1, ↓w_and, ↓w_or1, ↓w_orc, ↓w_tnt, ↓w_tan, ↓w_tor, ↓w_ta1, ↓w_ta, ↓w_to1, ↓w_to, ↓w_tcmp, ↓w_tchn, ↓w_tvar, ↓w_town, ↓w_tcst, ↓w_tidx, ↓w_tbin, ↓w_tslc, ↓w_tcall, ↓w_tcallK, ↓w_tbi, ↓w_tisi, ↓w_tgen, ↓w_disp, ↓w_comp, ↓w_list, ↓w_sorted, ↓w_seq, ↓w_rng1, ↓w_rng2, ↓w_enum, ↓w_zip, ↓w_rev, ↓w_set, ↓w_setL, ↓w_setD, ↓w_pat, ↓w_par2, ↓w_aug, ↓w_augI, ↓w_putI, ↓w_putO, ↓w_augO, ↓w_app, ↓w_expr, ↓w_ret, ↓w_retN, ↓w_iff, ↓w_whil, ↓w_forr, ↓w_brk, ↓w_cont, ↓w_pass, ↓w_frz, ↓w_snil, ↓w_scons, ↓bps_s, add_ii, add_tt, add_ll, sub_ii, lt_ii, le_ii, gt_ii, ge_ii, eq_ii, ne_ii, is_n, isnt_n, is_bb, isnt_bb, isNon_i, isNon_b, isNon_t, isNon_l, isNon_n, tru_b, tru_i, tru_t, tru_l, tru_n, len_t, len_l, len_s, len_d, bi_len, bi_abs, bi_int, bi_intb, bi_tupt, bi_tupl, bi_min, bi_max, bi_sum, it_t, it_l, it_s, li_l, list_t, list_l, list_s, sl_t, sl_l, sl_s, ty_ii, ty_ib, ty_in, ty_bi, ty_bb, ty_bn, bp_nm, bp_tt, bp_tl, bps_0, op_add, op_sub, op_mul, op_fdiv, op_mod, op_pow, cm_eq, cm_ne, cm_lt, cm_le, cm_gt, cm_ge, cm_is, cm_isnt, cm_in, cm_notin, cd_n, cd_b, cd_i, cd_s, wp_0, wp_s, oq_rt, oq_nx, ol_nx, ol_ct, ol_bk, ol_rt, mod_pos, fdiv_pos, mul_l, mul_r, varS_0, varS_s, lookS_0, lookS_s, ownS_0v, ownS_0, ownS_0d, ownS_s, setS_0, setS_s, set_0, set_s, deref_int, deref_bl, deref_non, deref_str, deref_tup, deref_lst, deref_scr, deref_dct, deref_ref0, isCell_ref0, restO_nx, restO_rt, restO_bk, restO_ct, szl, idx_tup0, idx_tup1, idx_tup2, idx_tup3, idx_tup4, idx_tup5, idx_tup6, idx_tup7, idx_tup8, idx_tup9, idx_lst0, idx_lst1, idx_lst2, idx_lst3, idx_lst4, idx_lst5, idx_lst6, idx_lst7, idx_lst8, idx_lst9, not_true_eq_false, not_false_eq_true, Int.reduceLT, Int.reduceLE, Int.reduceNeg, Int.reducePow, and_self, permD, List.getElem?_cons_zero, List.getElem?_cons_succ, Option.bind_some, Option.map_some, startS, List.map_cons, List.map_nil, List.replicate, List.cons_append, List.nil_append, List.append_nil, List.length_cons, List.length_nil, decide_eq_true_eq, Bool.not_eq_true', decide_eq_false_iff_not, Nat.reduceAdd, Nat.zero_add, Nat.reduceLeDiff, Nat.reduceLT, Nat.reduceSub, if_true, if_false, Bool.false_eq_true, ↓reduceIte, Df.fd]
          refine even_W (n := 18) hEv hk ?_
          simp only [↓W_some, ↓W_bind, ↓W_map, ↓w_var, ↓w_own, ↓w_cst, ↓w_tup, ↓w_ofL, ↓w_celL, ↓w_neg, ↓w_bin, ↓w_cmp, ↓w_chn, ↓w_nt, ↓w_an, ↓w_or, ↓w_ite, ↓w_idx, ↓w_slc, ↓w_call, ↓w_callK, ↓w_bi, ↓w_isi, ↓w_gall, ↓w_gany, ↓w_gsum, ↓w_gtup, ↓w_genF, ↓w_nil, ↓w_cons, ↓w_onone, ↓w_osome, ↓w_otnone, ↓w_otsome, ↓w_and1, ↓w_and, ↓w_or1, ↓w_orc, ↓w_tnt, ↓w_tan, ↓w_tor, ↓w_ta1, ↓w_ta, ↓w_to1, ↓w_to, ↓w_tcmp, ↓w_tchn, ↓w_tvar, ↓w_town, ↓w_tcst, ↓w_tidx, ↓w_tbin, ↓w_tslc, ↓w_tcall, ↓w_tcallK, ↓w_tbi, ↓w_tisi, ↓w_tgen, ↓w_disp, ↓w_comp, ↓w_list, ↓w_sorted, ↓w_seq, ↓w_rng1, ↓w_rng2, ↓w_enum, ↓w_zip, ↓w_rev, ↓w_set, ↓w_setL, ↓w_setD, ↓w_pat, ↓w_par2, ↓w_aug, ↓w_augI, ↓w_putI, ↓w_putO, ↓w_augO, ↓w_app, ↓w_expr, ↓w_ret, ↓w_retN, ↓w_iff, ↓w_whil, ↓w_forr, ↓w_brk, ↓w_cont, ↓w_pass, ↓w_frz, ↓w_snil, ↓w_scons, ↓bps_s, add_ii, add_tt, add_ll, sub_ii, lt_ii, le_ii, gt_ii, ge_ii, eq_ii, ne_ii, is_n, isnt_n, is_bb, isnt_bb, isNon_i, isNon_b, isNon_t, isNon_l, isNon_n, tru_b, tru_i, tru_t, tru_l, tru_n, len_t, len_l, len_s, len_d, bi_len, bi_abs, bi_int, bi_intb, bi_tupt, bi_tupl, bi_min, bi_max, bi_sum, it_t, it_l, it_s, li_l, list_t, list_l, list_s, sl_t, sl_l, sl_s, ty_ii, ty_ib, ty_in, ty_bi, ty_bb, ty_bn, bp_nm, bp_tt, bp_tl, bps_0, op_add, op_sub, op_mul, op_fdiv, op_mod, op_pow, cm_eq, cm_ne, cm_lt, cm_le, cm_gt, cm_ge, cm_is, cm_isnt, cm_in, cm_notin, cd_n, cd_b, cd_i, cd_s, wp_0, wp_s, oq_rt, oq_nx, ol_nx, ol_ct, ol_bk, ol_rt, mod_pos, fdiv_pos, mul_l, mul_r, varS_0, varS_s, lookS_0, lookS_s, ownS_0v, ownS_0, ownS_0d, ownS_s, setS_0, setS_s, set_0, set_s, deref_int, deref_bl, deref_non, deref_str, deref_tup, deref_lst, deref_scr, deref_dct, deref_ref0, isCell_ref0, restO_nx, restO_rt, restO_bk, restO_ct, szl, idx_tup0, idx_tup1, idx_tup2, idx_tup3, idx_tup4, idx_tup5, idx_tup6, idx_tup7, idx_tup8, idx_tup9, idx_lst0, idx_lst1, idx_lst2, idx_lst3, idx_lst4, idx_lst5, idx_lst6, idx_lst7, idx_lst8, idx_lst9, not_true_eq_false, not_false_eq_true, Int.reduceLT, Int.reduceLE, Int.reduceNeg, Int.reducePow, and_self, permD, List.getElem?_cons_zero, List.getElem?_cons_succ, Option.bind_some, Option.map_some, startS, List.map_cons, List.map_nil, List.replicate, List.cons_append, List.nil_append, List.append_nil, List.length_cons, List.length_nil, decide_eq_true_eq, Bool.not_eq_true', decide_eq_false_iff_not, Nat.reduceAdd, Nat.zero_add, Nat.reduceLeDiff, Nat.reduceLT, Nat.reduceSub, if_true, if_false, Bool.false_eq_true, ↓reduceIte, Df.fd]
          refine isdue_W (n := 18) ?_
          simp only [beq_self_eq_true, Bool.not_true, ↓W_some, ↓W_bind, ↓W_map, ↓w_var, ↓w_own, ↓w_cst, ↓w_tup, ↓w_ofL, ↓w_celL, ↓w_neg, ↓w_bin, ↓w_cmp, ↓w_chn, ↓w_nt, ↓w_an, ↓w_or, ↓w_ite, ↓w_idx, ↓w_slc, ↓w_call, ↓w_callK, ↓w_bi, ↓w_isi, ↓w_gall, ↓w_gany, ↓w_gsum, ↓w_gtup, ↓w_genF, ↓w_nil, ↓w_cons, ↓w_onone, ↓w_osome, ↓w_otnone, ↓w_otsome, ↓w_and1, ↓w_and, ↓w_or1, ↓w_orc, ↓w_tnt, ↓w_tan, ↓w_tor, ↓w_ta1, ↓w_ta, ↓w_to1, ↓w_to, ↓w_tcmp, ↓w_tchn, ↓w_tvar, ↓w_town, ↓w_tcst, ↓w_tidx, ↓w_tbin, ↓w_tslc, ↓w_tcall, ↓w_tcallK, ↓w_tbi, ↓w_tisi, ↓w_tgen, ↓w_disp, ↓w_comp, ↓w_list, ↓w_sorted, ↓w_seq, ↓w_rng1, ↓w_rng2, ↓w_enum, ↓w_zip, ↓w_rev, ↓w_set, ↓w_setL, ↓w_setD, ↓w_pat, ↓w_par2, ↓w_aug, ↓w_augI, ↓w_putI, ↓w_putO, ↓w_augO, ↓w_app, ↓w_expr, ↓w_ret, ↓w_retN, ↓w_iff, ↓w_whil, ↓w_forr, ↓w_brk, ↓w_cont, ↓w_pass, ↓w_frz, ↓w_snil, ↓w_scons, ↓bps_s, add_ii, add_tt, add_ll, sub_ii, lt_ii, le_ii, gt_ii, ge_ii, eq_ii, ne_ii, is_n, isnt_n, is_bb, isnt_bb, isNon_i, isNon_b, isNon_t, isNon_l, isNon_n, tru_b, tru_i, tru_t, tru_l, tru_n, len_t, len_l, len_s, len_d, bi_len, bi_abs, bi_int, bi_intb, bi_tupt, bi_tupl, bi_min, bi_max, bi_sum, it_t, it_l, it_s, li_l, list_t, list_l, list_s, sl_t, sl_l, sl_s, ty_ii, ty_ib, ty_in, ty_bi, ty_bb, ty_bn, bp_nm, bp_tt, bp_tl, bps_0, op_add, op_sub, op_mul, op_fdiv, op_mod, op_pow, cm_eq, cm_ne, cm_lt, cm_le, cm_gt, cm_ge, cm_is, cm_isnt, cm_in, cm_notin, cd_n, cd_b, cd_i, cd_s, wp_0, wp_s, oq_rt, oq_nx, ol_nx, ol_ct, ol_bk, ol_rt, mod_pos, fdiv_pos, mul_l, mul_r, varS_0, varS_s, lookS_0, lookS_s, ownS_0v, ownS_0, ownS_0d, ownS_s, setS_0, setS_s, set_0, set_s, deref_int, deref_bl, deref_non, deref_str, deref_tup, deref_lst, deref_scr, deref_dct, deref_ref0, isCell_ref0, restO_nx, restO_rt, restO_bk, restO_ct, szl, idx_tup0, idx_tup1, idx_tup2, idx_tup3, idx_tup4, idx_tup5, idx_tup6, idx_tup7, idx_tup8, idx_tup9, idx_lst0, idx_lst1, idx_lst2, idx_lst3, idx_lst4, idx_lst5, idx_lst6, idx_lst7, idx_lst8, idx_lst9, not_true_eq_false, not_false_eq_true, Int.reduceLT, Int.reduceLE, Int.reduceNeg, Int.reducePow, and_self, permD, List.getElem?_cons_zero, List.getElem?_cons_succ, Option.bind_some, Option.map_some, startS, List.map_cons, List.map_nil, List.replicate, List.cons_append, List.nil_append, List.append_nil, List.length_cons, List.length_nil, decide_eq_true_eq, Bool.not_eq_true', decide_eq_false_iff_not, Nat.reduceAdd, Nat.zero_add, Nat.reduceLeDiff, Nat.reduceLT, Nat.reduceSub, if_true, if_false, Bool.false_eq_true, ↓reduceIte, Df.fd]
          refine even_W (n := 18) hEv hk ?_
          simp only [↓W_some, ↓W_bind, ↓W_map, ↓w_var, ↓w_own, ↓w_cst, ↓w_tup, ↓w_ofL, ↓w_celL, ↓w_neg, ↓w_bin, ↓w_cmp, ↓w_chn, ↓w_nt, ↓w_an, ↓w_or, ↓w_ite, ↓w_idx, ↓w_slc, ↓w_call, ↓w_callK, ↓w_bi, ↓w_isi, ↓w_gall, ↓w_gany, ↓w_gsum, ↓w_gtup, ↓w_genF, ↓w_nil, ↓w_cons, ↓w_onone, ↓w_osome, ↓w_otnone, ↓w_otsome, ↓w_and1, ↓w_and, ↓w_or1, ↓w_orc, ↓w_tnt, ↓w_tan, ↓w_tor, ↓w_ta1, ↓w_ta, ↓w_to1, ↓w_to, ↓w_tcmp, ↓w_tchn, ↓w_tvar, ↓w_town, ↓w_tcst, ↓w_tidx, ↓w_tbin, ↓w_tslc, ↓w_tcall, ↓w_tcallK, ↓w_tbi, ↓w_tisi, ↓w_tgen, ↓w_disp, ↓w_comp, ↓w_list, ↓w_sorted, ↓w_seq, ↓w_rng1, ↓w_rng2, ↓w_enum, ↓w_zip, ↓w_rev, ↓w_set, ↓w_setL, ↓w_setD, ↓w_pat, ↓w_par2, ↓w_aug, ↓w_augI, ↓w_putI, ↓w_putO, ↓w_augO, ↓w_app, ↓w_expr, ↓w_ret, ↓w_retN, ↓w_iff, ↓w_whil, ↓w_forr, ↓w_brk, ↓w_cont, ↓w_pass, ↓w_frz, ↓w_snil, ↓w_scons, ↓bps_s, add_ii, add_tt, add_ll, sub_ii, lt_ii, le_ii, gt_ii, ge_ii, eq_ii, ne_ii, is_n, isnt_n, is_bb, isnt_bb, isNon_i, isNon_b, isNon_t, isNon_l, isNon_n, tru_b, tru_i, tru_t, tru_l, tru_n, len_t, len_l, len_s, len_d, bi_len, bi_abs, bi_int, bi_intb, bi_tupt, bi_tupl, bi_min, bi_max, bi_sum, it_t, it_l, it_s, li_l, list_t, list_l, list_s, sl_t, sl_l, sl_s, ty_ii, ty_ib, ty_in, ty_bi, ty_bb, ty_bn, bp_nm, bp_tt, bp_tl, bps_0, op_add, op_sub, op_mul, op_fdiv, op_mod, op_pow, cm_eq, cm_ne, cm_lt, cm_le, cm_gt, cm_ge, cm_is, cm_isnt, cm_in, cm_notin, cd_n, cd_b, cd_i, cd_s, wp_0, wp_s, oq_rt, oq_nx, ol_nx, ol_ct, ol_bk, ol_rt, mod_pos, fdiv_pos, mul_l, mul_r, varS_0, varS_s, lookS_0, lookS_s, ownS_0v, ownS_0, ownS_0d, ownS_s, setS_0, setS_s, set_0, set_s, deref_int, deref_bl, deref_non, deref_str, deref_tup, deref_lst, deref_scr, deref_dct, deref_ref0, isCell_ref0, restO_nx, restO_rt, restO_bk, restO_ct, szl, idx_tup0, idx_tup1, idx_tup2, idx_tup3, idx_tup4, idx_tup5, idx_tup6, idx_tup7, idx_tup8, idx_tup9, idx_lst0, idx_lst1, idx_lst2, idx_lst3, idx_lst4, idx_lst5, idx_lst6, idx_lst7, idx_lst8, idx_lst9, not_true_eq_false, not_false_eq_true, Int.reduceLT, Int.reduceLE, Int.reduceNeg, Int.reducePow, and_self, permD, List.getElem?_cons_zero, List.getElem?_cons_succ, Option.bind_some, Option.map_some, startS, List.map_cons, List.map_nil, List.replicate, List.cons_append, List.nil_append, List.append_nil, List.length_cons, List.length_nil, decide_eq_true_eq, Bool.not_eq_true', decide_eq_false_iff_not, Nat.reduceAdd, Nat.zero_add, Nat.reduceLeDiff, Nat.reduceLT, Nat.reduceSub, if_true, if_false, Bool.false_eq_true, ↓reduceIte, Df.fd]
          refine isdue_W (n := 18) ?_
          simp only [beq_self_eq_true, Bool.not_true, ↓W_some, ↓W_bind, ↓W_map, ↓w_var, ↓w_own, ↓w_cst, ↓w_tup, ↓w_ofL, ↓w_celL, ↓w_neg, ↓w_bin, ↓w_cmp, ↓w_chn, ↓w_nt, ↓w_an, ↓w_or, ↓w_ite, ↓w_idx, ↓w_slc, ↓w_call, ↓w_callK, ↓w_bi, ↓w_isi, ↓w_gall, ↓w_gany, ↓w_gsum, ↓w_gtup, ↓w_genF, ↓w_nil, ↓w_cons, ↓w_onone, ↓w_osome, ↓w_otnone, ↓w_otsome, ↓w_and1, ↓w_and, ↓w_or1, ↓w_orc, ↓w_tnt, ↓w_tan, ↓w_tor, ↓w_ta1, ↓w_ta, ↓w_to1, ↓w_to, ↓w_tcmp, ↓w_tchn, ↓w_tvar, ↓w_town, ↓w_tcst, ↓w_tidx, ↓w_tbin, ↓w_tslc, ↓w_tcall, ↓w_tcallK, ↓w_tbi, ↓w_tisi, ↓w_tgen, ↓w_disp, ↓w_comp, ↓w_list, ↓w_sorted, ↓w_seq, ↓w_rng1, ↓w_rng2, ↓w_enum, ↓w_zip, ↓w_rev, ↓w_set, ↓w_setL, ↓w_setD, ↓w_pat, ↓w_par2, ↓w_aug, ↓w_augI, ↓w_putI, ↓w_putO, ↓w_augO, ↓w_app, ↓w_expr, ↓w_ret, ↓w_retN, ↓w_iff, ↓w_whil, ↓w_forr, ↓w_brk, ↓w_cont, ↓w_pass, ↓w_frz, ↓w_snil, ↓w_scons, ↓bps_s, add_ii, add_tt, add_ll, sub_ii, lt_ii, le_ii, gt_ii, ge_ii, eq_ii, ne_ii, is_n, isnt_n, is_bb, isnt_bb, isNon_i, isNon_b, isNon_t, isNon_l, isNon_n, tru_b, tru_i, tru_t, tru_l, tru_n, len_t, len_l, len_s, len_d, bi_len, bi_abs, bi_int, bi_intb, bi_tupt, bi_tupl, bi_min, bi_max, bi_sum, it_t, it_l, it_s, li_l, list_t, list_l, list_s, sl_t, sl_l, sl_s, ty_ii, ty_ib, ty_in, ty_bi, ty_bb, ty_bn, bp_nm, bp_tt, bp_tl, bps_0, op_add, op_sub, op_mul, op_fdiv, op_mod, op_pow, cm_eq, cm_ne, cm_lt, cm_le, cm_gt, cm_ge, cm_is, cm_isnt, cm_in, cm_notin, cd_n, cd_b, cd_i, cd_s, wp_0, wp_s, oq_rt, oq_nx, ol_nx, ol_ct, ol_bk, ol_rt, mod_pos, fdiv_pos, mul_l, mul_r, varS_0, varS_s, lookS_0, lookS_s, ownS_0v, ownS_0, ownS_0d, ownS_s, setS_0, setS_s, set_0, set_s, deref_int, deref_bl, deref_non, deref_str, deref_tup, deref_lst, deref_scr, deref_dct, deref_ref0, isCell_ref0, restO_nx, restO_rt, restO_bk, restO_ct, szl, idx_tup0, idx_tup1, idx_tup2, idx_tup3, idx_tup4, idx_tup5, idx_tup6, idx_tup7, idx_tup8, idx_tup9, idx_lst0, idx_lst1, idx_lst2, idx_lst3, idx_lst4, idx_lst5, idx_lst6, idx_lst7, idx_lst8, idx_lst9, not_true_eq_false, not_false_eq_true, Int.reduceLT, Int.reduceLE, Int.reduceNeg, Int.reducePow, and_self, permD, List.getElem?_cons_zero, List.getElem?_cons_succ, Option.bind_some, Option.map_some, startS, List.map_cons, List.map_nil, List.replicate, List.cons_append, List.nil_append, List.append_nil, List.length_cons, List.length_nil, decide_eq_true_eq, Bool.not_eq_true', decide_eq_false_iff_not, Nat.reduceAdd, Nat.zero_add, Nat.reduceLeDiff, Nat.reduceLT, Nat.reduceSub, if_true, if_false, Bool.false_eq_true, ↓reduceIte, Df.fd]
          exact ⟨hs10, _, _, rfl, fun z hz => hr' z (List.mem_cons_of_mem _ hz)⟩
      · rintro ρ h' ⟨hs10, s7, s8, rfl, hr'⟩
        simp only [↓W_some, ↓W_bind, ↓W_map, ↓w_var, ↓w_own, ↓w_cst, ↓w_tup, ↓w_ofL, ↓w_celL, ↓w_neg, ↓w_bin, ↓w_cmp, ↓w_chn, ↓w_nt, ↓w_an, ↓w_or, ↓w_ite, ↓w_idx, ↓w_slc, ↓w_call, ↓w_callK, ↓w_bi, ↓w_isi, ↓w_gall, ↓w_gany, ↓w_gsum, ↓w_gtup, ↓w_genF, ↓w_nil, ↓w_cons, ↓w_onone, ↓w_osome, ↓w_otnone, ↓w_otsome, ↓w_and1, ↓w_and, ↓w_or1, ↓w_orc, ↓w_tnt, ↓w_tan, ↓w_tor, ↓w_ta1, ↓w_ta, ↓w_to1, ↓w_to, ↓w_tcmp, ↓w_tchn, ↓w_tvar, ↓w_town, ↓w_tcst, ↓w_tidx, ↓w_tbin, ↓w_tslc, ↓w_tcall, ↓w_tcallK, ↓w_tbi, ↓w_tisi, ↓w_tgen, ↓w_disp, ↓w_comp, ↓w_list, ↓w_sorted, ↓w_seq, ↓w_rng1, ↓w_rng2, ↓w_enum, ↓w_zip, ↓w_rev, ↓w_set, ↓w_setL, ↓w_setD, ↓w_pat, ↓w_par2, ↓w_aug, ↓w_augI, ↓w_putI, ↓w_putO, ↓w_augO, ↓w_app, ↓w_expr, ↓w_ret, ↓w_retN, ↓w_iff, ↓w_whil, ↓w_forr, ↓w_brk, ↓w_cont, ↓w_pass, ↓w_frz, ↓w_snil, ↓w_scons, ↓bps_s, add_ii, add_tt, add_ll, sub_ii, lt_ii, le_ii, gt_ii, ge_ii, eq_ii, ne_ii, is_n, isnt_n, is_bb, isnt_bb, isNon_i, isNon_b, isNon_t, isNon_l, isNon_n, tru_b, tru_i, tru_t, tru_l, tru_n, len_t, len_l, len_s, len_d, bi_len, bi_abs, bi_int, bi_intb, bi_tupt, bi_tupl, bi_min, bi_max, bi_sum, it_t, it_l, it_s, li_l, list_t, list_l, list_s, sl_t, sl_l, sl_s, ty_ii, ty_ib, ty_in, ty_bi, ty_bb, ty_bn, bp_nm, bp_tt, bp_tl, bps_0, op_add, op_sub, op_mul, op_fdiv, op_mod, op_pow, cm_eq, cm_ne, cm_lt, cm_le, cm_gt, cm_ge, cm_is, cm_isnt, cm_in, cm_notin, cd_n, cd_b, cd_i, cd_s, wp_0, wp_s, oq_rt, oq_nx, ol_nx, ol_ct, ol_bk, ol_rt, mod_pos, fdiv_pos, mul_l, mul_r, varS_0, varS_s, lookS_0, lookS_s, ownS_0v, ownS_0, ownS_0d, ownS_s, setS_0, setS_s, set_0, set_s, deref_int, deref_bl, deref_non, deref_str, deref_tup, deref_lst, deref_scr, deref_dct, deref_ref0, isCell_ref0, restO_nx, restO_rt, restO_bk, restO_ct, szl, idx_tup0, idx_tup1, idx_tup2, idx_tup3, idx_tup4, idx_tup5, idx_tup6, idx_tup7, idx_tup8, idx_tup9, idx_lst0, idx_lst1, idx_lst2, idx_lst3, idx_lst4, idx_lst5, idx_lst6, idx_lst7, idx_lst8, idx_lst9, not_true_eq_false, not_false_eq_true, Int.reduceLT, Int.reduceLE, Int.reduceNeg, Int.reducePow, and_self, permD, List.getElem?_cons_zero, List.getElem?_cons_succ, Option.bind_some, Option.map_some, startS, List.map_cons, List.map_nil, List.replicate, List.cons_append, List.nil_append, List.append_nil, List.length_cons, List.length_nil, decide_eq_true_eq, Bool.not_eq_true', decide_eq_false_iff_not, Nat.reduceAdd, Nat.zero_add, Nat.reduceLeDiff, Nat.reduceLT, Nat.reduceSub, if_true, if_false, Bool.false_eq_true, ↓reduceIte, Df.fd]
        exact ⟨hs10, _, _, _, _, _, _, rfl, fun z hz => hr z (List.mem_cons_of_mem _ hz)⟩
      · rw [rng_map] at hx
        obtain ⟨i, hi, rfl⟩ := List.mem_map.mp hx
        rw [List.mem_range] at hi
        exact ⟨i, rfl, by omega⟩
    · rintro ρ h' ⟨hs8, s3, s4, s5, s6, s7, s8, rfl, hr⟩
      simp only [↓W_some, ↓W_bind, ↓W_map, ↓w_var, ↓w_own, ↓w_cst, ↓w_tup, ↓w_ofL, ↓w_celL, ↓w_neg, ↓w_bin, ↓w_cmp, ↓w_chn, ↓w_nt, ↓w_an, ↓w_or, ↓w_ite, ↓w_idx, ↓w_slc, ↓w_call, ↓w_callK, ↓w_bi, ↓w_isi, ↓w_gall, ↓w_gany, ↓w_gsum, ↓w_gtup, ↓w_genF, ↓w_nil, ↓w_cons, ↓w_onone, ↓w_osome, ↓w_otnone, ↓w_otsome, ↓w_and1, ↓w_and, ↓w_or1, ↓w_orc, ↓w_tnt, ↓w_tan, ↓w_tor, ↓w_ta1, ↓w_ta, ↓w_to1, ↓w_to, ↓w_tcmp, ↓w_tchn, ↓w_tvar, ↓w_town, ↓w_tcst, ↓w_tidx, ↓w_tbin, ↓w_tslc, ↓w_tcall, ↓w_tcallK, ↓w_tbi, ↓w_tisi, ↓w_tgen, ↓w_disp, ↓w_comp, ↓w_list, ↓w_sorted, ↓w_seq, ↓w_rng1, ↓w_rng2, ↓w_enum, ↓w_zip, ↓w_rev, ↓w_set, ↓w_setL, ↓w_setD, ↓w_pat, ↓w_par2, ↓w_aug, ↓w_augI, ↓w_putI, ↓w_putO, ↓w_augO, ↓w_app, ↓w_expr, ↓w_ret, ↓w_retN, ↓w_iff, ↓w_whil, ↓w_forr, ↓w_brk, ↓w_cont, ↓w_pass, ↓w_frz, ↓w_snil, ↓w_scons, ↓bps_s, add_ii, add_tt, add_ll, sub_ii, lt_ii, le_ii, gt_ii, ge_ii, eq_ii, ne_ii, is_n, isnt_n, is_bb, isnt_bb, isNon_i, isNon_b, isNon_t, isNon_l, isNon_n, tru_b, tru_i, tru_t, tru_l, tru_n, len_t, len_l, len_s, len_d, bi_len, bi_abs, bi_int, bi_intb, bi_tupt, bi_tupl, bi_min, bi_max, bi_sum, it_t, it_l, it_s, li_l, list_t, list_l, list_s, sl_t, sl_l, sl_s, ty_ii, ty_ib, ty_in, ty_bi, ty_bb, ty_bn, bp_nm, bp_tt, bp_tl, bps_0, op_add, op_sub, op_mul, op_fdiv, op_mod, op_pow, cm_eq, cm_ne, cm_lt, cm_le, cm_gt, cm_ge, cm_is, cm_isnt, cm_in, cm_notin, cd_n, cd_b, cd_i, cd_s, wp_0, wp_s, oq_rt, oq_nx, ol_nx, ol_ct, ol_bk, ol_rt, mod_pos, fdiv_pos, mul_l, mul_r, varS_0, varS_s, lookS_0, lookS_s, ownS_0v, ownS_0, ownS_0d, ownS_s, setS_0, setS_s, set_0, set_s, deref_int, deref_bl, deref_non, deref_str, deref_tup, deref_lst, deref_scr, deref_dct, deref_ref0, isCell_ref0, restO_nx, restO_rt, restO_bk, restO_ct, szl, idx_tup0, idx_tup1, idx_tup2, idx_tup3, idx_tup4, idx_tup5, idx_tup6, idx_tup7, idx_tup8, idx_tup9, idx_lst0, idx_lst1, idx_lst2, idx_lst3, idx_lst4, idx_lst5, idx_lst6, idx_lst7, idx_lst8, idx_lst9, not_true_eq_false, not_false_eq_true, Int.reduceLT, Int.reduceLE, Int.reduceNeg, Int.reducePow, and_self, permD, List.getElem?_cons_zero, List.getElem?_cons_succ, Option.bind_some, Option.map_some, startS, List.map_cons, List.map_nil, List.replicate, List.cons_append, List.nil_append, List.append_nil, List.length_cons, List.length_nil, decide_eq_true_eq, Bool.not_eq_true', decide_eq_false_iff_not, Nat.reduceAdd, Nat.zero_add, Nat.reduceLeDiff, Nat.reduceLT, Nat.reduceSub, if_true, if_false, Bool.false_eq_true, ↓reduceIte, Df.fd]
theorem law_plain : ∀ ns : List Int, ns.length ≤ 63 → (∀ z ∈ ns, Builtin.Int.intBits z ≤ 1048576) → ∃ h', call (ds.map Df.fd) 20 21 [.scr ns] [] = some (.bl true, h') := fun ns _ _ => by
  obtain ⟨⟨d, h'⟩, e, q⟩ := law_W (ns := ns)
  have q : d = .bl true := q
  subst q
  exact ⟨h', e⟩
end PI.K01

set_option Elab.async false
set_option linter.all false
set_option maxRecDepth 100000
set_option maxHeartbeats 0
namespace PI.K01
open PySem PySem.Spec PyProof.Rows L2 PI
abbrev R : PySem.W.OpenRow := PySem.W.OpenLaw.row PySem.Challenge.rw_sparealoft_k01_tables_and_spare_fuel
abbrev hk : PySem.W.Hook := He.hookX 4 (faL ds) (ds.map Df.dd) [] (tfL ds) (fun _ => true)
def ob (s : PySem.W.SharedT) : He.AlX := He.obsX 4 (faL ds) (ds.map Df.dd) [] (tfL ds) (fun _ => true) (HandSHeadRun.getT s)
theorem ob_eq (s : PySem.W.SharedT) : ob s = hk.obs s.abs := He.obsX_eq (HandSHeadRun.getT_eq s)
def loose : List Str := ["value_at", "least_mass", "spare", "is_even", "_law_mixed", "_law_start", "_law_take", "_law_pick", "_law_shuffled", "_law_is_due", "_law_rising", "_law_even_mode", "_law_even_book", "_law_value", "_law_spare", "_law_is", "_law_tables_are_told", "_law_great_book", "_law_points", "_law_spares_are_told", "_law_changed"]
theorem run (w : World) : HandSHeadRun.RunEq R (PySem.W.view R.prog [25]) hk ob 2000 loose w := by
  intro os
  kernel_rfl
end PI.K01
open PySem PySem.W PySem.Calls PyProof.Rows
theorem PySem.Challenge.cw_sparealoft_k01_tables_and_spare_fuel_holds : PySem.Challenge.rw_sparealoft_k01_tables_and_spare_fuel.Holds := by
  w_on; o_law
  refine HandSHeadRun.head_any (r := OpenLaw.row PySem.Challenge.rw_sparealoft_k01_tables_and_spare_fuel) (q := view (OpenLaw.row PySem.Challenge.rw_sparealoft_k01_tables_and_spare_fuel).prog [25]) (H := PI.K01.hk) (ob := PI.K01.ob) (M := 2000) (loose := PI.K01.loose) (d := HandSHeadRun.topDef (OpenLaw.row PySem.Challenge.rw_sparealoft_k01_tables_and_spare_fuel).prog 25) (kwd := []) PI.K01.ob_eq
    (by kernel_rfl) (fun s => by kernel_rfl) PI.K01.run (by kernel_rfl) (by kernel_rfl) (by kernel_rfl) (by rfl) (by first | assumption | decide +kernel) (by decide +kernel) ⟨rfl, rfl, rfl, rfl, rfl, by decide +kernel⟩ ?hw ?hc
  case hw => w_witness2
  case hc =>
    refine LamX.walk_ofTsE (l := PySem.Challenge.rw_sparealoft_k01_tables_and_spare_fuel) (n := 63) (k := 2 * 20) (x := "script") (CX := fun _ => L2.CX0) rfl (by decide) (by kernel_rfl) ⟨rfl, by decide, by decide⟩ ?F (fun _ _ _ _ _ z => z)
    intro w mg fa h Y G hmg0
    obtain ⟨K, KX, c⟩ := Y
    have hmg : mg ("law" : PySem.Str) = some (.ref fa) := by
      have e : (HandSHeadRun.topDef (OpenLaw.row PySem.Challenge.rw_sparealoft_k01_tables_and_spare_fuel).prog 25).name = ("law" : PySem.Str) := by kernel_rfl
      rw [← e]
      exact hmg0
    exact ⟨K, KX, PI.law_at (kcs := PI.K01.kcs) (ix := 21) (N := 20) (dl := PI.K01.f_law) c KX G PI.K01.okAll PI.K01.bfAll PI.K01.kfAll PI.K01.nod rfl rfl hmg PI.K01.law_plain⟩

