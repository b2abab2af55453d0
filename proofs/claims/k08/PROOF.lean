import PyProof.Rows.All
import Wide.All
import OpenK.AllK
import Wide.FinOn
import HandS.Strs
import HandS.Comp
import HandS.Dict
import HandS.Text
import HandS.Style
import HandS.TupAny
import HandS.Deep
import HandS.Iter
import HandS.Zip
import HandS.SortInts
import HandS.SetFor
import HandS.MapObj
import KE.GoesZip
import KE.GoesMore
import KE.KDictZip
import HandS.Defaults
import HandS.ExcOwn
import HandS.Ends
import HandS.Head2
import HandS.HeadEnd
import HandS.IsInst
import HandS.Star
import HandS.WordsExc
import HandS.TryOnly
import HandS.More
import HandS.Head0
import HandS.Head1
import HandS.HeadHook1
import HandS.HeadHook2
import HandS.HeadHook4
import PySem.Challenge.RW_forkways_k08_points_beyond_partings
set_option Elab.async false
set_option linter.all false
set_option maxRecDepth 100000
set_option maxHeartbeats 0
namespace FW
open PySem
/-- how many unlike texts there are, none of those seen -/
def cntS : List Str → List Str → Nat
  | _, [] => 0
  | seen, x :: r => (if seen.contains x then 0 else 1) + cntS (seen ++ [x]) r
end FW
namespace FW
open PySem
/-- the values in the parameters' order -/
def pick {α : Type} (perm : List Nat) (us ws : List α) : List α := perm.filterMap fun i => (us ++ ws)[i]?
def permOf (ps : List Str) (n : Nat) (nm : List Str) : List Nat := (List.range ps.length).map fun j => if j < n then j else n + nm.idxOf (ps[j]?.getD default)
def permOk (ps : List Str) (n : Nat) (nm : List Str) (perm : List Nat) : Bool := decide (n + nm.length = ps.length) && decide nm.Nodup && ((ps.drop n).all fun x => nm.contains x) && (nm.all fun x => (ps.drop n).contains x) && decide (perm = permOf ps n nm)
end FW
namespace FW
open PySem PySem.Spec PyProof.Rows L2
/-- a pure value: tuples and lists are trees, a dict its keys and values in order; drw: the law's draws -/
inductive PV where
  | non | bl (b : Bool) | int (i : Int) | str (s : Str) | tup (xs : List PV) | lst (xs : List PV) | dct (t : Bool) (ks vs : List PV) | drw | scr (ns : List Int)
def kPV : Key → PV
  | .inl i => .int i
  | .inr x => .str x
/-- where the draws' objects stand -/
structure DrA where
  a : Addr
  gr : Addr
  ce : Addr
/-- what is known beside the abstract heap: the objects that nobody changes any more; the draws' places -/
structure Gh where
  fz : Addr → Prop
  dr : Option DrA
def Gh.isD (g : Gh) (a : Addr) : Prop := ∃ D, g.dr = some D ∧ (a = D.a ∨ a = D.gr)
structure Draw where
  great : List Int
  rest : Int
  cells : List Int
  turn : Int
abbrev DS := Option Draw
/-- a dict: t tells whether its keys are tuples -/
def DctAt (H : Hp) (a : Addr) (t : Bool) (ks : List PV) (ws : List V) : Prop :=
  if t = true then ∃ kvs : List (List Key × V), H a = some (.dT kvs) ∧ ks = kvs.map (fun p => .tup (p.1.map kPV)) ∧ ws = kvs.map (·.2)
  else ∃ kvs : List (Key × V), H a = some (.dK kvs) ∧ ks = kvs.map (fun p => kPV p.1) ∧ ws = kvs.map (·.2)
/-- the script: nobody changes it -/
def ScrAt (K : PySem.W.Frag) (H : Hp) (a : Addr) (xs : List V) : Prop :=
  (∃ o, H a = some (.frz o (.lst xs))) ∨
    ∃ (o : Obj) (its : Array Value) (n : Nat), K.lookup a = some o ∧ o.cls = .type "list" ∧ o.dict = none ∧ o.data = .seq its n ∧ its.size ≤ sizeLine ∧ Vals xs its.toList
theorem ScrAt.sq {K : PySem.W.Frag} {H : Hp} {a : Addr} {xs : List V} (h : ScrAt K H a xs) : SqL K H a xs := by
  rcases h with ⟨o, h⟩ | h
  · exact .inl (.inr ⟨o, h⟩)
  · exact .inr h
mutual
def RelP (K : PySem.W.Frag) (H : Hp) (g : Gh) : PV → V → Prop
  | .non, x => x = .non
  | .bl b, x => x = .bl b
  | .int i, x => x = .int i
  | .str s, x => x = .str s
  | .tup xs, x => ∃ a vs, x = .ref a ∧ SqT K H a vs ∧ RelPs K H g xs vs
  | .lst xs, x => ∃ a vs, x = .ref a ∧ g.fz a ∧ H a = some (.lst vs) ∧ RelPs K H g xs vs
  | .dct t ks vs, x => ∃ a ws, x = .ref a ∧ g.fz a ∧ DctAt H a t ks ws ∧ RelPs K H g vs ws
  | .drw, x => ∃ D, g.dr = some D ∧ x = .ref D.a
  | .scr ns, x => ∃ a, x = .ref a ∧ ScrAt K H a (ns.map .int)
def RelPs (K : PySem.W.Frag) (H : Hp) (g : Gh) : List PV → List V → Prop
  | [], ys => ys = []
  | p :: ps, ys => ∃ y r, ys = y :: r ∧ RelP K H g p y ∧ RelPs K H g ps r
end
/-- the borrowed: an object that may yet be changed by its owner, read now -/
def RelB (K : PySem.W.Frag) (H : Hp) (g : Gh) : PV → V → Prop
  | .lst xs, x => ∃ a vs, x = .ref a ∧ ¬ g.isD a ∧ H a = some (.lst vs) ∧ RelPs K H g xs vs
  | .dct t ks vs, x => ∃ a ws, x = .ref a ∧ ¬ g.isD a ∧ DctAt H a t ks ws ∧ RelPs K H g vs ws
  | p, x => RelP K H g p x
/-- an object of one owner -/
def RelO' (K : PySem.W.Frag) (H : Hp) (g : Gh) (a : Addr) : PV → Prop
  | .lst xs => ¬ g.fz a ∧ ¬ g.isD a ∧ ∃ vs, H a = some (.lst vs) ∧ RelPs K H g xs vs
  | .dct t ks vs => ¬ g.fz a ∧ ¬ g.isD a ∧ ∃ ws, DctAt H a t ks ws ∧ RelPs K H g vs ws
  | _ => False
def strK (x : String) : Key := .inr (Str.ofString x)
/-- the draws' state as it lies -/
def DrOk (K : PySem.W.Frag) (H : Hp) : Option DrA → DS → Prop
  | none, none => True
  | some D, some d => D.a ≠ D.gr ∧ D.ce ≠ D.a ∧ D.ce ≠ D.gr ∧
      H D.a = some (.dK [(strK "great", .ref D.gr), (strK "rest", .int d.rest), (strK "cells", .ref D.ce), (strK "turn", .int d.turn)]) ∧
      H D.gr = some (.lst (d.great.map .int)) ∧ H D.ce = some (.lst (d.cells.map .int))
  | _, _ => False
structure GOk (K : PySem.W.Frag) (H : Hp) (g : Gh) (d : DS) : Prop where
  fzD : ∀ a, g.fz a → ¬ g.isD a
  fzT : ∀ a, g.fz a → H a ≠ none
  ceF : ∀ E, g.dr = some E → g.fz E.ce
  dr : DrOk K H g.dr d
structure Ext (H : Hp) (g : Gh) (H' : Hp) (g' : Gh) : Prop where
  keep : ∀ a o, H a = some o → ¬ g.isD a → H' a = some o
  tups : ∀ a xs, H a = some (.tup xs) → H' a = some (.tup xs)
  frzs : ∀ a o u, H a = some (.frz o u) → H' a = some (.frz o u)
  there : ∀ a, H a ≠ none → H' a ≠ none
  fz : ∀ a, g.fz a → g'.fz a ∧ H' a = H a
  new : ∀ a, g'.fz a → g.fz a ∨ H a = none
  dr : ∀ D, g.dr = some D → g'.dr = some D
  drn : ∀ a, g'.isD a → g.isD a ∨ H a = none
/-- what a value's relation leans on -/
structure Mono (H : Hp) (g : Gh) (H' : Hp) (g' : Gh) : Prop where
  tups : ∀ a xs, H a = some (.tup xs) → H' a = some (.tup xs)
  frzs : ∀ a o u, H a = some (.frz o u) → H' a = some (.frz o u)
  fz : ∀ a, g.fz a → g'.fz a ∧ H' a = H a
  dr : ∀ D, g.dr = some D → g'.dr = some D
theorem Ext.mono {H H' : Hp} {g g' : Gh} (e : Ext H g H' g') : Mono H g H' g' := ⟨e.tups, e.frzs, e.fz, e.dr⟩
/-- an object that is no tuple, not frozen, changes -/
theorem Mono.upd {H : Hp} {g : Gh} {a : Addr} {o u : HO} (h : H a = some o) (ht : ∀ xs, o ≠ .tup xs) (hf : ∀ b u, o ≠ .frz b u) (n : ¬ g.fz a) : Mono H g (upd H a u) g :=
  ⟨fun b xs q => by rw [upd_ne (fun z => by subst z; rw [h] at q; exact ht xs (Option.some.inj q))]; exact q, fun b c w q => by rw [upd_ne (fun z => by subst z; rw [h] at q; exact hf c w (Option.some.inj q))]; exact q,
    fun b q => ⟨q, by rw [upd_ne (fun z => by subst z; exact n q)]⟩, fun _ q => q⟩
theorem Ext.refl (H : Hp) (g : Gh) : Ext H g H g :=
  ⟨fun _ _ h _ => h, fun _ _ h => h, fun _ _ _ h => h, fun _ h => h, fun _ h => ⟨h, rfl⟩, fun _ h => .inl h, fun _ h => h, fun _ h => .inl h⟩
theorem Ext.isD {H H' : Hp} {g g' : Gh} (e : Ext H g H' g') {a : Addr} (h : g.isD a) : g'.isD a :=
  let ⟨D, h1, h2⟩ := h; ⟨D, e.dr D h1, h2⟩
theorem Ext.trans {H H1 H2 : Hp} {g g1 g2 : Gh} (a : Ext H g H1 g1) (b : Ext H1 g1 H2 g2) : Ext H g H2 g2 where
  keep := fun c o h n => b.keep c o (a.keep c o h n) fun z => by
    rcases a.drn c z with z | z
    · exact n z
    · rw [z] at h; cases h
  tups := fun c xs h => b.tups c xs (a.tups c xs h)
  frzs := fun c o u h => b.frzs c o u (a.frzs c o u h)
  there := fun c h => b.there c (a.there c h)
  fz := fun c h => ⟨(b.fz c (a.fz c h).1).1, (b.fz c (a.fz c h).1).2.trans (a.fz c h).2⟩
  new := fun c h => by
    rcases b.new c h with h | h
    · exact a.new c h
    · exact .inr (Classical.byContradiction fun n => a.there c n h)
  dr := fun D h => b.dr D (a.dr D h)
  drn := fun c h => by
    rcases b.drn c h with h | h
    · exact a.drn c h
    · exact .inr (Classical.byContradiction fun n => a.there c n h)
section
variable {K : PySem.W.Frag} {H H' : Hp} {g g' : Gh}
theorem Mono.sqT (e : Mono H g H' g') {a : Addr} {vs : List V} (h : SqT K H a vs) : SqT K H' a vs := by
  rcases h with (h | ⟨o, h⟩) | h
  · exact .inl (.inl (e.tups a vs h))
  · exact .inl (.inr ⟨o, e.frzs a o _ h⟩)
  · exact .inr h
theorem Ext.sqL (e : Ext H g H' g') {a : Addr} {vs : List V} (n : ¬ g.isD a) (h : SqL K H a vs) : SqL K H' a vs := by
  rcases h with (h | ⟨o, h⟩) | h
  · exact .inl (.inl (e.keep a _ h n))
  · exact .inl (.inr ⟨o, e.frzs a o _ h⟩)
  · exact .inr h
theorem Ext.sqLf (e : Ext H g H' g') {a : Addr} {vs : List V} (n : g.fz a) (h : SqL K H a vs) : SqL K H' a vs := by
  have q := (e.fz a n).2
  rcases h with (h | ⟨o, h⟩) | h
  · exact .inl (.inl (q.trans h))
  · exact .inl (.inr ⟨o, q.trans h⟩)
  · exact .inr h
theorem DctAt.of {H H' : Hp} {a : Addr} {t : Bool} {ks : List PV} {ws : List V} (q : H' a = H a) (h : DctAt H a t ks ws) : DctAt H' a t ks ws := by
  unfold DctAt at *
  cases t with
  | true => obtain ⟨kvs, h, r⟩ := h; exact ⟨kvs, q.trans h, r⟩
  | false => obtain ⟨kvs, h, r⟩ := h; exact ⟨kvs, q.trans h, r⟩
theorem DctAt.some {H : Hp} {a : Addr} {t : Bool} {ks : List PV} {ws : List V} (h : DctAt H a t ks ws) : ∃ o, H a = .some o := by
  unfold DctAt at *
  cases t with
  | true => obtain ⟨kvs, h, r⟩ := h; exact ⟨_, h⟩
  | false => obtain ⟨kvs, h, r⟩ := h; exact ⟨_, h⟩
theorem DctAt.ext (e : Ext H g H' g') {a : Addr} {t : Bool} {ks : List PV} {ws : List V} (n : ¬ g.isD a) (h : DctAt H a t ks ws) : DctAt H' a t ks ws := by
  unfold DctAt at *
  cases t with
  | true => obtain ⟨kvs, h, r⟩ := h; exact ⟨kvs, e.keep a _ h n, r⟩
  | false => obtain ⟨kvs, h, r⟩ := h; exact ⟨kvs, e.keep a _ h n, r⟩
mutual
theorem RelP.mono (e : Mono H g H' g') : ∀ {p : PV} {x : V}, RelP K H g p x → RelP K H' g' p x
  | .non, _, h => h
  | .bl _, _, h => h
  | .int _, _, h => h
  | .str _, _, h => h
  | .tup xs, _, h => by
    obtain ⟨a, vs, h1, h2, h3⟩ := h
    exact ⟨a, vs, h1, e.sqT h2, RelPs.mono e h3⟩
  | .lst xs, _, h => by
    obtain ⟨a, vs, h1, h2, h3, h4⟩ := h
    exact ⟨a, vs, h1, (e.fz a h2).1, (e.fz a h2).2.trans h3, RelPs.mono e h4⟩
  | .dct t ks vs, _, h => by
    obtain ⟨a, ws, h1, h2, h3, h4⟩ := h
    exact ⟨a, ws, h1, (e.fz a h2).1, h3.of (e.fz a h2).2, RelPs.mono e h4⟩
  | .drw, _, h => by
    obtain ⟨D, h1, h2⟩ := h
    exact ⟨D, e.dr D h1, h2⟩
  | .scr ns, _, h => by
    obtain ⟨a, h1, h2⟩ := h
    refine ⟨a, h1, ?_⟩
    rcases h2 with ⟨o, h2⟩ | h2
    · exact .inl ⟨o, e.frzs a o _ h2⟩
    · exact .inr h2
theorem RelPs.mono (e : Mono H g H' g') : ∀ {ps : List PV} {xs : List V}, RelPs K H g ps xs → RelPs K H' g' ps xs
  | [], _, h => h
  | _ :: _, _, h => by
    obtain ⟨y, r, h1, h2, h3⟩ := h
    exact ⟨y, r, h1, RelP.mono e h2, RelPs.mono e h3⟩
end
theorem RelP.ext (e : Ext H g H' g') {p : PV} {x : V} (h : RelP K H g p x) : RelP K H' g' p x := RelP.mono e.mono h
theorem RelPs.ext (e : Ext H g H' g') {p : List PV} {x : List V} (h : RelPs K H g p x) : RelPs K H' g' p x := RelPs.mono e.mono h
theorem RelB.ext (e : Ext H g H' g') {p : PV} {x : V} (h : RelB K H g p x) : RelB K H' g' p x := by
  cases p with
  | lst xs =>
    obtain ⟨a, vs, h1, h2, h3, h4⟩ := h
    refine ⟨a, vs, h1, fun z => ?_, e.keep a _ h3 h2, RelPs.ext e h4⟩
    rcases e.drn a z with z | z
    · exact h2 z
    · rw [h3] at z; cases z
  | dct ks vs =>
    obtain ⟨a, ws, h1, h2, h3, h4⟩ := h
    refine ⟨a, ws, h1, fun z => ?_, h3.ext e h2, RelPs.ext e h4⟩
    obtain ⟨o, q⟩ := h3.some
    rcases e.drn a z with z | z
    · exact h2 z
    · rw [q] at z; cases z
  | non => exact RelP.ext (K := K) (p := .non) e h
  | bl _ => exact RelP.ext (K := K) (p := .bl _) e h
  | int _ => exact RelP.ext (K := K) (p := .int _) e h
  | str _ => exact RelP.ext (K := K) (p := .str _) e h
  | tup _ => exact RelP.ext (K := K) (p := .tup _) e h
  | drw => exact RelP.ext (K := K) (p := .drw) e h
  | scr _ => exact RelP.ext (K := K) (p := .scr _) e h
theorem RelP.b {d : DS} (G : GOk K H g d) {p : PV} {x : V} (h : RelP K H g p x) : RelB K H g p x := by
  cases p with
  | lst xs =>
    obtain ⟨a, vs, h1, h2, h3, h4⟩ := h
    exact ⟨a, vs, h1, G.fzD a h2, h3, h4⟩
  | dct ks vs =>
    obtain ⟨a, ws, h1, h2, h3, h4⟩ := h
    exact ⟨a, ws, h1, G.fzD a h2, h3, h4⟩
  | _ => exact h
theorem RelO'.ext (e : Ext H g H' g') {a : Addr} {p : PV} (h : RelO' K H g a p) : RelO' K H' g' a p := by
  cases p with
  | lst xs =>
    obtain ⟨h1, h2, vs, h3, h4⟩ := h
    refine ⟨fun z => ?_, fun z => ?_, vs, e.keep a _ h3 h2, RelPs.ext e h4⟩
    · rcases e.new a z with z | z
      · exact h1 z
      · rw [h3] at z; cases z
    · rcases e.drn a z with z | z
      · exact h2 z
      · rw [h3] at z; cases z
  | dct ks vs =>
    obtain ⟨h1, h2, ws, h3, h4⟩ := h
    obtain ⟨o, q⟩ := h3.some
    refine ⟨fun z => ?_, fun z => ?_, ws, h3.ext e h2, RelPs.ext e h4⟩
    · rcases e.new a z with z | z
      · exact h1 z
      · rw [q] at z; cases z
    · rcases e.drn a z with z | z
      · exact h2 z
      · rw [q] at z; cases z
  | _ => exact h
theorem RelO'.b {a : Addr} {p : PV} (h : RelO' K H g a p) : RelB K H g p (.ref a) := by
  cases p with
  | lst xs =>
    obtain ⟨h1, h2, vs, h3, h4⟩ := h
    exact ⟨a, vs, rfl, h2, h3, h4⟩
  | dct ks vs =>
    obtain ⟨h1, h2, ws, h3, h4⟩ := h
    exact ⟨a, ws, rfl, h2, h3, h4⟩
  | _ => exact h.elim
/-- a slot: none; or whether its value is its own (it may be changed in place), and the value -/
abbrev Slot := Option (Bool × PV)
structure LRel (K : PySem.W.Frag) (H : Hp) (g : Gh) (ls : List Slot) (σ : L2.St) : Prop where
  len : ls.length = σ.length
  val : ∀ (i : Nat) p, ls[i]? = some (some (false, p)) → ∃ x, σ[i]? = some (some x) ∧ RelP K H g p x
  own : ∀ (i : Nat) p, ls[i]? = some (some (true, p)) → ∃ a, σ[i]? = some (some (.ref a)) ∧ RelO' K H g a p
  dis : ∀ (i j : Nat) p q a, ls[i]? = some (some (true, p)) → ls[j]? = some (some (true, q)) → σ[i]? = some (some (.ref a)) → σ[j]? = some (some (.ref a)) → i = j
theorem LRel.ext (e : Ext H g H' g') {ls : List Slot} {σ : L2.St} (h : LRel K H g ls σ) : LRel K H' g' ls σ :=
  ⟨h.len, fun i p q => let ⟨x, h1, h2⟩ := h.val i p q; ⟨x, h1, RelP.ext e h2⟩, fun i p q => let ⟨a, h1, h2⟩ := h.own i p q; ⟨a, h1, h2.ext e⟩, h.dis⟩
theorem LRel.b {d : DS} (G : GOk K H g d) {ls : List Slot} {σ : L2.St} (h : LRel K H g ls σ) {i : Nat} {b : Bool} {p : PV} (q : ls[i]? = some (some (b, p))) : ∃ x, σ[i]? = some (some x) ∧ RelB K H g p x := by
  cases b with
  | false => obtain ⟨x, h1, h2⟩ := h.val i p q; exact ⟨x, h1, h2.b G⟩
  | true => obtain ⟨a, h1, h2⟩ := h.own i p q; exact ⟨_, h1, h2.b⟩
theorem RelPs.length : ∀ {ps : List PV} {xs : List V}, RelPs K H g ps xs → ps.length = xs.length
  | [], _, h => by cases h; rfl
  | _ :: _, _, h => by
    obtain ⟨y, r, h1, h2, h3⟩ := h
    subst h1
    simp [RelPs.length h3]
theorem RelPs.get : ∀ {ps : List PV} {xs : List V} {i : Nat} {p : PV}, RelPs K H g ps xs → ps[i]? = some p → ∃ x, xs[i]? = some x ∧ RelP K H g p x
  | [], _, _, _, _, e => by simp at e
  | q :: _, _, 0, p, h, e => by
    obtain ⟨y, r, h1, h2, h3⟩ := h
    subst h1
    have : q = p := by simpa using e
    subst this
    exact ⟨y, rfl, h2⟩
  | _ :: _, _, i + 1, p, h, e => by
    obtain ⟨y, r, h1, h2, h3⟩ := h
    subst h1
    obtain ⟨x, q1, q2⟩ := RelPs.get (i := i) h3 (by simpa using e)
    exact ⟨x, by simpa using q1, q2⟩
theorem RelPs.append : ∀ {ps qs : List PV} {xs ys : List V}, RelPs K H g ps xs → RelPs K H g qs ys → RelPs K H g (ps ++ qs) (xs ++ ys)
  | [], _, _, _, h, h' => by cases h; exact h'
  | _ :: _, _, _, _, h, h' => by
    obtain ⟨y, r, h1, h2, h3⟩ := h
    subst h1
    exact ⟨y, _, rfl, h2, RelPs.append h3 h'⟩
theorem RelPs.take : ∀ (n : Nat) {ps : List PV} {xs : List V}, RelPs K H g ps xs → RelPs K H g (ps.take n) (xs.take n)
  | 0, _, _, _ => by simp [RelPs]
  | n + 1, [], _, h => by cases h; simp [RelPs]
  | n + 1, _ :: _, _, h => by
    obtain ⟨y, r, h1, h2, h3⟩ := h
    subst h1
    exact ⟨y, _, rfl, h2, RelPs.take n h3⟩
theorem RelPs.drop : ∀ (n : Nat) {ps : List PV} {xs : List V}, RelPs K H g ps xs → RelPs K H g (ps.drop n) (xs.drop n)
  | 0, _, _, h => h
  | n + 1, [], _, h => by cases h; simp [RelPs]
  | n + 1, _ :: _, _, h => by
    obtain ⟨y, r, h1, h2, h3⟩ := h
    subst h1
    exact RelPs.drop n h3
theorem RelPs.reverse : ∀ {ps : List PV} {xs : List V}, RelPs K H g ps xs → RelPs K H g ps.reverse xs.reverse
  | [], _, h => by cases h; simp [RelPs]
  | _ :: _, _, h => by
    obtain ⟨y, r, h1, h2, h3⟩ := h
    subst h1
    rw [List.reverse_cons, List.reverse_cons]
    exact RelPs.append (RelPs.reverse h3) ⟨y, [], rfl, h2, rfl⟩
theorem RelPs.one {p : PV} {x : V} (h : RelP K H g p x) : RelPs K H g [p] [x] := ⟨x, [], rfl, h, rfl⟩
theorem RelPs.nil : RelPs K H g [] [] := rfl
theorem RelPs.cons {p : PV} {ps : List PV} {x : V} {xs : List V} (h : RelP K H g p x) (t : RelPs K H g ps xs) : RelPs K H g (p :: ps) (x :: xs) := ⟨x, xs, rfl, h, t⟩
/-- a new object at p, tracked; frozen or not -/
theorem Ext.alloc {p : Addr} {o : HO} {d : DS} (G : GOk K H g d) (hp : H p = none) : Ext H g (upd H p o) g where
  keep := fun a u h _ => by rw [upd_ne (ne_of_none h hp)]; exact h
  tups := fun a xs h => by rw [upd_ne (ne_of_none h hp)]; exact h
  frzs := fun a o u h => by rw [upd_ne (ne_of_none h hp)]; exact h
  there := fun a h => by
    by_cases e : a = p
    · subst e; exact absurd hp h
    · rw [upd_ne e]; exact h
  fz := fun a h => ⟨h, by
    by_cases e : a = p
    · subst e; exact absurd hp (G.fzT _ h)
    · rw [upd_ne e]⟩
  new := fun a h => .inl h
  dr := fun _ h => h
  drn := fun a h => .inl h
/-- one more object that nobody changes any more -/
def Gh.add (g : Gh) (p : Addr) : Gh := { g with fz := fun a => g.fz a ∨ a = p }
theorem GOk.trk {d : DS} (G : GOk K H g d) {a : Addr} (h : g.isD a) : H a ≠ none := by
  obtain ⟨D, h1, h2⟩ := h
  have q := G.dr
  rw [h1] at q
  cases d with
  | none => exact q.elim
  | some d =>
    obtain ⟨_, _, _, q1, q2, _⟩ := q
    rcases h2 with h2 | h2
    · rw [h2, q1]; simp
    · rw [h2, q2]; simp
theorem DrOk.alloc {p : Addr} {o : HO} (hp : H p = none) : ∀ {D : Option DrA} {d : DS}, DrOk K H D d → DrOk K (upd H p o) D d
  | none, none, h => h
  | none, some _, h => h.elim
  | some _, none, h => h.elim
  | some D, some d, h => by
    obtain ⟨q1, q2, q3, q4, q5, q6⟩ := h
    refine ⟨q1, q2, q3, ?_, ?_, ?_⟩
    · rw [upd_ne (ne_of_none q4 hp)]; exact q4
    · rw [upd_ne (ne_of_none q5 hp)]; exact q5
    · rw [upd_ne (ne_of_none q6 hp)]; exact q6
theorem GOk.alloc {p : Addr} {o : HO} {d : DS} (G : GOk K H g d) (hp : H p = none) : GOk K (upd H p o) g d :=
  ⟨G.fzD, fun a h => by
    by_cases e : a = p
    · subst e; rw [upd_same]; simp
    · rw [upd_ne e]; exact G.fzT a h, G.ceF, G.dr.alloc hp⟩
theorem GOk.add {p : Addr} {d : DS} (G : GOk K H g d) (hp : H p ≠ none) (hn : ¬ g.isD p) : GOk K H (g.add p) d :=
  ⟨fun a h => by
    rcases h with h | h
    · exact G.fzD a h
    · subst h; exact hn, fun a h => by
    rcases h with h | h
    · exact G.fzT a h
    · subst h; exact hp, fun E h => .inl (G.ceF E h), G.dr⟩
theorem GOk.allocF {p : Addr} {o : HO} {d : DS} (G : GOk K H g d) (hp : H p = none) : GOk K (upd H p o) (g.add p) d :=
  (G.alloc hp).add (by rw [upd_same]; simp) fun z => G.trk z hp
theorem Ext.allocF {p : Addr} {o : HO} {d : DS} (G : GOk K H g d) (hp : H p = none) : Ext H g (upd H p o) (g.add p) :=
  let e := Ext.alloc (o := o) G hp
  ⟨e.keep, e.tups, e.frzs, e.there, fun a h => ⟨.inl h, (e.fz a h).2⟩, fun a h => by
    rcases h with h | h
    · exact .inl h
    · subst h; exact .inr hp, fun _ h => h, fun _ h => .inl h⟩
/-- a thing of one's own changed -/
theorem Ext.upd {H0 : Hp} {g0 : Gh} {a : Addr} {o : HO} (e : Ext H0 g0 H g) (h0 : H0 a = none) (n : ¬ g.fz a) : Ext H0 g0 (upd H a o) g where
  keep := fun b u h q => by rw [upd_ne (ne_of_none h h0)]; exact e.keep b u h q
  tups := fun b xs h => by rw [upd_ne (ne_of_none h h0)]; exact e.tups b xs h
  frzs := fun b c u h => by rw [upd_ne (ne_of_none h h0)]; exact e.frzs b c u h
  there := fun b h => by
    by_cases z : b = a
    · subst z; exact absurd h0 h
    · rw [upd_ne z]; exact e.there b h
  fz := fun b h => ⟨(e.fz b h).1, by rw [upd_ne (fun z => by subst z; exact n (e.fz _ h).1)]; exact (e.fz b h).2⟩
  new := e.new
  dr := e.dr
  drn := e.drn
theorem Ext.add {H0 : Hp} {g0 : Gh} {a : Addr} (e : Ext H0 g0 H g) (h0 : H0 a = none) : Ext H0 g0 H (g.add a) :=
  ⟨e.keep, e.tups, e.frzs, e.there, fun b h => ⟨.inl (e.fz b h).1, (e.fz b h).2⟩, fun b h => by
    rcases h with h | h
    · exact e.new b h
    · subst h; exact .inr h0, e.dr, e.drn⟩
theorem DrOk.upd {a : Addr} {o : HO} : ∀ {D : Option DrA} {d : DS}, DrOk K H D d → (∀ E, D = some E → a ≠ E.a ∧ a ≠ E.gr ∧ a ≠ E.ce) → DrOk K (upd H a o) D d
  | none, none, h, _ => h
  | none, some _, h, _ => h.elim
  | some _, none, h, _ => h.elim
  | some D, some d, h, n => by
    obtain ⟨q1, q2, q3, q4, q5, q6⟩ := h
    obtain ⟨n1, n2, n3⟩ := n D rfl
    exact ⟨q1, q2, q3, by rw [upd_ne n1.symm]; exact q4, by rw [upd_ne n2.symm]; exact q5, by rw [upd_ne n3.symm]; exact q6⟩
theorem GOk.upd {a : Addr} {o : HO} {d : DS} (G : GOk K H g d) (n : ¬ g.fz a) (n2 : ¬ g.isD a) : GOk K (upd H a o) g d :=
  ⟨G.fzD, fun b h => by rw [upd_ne (fun z => by subst z; exact n h)]; exact G.fzT b h, G.ceF, G.dr.upd fun E h => ⟨fun z => n2 ⟨E, h, .inl z⟩, fun z => n2 ⟨E, h, .inr z⟩, fun z => n (by rw [z]; exact G.ceF E h)⟩⟩
theorem LRel.set {ls : List Slot} {σ : L2.St} (L : LRel K H g ls σ) (i : Nat) {p : PV} {x : V} (r : RelP K H g p x) : LRel K H g (ls.set i (some (false, p))) (σ.set i (some x)) where
  len := by rw [List.length_set, List.length_set, L.len]
  val := fun j q h => by
    by_cases e : i = j
    · subst e
      by_cases hi : i < ls.length
      · rw [List.getElem?_set_self hi] at h
        cases h
        exact ⟨x, by rw [List.getElem?_set_self (by rw [← L.len]; exact hi)], r⟩
      · rw [List.getElem?_eq_none (by rw [List.length_set]; omega)] at h; cases h
    · rw [List.getElem?_set_ne e] at h
      obtain ⟨y, h1, h2⟩ := L.val j q h
      exact ⟨y, by rw [List.getElem?_set_ne e]; exact h1, h2⟩
  own := fun j q h => by
    by_cases e : i = j
    · subst e
      by_cases hi : i < ls.length
      · rw [List.getElem?_set_self hi] at h; cases h
      · rw [List.getElem?_eq_none (by rw [List.length_set]; omega)] at h; cases h
    · rw [List.getElem?_set_ne e] at h
      obtain ⟨y, h1, h2⟩ := L.own j q h
      exact ⟨y, by rw [List.getElem?_set_ne e]; exact h1, h2⟩
  dis := fun j k p q a h1 h2 h3 h4 => by
    by_cases e : i = j
    · subst e
      by_cases hi : i < ls.length
      · rw [List.getElem?_set_self hi] at h1; cases h1
      · rw [List.getElem?_eq_none (by rw [List.length_set]; omega)] at h1; cases h1
    · by_cases e' : i = k
      · subst e'
        by_cases hi : i < ls.length
        · rw [List.getElem?_set_self hi] at h2; cases h2
        · rw [List.getElem?_eq_none (by rw [List.length_set]; omega)] at h2; cases h2
      · rw [List.getElem?_set_ne e] at h1 h3
        rw [List.getElem?_set_ne e'] at h2 h4
        exact L.dis j k p q a h1 h2 h3 h4
theorem LRel.none {ls : List Slot} {σ : L2.St} (L : LRel K H g ls σ) (i : Nat) : LRel K H g (ls.set i none) (σ.set i none) where
  len := by rw [List.length_set, List.length_set, L.len]
  val := fun j q h => by
    by_cases e : i = j
    · subst e
      by_cases hi : i < ls.length
      · rw [List.getElem?_set_self hi] at h; cases h
      · rw [List.getElem?_eq_none (by rw [List.length_set]; omega)] at h; cases h
    · rw [List.getElem?_set_ne e] at h
      obtain ⟨y, h1, h2⟩ := L.val j q h
      exact ⟨y, by rw [List.getElem?_set_ne e]; exact h1, h2⟩
  own := fun j q h => by
    by_cases e : i = j
    · subst e
      by_cases hi : i < ls.length
      · rw [List.getElem?_set_self hi] at h; cases h
      · rw [List.getElem?_eq_none (by rw [List.length_set]; omega)] at h; cases h
    · rw [List.getElem?_set_ne e] at h
      obtain ⟨y, h1, h2⟩ := L.own j q h
      exact ⟨y, by rw [List.getElem?_set_ne e]; exact h1, h2⟩
  dis := fun j k p q a h1 h2 h3 h4 => by
    by_cases e : i = j
    · subst e
      by_cases hi : i < ls.length
      · rw [List.getElem?_set_self hi] at h1; cases h1
      · rw [List.getElem?_eq_none (by rw [List.length_set]; omega)] at h1; cases h1
    · by_cases e' : i = k
      · subst e'
        by_cases hi : i < ls.length
        · rw [List.getElem?_set_self hi] at h2; cases h2
        · rw [List.getElem?_eq_none (by rw [List.length_set]; omega)] at h2; cases h2
      · rw [List.getElem?_set_ne e] at h1 h3
        rw [List.getElem?_set_ne e'] at h2 h4
        exact L.dis j k p q a h1 h2 h3 h4
end
end FW
namespace FW
open PySem L2
/-- an exception: its class's name, the value it is made of (where its class has a field) -/
abbrev Exc := Str × Option PV
inductive Res (α : Type) where
  | bad | ok (a : α) (d : DS) | ex (e : Exc) (d : DS)
abbrev M (α : Type) := DS → Res α
def M.pure {α : Type} (a : α) : M α := fun d => .ok a d
def M.bad {α : Type} : M α := fun _ => .bad
def M.bind {α β : Type} (m : M α) (k : α → M β) : M β := fun d => match m d with
  | .bad => .bad
  | .ok a d' => k a d'
  | .ex e d' => .ex e d'
def M.lift {α : Type} : Option α → M α
  | some a => M.pure a
  | none => M.bad
def LIM : Nat := 16777216
/-! ### values -/
mutual
def eqPV : PV → PV → Bool
  | .non, .non => true
  | .bl a, .bl b => a == b
  | .bl a, .int j => (if a then 1 else 0) == j
  | .int i, .bl b => i == (if b then 1 else 0)
  | .int i, .int j => i == j
  | .str x, .str y => x == y
  | .lst xs, .lst ys => eqPVs xs ys
  | .tup xs, .tup ys => eqPVs xs ys
  | _, _ => false
def eqPVs : List PV → List PV → Bool
  | [], [] => true
  | x :: xs, y :: ys => eqPV x y && eqPVs xs ys
  | _, _ => false
end
mutual
def depPV : PV → Nat
  | .lst xs => depPVs xs + 1
  | .tup xs => depPVs xs + 1
  | _ => 0
def depPVs : List PV → Nat
  | [] => 0
  | x :: xs => max (depPV x) (depPVs xs)
end
mutual
def noD : PV → Bool
  | .lst xs => noDs xs
  | .tup xs => noDs xs
  | .dct _ _ _ => false
  | .drw => false
  | .scr _ => false
  | .str x => x.cps.all (· < 0x110000)
  | _ => true
def noDs : List PV → Bool
  | [] => true
  | x :: xs => noD x && noDs xs
end
/-- data that == may look at -/
def okD (x : PV) : Bool := noD x && decide (depPV x ≤ 64)
mutual
def ltPV : PV → PV → Bool
  | .int i, .int j => decide (i < j)
  | .str x, .str y => decide (x.cps.toList < y.cps.toList)
  | .tup xs, .tup ys => ltPVs xs ys
  | _, _ => false
def ltPVs : List PV → List PV → Bool
  | [], _ :: _ => true
  | x :: xs, y :: ys => if eqPV x y then ltPVs xs ys else ltPV x y
  | _, [] => false
end
def kOf : PV → Option Key
  | .int i => some (.inl i)
  | .str x => some (.inr x)
  | _ => none
def kOfs : List PV → Option (List Key)
  | [] => some []
  | x :: xs => match kOf x, kOfs xs with
    | some k, some ks => some (k :: ks)
    | _, _ => none
/-- the place of a key -/
def ixK (k : PV) : List PV → Option Nat
  | [] => none
  | x :: xs => if eqPV x k then some 0 else (ixK k xs).map (· + 1)
def getK (k : PV) : List PV → List PV → Option PV
  | x :: xs, v :: vs => if eqPV x k then some v else getK k xs vs
  | _, _ => none
/-- may this be a key: an int, a text, or a tuple of such -/
def isKey : PV → Bool
  | .int _ => true
  | .str _ => true
  | .tup xs => (kOfs xs).isSome
  | _ => false
def strPV : List PV → Option (List Str)
  | [] => some []
  | .str x :: r => (strPV r).map (x :: ·)
  | _ :: _ => none
def intPV : List PV → Option (List Int)
  | [] => some []
  | .int x :: r => (intPV r).map (x :: ·)
  | _ :: _ => none
def blPV : List PV → Option (List Bool)
  | [] => some []
  | .bl x :: r => (blPV r).map (x :: ·)
  | _ :: _ => none
/-! ### operators -/
def smallI (i : Int) : Bool := decide (-(2 ^ 64) < i) && decide (i < 2 ^ 64)
def addF : PV → PV → Option PV
  | .int i, .int j => some (.int (i + j))
  | .str x, .str y => if x.length + y.length ≤ LIM then some (.str (x ++ y)) else none
  | .lst xs, .lst ys => if xs.length + ys.length ≤ LIM then some (.lst (xs ++ ys)) else none
  | .tup xs, .tup ys => if xs.length + ys.length ≤ LIM then some (.tup (xs ++ ys)) else none
  | _, _ => none
def mulF : PV → PV → Option PV
  | .int i, .int j => if smallI i || smallI j then some (.int (i * j)) else none
  | .lst xs, .int k => if 0 ≤ k ∧ k < 2 ^ 62 ∧ xs.length * k.toNat ≤ LIM then some (.lst (List.replicate k.toNat xs).flatten) else none
  | _, _ => none
def intF (f : Int → Int → Option Int) : PV → PV → Option PV
  | .int i, .int j => (f i j).map .int
  | _, _ => none
def binF : Operator → PV → PV → Option PV
  | .Add => addF
  | .Sub => intF fun i j => some (i - j)
  | .Mult => mulF
  | .Mod => intF fun i j => if 0 < j then some (i % j) else none
  | .FloorDiv => intF fun i j => if 0 < j ∧ j < 1073741824 then some (i / j) else none
  | .Pow => intF fun i j => if 0 ≤ j ∧ j ≤ 1000000 ∧ smallI i then some (i ^ j.toNat) else none
  | _ => fun _ _ => none
def flatP : PV → Bool
  | .non => true
  | .bl _ => true
  | .int _ => true
  | .str _ => true
  | _ => false
/-- two flat values but a bool and an int -/
def scalP : PV → PV → Bool
  | .non, .non => true | .non, .int _ => true | .int _, .non => true | .non, .bl _ => true | .bl _, .non => true | .non, .str _ => true | .str _, .non => true
  | .int _, .int _ => true | .bl _, .bl _ => true | .str _, .str _ => true
  | .int _, .str _ => true | .str _, .int _ => true | .bl _, .str _ => true | .str _, .bl _ => true
  | _, _ => false
def cmpOk (x y : PV) : Bool := scalP x y || (okD x && okD y)
def inOk (x : PV) (ys : List PV) : Bool := (flatP x && ys.all flatP) || (okD x && okD (.lst ys))
def inStr (t : Str) : PV → Option Bool
  | .str z => if z.length = 1 then some (t.cps.toList.contains (z.cps.getD 0 0)) else none
  | _ => none
def inF (x : PV) : PV → Option Bool
  | .lst ys => if inOk x ys then some (ys.any fun z => eqPV z x) else none
  | .tup ys => if inOk x ys then some (ys.any fun z => eqPV z x) else none
  | .str t => inStr t x
  | _ => none
def isNonP : PV → Bool
  | .non => true
  | _ => false
def isBlF (b : Bool) : PV → Option Bool
  | .bl c => some (c == b)
  | _ => none
def isF (x : PV) : PV → Option Bool
  | .non => some (isNonP x)
  | .bl b => isBlF b x
  | _ => none
def eqF (x y : PV) : Option Bool := if cmpOk x y then some (eqPV x y) else none
def ltF : PV → PV → Option Bool
  | .int i, .int j => some (decide (i < j))
  | .str x, .str y => some (decide (x.cps.toList < y.cps.toList))
  | _, _ => none
def leF : PV → PV → Option Bool
  | .int i, .int j => some (decide (i ≤ j))
  | _, _ => none
def gtF : PV → PV → Option Bool
  | .int i, .int j => some (decide (j < i))
  | _, _ => none
def cmpF : CmpOp → PV → PV → Option Bool
  | .Eq, x, y => eqF x y
  | .NotEq, x, y => (eqF x y).map (!·)
  | .Lt, x, y => ltF x y
  | .LtE, x, y => leF x y
  | .Gt, x, y => gtF x y
  | .GtE, x, y => leF y x
  | .In, x, y => inF x y
  | .NotIn, x, y => (inF x y).map (!·)
  | .Is, x, y => isF x y
  | .IsNot, x, y => (isF x y).map (!·)
def truF : PV → Option Bool
  | .non => some false
  | .bl b => some b
  | .int i => some (i != 0)
  | .lst xs => some (!xs.isEmpty)
  | .tup xs => some (!xs.isEmpty)
  | _ => none
def cutP (xs : List PV) (lo hi : Option Int) : List PV := (xs.drop (HT.sIx xs.length 0 lo)).take (HT.sIx xs.length xs.length hi - HT.sIx xs.length 0 lo)
def slcV (lo hi : Option Int) : PV → Option PV
  | .lst xs => some (.lst (cutP xs lo hi))
  | .tup xs => some (.tup (cutP xs lo hi))
  | .str x => if x.length ≤ LIM then some (.str (cutS x lo hi)) else none
  | _ => none
def subI (k : Int) : PV → Option PV
  | .lst xs => atI xs k
  | .tup xs => atI xs k
  | .str x => if x.length ≤ LIM then (atI x.cps.toList k).map fun c => .str ⟨#[c]⟩ else none
  | _ => none
/-- a dict's value by its key: an int or a text -/
def getD' (y : PV) : PV → Option PV
  | .dct false ks vs => if (kOf y).isSome then getK y ks vs else none
  | _ => none
def isDct : PV → Bool
  | .dct _ _ _ => true
  | _ => false
def subF (x y : PV) : Option PV := if isDct x then getD' y x else match y with
  | .int k => subI k x
  | _ => none
/-- a value's type's name; is the one below the other? -/
def tyN : PV → String
  | .non => "NoneType"
  | .bl _ => "bool"
  | .int _ => "int"
  | .str _ => "str"
  | .tup _ => "tuple"
  | .lst _ => "list"
  | .dct _ _ _ => "dict"
  | .drw => "dict"
  | .scr _ => "list"
def tyOk (x : PV) (t : String) : Bool := tyN x == t || (tyN x == "bool" && t == "int")
/-! ### built-ins by name -/
def lenF : PV → Option Nat
  | .str x => if x.length ≤ LIM then some x.length else none
  | .lst xs => some xs.length
  | .tup xs => some xs.length
  | .scr ns => some ns.length
  | _ => none
/-- a sort: the least first, equals in order -/
def insPV (x : PV) : List PV → List PV
  | [] => [x]
  | y :: r => if ltPV y x then y :: insPV x r else x :: y :: r
def srtPV : List PV → List PV
  | [] => []
  | x :: r => insPV x (srtPV r)
/-- may < be asked of each two: ints, or texts, or tuples (of tuples) of texts -/
def isStrP : PV → Bool
  | .str _ => true
  | _ => false
def isIntP : PV → Bool
  | .int _ => true
  | _ => false
def isTup1 : PV → Bool
  | .tup xs => !xs.isEmpty && xs.all isStrP
  | _ => false
def sortable (xs : List PV) : Bool := xs.all isIntP || xs.all isStrP || xs.all isTup1
def seqOf : PV → Option (List PV)
  | .lst xs => some xs
  | .tup xs => some xs
  | _ => none
def dedP : List PV → List PV
  | [] => []
  | x :: r => if r.any (fun z => eqPV z x) then dedP r else x :: dedP r
mutual
def shoP : PV → Option PyData
  | .non => some .none
  | .bl b => some (.bool b)
  | .int i => some (.int i)
  | .str s => some (.str s)
  | .lst xs => (shoPs xs).map .list
  | .tup xs => (shoPs xs).map .tuple
  | .dct _ _ _ => none
  | .drw => none
  | .scr _ => none
def shoPs : List PV → Option (List PyData)
  | [] => some []
  | x :: xs => match shoP x, shoPs xs with
    | some d, some ds => some (d :: ds)
    | _, _ => none
end
/-- zip -/
def zip2P : List PV → List PV → List PV
  | a :: as, b :: bs => .tup [a, b] :: zip2P as bs
  | _, _ => []
def zip3P : List PV → List PV → List PV → List PV
  | a :: as, b :: bs, c :: cs => .tup [a, b, c] :: zip3P as bs cs
  | _, _, _ => []
/-- list(zip(x, y, z)) of tuples -/
def zip3F : PV → PV → PV → Option PV
  | .tup xs, .tup ys, .tup zs => if ys.length = xs.length ∧ zs.length = xs.length then some (.lst (zip3P xs ys zs)) else none
  | _, _, _ => none
/-- a dict's value at a key: in its place, or at the end -/
def setK (k v : PV) : List PV → List PV → List PV
  | x :: xs, w :: ws => (if eqPV x k then v else w) :: setK k v xs ws
  | _, _ => []
def putK (k v : PV) (ks vs : List PV) : List PV × List PV := if ks.any (fun x => eqPV x k) then (ks, setK k v ks vs) else (ks ++ [k], vs ++ [v])
/-- dict(pairs): the later value at the first place -/
def dictF : List PV → List PV → List PV → Option PV
  | [], ks, vs => some (.dct false ks vs)
  | .tup [k, v] :: r, ks, vs => if (kOf k).isSome then dictF r (putK k v ks vs).1 (putK k v ks vs).2 else none
  | _ :: _, _, _ => none
def isLst : PV → Option (List PV)
  | .lst xs => some xs
  | _ => none
mutual
def toD : PV → PyData
  | .non => .none
  | .bl b => .bool b
  | .int i => .int i
  | .str s => .str s
  | .lst xs => .list (toDs xs)
  | .tup xs => .tuple (toDs xs)
  | .dct _ _ _ => .none
  | .drw => .none
  | .scr _ => .none
def toDs : List PV → List PyData
  | [] => []
  | x :: xs => toD x :: toDs xs
end
/-- repr of data: a list or a tuple -/
def reprF (x : PV) : Option PV := match x with
  | .lst _ | .tup _ => if okD x && (toD x).showable && decide ((toD x).shown.length ≤ LIM) then some (.str (toD x).shown) else none
  | _ => none
/-- sorted, tuple, list .. of one value -/
def bi1 : String → PV → Option PV
  | "len", x => (lenF x).map fun (n : Nat) => .int (n : Int)
  | "all", x => match x with
    | .lst xs => (blPV xs).map fun bs => .bl (bs.all id)
    | _ => none
  | "any", x => match x with
    | .lst xs => (blPV xs).map fun bs => .bl (bs.any id)
    | _ => none
  | "sum", x => match x with
    | .lst xs => (intPV xs).map fun ns => .int ns.sum
    | _ => none
  | "tuple", x => (seqOf x).map .tup
  | "list", x => (seqOf x).map .lst
  | "repr", x => reprF x
  | "dict", x => (isLst x).bind fun ps => dictF ps [] []
  | "sorted", x => (seqOf x).bind fun ys => if sortable ys then some (.lst (srtPV ys)) else none
  | "int", x => match x with
    | .int i => some (.int i)
    | .bl b => some (.int (if b then 1 else 0))
    | _ => none
  | "abs", x => match x with
    | .int i => some (.int (if i < 0 then -i else i))
    | _ => none
  | _, _ => none
def bi2 : String → PV → PV → Option PV
  | "min", x, y => match x, y with
    | .int i, .int j => some (.int (if j < i then j else i))
    | _, _ => none
  | "max", x, y => match x, y with
    | .int i, .int j => some (.int (if j > i then j else i))
    | _, _ => none
  | _, _, _ => none
def biF (b : String) : List PV → Option PV
  | [x] => bi1 b x
  | [x, y] => bi2 b x y
  | _ => none
/-! ### the small language -/
/-- a target of names: one, or a tuple of them -/
inductive G where
  | nm (i : Nat) | tp (l : List Nat)
mutual
inductive E where
  | var (i : Nat) | non | bl (b : Bool) | int (i : Int) | str (s : Str)
  | glob (x : Str)
  | tup (es : Es) | lst (es : Es) | dct (t : Bool) (ks vs : Es)
  | bin (op : Operator) (a b : E) | neg (a : E)
  | cmp (op : CmpOp) (a b : E) | chain (op op' : CmpOp) (a b c : E)
  | and (a b : E) | or (a b : E) | not (a : E) | ite (t a b : E)
  | sub (a i : E) | slc (a : E) (lo hi : C) | rev (a : E)
  | call (f : Str) (es : Es) | callK (f : Str) (es ks : Es) (nm : List Str) (perm : List Nat)
  | bi (b : String) (es : Es)
  | lenset (a : E) | sortset (a : E) | lzip3 (a b c : E)
  | dget (o k d : E)
  | join (s a : E)
  | isin (a : E) (tys : List String)
  | nev | dr (o : E) (f : Nat) | drge (o : E)
  | lc (e : E) (g : G) (it : I) (c : C) (own : List Nat)
  | lc2 (e : E) (g : G) (it : I) (c : C) (g2 : G) (it2 : I) (c2 : C) (own own2 fr : List Nat)
inductive Es where
  | nil | cons (e : E) (r : Es) | star (e : E) (r : Es)
inductive I where
  | seq (e : E) | rng1 (a : E) | rng2 (a b : E) | enum (e : E) | zip2 (a b : E) | items (e : E) | vals (e : E)
inductive C where
  | no | yes (e : E)
end
/-! ### the interpreter: expressions -/
def rd (b : Bool) (i : Nat) (ls : List Slot) : Option PV := match ls[i]? with
  | some (some (own, v)) => if own && !b then none else some v
  | _ => none
def storeG (g : G) (v : PV) (ls : List Slot) : Option (List Slot) := match g with
  | .nm i => if i < ls.length then some (ls.set i (some (false, v))) else none
  | .tp is => match seqOf v with
    | some xs => if xs.length = is.length ∧ is.all (· < ls.length) then some ((is.zip xs).foldl (fun l p => l.set p.1 (some (false, p.2))) ls) else none
    | none => none
/-- one's own things out of sight -/
def dropOwn : Slot → Slot
  | some (true, _) => none
  | s => s
def wipeP (ls : List Slot) : List Nat → List Slot
  | [] => ls
  | v :: vs => (wipeP ls vs).set v none
/-- what walks: the items, each with a name's value -/
def mapM' {α β : Type} (f : α → M β) : List α → M (List β)
  | [] => M.pure []
  | x :: xs => (f x).bind fun y => (mapM' f xs).bind fun ys => M.pure (y :: ys)
/-- no exception leaves -/
def M.nox {α : Type} (m : M α) : M α := fun d => match m d with
  | .ok a d' => .ok a d'
  | _ => .bad
/-- a comprehension's turns: some y is an item, none is left out -/
def compM (f : PV → M (Option PV)) : List PV → List PV → M (List PV)
  | [], acc => M.pure acc
  | x :: xs, acc => (f x).bind fun
    | none => compM f xs acc
    | some y => if acc.length < LIM then compM f xs (acc ++ [y]) else M.bad
/-- two clauses: a turn of the first gives the list so far -/
def comp2M (f : PV → List PV → M (List PV)) : List PV → List PV → M (List PV)
  | [], acc => M.pure acc
  | x :: xs, acc => (f x acc).bind fun acc' => comp2M f xs acc'
def rangeP (a : Int) (n : Nat) : List PV := (List.range n).map fun i => .int (a + (i : Nat))
def enumP : Nat → List PV → List PV
  | _, [] => []
  | i, x :: xs => .tup [.int (i : Nat), x] :: enumP (i + 1) xs
/-- a turn: the target stored, the test, the item -/
def stepF (st : Option (List Slot)) (c : List Slot → M Bool) (e : List Slot → M PV) : M (Option PV) := match st with
  | some ls' => (c ls').bind fun k => if k = true then (e ls').bind fun y => M.pure (some y) else M.pure none
  | none => M.bad
def stepI (st : Option (List Slot)) (c : List Slot → M Bool) (acc : List PV) (e : List Slot → M (List PV)) : M (List PV) := match st with
  | some ls' => (c ls').bind fun k => if k = true then e ls' else M.pure acc
  | none => M.bad
def joinF (sep : Str) (y : PV) : Option PV := (seqOf y).bind fun xs => (strPV xs).bind fun ts => if (ts.map (·.length)).sum + ts.length * sep.length ≤ 16777216 then some (.str (Txt.join sep ts)) else none
def blF : PV → Option Bool
  | .bl k => some k
  | _ => none
def evBl (m : M PV) : M Bool := m.bind fun x => M.lift (blF x)
def Draw.fld (q : Draw) : Nat → PV
  | 0 => .int q.rest
  | 1 => .int q.turn
  | _ => .lst (q.cells.map .int)
def Draw.setF (q : Draw) (k : Int) : Nat → Draw
  | 0 => { q with rest := k }
  | _ => { q with turn := k }
/-- a field of the draws -/
def drGet (f : Nat) (x : PV) : M PV := fun d => match x, d with
  | .drw, some q => .ok (q.fld f) d
  | _, _ => .bad
def drGe (x : PV) : M PV := fun d => match x, d with
  | .drw, some q => .ok (.bl (!q.great.isEmpty)) d
  | _, _ => .bad
def drSet (f : Nat) (x v : PV) : M Unit := fun d => match x, v, d with
  | .drw, .int k, some q => .ok () (some (q.setF k f))
  | _, _, _ => .bad
def drPop (x : PV) : M Unit := fun d => match x, d with
  | .drw, some q => (match q.great with
    | g :: r => .ok () (some { q with great := r, rest := g })
    | [] => .bad)
  | _, _ => .bad
def drNew (gs : List PV) (v : PV) : M Unit := fun d => match v, d with
  | .lst cs, none => (match intPV gs, intPV cs with
    | some ns, some ms => .ok () (some ⟨ns, 0, ms, 0⟩)
    | _, _ => .bad)
  | _, _ => .bad
/-- what is walked -/
def itemsF : PV → Option (List PV)
  | .lst xs => some xs
  | .tup xs => some xs
  | .scr ns => some (ns.map .int)
  | .str x => if x.length ≤ LIM then some (x.cps.toList.map fun c => .str ⟨#[c]⟩) else none
  | _ => none
def lensetF (x : PV) : Option PV := (seqOf x).bind fun xs => (strPV xs).bind fun ts => if ts.length < 3000 then some (.int (cntS [] ts : Nat)) else none
def dedS : List Str → List Str
  | [] => []
  | x :: r => if r.contains x then dedS r else x :: dedS r
/-- sorted(set(x)) of texts -/
def sortsetF (x : PV) : Option PV := (seqOf x).bind fun xs => (strPV xs).bind fun ts => if ts.length < 64 then some (.lst (srtPV ((dedS ts).map .str))) else none
/-- the texts that stand as keys of a display -/
def dispKs : Es → Option (List Str)
  | .nil => some []
  | .cons (.str k) r => (dispKs r).map (k :: ·)
  | _ => none
def dispF (t : Bool) (ks : Option (List Str)) (xs : List PV) : Option PV := ks.bind fun ks => if t = false ∧ ks.length = xs.length ∧ ks.Nodup ∧ ks ≠ [] ∧ ks.length ≤ 15 then some (.dct false (ks.map .str) xs) else none
structure PE' where
  gl : Str → Option PV
  cf : Str → List PV → M PV
mutual
def ev (P : PE') (b : Bool) : E → List Slot → M PV
  | .var i, ls => M.lift (rd b i ls)
  | .non, _ => M.pure .non
  | .bl c, _ => M.pure (.bl c)
  | .int i, _ => M.pure (.int i)
  | .str s, _ => M.pure (.str s)
  | .glob x, _ => M.lift (P.gl x)
  | .tup es, ls => (evs P es ls).bind fun xs => if xs.length ≤ LIM then M.pure (.tup xs) else M.bad
  | .lst es, ls => (evs P es ls).bind fun xs => if xs.length ≤ LIM then M.pure (.lst xs) else M.bad
  | .dct t ks vs, ls => (evs P vs ls).bind fun xs => M.lift (dispF t (dispKs ks) xs)
  | .bin op a c, ls => (ev P true a ls).bind fun x => (ev P true c ls).bind fun y => M.lift (binF op x y)
  | .neg a, ls => (ev P true a ls).bind fun
    | .int i => M.pure (.int (-i))
    | _ => M.bad
  | .cmp op a c, ls => (ev P true a ls).bind fun x => (ev P true c ls).bind fun y => (M.lift (cmpF op x y)).bind fun k => M.pure (.bl k)
  | .chain op op' a c e, ls => (ev P true a ls).bind fun x => (ev P true c ls).bind fun y => (M.lift (cmpF op x y)).bind fun k =>
    if k = true then (ev P true e ls).bind fun z => (M.lift (cmpF op' y z)).bind fun k => M.pure (.bl k) else M.pure (.bl false)
  | .and a c, ls => (evBl (ev P true a ls)).bind fun k => if k = true then (evBl (ev P true c ls)).bind fun j => M.pure (.bl j) else M.pure (.bl false)
  | .or a c, ls => (evBl (ev P true a ls)).bind fun k => if k = true then M.pure (.bl true) else (evBl (ev P true c ls)).bind fun j => M.pure (.bl j)
  | .not a, ls => (evBl (ev P true a ls)).bind fun k => M.pure (.bl (!k))
  | .ite t a c, ls => (ev P true t ls).bind fun x => (M.lift (truF x)).bind fun k => if k = true then ev P false a ls else ev P false c ls
  | .sub a i, ls => (ev P true a ls).bind fun x => (ev P true i ls).bind fun y => M.lift (subF x y)
  | .slc a lo hi, ls => (ev P true a ls).bind fun x => (evP P lo ls).bind fun l => (evP P hi ls).bind fun h => M.lift (slcV l h x)
  | .rev a, ls => (ev P true a ls).bind fun
    | .lst xs => M.pure (.lst xs.reverse)
    | _ => M.bad
  | .call f es, ls => (evs P es ls).bind fun xs => P.cf f xs
  | .callK f es ks nm perm, ls => (evs P es ls).bind fun xs => (evs P ks ls).bind fun ys => if xs.length + ys.length = perm.length ∧ ys.length = nm.length then P.cf f (pick perm xs ys) else M.bad
  | .bi b es, ls => (evsB P es ls).bind fun xs => M.lift (biF b xs)
  | .lenset a, ls => (ev P true a ls).bind fun x => M.lift (lensetF x)
  | .sortset a, ls => (ev P true a ls).bind fun x => M.lift (sortsetF x)
  | .lzip3 a c e, ls => (ev P true a ls).bind fun x => (ev P true c ls).bind fun y => (ev P true e ls).bind fun z => M.lift (zip3F x y z)
  | .dget o k e, ls => (ev P true o ls).bind fun x => (ev P true k ls).bind fun y => (ev P false e ls).bind fun z => match x with
    | _ => M.bad
  | .join s a, ls => (ev P true s ls).bind fun
    | .str sep => (ev P true a ls).bind fun y => M.lift (joinF sep y)
    | _ => M.bad
  | .isin a tys, ls => (ev P true a ls).bind fun x => M.pure (.bl (tys.any (tyOk x)))
  | .nev, _ => M.bad
  | .dr o f, ls => (ev P true o ls).bind fun x => drGet f x
  | .drge o, ls => (ev P true o ls).bind fun x => drGe x
  | .lc e g it c own, ls => (evI P true it ls).bind fun xs => M.nox ((compM (fun x => stepF (storeG g x (wipeP ls own)) (evC P c) (ev P false e)) xs []).bind fun ys => M.pure (.lst ys))
  | .lc2 e g it c g2 it2 c2 own own2 _, ls => (evI P true it ls).bind fun xs => M.nox ((comp2M (fun x acc => stepI (storeG g x (wipeP (ls.map dropOwn) own)) (evC P c) acc fun ls' => (evI P false it2 ls').bind fun zs =>
      compM (fun z => stepF (storeG g2 z (wipeP ls' own2)) (evC P c2) (ev P false e)) zs acc) xs []).bind fun ys => M.pure (.lst ys))
/-- published values -/
def evs (P : PE') : Es → List Slot → M (List PV)
  | .nil, _ => M.pure []
  | .cons e r, ls => (ev P false e ls).bind fun x => (evs P r ls).bind fun xs => M.pure (x :: xs)
  | .star e r, ls => (ev P true e ls).bind fun x => match seqOf x with
    | some ys => (evs P r ls).bind fun xs => M.pure (ys ++ xs)
    | none => M.bad
/-- borrowed values -/
def evsB (P : PE') : Es → List Slot → M (List PV)
  | .nil, _ => M.pure []
  | .cons e r, ls => (ev P true e ls).bind fun x => (evsB P r ls).bind fun xs => M.pure (x :: xs)
  | .star _ _, _ => M.bad
def evI (P : PE') (b : Bool) : I → List Slot → M (List PV)
  | .seq e, ls => (ev P b e ls).bind fun x => M.lift (itemsF x)
  | .rng1 a, ls => (ev P true a ls).bind fun
    | .int n => if n < 2 ^ 62 ∧ -(2 ^ 62) ≤ n then M.pure (rangeP 0 n.toNat) else M.bad
    | _ => M.bad
  | .rng2 a c, ls => (ev P true a ls).bind fun x => (ev P true c ls).bind fun y => match x, y with
    | .int m, .int n => if n < 2 ^ 62 ∧ -(2 ^ 62) ≤ m ∧ m < 2 ^ 62 ∧ -(2 ^ 62) ≤ n then M.pure (rangeP m (n - m).toNat) else M.bad
    | _, _ => M.bad
  | .enum e, ls => (ev P b e ls).bind fun
    | .lst xs => M.pure (enumP 0 xs)
    | _ => M.bad
  | .zip2 a c, ls => (ev P b a ls).bind fun x => (ev P b c ls).bind fun y => match x, y with
    | .lst xs, .lst ys => M.pure (zip2P xs ys)
    | .tup xs, .tup ys => M.pure (zip2P xs ys)
    | _, _ => M.bad
  | .items e, ls => M.bad
  | .vals e, ls => M.bad
def evC (P : PE') : C → List Slot → M Bool
  | .no, _ => M.pure true
  | .yes e, ls => (ev P true e ls).bind fun x => M.lift (truF x)
/-- a slice's part -/
def evP (P : PE') : C → List Slot → M (Option Int)
  | .no, _ => M.pure none
  | .yes e, ls => (ev P true e ls).bind fun
    | .int i => M.pure (some i)
    | _ => M.bad
end
theorem M.bind_assoc {α β γ : Type} (m : M α) (f : α → M β) (k : β → M γ) : (m.bind f).bind k = m.bind fun x => (f x).bind k := by
  funext d
  unfold M.bind
  cases m d <;> rfl
/-! ### statements -/
mutual
inductive S where
  | set (g : G) (e : E) | own (i : Nat) (e : E) | par (is : List Nat) (fl : List Bool) (es : Es)
  | app (i : Nat) (e : E) | appPop (i j : Nat) (e : E) | setPop (i j : Nat) | clear (i : Nat) | put (i : Nat) (k e : E)
  | expr (e : E) | ret (e : E) | retN
  | ife (t : E) (a b : Ss) | for_ (g : G) (it : I) (body : Ss) | whl (t : E) (body : Ss)
  | nev | drset (i f : Nat) (e : E) | drpop (i : Nat) | drnew (i : Nat) (c : E)
  | brk | cnt | pass | raise (cls : Str) (e : E) | aug (i : Nat) (op : Operator) (e : E)
inductive Ss where
  | nil | cons (s : S) (r : Ss)
end
inductive Fl where
  | nx (ls : List Slot) | rt (v : PV) | bk (ls : List Slot) | ct (ls : List Slot)
/-- a slot's value given away: nobody changes it in place any more -/
def frz1 : Slot → Slot
  | some (_, v) => some (false, v)
  | none => none
def frzAt (ls : List Slot) (is : List Nat) : List Slot := is.foldl (fun l i => l.modify i frz1) ls
mutual
/-- the names that are given away as values -/
def pubE (b : Bool) : E → List Nat
  | .var i => if b then [] else [i]
  | .tup es => pubEs es
  | .lst es => pubEs es
  | .dct t ks vs => pubEs vs
  | .bin _ a c => pubE true a ++ pubE true c
  | .neg a => pubE true a
  | .cmp _ a c => pubE true a ++ pubE true c
  | .chain _ _ a c e => pubE true a ++ pubE true c ++ pubE true e
  | .and a c => pubE true a ++ pubE true c
  | .or a c => pubE true a ++ pubE true c
  | .not a => pubE true a
  | .ite t a c => pubE true t ++ pubE false a ++ pubE false c
  | .sub a i => pubE true a ++ pubE true i
  | .slc a l h => pubE true a ++ pubC l ++ pubC h
  | .rev a => pubE true a
  | .call _ es => pubEs es
  | .callK _ es ks _ _ => pubEs es ++ pubEs ks
  | .bi _ es => pubBs es
  | .lenset a => pubE true a
  | .sortset a => pubE true a
  | .lzip3 a c e => pubE true a ++ pubE true c ++ pubE true e
  | .dget o k e => pubE true o ++ pubE true k ++ pubE false e
  | .join s a => pubE true s ++ pubE true a
  | .isin a _ => pubE true a
  | .dr o _ => pubE true o
  | .drge o => pubE true o
  | .lc e _ it c own => pubI true it ++ ((pubC c ++ pubE false e).filter fun i => !own.contains i)
  | .lc2 _ _ it _ _ _ _ _ _ fr => pubI true it ++ fr
  | _ => []
def pubEs : Es → List Nat
  | .nil => []
  | .cons e r => pubE false e ++ pubEs r
  | .star e r => pubE true e ++ pubEs r
def pubBs : Es → List Nat
  | .nil => []
  | .cons e r => pubE true e ++ pubBs r
  | .star e r => pubE true e ++ pubBs r
def pubI (b : Bool) : I → List Nat
  | .seq e => pubE b e
  | .rng1 a => pubE true a
  | .rng2 a c => pubE true a ++ pubE true c
  | .enum e => pubE b e
  | .zip2 a c => pubE b a ++ pubE b c
  | .items e => pubE b e
  | .vals e => pubE b e
def pubC : C → List Nat
  | .no => []
  | .yes e => pubE true e
end
def forM' (f : PV → List Slot → M Fl) : List PV → List Slot → M Fl
  | [], ls => M.pure (.nx ls)
  | x :: xs, ls => (f x ls).bind fun
    | .nx ls' => forM' f xs ls'
    | .ct ls' => forM' f xs ls'
    | .bk ls' => M.pure (.nx ls')
    | .rt v => M.pure (.rt v)
def whileM (t : List Slot → M Bool) (f : List Slot → M Fl) : Nat → List Slot → M Fl
  | 0, _ => M.bad
  | n + 1, ls => (t ls).bind fun k => if k = true then (f ls).bind fun
      | .nx ls' => whileM t f n ls'
      | .ct ls' => whileM t f n ls'
      | .bk ls' => M.pure (.nx ls')
      | .rt v => M.pure (.rt v)
    else M.pure (.nx ls)
def ownL (ls : List Slot) (i : Nat) : Option (List PV) := match ls[i]? with
  | some (some (true, .lst xs)) => some xs
  | _ => none
def popF : PV → List PV → Option (PV × List PV)
  | .int k, ys => if 0 ≤ k ∧ k < 2 ^ 62 then (ys[k.toNat]?).map fun y => (y, ys.eraseIdx k.toNat) else none
  | _, _ => none
def augF : Operator → PV → PV → Option PV
  | .Add, .int a, .int b => some (PV.int (a + b))
  | _, _, _ => none
def isFresh : E → Bool
  | .lst _ => true
  | .lc _ _ _ _ _ => true
  | .lc2 _ _ _ _ _ _ _ _ _ _ => true
  | .bi "list" _ => true
  | .bi "sorted" _ => true
  | _ => false
/-- which of the values are new lists of their own -/
def frs : Es → List Bool → Bool
  | .nil, [] => true
  | .cons e r, f :: fs => (!f || isFresh e) && frs r fs
  | _, _ => false
mutual
def ex (P : PE') (wf : Nat) : S → List Slot → M Fl
  | .set g e, ls => let ls := frzAt ls (pubE false e); (ev P false e ls).bind fun v => match storeG g v ls with
    | some ls' => M.pure (.nx ls')
    | none => M.bad
  | .own i e, ls => let ls := frzAt ls (pubE false e); (ev P false e ls).bind fun v => match v with
    | .lst xs => if i < ls.length ∧ isFresh e = true then M.pure (.nx (ls.set i (some (true, .lst xs)))) else M.bad
    | _ => M.bad
  | .par is fl es, ls => let ls := frzAt ls (pubEs es); (evs P es ls).bind fun vs => if vs.length = is.length ∧ is.all (· < ls.length) ∧ frs es fl = true then
      M.pure (.nx ((is.zip (fl.zip vs)).foldl (fun l p => l.set p.1 (some p.2)) ls)) else M.bad
  | .app i e, ls => let ls := frzAt ls (pubE false e); (M.lift (ownL ls i)).bind fun xs => (ev P false e ls).bind fun v => if xs.length < LIM then M.pure (.nx (ls.set i (some (true, .lst (xs ++ [v]))))) else M.bad
  | .appPop i j e, ls => (M.lift (ownL ls i)).bind fun xs => (M.lift (ownL ls j)).bind fun ys => (ev P true e ls).bind fun v => (M.lift (popF v ys)).bind fun r =>
      if xs.length < LIM ∧ i ≠ j then M.pure (.nx ((ls.set j (some (true, .lst r.2))).set i (some (true, .lst (xs ++ [r.1]))))) else M.bad
  | .setPop i j, ls => (M.lift (ownL ls j)).bind fun ys => (M.lift ys.getLast?).bind fun y => if i < ls.length ∧ i ≠ j then M.pure (.nx ((ls.set j (some (true, .lst ys.dropLast))).set i (some (false, y)))) else M.bad
  | .clear i, ls => (M.lift (ownL ls i)).bind fun _ => M.pure (.nx (ls.set i (some (true, .lst []))))
  | .put i k e, ls => let ls := frzAt ls (pubE false e ++ pubE false k); (ev P false e ls).bind fun v => (ev P false k ls).bind fun y => match ls[i]? with
    | some (some (true, .dct t ks vs)) => if isKey y ∧ ks.length < LIM then let r := putK y v ks vs; M.pure (.nx (ls.set i (some (true, .dct t r.1 r.2)))) else M.bad
    | _ => M.bad
  | .expr e, ls => let ls := frzAt ls (pubE false e); (ev P false e ls).bind fun _ => M.pure (.nx ls)
  | .ret e, ls => let ls := ls.map frz1; (ev P false e ls).bind fun v => M.pure (.rt v)
  | .retN, _ => M.pure (.rt .non)
  | .ife t a b, ls => let ls := frzAt ls (pubE true t); (ev P true t ls).bind fun x => (M.lift (truF x)).bind fun k => if k = true then exs P wf a ls else exs P wf b ls
  | .for_ g it body, ls => let ls := frzAt ls (pubI false it); (evI P false it ls).bind fun xs => forM' (fun x ls => match storeG g x ls with
    | some ls' => exs P wf body ls'
    | none => M.bad) xs ls
  | .whl t body, ls => if pubE true t = [] then whileM (fun ls => (ev P true t ls).bind fun x => M.lift (truF x)) (fun ls => exs P wf body ls) wf ls else M.bad
  | .nev, _ => M.bad
  | .drset i f e, ls => (ev P true e ls).bind fun v => (M.lift (rd true i ls)).bind fun x => (drSet f x v).bind fun _ => M.pure (.nx ls)
  | .drpop i, ls => (M.lift (rd true i ls)).bind fun x => (drPop x).bind fun _ => M.pure (.nx ls)
  | .drnew i c, ls => (M.lift (ownL ls i)).bind fun gs => (ev P false c (ls.set i none)).bind fun v => (drNew gs v).bind fun _ => M.pure (.rt .drw)
  | .brk, ls => M.pure (.bk ls)
  | .cnt, ls => M.pure (.ct ls)
  | .pass, ls => M.pure (.nx ls)
  | .raise cls e, ls => let ls := frzAt ls (pubE false e); (ev P false e ls).bind fun v => fun d => .ex (cls, some v) d
  | .aug i op e, ls => (M.lift (rd false i ls)).bind fun x => (ev P true e ls).bind fun y => (M.lift (augF op x y)).bind fun z => M.pure (.nx (ls.set i (some (false, z))))
def exs (P : PE') (wf : Nat) : Ss → List Slot → M Fl
  | .nil, ls => M.pure (.nx ls)
  | .cons s r, ls => (ex P wf s ls).bind fun
    | .nx ls' => exs P wf r ls'
    | f => M.pure f
end
/-! ### defs, the draws -/
structure FnD where
  np : Nat
  nv : Nat
  body : Ss
structure Prog where
  fn : Str → Option FnD
  gl : Str → Option PV
def start' (nv : Nat) (xs : List PV) : List Slot := xs.map (fun x => some (false, x)) ++ List.replicate (nv - xs.length) none
/-- a def called: by at most n calls one in another -/
def callF (P : Prog) (wf : Nat) : Nat → Str → List PV → M PV
  | 0, _, _ => M.bad
  | n + 1, f, xs => match P.fn f with
    | some fd => if xs.length = fd.np then (exs ⟨P.gl, callF P wf n⟩ wf fd.body (start' fd.nv xs)).bind fun
        | .rt v => M.pure v
        | .nx _ => M.pure .non
        | _ => M.bad
      else M.bad
    | none => M.bad
end FW
namespace FW
open PySem PySem.Spec PyProof.Rows L2
/-- what follows of an answer of the interpreter -/
def Post {α β : Type} (K : PySem.W.Frag) (H : Hp) (g : Gh) (R : Hp → Gh → α → β → Prop) (r : Res α) (Q : β → Hp → Prop) (EX : Hp → Gh → Exc → Prop) : Prop :=
  match r with
  | .bad => False
  | .ok v d' => ∀ H' g' x, Ext H g H' g' → GOk K H' g' d' → R H' g' v x → Q x H'
  | .ex e d' => ∀ H' g', Ext H g H' g' → GOk K H' g' d' → EX H' g' e
section
variable {α β γ δ : Type} {K : PySem.W.Frag} {H : Hp} {g : Gh} {R R1 : Hp → Gh → α → β → Prop} {R2 : Hp → Gh → γ → δ → Prop} {EX : Hp → Gh → Exc → Prop}
theorem Post.imp {r : Res α} {Q Q' : β → Hp → Prop} (h : Post K H g R r Q EX) (q : ∀ x H', Q x H' → Q' x H') : Post K H g R r Q' EX := by
  cases r with
  | bad => exact h
  | ok v d => exact fun H' g' x e G r => q _ _ (h H' g' x e G r)
  | ex e d => exact h
theorem Post.rel {r : Res α} {Q : β → Hp → Prop} (h : Post K H g R r Q EX) (q : ∀ H' g' d v x, GOk K H' g' d → R1 H' g' v x → R H' g' v x) : Post K H g R1 r Q EX := by
  cases r with
  | bad => exact h
  | ok v d => exact fun H' g' x e G r => h H' g' x e G (q _ _ _ _ _ G r)
  | ex e d => exact h
theorem Post.ext {r : Res α} {Q : β → Hp → Prop} {H1 : Hp} {g1 : Gh} (h : Post K H g R r Q EX) (e : Ext H g H1 g1) : Post K H1 g1 R r Q EX := by
  cases r with
  | bad => exact h
  | ok v d => exact fun H' g' x e' G r => h H' g' x (e.trans e') G r
  | ex x d => exact fun H' g' e' G => h H' g' (e.trans e') G
theorem Post.bind {m : M α} {k : α → M γ} {d : DS} {Q : δ → Hp → Prop} (h : Post K H g R2 ((m.bind k) d) Q EX) :
    Post K H g R (m d) (fun x H1 => ∃ a g1 d1, Ext H g H1 g1 ∧ GOk K H1 g1 d1 ∧ R H1 g1 a x ∧ Post K H1 g1 R2 (k a d1) Q EX) EX := by
  unfold M.bind at h
  cases q : m d with
  | bad => rw [q] at h; exact h
  | ok a d' =>
    rw [q] at h
    exact fun H1 g1 x e G r => ⟨a, g1, d', e, G, r, Post.ext h e⟩
  | ex e d' => rw [q] at h; exact h
theorem Post.pure {v : α} {d : DS} {Q : β → Hp → Prop} (h : Post K H g R (M.pure v d) Q EX) {x : β} (G : GOk K H g d) (r : R H g v x) : Q x H := h H g x (Ext.refl H g) G r
theorem Post.lift {o : Option α} {d : DS} {Q : β → Hp → Prop} (h : Post K H g R (M.lift o d) Q EX) : ∃ v, o = some v ∧ Post K H g R (M.pure v d) Q EX := by
  cases o with
  | none => exact h.elim
  | some v => exact ⟨v, rfl, h⟩
theorem Post.liftB {α' : Type} {o : Option α'} {k : α' → M α} {d : DS} {Q : β → Hp → Prop} (h : Post K H g R (((M.lift o).bind k) d) Q EX) : ∃ v, o = some v ∧ Post K H g R (k v d) Q EX := by
  cases o with
  | none => exact h.elim
  | some v => exact ⟨v, rfl, h⟩
theorem Post.ite {c : Prop} [Decidable c] {m : M α} {d : DS} {Q : β → Hp → Prop} (h : Post K H g R ((if c then m else M.bad) d) Q EX) : c ∧ Post K H g R (m d) Q EX := by
  by_cases q : c
  · rw [if_pos q] at h; exact ⟨q, h⟩
  · rw [if_neg q] at h; exact h.elim
/-- a reading by the interpreter -/
def tM (K : PySem.W.Frag) (R : Hp → Gh → α → β → Prop) (EX : L2.St → Hp → Gh → Exc → Prop) (m : List Slot → M α) : L2.St → Hp → (β → Hp → Prop) → Prop := fun σ H Q =>
  ∃ g ls d, GOk K H g d ∧ LRel K H g ls σ ∧ Post K H g R (m ls d) Q (EX σ)
end
/-- a value: borrowed (b) or given away -/
def RelX (K : PySem.W.Frag) (b : Bool) (H : Hp) (g : Gh) (p : PV) (x : V) : Prop := if b = true then RelB K H g p x else RelP K H g p x
abbrev RB (K : PySem.W.Frag) : Hp → Gh → PV → V → Prop := RelX K true
def RelBs (K : PySem.W.Frag) (H : Hp) (g : Gh) : List PV → List V → Prop
  | [], ys => ys = []
  | p :: ps, ys => ∃ y r, ys = y :: r ∧ RelB K H g p y ∧ RelBs K H g ps r
/-- nothing is told of the interpreter's bools but their values -/
def RelK (H : Hp) (g : Gh) (b : Bool) (c : Bool) : Prop := c = b
section
variable {K : PySem.W.Frag} {H H' : Hp} {g g' : Gh} {d : DS} {b : Bool} {p : PV} {x : V}
theorem RelX.of (G : GOk K H g d) (h : RelP K H g p x) : RelX K b H g p x := by
  cases b with
  | false => exact h
  | true => exact h.b G
theorem RelX.toB (G : GOk K H g d) (h : RelX K b H g p x) : RelB K H g p x := by
  cases b with
  | false => exact RelP.b G h
  | true => exact h
theorem RelX.ext (e : Ext H g H' g') (h : RelX K b H g p x) : RelX K b H' g' p x := by
  cases b with
  | false => exact RelP.ext e h
  | true => exact RelB.ext e h
theorem RelBs.ext (e : Ext H g H' g') : ∀ {ps : List PV} {xs : List V}, RelBs K H g ps xs → RelBs K H' g' ps xs
  | [], _, h => h
  | _ :: _, _, h => by
    obtain ⟨y, r, h1, h2, h3⟩ := h
    exact ⟨y, r, h1, h2.ext e, RelBs.ext e h3⟩
/-! ### what a value's form tells -/
theorem RelB.int {i : Int} (h : RelB K H g (.int i) x) : x = .int i := h
theorem RelB.bl {c : Bool} (h : RelB K H g (.bl c) x) : x = .bl c := h
theorem RelB.str {s : Str} (h : RelB K H g (.str s) x) : x = .str s := h
theorem RelB.non (h : RelB K H g .non x) : x = .non := h
theorem RelB.tup {ps : List PV} (h : RelB K H g (.tup ps) x) : ∃ a vs, x = .ref a ∧ SqT K H a vs ∧ RelPs K H g ps vs := h
theorem RelB.lst {ps : List PV} (h : RelB K H g (.lst ps) x) : ∃ a vs, x = .ref a ∧ ¬ g.isD a ∧ H a = some (.lst vs) ∧ RelPs K H g ps vs := h
/-! ### new objects -/
theorem Post.newT {Q : V → Hp → Prop} {EX : Hp → Gh → Exc → Prop} {ps : List PV} {vs : List V} (h : Post K H g (RelX K b) (M.pure (.tup ps) d) Q EX) (G : GOk K H g d) (r : RelPs K H g ps vs) (q : Addr) (hq : H q = none) : Q (.ref q) (upd H q (.tup vs)) := by
  have e := Ext.alloc (o := .tup vs) G hq
  refine h _ g _ e (G.alloc hq) (RelX.of (G.alloc hq) ⟨q, vs, rfl, .inl (.inl upd_same), r.ext e⟩)
theorem Post.newL {Q : V → Hp → Prop} {EX : Hp → Gh → Exc → Prop} {ps : List PV} {vs : List V} (h : Post K H g (RelX K b) (M.pure (.lst ps) d) Q EX) (G : GOk K H g d) (r : RelPs K H g ps vs) (q : Addr) (hq : H q = none) : Q (.ref q) (upd H q (.lst vs)) := by
  have e := Ext.allocF (o := .lst vs) G hq
  refine h _ _ _ e (G.allocF hq) (RelX.of (G.allocF hq) ⟨q, vs, rfl, .inr rfl, upd_same, r.ext e⟩)
/-! ### as data -/
mutual
theorem dp_of : ∀ {p : PV} {x : V}, noD p = true → RelP K H g p x → Dp K H x (toD p)
  | .non, _, _, h => by cases h; exact .non
  | .bl _, _, _, h => by cases h; exact .bl _
  | .int _, _, _, h => by cases h; exact .int _
  | .str _, _, _, h => by cases h; exact .str _
  | .tup xs, _, n, h => by
    obtain ⟨a, vs, rfl, h2, h3⟩ := h
    exact .tup h2 (dps_of (by simpa [noD] using n) h3)
  | .lst xs, _, n, h => by
    obtain ⟨a, vs, rfl, h2, h3, h4⟩ := h
    exact .lst (SqL.of h3) (dps_of (by simpa [noD] using n) h4)
  | .dct _ _ _, _, n, _ => by simp [noD] at n
  | .drw, _, n, _ => by simp [noD] at n
  | .scr _, _, n, _ => by simp [noD] at n
theorem dps_of : ∀ {ps : List PV} {xs : List V}, noDs ps = true → RelPs K H g ps xs → DpAll K H xs (toDs ps)
  | [], _, _, h => by cases h; exact .nil
  | _ :: _, _, n, h => by
    obtain ⟨y, r, rfl, h2, h3⟩ := h
    have n' := n
    simp only [noDs, Bool.and_eq_true] at n'
    exact .cons (dp_of n'.1 h2) (dps_of n'.2 h3)
end
theorem dpB_of (n : noD p = true) (h : RelB K H g p x) : Dp K H x (toD p) := by
  cases p with
  | lst xs =>
    obtain ⟨a, vs, rfl, h2, h3, h4⟩ := h
    exact .lst (SqL.of h3) (dps_of (by simpa [noD] using n) h4)
  | dct _ _ => simp [noD] at n
  | non => exact dp_of (g := g) (p := .non) n h
  | bl _ => exact dp_of (g := g) (p := .bl _) n h
  | int _ => exact dp_of (g := g) (p := .int _) n h
  | str _ => exact dp_of (g := g) (p := .str _) n h
  | tup _ => exact dp_of (g := g) (p := .tup _) n h
  | drw => simp [noD] at n
  | scr _ => simp [noD] at n
end
mutual
theorem lay_of : ∀ {p : PV}, noD p = true → (toD p).canLay0 = true
  | .non, _ => rfl
  | .bl _, _ => rfl
  | .int _, _ => rfl
  | .str s, n => by simp only [noD] at n; simp only [toD, PyData.canLay0, PyData.strOk]; exact n
  | .tup xs, n => by simp only [toD, PyData.canLay0]; exact lays_of (by simpa [noD] using n)
  | .lst xs, n => by simp only [toD, PyData.canLay0]; exact lays_of (by simpa [noD] using n)
  | .dct _ _ _, n => by simp [noD] at n
  | .drw, n => by simp [noD] at n
  | .scr _, n => by simp [noD] at n
theorem lays_of : ∀ {ps : List PV}, noDs ps = true → PyData.canLayAll0 (toDs ps) = true
  | [], _ => rfl
  | _ :: _, n => by
    simp only [noDs, Bool.and_eq_true] at n
    simp only [toDs, PyData.canLayAll0, lay_of n.1, lays_of n.2, Bool.and_self]
end
mutual
theorem dep_of : ∀ {p : PV}, (toD p).depth = depPV p
  | .non => rfl
  | .bl _ => rfl
  | .int _ => rfl
  | .str s => rfl
  | .tup xs => by simp only [toD, PyData.depth, depPV, deps_of]
  | .lst xs => by simp only [toD, PyData.depth, depPV, deps_of]
  | .dct _ _ _ => rfl
  | .drw => rfl
  | .scr _ => rfl
theorem deps_of : ∀ {ps : List PV}, PyData.depthAll (toDs ps) = depPVs ps
  | [] => rfl
  | _ :: _ => by simp only [toDs, PyData.depthAll, depPVs, dep_of, deps_of]
end
theorem shaped_of {p : PV} (h : okD p = true) : SeqAt.shaped (toD p) = true := by
  unfold okD at h
  simp only [Bool.and_eq_true, decide_eq_true_eq] at h
  unfold SeqAt.shaped
  rw [lay_of h.1, dep_of]
  simpa using h.2
mutual
theorem eqv_of : ∀ {p q : PV}, noD p = true → noD q = true → PyData.eqv (toD p) (toD q) = eqPV p q
  | .non, .non, _, _ => rfl
  | .non, .bl _, _, _ => rfl
  | .non, .int _, _, _ => rfl
  | .non, .str _, _, _ => rfl
  | .non, .tup _, _, _ => rfl
  | .non, .lst _, _, _ => rfl
  | .bl _, .non, _, _ => rfl
  | .bl _, .bl _, _, _ => by simp only [toD, PyData.eqv, eqPV]
  | .bl _, .int _, _, _ => by simp only [toD, PyData.eqv, eqPV]
  | .bl _, .str _, _, _ => rfl
  | .bl _, .tup _, _, _ => rfl
  | .bl _, .lst _, _, _ => rfl
  | .int _, .non, _, _ => rfl
  | .int _, .bl _, _, _ => by simp only [toD, PyData.eqv, eqPV]
  | .int _, .int _, _, _ => by simp only [toD, PyData.eqv, eqPV]
  | .int _, .str _, _, _ => rfl
  | .int _, .tup _, _, _ => rfl
  | .int _, .lst _, _, _ => rfl
  | .str _, .non, _, _ => rfl
  | .str _, .bl _, _, _ => rfl
  | .str _, .int _, _, _ => rfl
  | .str _, .str _, _, _ => by simp only [toD, PyData.eqv, eqPV]
  | .str _, .tup _, _, _ => rfl
  | .str _, .lst _, _, _ => rfl
  | .tup _, .non, _, _ => rfl
  | .tup _, .bl _, _, _ => rfl
  | .tup _, .int _, _, _ => rfl
  | .tup _, .str _, _, _ => rfl
  | .tup _, .tup _, n, m => by simp only [toD, PyData.eqv, eqPV]; exact eqvs_of (by simpa [noD] using n) (by simpa [noD] using m)
  | .tup _, .lst _, _, _ => rfl
  | .lst _, .non, _, _ => rfl
  | .lst _, .bl _, _, _ => rfl
  | .lst _, .int _, _, _ => rfl
  | .lst _, .str _, _, _ => rfl
  | .lst _, .tup _, _, _ => rfl
  | .lst _, .lst _, n, m => by simp only [toD, PyData.eqv, eqPV]; exact eqvs_of (by simpa [noD] using n) (by simpa [noD] using m)
  | .dct _ _ _, _, n, _ => by simp [noD] at n
  | .drw, _, n, _ => by simp [noD] at n
  | .scr _, _, n, _ => by simp [noD] at n
  | _, .dct _ _ _, _, n => by simp [noD] at n
  | _, .drw, _, n => by simp [noD] at n
  | _, .scr _, _, n => by simp [noD] at n
theorem eqvs_of : ∀ {ps qs : List PV}, noDs ps = true → noDs qs = true → PyData.eqvAll (toDs ps) (toDs qs) = eqPVs ps qs
  | [], [], _, _ => rfl
  | [], _ :: _, _, _ => rfl
  | _ :: _, [], _, _ => rfl
  | _ :: _, _ :: _, n, m => by
    simp only [noDs, Bool.and_eq_true] at n m
    simp only [toDs, PyData.eqvAll, eqPVs, eqv_of n.1 m.1, eqvs_of n.2 m.2]
end
end FW
namespace FW
open PySem PySem.Spec PyProof.Rows L2
theorem LIM_eq : LIM = sizeLine := sizeLine_eq.symm
theorem RelPs.rep {K : PySem.W.Frag} {H : Hp} {g : Gh} {ps : List PV} {xs : List V} (r : RelPs K H g ps xs) : ∀ k : Nat, RelPs K H g (List.replicate k ps).flatten (List.replicate k xs).flatten
  | 0 => rfl
  | k + 1 => by
    rw [List.replicate_succ, List.replicate_succ, List.flatten_cons, List.flatten_cons]
    exact r.append (RelPs.rep r k)
theorem smallI_ok {i j : Int} (h : (smallI i || smallI j) = true) : CMul i j := by
  unfold smallI at h
  simp only [Bool.or_eq_true, Bool.and_eq_true, decide_eq_true_eq] at h
  exact h
section
variable {X : Cx}
/-- a op b -/
def rBin (K : PySem.W.Frag) (op : Operator) : R2 := fun x y H Q => ∃ g d b EX va vb v, GOk K H g d ∧ RelB K H g va x ∧ RelB K H g vb y ∧ binF op va vb = some v ∧ Post K H g (RelX K b) (M.pure v d) Q EX
theorem op_addF {b : Bool} {pins : List (Addr × Obj)} {s : Shared} {σ : L2.St} {H : Hp} {x y : V} {v u : Value} {Q : VK} {g : Gh} {d : DS} {EX : Hp → Gh → Exc → Prop} {va vb w : PV} (I : Inv X pins σ H s) (rx : RelV x v) (ry : RelV y u)
    (G : GOk X.K H g d) (r1 : RelB X.K H g va x) (r2 : RelB X.K H g vb y) (e : addF va vb = some w) (h : Post X.K H g (RelX X.K b) (M.pure w d) Q EX) :
    wpAny (model X.prog X.w) X.A (binaryOp .Add v u) (EP X pins σ Q) X.xe s := by
  unfold addF at e
  split at e
  · obtain rfl := r1.int; obtain rfl := r2.int
    cases e
    exact op_add pins s σ H _ _ v u Q I rx ry ⟨_, _, rfl, rfl, h.pure G (RelX.of G rfl)⟩
  · obtain rfl := r1.str; obtain rfl := r2.str
    split at e <;> rename_i hz
    · cases e
      exact op_add_str pins s σ H _ _ v u Q I rx ry ⟨_, _, rfl, rfl, by rw [← LIM_eq]; exact hz, h.pure G (RelX.of G rfl)⟩
    · cases e
  · obtain ⟨a1, vs1, rfl, n1, h1, q1⟩ := r1.lst
    obtain ⟨a2, vs2, rfl, n2, h2, q2⟩ := r2.lst
    split at e <;> rename_i hz
    · cases e
      exact op_cat pins s σ H _ _ v u Q I rx ry ⟨_, _, _, _, rfl, rfl, h1, h2, by rw [← q1.length, ← q2.length, ← LIM_eq]; exact hz, fun p hp => h.newL G (q1.append q2) p hp⟩
    · cases e
  · obtain ⟨a1, vs1, rfl, h1, q1⟩ := r1.tup
    obtain ⟨a2, vs2, rfl, h2, q2⟩ := r2.tup
    rename_i xs ys
    split at e <;> rename_i hz
    · cases e
      refine op_catA pins s σ H _ _ v u Q I rx ry ⟨_, _, _, _, rfl, rfl, h1, h2, by rw [← q1.length, ← q2.length, ← LIM_eq]; exact hz, fun z => ?_, fun z z2 => ?_, fun _ _ p hp => h.newT G (q1.append q2) p hp⟩
      · have e1 : xs = [] := List.eq_nil_of_length_eq_zero (by rw [q1.length, z]; rfl)
        subst e1
        exact h.pure G (RelX.of G ⟨a2, vs2, rfl, h2, q2⟩)
      · have e1 : ys = [] := List.eq_nil_of_length_eq_zero (by rw [q2.length, z2]; rfl)
        subst e1
        rw [List.append_nil] at h
        exact h.pure G (RelX.of G ⟨a1, vs1, rfl, h1, q1⟩)
    · cases e
  · cases e
theorem op_mulF {b : Bool} {pins : List (Addr × Obj)} {s : Shared} {σ : L2.St} {H : Hp} {x y : V} {v u : Value} {Q : VK} {g : Gh} {d : DS} {EX : Hp → Gh → Exc → Prop} {va vb w : PV} (I : Inv X pins σ H s) (rx : RelV x v) (ry : RelV y u)
    (G : GOk X.K H g d) (r1 : RelB X.K H g va x) (r2 : RelB X.K H g vb y) (e : mulF va vb = some w) (h : Post X.K H g (RelX X.K b) (M.pure w d) Q EX) :
    wpAny (model X.prog X.w) X.A (binaryOp .Mult v u) (EP X pins σ Q) X.xe s := by
  unfold mulF at e
  split at e
  · obtain rfl := r1.int; obtain rfl := r2.int
    split at e <;> rename_i hz
    · cases e
      exact op_mul pins s σ H _ _ v u Q I rx ry ⟨_, _, rfl, rfl, smallI_ok hz, h.pure G (RelX.of G rfl)⟩
    · cases e
  · obtain ⟨a1, vs1, rfl, n1, h1, q1⟩ := r1.lst
    obtain rfl := r2.int
    split at e <;> rename_i hz
    · cases e
      exact op_rep pins s σ H _ _ v u Q I rx ry ⟨_, _, _, rfl, rfl, h1, by omega, by omega, by rw [← q1.length, ← LIM_eq]; exact hz.2.2, fun p hp => h.newL G (q1.rep _) p hp⟩
    · cases e
  · cases e
theorem intF_of {f : Int → Int → Option Int} {va vb w : PV} {K : PySem.W.Frag} {H : Hp} {g : Gh} {x y : V} (e : intF f va vb = some w) (r1 : RelB K H g va x) (r2 : RelB K H g vb y) : ∃ i j k, x = .int i ∧ y = .int j ∧ f i j = some k ∧ w = .int k := by
  unfold intF at e
  split at e
  · obtain rfl := r1.int; obtain rfl := r2.int
    obtain ⟨k, e1, e2⟩ := Option.map_eq_some_iff.mp e
    exact ⟨_, _, k, rfl, rfl, e1, e2.symm⟩
  · cases e
theorem op_binF (op : Operator) : OpR X (binaryOp op) (rBin X.K op) := by
  intro pins s σ H x y v u Q I rx ry h
  obtain ⟨g, d, b, EX, va, vb, w, G, r1, r2, e, h⟩ := h
  cases op with
  | Add => exact op_addF I rx ry G r1 r2 e h
  | Mult => exact op_mulF I rx ry G r1 r2 e h
  | Sub =>
    obtain ⟨i, j, k, rfl, rfl, e1, rfl⟩ := intF_of e r1 r2
    cases e1
    exact op_sub pins s σ H _ _ v u Q I rx ry ⟨_, _, rfl, rfl, h.pure G (RelX.of G rfl)⟩
  | Mod =>
    obtain ⟨i, j, k, rfl, rfl, e1, rfl⟩ := intF_of e r1 r2
    split at e1 <;> rename_i hz
    · cases e1
      exact op_mod pins s σ H _ _ v u Q I rx ry ⟨_, _, rfl, rfl, hz, h.pure G (RelX.of G rfl)⟩
    · cases e1
  | FloorDiv =>
    obtain ⟨i, j, k, rfl, rfl, e1, rfl⟩ := intF_of e r1 r2
    split at e1 <;> rename_i hz
    · cases e1
      exact op_fdiv pins s σ H _ _ v u Q I rx ry ⟨_, _, rfl, rfl, hz, h.pure G (RelX.of G rfl)⟩
    · cases e1
  | Pow =>
    obtain ⟨i, j, k, rfl, rfl, e1, rfl⟩ := intF_of e r1 r2
    split at e1 <;> rename_i hz
    · cases e1
      refine op_pow pins s σ H _ _ v u Q I rx ry ⟨_, _, rfl, rfl, ⟨hz.1, hz.2.1, ?_⟩, h.pure G (RelX.of G rfl)⟩
      have q := hz.2.2
      unfold smallI at q
      simp only [Bool.and_eq_true, decide_eq_true_eq] at q
      omega
    · cases e1
  | _ => cases e
theorem scal_of {va vb : PV} {K : PySem.W.Frag} {H : Hp} {g : Gh} {x y : V} (h : scalP va vb = true) (r1 : RelB K H g va x) (r2 : RelB K H g vb y) : scal x y = true ∧ decide (x = y) = eqPV va vb := by
  cases va <;> cases vb <;> first
    | (exfalso; simp [scalP] at h; done)
    | (have e1 := (show x = _ from r1); have e2 := (show y = _ from r2); subst e1; subst e2; refine ⟨rfl, ?_⟩; simp [eqPV]; done)
    | (have e1 := (show x = _ from r1); have e2 := (show y = _ from r2); subst e1; subst e2; refine ⟨rfl, ?_⟩; simp only [eqPV]; rw [Bool.eq_iff_iff]; simp)
theorem flat_of {p : PV} {K : PySem.W.Frag} {H : Hp} {g : Gh} {x : V} (h : flatP p = true) (r : RelB K H g p x) : flatV x = true := by
  cases p <;> first
    | (exfalso; simp [flatP] at h; done)
    | (have e1 := (show x = _ from r); subst e1; rfl)
theorem flatP_of {p : PV} {K : PySem.W.Frag} {H : Hp} {g : Gh} {x : V} (h : flatP p = true) (r : RelP K H g p x) : flatV x = true := by
  cases p <;> first
    | (exfalso; simp [flatP] at h; done)
    | (have e1 := (show x = _ from r); subst e1; rfl)
theorem eqV_of {p q : PV} {K : PySem.W.Frag} {H : Hp} {g : Gh} {x y : V} (h : flatP p = true) (h' : flatP q = true) (r : RelP K H g p x) (r' : RelB K H g q y) : eqV x y = eqPV p q := by
  cases p <;> cases q <;> first
    | (exfalso; simp [flatP] at h; done)
    | (exfalso; simp [flatP] at h'; done)
    | (have e1 := (show x = _ from r); have e2 := (show y = _ from r'); subst e1; subst e2; simp only [eqV, eqPV])
theorem flats_of {K : PySem.W.Frag} {H : Hp} {g : Gh} : ∀ {ps : List PV} {xs : List V}, ps.all flatP = true → RelPs K H g ps xs → xs.all flatV = true
  | [], _, _, r => by cases r; rfl
  | _ :: _, _, h, r => by
    obtain ⟨y, t, rfl, r1, r2⟩ := r
    simp only [List.all_cons, Bool.and_eq_true] at h ⊢
    exact ⟨flatP_of h.1 r1, flats_of h.2 r2⟩
theorem inV_of {K : PySem.W.Frag} {H : Hp} {g : Gh} {q : PV} {y : V} (h' : flatP q = true) (r' : RelB K H g q y) : ∀ {ps : List PV} {xs : List V}, ps.all flatP = true → RelPs K H g ps xs → inV y xs = ps.any fun z => eqPV z q
  | [], _, _, r => by cases r; rfl
  | _ :: _, _, h, r => by
    obtain ⟨x, t, rfl, r1, r2⟩ := r
    simp only [List.all_cons, Bool.and_eq_true] at h
    have ih := inV_of h' r' h.2 r2
    unfold inV at ih ⊢
    simp only [List.any_cons]
    rw [ih, eqV_of h.1 h' r1 r']
theorem anyD_of {q : PV} (n : noD q = true) : ∀ {ps : List PV}, noDs ps = true → ((toDs ps).any fun z => PyData.eqv z (toD q)) = ps.any fun z => eqPV z q
  | [], _ => rfl
  | _ :: _, h => by
    simp only [noDs, Bool.and_eq_true] at h
    simp only [toDs, List.any_cons, eqv_of h.1 n, anyD_of n h.2]
theorem okD_noD {p : PV} (h : okD p = true) : noD p = true := by
  unfold okD at h
  simp only [Bool.and_eq_true] at h
  exact h.1
theorem inStr_of {t : Str} {va : PV} {k : Bool} (e : inStr t va = some k) : ∃ c, va = .str ⟨#[c]⟩ ∧ k = t.cps.toList.contains c := by
  cases va with
  | str z =>
    unfold inStr at e
    simp only at e
    split at e <;> rename_i hz
    · obtain ⟨cs⟩ := z
      have h1 : cs.size = 1 := hz
      obtain ⟨c, hc⟩ : ∃ c, cs = #[c] := Array.size_eq_one_iff.mp h1
      subst hc
      exact ⟨c, rfl, (Option.some.inj e).symm⟩
    · cases e
  | _ => cases e
theorem isBlF_of {b : Bool} {va : PV} {k : Bool} (e : isBlF b va = some k) : ∃ c, va = .bl c ∧ k = (c == b) := by
  cases va with
  | bl c => exact ⟨c, rfl, (Option.some.inj e).symm⟩
  | _ => cases e
theorem ltF_of {va vb : PV} {k : Bool} (e : ltF va vb = some k) : (∃ i j, va = .int i ∧ vb = .int j ∧ k = decide (i < j)) ∨ ∃ x y, va = .str x ∧ vb = .str y ∧ k = decide (x.cps.toList < y.cps.toList) := by
  cases va with
  | int i => cases vb with
    | int j => exact .inl ⟨i, j, rfl, rfl, (Option.some.inj e).symm⟩
    | _ => cases e
  | str i => cases vb with
    | str j => exact .inr ⟨i, j, rfl, rfl, (Option.some.inj e).symm⟩
    | _ => cases e
  | _ => cases e
theorem leF_of {va vb : PV} {k : Bool} (e : leF va vb = some k) : ∃ i j, va = .int i ∧ vb = .int j ∧ k = decide (i ≤ j) := by
  cases va with
  | int i => cases vb with
    | int j => exact ⟨i, j, rfl, rfl, (Option.some.inj e).symm⟩
    | _ => cases e
  | _ => cases e
theorem gtF_of {va vb : PV} {k : Bool} (e : gtF va vb = some k) : ∃ i j, va = .int i ∧ vb = .int j ∧ k = decide (j < i) := by
  cases va with
  | int i => cases vb with
    | int j => exact ⟨i, j, rfl, rfl, (Option.some.inj e).symm⟩
    | _ => cases e
  | _ => cases e
/-- a cmp b -/
def rCmp (K : PySem.W.Frag) (op : CmpOp) : R2 := fun x y H Q => ∃ g d va vb k, GOk K H g d ∧ RelB K H g va x ∧ RelB K H g vb y ∧ cmpF op va vb = some k ∧ Q (.bl k) H
theorem in_ok (hu : X.A.units + 65 < cLine) (neg : Bool) {pins : List (Addr × Obj)} {s : Shared} {σ : L2.St} {H : Hp} {x y : V} {v u : Value} {Q : VK} (I : Inv X pins σ H s) (rx : RelV x v) (ry : RelV y u)
    {g : Gh} {d : DS} {va vb : PV} {k : Bool} (G : GOk X.K H g d) (r1 : RelB X.K H g va x) (r2 : RelB X.K H g vb y) (e : inF va vb = some k) (q : Q (.bl (if neg then !k else k)) H) :
    wpAny (model X.prog X.w) X.A (compareOp (if neg then .NotIn else .In) v u) (EP X pins σ Q) X.xe s := by
  have flat : ∀ (ys : List PV) (p : Addr) (vs : List V), y = .ref p → (SqL X.K H p vs ∨ SqT X.K H p vs) → RelPs X.K H g ys vs → (flatP va && ys.all flatP) = true → k = (ys.any fun z => eqPV z va) →
      wpAny (model X.prog X.w) X.A (compareOp (if neg then .NotIn else .In) v u) (EP X pins σ Q) X.xe s := by
    intro ys p vs ey hq rv hf hk
    subst ey hk
    simp only [Bool.and_eq_true] at hf
    have qq : Q (.bl (if neg then !inV x vs else inV x vs)) H := by rw [inV_of hf.1 r1 hf.2 rv]; exact q
    cases neg with
    | false => exact op_in_seq pins s σ H x _ v u Q I rx ry ⟨p, vs, rfl, hq, flat_of hf.1 r1, flats_of hf.2 rv, qq⟩
    | true => exact op_notIn_seq pins s σ H x _ v u Q I rx ry ⟨p, vs, rfl, hq, flat_of hf.1 r1, flats_of hf.2 rv, qq⟩
  have deep : ∀ (ys : List PV) (ty : List PyData → PyData), (okD va && okD (.lst ys)) = true → (ty = .list ∨ ty = .tuple) → Dp X.K H y (ty (toDs ys)) → k = (ys.any fun z => eqPV z va) →
      wpAny (model X.prog X.w) X.A (compareOp (if neg then .NotIn else .In) v u) (EP X pins σ Q) X.xe s := by
    intro ys ty hok ht hd hk
    subst hk
    simp only [Bool.and_eq_true] at hok
    have e1 := anyD_of (okD_noD hok.1) (ps := ys) (by simpa [noD] using okD_noD hok.2)
    have s2 : SeqAt.shaped (.list (toDs ys)) = true := by simpa [toD] using shaped_of hok.2
    have s1 := shaped_of hok.1
    obtain ⟨as, q1⟩ := Dp.reads I _ x v (dpB_of (okD_noD hok.1) r1) rx
    obtain ⟨bs, q2⟩ := Dp.reads I _ y u hd ry
    have rm := PyProof.Rows.room_in_shaped (xs := toDs ys) s1 hu
    have qq : ∀ b, b = ((toDs ys).any fun z => PyData.eqv z (toD va)) → EP X pins σ Q (.bool (if neg then !b else b)) s := fun b hb => ⟨.bl _, H, I, rfl, by rw [hb, e1]; exact q⟩
    rcases ht with rfl | rfl
    · cases neg with
      | false => exact SeqAt.in_list_reads q2 q1 (SeqAt.canLay_of_shaped s2) (SeqAt.canLay_of_shaped s1) rm (qq _ rfl)
      | true => exact SeqAt.notIn_list_reads q2 q1 (SeqAt.canLay_of_shaped s2) (SeqAt.canLay_of_shaped s1) rm (qq _ rfl)
    · have s3 : PyData.canLay0 (.tuple (toDs ys)) = true := by
        have := SeqAt.canLay_of_shaped s2
        simpa [PyData.canLay0] using this
      cases neg with
      | false => exact SeqAt.in_tuple_reads q2 q1 s3 (SeqAt.canLay_of_shaped s1) rm (qq _ rfl)
      | true => exact SeqAt.notIn_tuple_reads q2 q1 s3 (SeqAt.canLay_of_shaped s1) rm (qq _ rfl)
  unfold inF at e
  split at e
  · obtain ⟨a, vs, ey, n, h1, rv⟩ := r2.lst
    split at e <;> rename_i hz
    · have hk := (Option.some.inj e).symm
      unfold inOk at hz
      rw [Bool.or_eq_true] at hz
      rcases hz with hz | hz
      · exact flat _ a vs ey (.inl (SqL.of h1)) rv hz hk
      · subst ey
        have hz' := hz
        simp only [Bool.and_eq_true] at hz'
        exact deep _ .list hz (.inl rfl) (.lst (SqL.of h1) (dps_of (by simpa [noD] using okD_noD hz'.2) rv)) hk
    · cases e
  · obtain ⟨a, vs, ey, h1, rv⟩ := r2.tup
    split at e <;> rename_i hz
    · have hk := (Option.some.inj e).symm
      unfold inOk at hz
      rw [Bool.or_eq_true] at hz
      rcases hz with hz | hz
      · exact flat _ a vs ey (.inr h1) rv hz hk
      · subst ey
        have hz' := hz
        simp only [Bool.and_eq_true] at hz'
        exact deep _ .tuple hz (.inr rfl) (.tup h1 (dps_of (by simpa [noD] using okD_noD hz'.2) rv)) hk
    · cases e
  · obtain ⟨c, rfl, rfl⟩ := inStr_of e
    obtain rfl := r1.str; obtain rfl := r2.str
    have e1 : ∀ t : Str, (!(Builtin.Str.occurrences t ⟨#[c]⟩ 0 t.length 1).isEmpty) = t.cps.toList.contains c := fun t => by
      rw [StrLaws.found_one, List.contains_eq_mem]
    cases neg with
    | false => exact op_in_str pins s σ H _ _ v u Q I rx ry ⟨_, _, rfl, rfl, by rw [e1]; exact q⟩
    | true => exact op_notin_str pins s σ H _ _ v u Q I rx ry ⟨_, _, rfl, rfl, by rw [e1]; exact q⟩
  · cases e
theorem eq_ok (hu : X.A.units + 65 < cLine) (neg : Bool) {pins : List (Addr × Obj)} {s : Shared} {σ : L2.St} {H : Hp} {x y : V} {v u : Value} {Q : VK} (I : Inv X pins σ H s) (rx : RelV x v) (ry : RelV y u)
    {g : Gh} {d : DS} {va vb : PV} {k : Bool} (G : GOk X.K H g d) (r1 : RelB X.K H g va x) (r2 : RelB X.K H g vb y) (e : eqF va vb = some k) (q : Q (.bl (if neg then !k else k)) H) :
    wpAny (model X.prog X.w) X.A (compareOp (if neg then .NotEq else .Eq) v u) (EP X pins σ Q) X.xe s := by
  unfold eqF at e
  split at e <;> rename_i hz
  · have hk := (Option.some.inj e).symm
    subst hk
    unfold cmpOk at hz
    rw [Bool.or_eq_true, Bool.and_eq_true] at hz
    rcases hz with hz | ⟨h1, h2⟩
    · obtain ⟨q1, q2⟩ := scal_of hz r1 r2
      cases neg with
      | false => exact op_eq pins s σ H x y v u Q I rx ry ⟨q1, by rw [q2]; exact q⟩
      | true => exact op_ne pins s σ H x y v u Q I rx ry ⟨q1, by rw [q2]; exact q⟩
    · cases neg with
      | false => exact op_eqD (by omega) pins s σ H x y v u Q I rx ry ⟨_, _, dpB_of (okD_noD h1) r1, dpB_of (okD_noD h2) r2, shaped_of h1, shaped_of h2, by rw [eqv_of (okD_noD h1) (okD_noD h2)]; exact q⟩
      | true => exact op_neD (by omega) pins s σ H x y v u Q I rx ry ⟨_, _, dpB_of (okD_noD h1) r1, dpB_of (okD_noD h2) r2, shaped_of h1, shaped_of h2, by rw [eqv_of (okD_noD h1) (okD_noD h2)]; exact q⟩
  · cases e
theorem non_of {va : PV} {K : PySem.W.Frag} {H : Hp} {g : Gh} {x : V} (r1 : RelB K H g va x) : decide (x = V.non) = isNonP va := by
  cases va <;> first
    | (have e1 := (show x = _ from r1); subst e1; simp [isNonP]; done)
    | (obtain ⟨_, _, e1, _⟩ := r1; subst e1; simp [isNonP]; done)
    | (obtain ⟨_, e1, _⟩ := r1; subst e1; simp [isNonP]; done)
    | (obtain ⟨_, _, e1⟩ := r1; subst e1; simp [isNonP]; done)
theorem is_ok (neg : Bool) {pins : List (Addr × Obj)} {s : Shared} {σ : L2.St} {H : Hp} {x y : V} {v u : Value} {Q : VK} (I : Inv X pins σ H s) (rx : RelV x v) (ry : RelV y u)
    {g : Gh} {d : DS} {va vb : PV} {k : Bool} (G : GOk X.K H g d) (r1 : RelB X.K H g va x) (r2 : RelB X.K H g vb y) (e : isF va vb = some k) (q : Q (.bl (if neg then !k else k)) H) :
    wpAny (model X.prog X.w) X.A (compareOp (if neg then .IsNot else .Is) v u) (EP X pins σ Q) X.xe s := by
  unfold isF at e
  split at e
  · obtain rfl := r2.non
    have hk := (Option.some.inj e).symm
    subst hk
    have e1 := non_of r1
    cases neg with
    | false => exact op_isN pins s σ H _ _ v u Q I rx ry ⟨rfl, by rw [e1]; exact q⟩
    | true => exact op_notN pins s σ H _ _ v u Q I rx ry ⟨rfl, by rw [e1]; exact q⟩
  · obtain rfl := r2.bl
    obtain ⟨c, rfl, rfl⟩ := isBlF_of e
    obtain rfl := r1.bl
    have e1 : ∀ b : Bool, decide (c = b) = (c == b) := fun b => (Bool.beq_eq_decide_eq c b).symm
    cases neg with
    | false => exact op_isBl pins s σ H _ _ v u Q I rx ry ⟨_, _, rfl, rfl, by rw [e1]; exact q⟩
    | true => exact op_notBl pins s σ H _ _ v u Q I rx ry ⟨_, _, rfl, rfl, by rw [e1]; exact q⟩
  · cases e
theorem op_cmpF (hu : X.A.units + 65 < cLine) (op : CmpOp) : OpR X (compareOp op) (rCmp X.K op) := by
  intro pins s σ H x y v u Q I rx ry h
  obtain ⟨g, d, va, vb, k, G, r1, r2, e, q⟩ := h
  cases op with
  | Eq => exact eq_ok hu false I rx ry G r1 r2 e q
  | NotEq =>
    obtain ⟨k', e', rfl⟩ := Option.map_eq_some_iff.mp (show (eqF va vb).map (!·) = some k from e)
    exact eq_ok hu true I rx ry G r1 r2 e' q
  | In => exact in_ok hu false I rx ry G r1 r2 e q
  | NotIn =>
    obtain ⟨k', e', rfl⟩ := Option.map_eq_some_iff.mp (show (inF va vb).map (!·) = some k from e)
    exact in_ok hu true I rx ry G r1 r2 e' q
  | Is => exact is_ok false I rx ry G r1 r2 e q
  | IsNot =>
    obtain ⟨k', e', rfl⟩ := Option.map_eq_some_iff.mp (show (isF va vb).map (!·) = some k from e)
    exact is_ok true I rx ry G r1 r2 e' q
  | Lt =>
    rcases ltF_of e with ⟨i, j, rfl, rfl, rfl⟩ | ⟨i, j, rfl, rfl, rfl⟩
    · obtain rfl := r1.int; obtain rfl := r2.int
      exact op_lt pins s σ H _ _ v u Q I rx ry ⟨_, _, rfl, rfl, q⟩
    · obtain rfl := r1.str; obtain rfl := r2.str
      exact op_lt_str pins s σ H _ _ v u Q I rx ry ⟨_, _, rfl, rfl, q⟩
  | LtE =>
    obtain ⟨i, j, rfl, rfl, rfl⟩ := leF_of e
    obtain rfl := r1.int; obtain rfl := r2.int
    exact op_le pins s σ H _ _ v u Q I rx ry ⟨_, _, rfl, rfl, q⟩
  | Gt =>
    obtain ⟨i, j, rfl, rfl, rfl⟩ := gtF_of e
    obtain rfl := r1.int; obtain rfl := r2.int
    exact op_gt pins s σ H _ _ v u Q I rx ry ⟨_, _, rfl, rfl, q⟩
  | GtE =>
    obtain ⟨i, j, rfl, rfl, rfl⟩ := leF_of e
    obtain rfl := r1.int; obtain rfl := r2.int
    exact op_ge pins s σ H _ _ v u Q I rx ry ⟨_, _, rfl, rfl, q⟩
end
end FW
namespace FW
open PySem PySem.Spec PyProof.Rows L2
/-! ### orders -/
structure STO {α : Type} (lt : α → α → Bool) : Prop where
  irr : ∀ x, lt x x = false
  tr : ∀ x y z, lt x y = true → lt y z = true → lt x z = true
  tot : ∀ x y, lt x y = false → lt y x = false → x = y
section
variable {α : Type} {lt : α → α → Bool}
theorem STO.asym (O : STO lt) {x y : α} (h : lt x y = true) : lt y x = false := by
  cases q : lt y x with
  | false => rfl
  | true => have := O.tr _ _ _ h q; rw [O.irr] at this; cases this
theorem STO.neg (O : STO lt) {x y z : α} (h1 : lt y x = false) (h2 : lt z y = false) : lt z x = false := by
  cases q : lt z x with
  | false => rfl
  | true =>
    cases r : lt x y with
    | true => rw [O.tr _ _ _ q r] at h2; cases h2
    | false => rw [O.tot _ _ r h1] at q; rw [q] at h2; cases h2
theorem STO.swo {β : Type} (O : STO lt) (k : β → α) : SrtO.Swo fun x y => lt (k x) (k y) := ⟨fun _ _ h => O.asym h, fun _ _ _ h1 h2 => O.neg h1 h2⟩
def lexL [DecidableEq α] (lt : α → α → Bool) : List α → List α → Bool
  | [], [] => false
  | [], _ :: _ => true
  | _ :: _, [] => false
  | x :: xs, y :: ys => if x = y then lexL lt xs ys else lt x y
theorem lex_irr [DecidableEq α] : ∀ xs : List α, lexL lt xs xs = false
  | [] => rfl
  | x :: xs => by unfold lexL; rw [if_pos rfl]; exact lex_irr xs
theorem lex_tot [DecidableEq α] (O : STO lt) : ∀ xs ys : List α, lexL lt xs ys = false → lexL lt ys xs = false → xs = ys
  | [], [], _, _ => rfl
  | [], _ :: _, h, _ => by cases h
  | _ :: _, [], _, h => by cases h
  | x :: xs, y :: ys, h1, h2 => by
    unfold lexL at h1 h2
    by_cases e : x = y
    · rw [if_pos e] at h1; rw [if_pos e.symm] at h2; rw [e, lex_tot O xs ys h1 h2]
    · rw [if_neg e] at h1; rw [if_neg (Ne.symm e)] at h2; exact absurd (O.tot _ _ h1 h2) e
theorem lex_tr [DecidableEq α] (O : STO lt) : ∀ xs ys zs : List α, lexL lt xs ys = true → lexL lt ys zs = true → lexL lt xs zs = true
  | [], [], _, h, _ => by cases h
  | [], _ :: _, [], _, h => by cases h
  | [], _ :: _, _ :: _, _, _ => rfl
  | _ :: _, [], _, h, _ => by cases h
  | _ :: _, _ :: _, [], _, h => by cases h
  | x :: xs, y :: ys, z :: zs, h1, h2 => by
    unfold lexL at h1 h2 ⊢
    by_cases e : x = y
    · subst e
      rw [if_pos rfl] at h1
      by_cases e2 : x = z
      · rw [if_pos e2] at h2 ⊢; exact lex_tr O xs ys zs h1 h2
      · rw [if_neg e2] at h2 ⊢; exact h2
    · rw [if_neg e] at h1
      by_cases e2 : y = z
      · subst e2; rw [if_neg e]; exact h1
      · rw [if_neg e2] at h2
        have h3 := O.tr _ _ _ h1 h2
        have e3 : x ≠ z := fun q => by subst q; rw [O.asym h1] at h2; cases h2
        rw [if_neg e3]; exact h3
theorem STO.lex [DecidableEq α] (O : STO lt) : STO (lexL lt) := ⟨lex_irr, lex_tr O, lex_tot O⟩
/-- insertion -/
def insK (lt : α → α → Bool) (x : α) : List α → List α
  | [] => [x]
  | y :: r => if lt y x = true then y :: insK lt x r else x :: y :: r
def srtK (lt : α → α → Bool) : List α → List α
  | [] => []
  | x :: r => insK lt x (srtK lt r)
theorem ins_perm (x : α) : ∀ l : List α, (insK lt x l).Perm (x :: l)
  | [] => .refl _
  | y :: r => by
    unfold insK
    by_cases h : lt y x = true
    · rw [if_pos h]; exact ((ins_perm x r).cons y).trans (.swap x y r)
    · rw [if_neg h]
theorem srt_perm : ∀ l : List α, (srtK lt l).Perm l
  | [] => .refl _
  | x :: r => (ins_perm x _).trans ((srt_perm r).cons x)
theorem ins_srt (O : STO lt) (x : α) : ∀ {l : List α}, l.Pairwise (fun a b => lt b a = false) → (insK lt x l).Pairwise (fun a b => lt b a = false)
  | [], _ => List.pairwise_singleton _ _
  | y :: r, h => by
    obtain ⟨h1, h2⟩ := List.pairwise_cons.mp h
    unfold insK
    by_cases q : lt y x = true
    · rw [if_pos q]
      refine List.pairwise_cons.mpr ⟨fun z hz => ?_, ins_srt O x h2⟩
      rcases List.mem_cons.mp ((ins_perm x r).mem_iff.mp hz) with e | e
      · rw [e]; exact O.asym q
      · exact h1 z e
    · rw [if_neg q]
      have q' : lt y x = false := by simpa using q
      refine List.pairwise_cons.mpr ⟨fun z hz => ?_, h⟩
      rcases List.mem_cons.mp hz with e | e
      · rw [e]; exact q'
      · exact O.neg q' (h1 z e)
theorem srt_srt (O : STO lt) : ∀ l : List α, (srtK lt l).Pairwise (fun a b => lt b a = false)
  | [] => .nil
  | x :: r => ins_srt O x (srt_srt O r)
theorem srt_eq (O : STO lt) {l ks : List α} (hp : l.Perm ks) (hs : l.Pairwise (fun a b => lt b a = false)) : l = srtK lt ks :=
  List.Perm.eq_of_pairwise (le := fun a b => lt b a = false) (fun a b _ _ h1 h2 => O.tot _ _ h2 h1) hs (srt_srt O ks) (hp.trans (srt_perm ks).symm)
end
def ltStr (x y : Str) : Bool := decide (x.cps.toList < y.cps.toList)
theorem sto_str : STO ltStr where
  irr := fun x => decide_eq_false (List.lt_irrefl _)
  tr := fun x y z h1 h2 => decide_eq_true (List.lt_trans (of_decide_eq_true h1) (of_decide_eq_true h2))
  tot := fun x y h1 h2 => by
    have a := of_decide_eq_false h1
    have b := of_decide_eq_false h2
    have e : x.cps.toList = y.cps.toList := by
      apply Classical.byContradiction
      intro n
      exact a (Std.lt_of_le_of_ne (List.not_lt.mp b) n)
    cases x; cases y
    simp only [PySem.Str.mk.injEq]
    exact Array.toList_inj.mp e
def ltInt (x y : Int) : Bool := decide (x < y)
theorem sto_int : STO ltInt := ⟨fun x => by simp [ltInt], fun x y z h1 h2 => by simp only [ltInt, decide_eq_true_eq] at *; omega, fun x y h1 h2 => by simp only [ltInt, decide_eq_false_iff_not] at *; omega⟩
/-- the interpreter's sort, by keys -/
theorem ins_of {κ : Type} {lt : κ → κ → Bool} {f : κ → PV} (h : ∀ a b, ltPV (f a) (f b) = lt a b) (x : κ) : ∀ l : List κ, insPV (f x) (l.map f) = (insK lt x l).map f
  | [] => rfl
  | y :: r => by
    show (if ltPV (f y) (f x) then f y :: insPV (f x) (r.map f) else f x :: f y :: r.map f) = _
    rw [h]
    unfold insK
    by_cases q : lt y x = true
    · rw [if_pos q, if_pos q, ins_of h x r]; rfl
    · rw [if_neg q, if_neg q]; rfl
theorem srt_of {κ : Type} {lt : κ → κ → Bool} {f : κ → PV} (h : ∀ a b, ltPV (f a) (f b) = lt a b) : ∀ l : List κ, srtPV (l.map f) = (srtK lt l).map f
  | [] => rfl
  | x :: r => by
    show insPV (f x) (srtPV (r.map f)) = _
    rw [srt_of h r, ins_of h]; rfl
/-- tuples of texts by their texts -/
def tupS (xs : List Str) : PV := .tup (xs.map .str)
theorem eqPVs_strs : ∀ xs ys : List Str, eqPVs (xs.map .str) (ys.map .str) = decide (xs = ys)
  | [], [] => rfl
  | [], _ :: _ => rfl
  | _ :: _, [] => rfl
  | x :: xs, y :: ys => by
    show (eqPV (.str x) (.str y) && eqPVs (xs.map .str) (ys.map .str)) = _
    rw [eqPVs_strs xs ys]
    show (x == y && decide (xs = ys)) = _
    by_cases e : x = y
    · subst e; simp
    · have : (x == y) = false := beq_eq_false_iff_ne.mpr e
      rw [this]; simp [e]
theorem ltPVs_strs : ∀ xs ys : List Str, ltPVs (xs.map .str) (ys.map .str) = lexL ltStr xs ys
  | [], [] => rfl
  | [], _ :: _ => rfl
  | _ :: _, [] => rfl
  | x :: xs, y :: ys => by
    show (if eqPV (.str x) (.str y) then ltPVs (xs.map .str) (ys.map .str) else ltPV (.str x) (.str y)) = _
    unfold lexL
    show (if (x == y) = true then _ else decide (x.cps.toList < y.cps.toList)) = _
    by_cases e : x = y
    · subst e; rw [if_pos (by simp), if_pos rfl]; exact ltPVs_strs xs ys
    · rw [if_neg (by simpa using e), if_neg e]; rfl
theorem ltPV_tupS (xs ys : List Str) : ltPV (tupS xs) (tupS ys) = lexL ltStr xs ys := ltPVs_strs xs ys
/-! ### values -/
def strV : Value → Str
  | .str x _ => x
  | _ => ⟨#[]⟩
def intV : Value → Int
  | .int x _ => x
  | _ => 0
def tupV (h : Heap) : Value → List Str
  | .ref a => match h.get? a with
    | some o => (match o.data with
      | .seq its _ => its.toList.map strV
      | _ => [])
    | none => []
  | _ => []
/-- a tuple of texts, not empty -/
def IsTS (h : Heap) (v : Value) : Prop := ∃ (a : Addr) (o : Obj) (its : List Value) (n : Nat), v = .ref a ∧ h.get? a = some o ∧ o.cls = .type "tuple" ∧ o.data = .seq its.toArray n ∧ (∀ u ∈ its, ∃ x t, u = Value.str x t) ∧ its ≠ []
theorem IsTS.same {h h' : Heap} {v : Value} (x : IsTS h v) (k : ∀ b o, h.get? b = some o → o.cls = .type "tuple" → h'.get? b = some o) : IsTS h' v ∧ tupV h' v = tupV h v := by
  obtain ⟨a, o, its, n, rfl, h1, h2, h3, h4, h5⟩ := x
  have h1' := k a o h1 h2
  refine ⟨⟨a, o, its, n, rfl, h1', h2, h3, h4, h5⟩, ?_⟩
  unfold tupV
  simp only [h1, h1']
theorem IsTS.key {h : Heap} {a : Addr} {o : Obj} {its : List Value} {n : Nat} (h1 : h.get? a = some o) (h3 : o.data = .seq its.toArray n) : tupV h (.ref a) = its.map strV := by
  unfold tupV
  simp only [h1, h3]
section
variable {prog : Program} {w : World} {A : Around} {E : Value → Shared → Prop} {s : Shared}
theorem lex_kat {b : Bool} {Q : Bool → Shared → Prop} : ∀ (us vs : List Value) (i : Nat), (∀ u ∈ us, ∃ x t, u = Value.str x t) → (∀ u ∈ vs, ∃ x t, u = Value.str x t) → Q (lexL ltStr (us.map strV) (vs.map strV)) s → PySem.W.KatLex prog w A b (decide (us.length < vs.length)) Q (us.zip vs) i s
  | [], vs, i, _, _, q => by
    refine PySem.W.kat_nil ?_
    cases vs <;> exact q
  | u :: us, [], i, _, _, q => PySem.W.kat_nil q
  | u :: us, v :: vs, i, h1, h2, q => by
    obtain ⟨x, t, rfl⟩ := h1 u List.mem_cons_self
    obtain ⟨y, t', rfl⟩ := h2 v List.mem_cons_self
    have q' : Q (if x = y then lexL ltStr (us.map strV) (vs.map strV) else ltStr x y) s := q
    have el : decide ((Value.str x t :: us).length < (Value.str y t' :: vs).length) = decide (us.length < vs.length) := by simp
    rw [el]
    refine PySem.W.kat_cons (wpAny_eqBool_str (PySem.W.kat_go (fun e => ?_) (fun e => ?_)))
    · have e : x = y := by simpa using e
      rw [if_pos e] at q'
      exact PySem.W.kat_yes (lex_kat us vs (i + 1) (fun u hu => h1 u (List.mem_cons_of_mem _ hu)) (fun u hu => h2 u (List.mem_cons_of_mem _ hu)) q')
    · have e : ¬ x = y := by simpa using e
      rw [if_neg e] at q'
      refine PySem.W.kat_no ?_
      cases hb : (b && i == 0) with
      | true => exact oneLt_str q'
      | false => exact PySem.W.kat_one _ _ (lt_str q')
theorem ts_cmp {vs : List Value} {k : Value → List Str} (h : ∀ v ∈ vs, IsTS s.heap v ∧ tupV s.heap v = k v) : SrtO.Cmp prog w A s (tuples' true) (fun p => p.1 ∈ vs) (SrtO.lt2 fun v u => lexL ltStr (k v) (k u)) := by
  intro p q hp hq
  obtain ⟨⟨a, o, its, n, e1, h1, h2, h3, h4, h5⟩, k1⟩ := h _ hp
  obtain ⟨⟨a', o', its', n', e1', h1', h2', h3', h4', h5'⟩, k1'⟩ := h _ hq
  show wpAny (model prog w) A (keyLt' (tuples' true) p.1 q.1) (fun r s' => s' = s ∧ r = lexL ltStr (k p.1) (k q.1)) (fun _ _ => False) s
  rw [← k1, ← k1', e1, e1', IsTS.key h1 h3, IsTS.key h1' h3']
  refine PySem.W.kat_lt h1 h3 h1' h3' ?_
  have := lex_kat (prog := prog) (w := w) (A := A) (s := s) (b := true) (Q := fun r s' => s' = s ∧ r = lexL ltStr (its.map strV) (its'.map strV)) its its' 0 h4 h4' ⟨rfl, rfl⟩
  simpa using this
theorem ts_firsts {h : Heap} : ∀ {vs : List Value}, (∀ v ∈ vs, IsTS h v) → ∃ fs, PySem.W.KatTups h vs fs ∧ fs.length = vs.length ∧ ∀ f ∈ fs, ∃ x t, f = Value.str x t
  | [], _ => ⟨[], trivial, rfl, fun f hf => by cases hf⟩
  | v :: vs, hv => by
    obtain ⟨fs, q1, q2, q3⟩ := ts_firsts (vs := vs) fun u hu => hv u (List.mem_cons_of_mem _ hu)
    obtain ⟨a, o, its, n, e1, h1, h2, h3, h4, h5⟩ := hv v List.mem_cons_self
    match its, h5, h3, h4 with
    | u :: us, _, h3, h4 =>
      refine ⟨u :: fs, ⟨⟨a, o, _, n, e1, h1, h2, h3, rfl⟩, q1⟩, by rw [List.length_cons, List.length_cons, q2], fun f hf => ?_⟩
      rcases List.mem_cons.mp hf with e | e
      · rw [e]; exact h4 u List.mem_cons_self
      · exact q3 f e
theorem ts_sortable {a : Addr} {vs : List Value} {k : Value → List Str} (h2 : 2 ≤ vs.length) (hv : ∀ v ∈ vs, IsTS s.heap v ∧ tupV s.heap v = k v) (ha : ∀ o, s.heap.get? a = some o → o.cls ≠ .type "tuple") : SrtO.SortableO prog w A s a vs fun v u => lexL ltStr (k v) (k u) := by
  intro h' keep
  have hv' : ∀ v ∈ vs, IsTS h' v ∧ tupV h' v = k v := fun v hm => by
    obtain ⟨z1, z2⟩ := (hv v hm).1.same (h' := h') fun b o e c => keep b o (fun z => by subst z; exact ha o e c) e
    exact ⟨z1, z2.trans (hv v hm).2⟩
  obtain ⟨fs, f1, f2, f3⟩ := ts_firsts fun v hm => (hv' v hm).1
  refine ⟨tuples' true, fun Q E hq => ?_, ts_cmp (s := { s with heap := h' }) hv'⟩
  refine PySem.W.kat_kind (T := .type "str") f1 (by omega) (fun f hm => ?_) (by rfl) ?_
  · obtain ⟨x, t, rfl⟩ := f3 f hm
    exact PySem.W.Looks.now
  · have e : (Value.type "str" != Value.type "tuple") = true := by decide +kernel
    rw [e]
    exact hq
theorem strs_are : ∀ {vs : List Value}, (∀ v ∈ vs, ∃ x t, v = Value.str x t) → StrsAre vs (vs.map strV)
  | [], _ => .nil
  | v :: vs, h => by
    obtain ⟨x, t, rfl⟩ := h v List.mem_cons_self
    exact .cons x t (strs_are fun u hu => h u (List.mem_cons_of_mem _ hu))
theorem strs_sortable {a : Addr} {vs : List Value} (h2 : 2 ≤ vs.length) (hv : ∀ v ∈ vs, ∃ x t, v = Value.str x t) : SrtO.SortableO prog w A s a vs fun v u => ltStr (strV v) (strV u) := by
  intro h' _
  refine ⟨oneType', fun Q E hq => ?_, fun p q hp hq => ?_⟩
  · match vs, strs_are hv, h2 with
    | v1 :: v2 :: rest, hI, _ =>
      rw [keyKind_strs hI]
      exact wpAny_pure hq
    | [], _, h => exact absurd h (by decide)
    | [v], _, h => exact absurd h (by simp)
  · obtain ⟨x, t, e⟩ := hv _ hp
    obtain ⟨y, t', e'⟩ := hv _ hq
    show wpAny (model prog w) A (keyLt' oneType' p.1 q.1) (fun r s' => s' = { s with heap := h' } ∧ r = ltStr (strV p.1) (strV q.1)) (fun _ _ => False) { s with heap := h' }
    rw [e, e', keyLt'_oneType]
    exact oneLt_str ⟨rfl, rfl⟩
end
/-! ### sorted of a tuple -/
section
variable {prog : Program} {w : World} {A : Around} {E : Value → Shared → Prop} {s : Shared}
/-- the heap with a new list of these values -/
abbrev gatherH (h : Heap) (vs : List Value) : Heap := (h.push (seqObj "list" #[] 0)).update h.objs.size (Obj.mapSeq (· ++ vs.toArray))
theorem gather_tup {t : Addr} {vs : List Value} {Q : List Value → Shared → Prop} (ht : s.heap.IsTuple t vs.toArray) (hz : vs.length ≤ sizeLine) (q : Q vs { s with heap := gatherH s.heap vs }) :
    wpAny (model prog w) A (collect (.ref t)) Q E s := by
  obtain ⟨ot, h1, h2, nt, h3⟩ := id ht
  have new0 : (s.heap.push (seqObj "list" #[] 0)).get? s.heap.objs.size = some (seqObj "list" #[] 0) := Heap.get?_push_size _ rfl
  have old0 : (s.heap.push (seqObj "list" #[] 0)).get? t = some ot := Heap.get?_push_of_some _ h1
  unfold collect
  apply wpAny_bind; apply wpAny_runValue; apply codeAny_builtin entry_proto_collect'
  show wpAny _ _ (do
    again (.builtin "list.__iadd__" ⟨[← newList [], .ref t], []⟩)) _ _ s
  apply wpAny_bind; apply wpAny_newList
  · refine wpAny_pure ⟨Code.quiet_builtin _ (by decide +kernel), ?_⟩
    apply codeAny_builtin entry_list_iadd'
    show wpAny _ _ (Builtin.List.listExtendWith (.ref s.heap.objs.size) (.ref t)
      (.ref s.heap.objs.size)) _ _ { s with heap := s.heap.push (seqObj "list" #[] 0) }
    unfold Builtin.List.listExtendWith
    apply wpAny_bind
    refine wpAny_typeOf (T := "tuple") ⟨ot, old0, h2⟩ ?_
    rw [if_pos (by simp)]
    apply wpAny_bind
    refine listItems_at old0 h3 ?_
    apply wpAny_bind
    refine listItems_at (n := 0) (xs := #[]) new0 rfl ?_
    rw [if_neg (by simp)]
    apply wpAny_bind
    refine listUpdate_at (n := 0) (xs := #[]) new0 rfl ?_ (Nat.zero_le _) ?_
    · apply wpAny_pure
      show wpAny (model prog w) A (do
          let o ← load s.heap.objs.size
          match o.data with
          | .seq xs _ => pure xs.toList
          | _ => unsupported "internal:collect") Q E { s with heap := gatherH s.heap vs }
      apply wpAny_bind
      refine wpAny_load (get?_update_seq new0 _) ?_
      show wpAny _ _ (pure ((#[] : Array Value) ++ vs.toArray).toList) Q E _
      have e : ((#[] : Array Value) ++ vs.toArray).toList = vs := by simp
      rw [e]
      exact wpAny_pure q
    · show (#[] ++ vs.toArray).size ≤ sizeLine + 1
      simp only [Array.size_append, List.size_toArray, List.length_nil]; omega
  · exact Nat.zero_le _
theorem sorted_tup {t : Addr} {vs : List Value} {ltv : Value → Value → Bool} {Q : Value → Shared → Prop} (O : SrtO.Swo ltv) (ht : s.heap.IsTuple t vs.toArray) (hz : vs.length ≤ sizeLine)
    (hS : 2 ≤ vs.length → ∀ (h₁ : Heap) (a : Addr), h₁.get? a = some (seqObj "list" vs.toArray 0) → (∀ b o, s.heap.get? b = some o → b ≠ a ∧ h₁.get? b = some o) → SrtO.SortableO prog w A.in1.in1 { s with heap := h₁ } a vs ltv)
    (q : ∀ out : List Value, SrtO.Srtd ltv out → SrtO.Stb ltv out vs → Q (.ref (s.heap.objs.size + 1)) { s with heap := sortedAll s.heap vs out.toArray }) :
    wpAny (model prog w) A (call (.builtin "sorted") [.ref t]) Q E s := by
  apply Calls.call_function_entry kind_sorted plain_sorted entry_sorted
    (args_sorted1 _)
  unfold Builtin.«sorted»
  apply wpAny_bind (m := checkCount "sorted" 1 1 _)
  apply wpAny_pure
  apply wpAny_bind
  refine gather_tup ht hz ?_
  apply wpAny_bind
  refine wpAny_newList ?_ hz
  have sz1 : (gatherH s.heap vs).objs.size = s.heap.objs.size + 1 := by
    unfold gatherH
    rw [Heap.size_update, Heap.size_push]
  have at1 : ((gatherH s.heap vs).push (seqObj "list" vs.toArray 0)).get? (s.heap.objs.size + 1) = some (seqObj "list" vs.toArray 0) := by
    rw [← sz1]
    exact Heap.get?_push_size _ rfl
  have kept : ∀ b o, s.heap.get? b = some o → b ≠ s.heap.objs.size + 1 ∧ ((gatherH s.heap vs).push (seqObj "list" vs.toArray 0)).get? b = some o := by
    intro b o e
    have lt : b < s.heap.objs.size := Heap.lt_size e
    refine ⟨Nat.ne_of_lt (Nat.lt_succ_of_lt lt), Heap.get?_push_of_some _ ?_⟩
    unfold gatherH
    rw [Heap.get?_update_ne _ _ _ _ (Nat.ne_of_lt lt)]
    exact Heap.get?_push_of_some _ e
  show wpAny _ _ _ _ _ { s with heap := (gatherH s.heap vs).push (seqObj "list" vs.toArray 0) }
  rw [sz1]
  apply wpAny_bind
  refine wpAny_holding ?_
  refine wpAny_call_entry slot_list_sort ⟨_, at1, rfl⟩ entry_list_sort ?_ (args_list_sort _)
  refine SrtO.list_sort_ord O at1 hz (fun h2 => hS h2 _ _ at1 kept) fun out o1 o2 => ⟨_, rfl, ?_⟩
  exact wpAny_pure ⟨_, rfl, q out o1 o2⟩
end
end FW
namespace FW
open PySem PySem.Spec PyProof.Rows L2
section
variable {K : PySem.W.Frag} {H : Hp} {g : Gh} {d : DS} {b : Bool} {EX : Hp → Gh → Exc → Prop} {Q : V → Hp → Prop}
theorem rel_bls : ∀ {ps : List PV} {bs : List Bool} {xs : List V}, blPV ps = some bs → RelPs K H g ps xs → xs = bs.map .bl
  | [], _, _, h, r => by cases h; cases r; rfl
  | .bl c :: ps, bs, _, h, r => by
    obtain ⟨y, t, rfl, r1, r2⟩ := r
    obtain ⟨cs, h1, rfl⟩ := Option.map_eq_some_iff.mp (show (blPV ps).map (c :: ·) = some bs from h)
    rw [rel_bls h1 r2, show y = .bl c from r1]; rfl
  | .non :: _, _, _, h, _ => by cases h
  | .int _ :: _, _, _, h, _ => by cases h
  | .str _ :: _, _, _, h, _ => by cases h
  | .tup _ :: _, _, _, h, _ => by cases h
  | .lst _ :: _, _, _, h, _ => by cases h
  | .dct _ _ _ :: _, _, _, h, _ => by cases h
  | .drw :: _, _, _, h, _ => by cases h
  | .scr _ :: _, _, _, h, _ => by cases h
theorem rel_ints : ∀ {ps : List PV} {bs : List Int} {xs : List V}, intPV ps = some bs → RelPs K H g ps xs → xs = bs.map .int
  | [], _, _, h, r => by cases h; cases r; rfl
  | .int c :: ps, bs, _, h, r => by
    obtain ⟨y, t, rfl, r1, r2⟩ := r
    obtain ⟨cs, h1, rfl⟩ := Option.map_eq_some_iff.mp (show (intPV ps).map (c :: ·) = some bs from h)
    rw [rel_ints h1 r2, show y = .int c from r1]; rfl
  | .non :: _, _, _, h, _ => by cases h
  | .bl _ :: _, _, _, h, _ => by cases h
  | .str _ :: _, _, _, h, _ => by cases h
  | .tup _ :: _, _, _, h, _ => by cases h
  | .lst _ :: _, _, _, h, _ => by cases h
  | .dct _ _ _ :: _, _, _, h, _ => by cases h
  | .drw :: _, _, _, h, _ => by cases h
  | .scr _ :: _, _, _, h, _ => by cases h
theorem rel_strs : ∀ {ps : List PV} {bs : List Str} {xs : List V}, strPV ps = some bs → RelPs K H g ps xs → xs = bs.map .str
  | [], _, _, h, r => by cases h; cases r; rfl
  | .str c :: ps, bs, _, h, r => by
    obtain ⟨y, t, rfl, r1, r2⟩ := r
    obtain ⟨cs, h1, rfl⟩ := Option.map_eq_some_iff.mp (show (strPV ps).map (c :: ·) = some bs from h)
    rw [rel_strs h1 r2, show y = .str c from r1]; rfl
  | .non :: _, _, _, h, _ => by cases h
  | .bl _ :: _, _, _, h, _ => by cases h
  | .int _ :: _, _, _, h, _ => by cases h
  | .tup _ :: _, _, _, h, _ => by cases h
  | .lst _ :: _, _, _, h, _ => by cases h
  | .dct _ _ _ :: _, _, _, h, _ => by cases h
  | .drw :: _, _, _, h, _ => by cases h
  | .scr _ :: _, _, _, h, _ => by cases h
/-- a list or a tuple, read -/
theorem seq_of {p : PV} {x : V} {ps : List PV} (h : seqOf p = some ps) (r : RelB K H g p x) : ∃ a vs, x = .ref a ∧ RelPs K H g ps vs ∧ ((p = .lst ps ∧ SqL K H a vs) ∨ (p = .tup ps ∧ SqT K H a vs)) := by
  cases p with
  | lst xs =>
    cases h
    obtain ⟨a, vs, h1, h2, h3, h4⟩ := r.lst
    exact ⟨a, vs, h1, h4, .inl ⟨rfl, SqL.of h3⟩⟩
  | tup xs =>
    cases h
    obtain ⟨a, vs, h1, h3, h4⟩ := r.tup
    exact ⟨a, vs, h1, h4, .inr ⟨rfl, h3⟩⟩
  | _ => cases h
theorem RelPs.cut {ps : List PV} {xs : List V} (r : RelPs K H g ps xs) (lo hi : Option Int) : RelPs K H g (cutP ps lo hi) (cutV xs lo hi) := by
  unfold cutP cutV
  rw [r.length]
  exact (r.drop _).take _
theorem RelPs.atI {ps : List PV} {xs : List V} (r : RelPs K H g ps xs) {i : Int} {p : PV} (h : L2.atI ps i = some p) : ∃ x, L2.atI xs i = some x ∧ RelP K H g p x := by
  unfold L2.atI at h ⊢
  rw [r.length] at h
  cases e : ixN xs.length i with
  | none => rw [e] at h; cases h
  | some j => rw [e] at h; exact r.get h
end
section
variable {X : Cx}
/-! ### truth -/
theorem tru_of {p : PV} {x : V} {k : Bool} {H : Hp} {g : Gh} (h : truF p = some k) (r : RelB X.K H g p x) : TruV X.K x H k := by
  cases p with
  | non => cases h; rw [r.non]; rfl
  | bl c => cases h; rw [r.bl]; rfl
  | int i => cases h; rw [r.int]; rfl
  | str _ => cases h
  | tup ps =>
    cases h
    obtain ⟨a, vs, rfl, h1, h2⟩ := r.tup
    refine .inr (.inl ⟨vs, h1, ?_⟩)
    have e := h2.length
    cases ps <;> cases vs <;> first | rfl | (simp at e)
  | lst ps =>
    cases h
    obtain ⟨a, vs, rfl, _, h1, h2⟩ := r.lst
    refine .inl ⟨vs, SqL.of h1, ?_⟩
    have e := h2.length
    cases ps <;> cases vs <;> first | rfl | (simp at e)
  | dct _ _ _ => cases h
  | drw => cases h
  | scr _ => cases h
/-! ### places and slices -/
def rSub (K : PySem.W.Frag) : R2 := fun x y H Q => ∃ g d b EX va vb v, GOk K H g d ∧ RelB K H g va x ∧ RelB K H g vb y ∧ subF va vb = some v ∧ Post K H g (RelX K b) (M.pure v d) Q EX
/-- a key as it stands in the heap -/
theorem eq_kPV (a b : Key) : eqPV (kPV a) (kPV b) = decide (a = b) := by
  rcases a with i | x <;> rcases b with j | y
  · show (i == j) = _
    by_cases h : i = j <;> simp [h]
  · show false = _
    simp
  · show false = _
    simp
  · show (x == y) = _
    by_cases h : x = y <;> simp [h]
theorem kOf_some {p : PV} {k : Key} (h : kOf p = some k) : p = kPV k := by
  cases p <;> first | (cases h; rfl) | cases h
theorem relP_key {K : PySem.W.Frag} {H : Hp} {g : Gh} {k : Key} {x : V} (r : RelP K H g (kPV k) x) : x = kV k := by
  rcases k with i | y
  · exact r
  · exact r
theorem getK_val {K : PySem.W.Frag} {H : Hp} {g : Gh} : ∀ {kvs : List (Key × V)} {vs : List PV} {k : Key} {p : PV}, RelPs K H g vs (kvs.map (·.2)) → getK (kPV k) (kvs.map fun q => kPV q.1) vs = some p → ∃ x, valV kvs k = some x ∧ RelP K H g p x
  | [], vs, k, p, r, h => by
    cases vs <;> cases h
  | (k', x) :: kvs, [], k, p, r, h => by cases h
  | (k', x) :: kvs, v :: vs, k, p, r, h => by
    obtain ⟨y, ys, e, r1, r2⟩ := r
    cases e
    have h : (if eqPV (kPV k') (kPV k) then some v else getK (kPV k) (kvs.map fun q => kPV q.1) vs) = some p := h
    rw [eq_kPV] at h
    by_cases hk : k' = k
    · rw [decide_eq_true hk, if_pos rfl] at h
      cases h
      exact ⟨x, valV_pos hk, r1⟩
    · rw [decide_eq_false hk, if_neg (by decide)] at h
      obtain ⟨z, h1, h2⟩ := getK_val r2 h
      exact ⟨z, by rw [valV_neg hk]; exact h1, h2⟩
def rDget : R2 := fun x y H Q => ∃ a v, x = .ref a ∧ DGet H a y (some v) ∧ Q v H
theorem ix_dget (hu : X.A.units + 1 < cLine) : IxR X rDget := by
  intro value slice pins s σ H x y v u Q I rx ry ⟨a, w, ex, g, q⟩ hs
  subst ex
  obtain rfl : v = Value.ref a := rx
  have hT := dict_typeIs I g
  have hl := PySem.F.slot_dict_getitem.lookup
  unfold subscriptTail; refine wpAny_bind ?_
  rw [getitemInPython_of_ne hT.not_modules]; refine wpAny_bind (wpAny_specialOf hT hl ?_)
  have fin : wpAny (model X.prog X.w) X.A (subscripted slice false (.ref a) u) (fun r s3 => wpAny (model X.prog X.w) X.A (letTemporaryGo value (.ref a) r >>= fun _ => pure r) (EP X pins σ Q) X.xe s3) X.xe s := by
    rw [hs]
    exact wpAny_operating (wpAny_mono (d_getItem hu I g ry fun w' s3 I3 rw' => (⟨w, H, I3, rw', q⟩ : EP X pins σ Q w' s3)) (fun r s3 h3 => wpAny_bind (wpAny_letTemporaryGo (wpAny_pure h3))) fun _ _ x => x)
  first
    | exact wpAny_pure (wpAny_bind fin)
    | exact wpAny_bind (wpAny_pure (wpAny_bind fin))
    | exact wpAny_bind fin
theorem ix_subF (hu : X.A.units + 1 < cLine) : IxR X (rSub X.K) := by
  intro value slice pins s σ H x y v u Q I rx ry h hs
  obtain ⟨g, d, b, EX, va, vb, w, G, r1, r2, e, h⟩ := h
  unfold subF at e
  by_cases hd : isDct va = true
  · rw [if_pos hd] at e
    cases va with
    | dct t ks vs =>
      cases t with
      | true => cases e
      | false =>
        have e : (if (kOf vb).isSome then getK vb ks vs else none) = some w := e
        split at e
        · rename_i hk
          obtain ⟨k, hk⟩ := Option.isSome_iff_exists.mp hk
          have hb := kOf_some hk
          subst hb
          obtain ⟨a, ws, rfl, _, da, rr⟩ := (show ∃ a ws, x = .ref a ∧ ¬ g.isD a ∧ DctAt H a false ks ws ∧ RelPs X.K H g vs ws from r1)
          obtain ⟨kvs, k1, rfl, rfl⟩ := (show ∃ kvs : List (Key × V), H a = some (.dK kvs) ∧ ks = kvs.map (fun p => kPV p.1) ∧ ws = kvs.map (·.2) from da)
          obtain ⟨z, q1, q2⟩ := getK_val rr e
          have hy : y = kV k := relP_key (K := X.K) (H := H) (g := g) (by rcases k with i | z <;> exact r2)
          subst hy
          exact ix_dget hu value slice pins s σ H _ _ v u Q I rx ry ⟨a, z, rfl, .inl ⟨kvs, k, .inl k1, rfl, q1.symm⟩, h.pure G (RelX.of G q2)⟩ hs
        · cases e
    | _ => cases hd
  rw [if_neg hd] at e
  cases vb with
  | int k =>
    obtain rfl := r2.int
    have e : subI k va = some w := e
    cases va with
    | lst ps =>
      obtain ⟨a, vs, rfl, _, h1, h2⟩ := r1.lst
      obtain ⟨z, q1, q2⟩ := h2.atI e
      exact ix_list value slice pins s σ H _ _ v u Q I rx ry ⟨_, _, _, _, rfl, rfl, SqL.of h1, q1, h.pure G (RelX.of G q2)⟩ hs
    | tup ps =>
      obtain ⟨a, vs, rfl, h1, h2⟩ := r1.tup
      obtain ⟨z, q1, q2⟩ := h2.atI e
      exact ix_tup value slice pins s σ H _ _ v u Q I rx ry ⟨_, _, _, _, rfl, rfl, h1, q1, h.pure G (RelX.of G q2)⟩ hs
    | str z =>
      obtain rfl := r1.str
      unfold subI at e
      simp only at e
      split at e <;> rename_i hz
      · obtain ⟨c, q1, q2⟩ := Option.map_eq_some_iff.mp e
        subst q2
        exact ix_str value slice pins s σ H _ _ v u Q I rx ry ⟨_, _, _, rfl, rfl, by rw [← LIM_eq]; exact hz, q1, h.pure G (RelX.of G rfl)⟩ hs
      · cases e
    | _ => cases e
  | _ => cases e
def rSlc (K : PySem.W.Frag) : V → Option Int → Option Int → Hp → VK → Prop := fun x lo hi H Q => ∃ g d b EX va v, GOk K H g d ∧ RelB K H g va x ∧ slcV lo hi va = some v ∧ Post K H g (RelX K b) (M.pure v d) Q EX
theorem sl_slcF : SlR X (rSlc X.K) := by
  intro pins s σ H x v vl vu lo hi sl Q I rx hs pl pu h
  obtain ⟨g, d, b, EX, va, w, G, r1, e, h⟩ := h
  cases va with
  | lst ps =>
    cases e
    obtain ⟨a, vs, rfl, _, h1, h2⟩ := r1.lst
    exact sl_list pins s σ H _ v vl vu lo hi sl Q I rx hs pl pu ⟨_, _, rfl, SqL.of h1, fun p hp => h.newL G (h2.cut lo hi) p hp⟩
  | tup ps =>
    cases e
    obtain ⟨a, vs, rfl, h1, h2⟩ := r1.tup
    refine sl_tupA pins s σ H _ v vl vu lo hi sl Q I rx hs pl pu ⟨_, _, rfl, h1, fun z => ?_, fun _ p hp => h.newT G (h2.cut lo hi) p hp⟩
    refine h.pure G (RelX.of G ⟨a, vs, rfl, h1, ?_⟩)
    have e : cutP ps lo hi = ps := by
      unfold cutP
      rw [h2.length, z.1, z.2, List.drop_zero, Nat.sub_zero, ← h2.length, List.take_length]
    rw [e]; exact h2
  | str z =>
    unfold slcV at e
    simp only at e
    split at e <;> rename_i hz
    · cases e
      obtain rfl := r1.str
      exact sl_str pins s σ H _ v vl vu lo hi sl Q I rx hs pl pu ⟨_, rfl, by rw [← LIM_eq]; exact hz, h.pure G (RelX.of G rfl)⟩
    · cases e
  | _ => cases e
/-! ### built-ins of one value -/
def rB1 (K : PySem.W.Frag) (f : PV → Option PV) : List V → Hp → VK → Prop := fun xs H Q => ∃ g d b EX p x w, xs = [x] ∧ GOk K H g d ∧ RelB K H g p x ∧ f p = some w ∧ Post K H g (RelX K b) (M.pure w d) Q EX
theorem call_lenF : CallR X (.builtin "len") (rB1 X.K (bi1 "len")) := by
  intro pins s σ H xs us Q I r h
  obtain ⟨g, d, b, EX, p, x, w, rfl, G, r1, e, h⟩ := h
  obtain ⟨n, e1, rfl⟩ := Option.map_eq_some_iff.mp (show (lenF p).map (fun (n : Nat) => PV.int (n : Int)) = some w from e)
  refine call_len pins s σ H _ us Q I r ⟨x, n, rfl, ?_, h.pure G (RelX.of G rfl)⟩
  cases p with
  | str z =>
    unfold lenF at e1
    simp only at e1
    split at e1 <;> rename_i hz
    · cases e1
      rw [r1.str]
      exact ⟨by rw [← LIM_eq]; exact hz, rfl⟩
    · cases e1
  | lst ps =>
    cases e1
    obtain ⟨a, vs, rfl, _, h1, h2⟩ := r1.lst
    exact .inl ⟨vs, SqL.of h1, h2.length⟩
  | tup ps =>
    cases e1
    obtain ⟨a, vs, rfl, h1, h2⟩ := r1.tup
    exact .inr ⟨vs, h1, h2.length⟩
  | scr ns =>
    cases e1
    obtain ⟨a, rfl, h1⟩ := (show ∃ a, x = .ref a ∧ ScrAt X.K H a (ns.map .int) from r1)
    exact .inl ⟨_, h1.sq, by simp⟩
  | _ => cases e1
theorem call_allF (hc : X.calm = true) : CallR X (.builtin "all") (rB1 X.K (bi1 "all")) := by
  intro pins s σ H xs us Q I r h
  obtain ⟨g, d, b, EX, p, x, w, rfl, G, r1, e, h⟩ := h
  cases p with
  | lst ps =>
    obtain ⟨bs, e1, rfl⟩ := Option.map_eq_some_iff.mp (show (blPV ps).map (fun bs => PV.bl (bs.all id)) = some w from e)
    obtain ⟨a, vs, rfl, _, h1, h2⟩ := r1.lst
    exact cr_all hc pins s σ H _ us Q I r ⟨a, bs, rfl, by rw [← rel_bls e1 h2]; exact SqL.of h1, h.pure G (RelX.of G rfl)⟩
  | _ => cases e
theorem call_anyF (hc : X.calm = true) : CallR X (.builtin "any") (rB1 X.K (bi1 "any")) := by
  intro pins s σ H xs us Q I r h
  obtain ⟨g, d, b, EX, p, x, w, rfl, G, r1, e, h⟩ := h
  cases p with
  | lst ps =>
    obtain ⟨bs, e1, rfl⟩ := Option.map_eq_some_iff.mp (show (blPV ps).map (fun bs => PV.bl (bs.any id)) = some w from e)
    obtain ⟨a, vs, rfl, _, h1, h2⟩ := r1.lst
    exact cr_any hc pins s σ H _ us Q I r ⟨a, bs, rfl, by rw [← rel_bls e1 h2]; exact SqL.of h1, h.pure G (RelX.of G rfl)⟩
  | _ => cases e
theorem call_sumF (hc : X.calm = true) : CallR X (.builtin "sum") (rB1 X.K (bi1 "sum")) := by
  intro pins s σ H xs us Q I r h
  obtain ⟨g, d, b, EX, p, x, w, rfl, G, r1, e, h⟩ := h
  cases p with
  | lst ps =>
    obtain ⟨bs, e1, rfl⟩ := Option.map_eq_some_iff.mp (show (intPV ps).map (fun bs => PV.int bs.sum) = some w from e)
    obtain ⟨a, vs, rfl, _, h1, h2⟩ := r1.lst
    exact cr_sum hc pins s σ H _ us Q I r ⟨a, bs, rfl, by rw [← rel_ints e1 h2]; exact SqL.of h1, h.pure G (RelX.of G rfl)⟩
  | _ => cases e
theorem call_tupleF : CallR X (.type "tuple") (rB1 X.K (bi1 "tuple")) := by
  intro pins s σ H xs us Q I r h
  obtain ⟨g, d, b, EX, p, x, w, rfl, G, r1, e, h⟩ := h
  obtain ⟨ps, e1, rfl⟩ := Option.map_eq_some_iff.mp (show (seqOf p).map .tup = some w from e)
  obtain ⟨a, vs, rfl, h2, h3⟩ := seq_of e1 r1
  refine call_tuple_of pins s σ H _ us Q I r ⟨a, vs, rfl, ?_⟩
  rcases h3 with ⟨_, h3⟩ | ⟨_, h3⟩
  · exact .inl ⟨h3, fun p hp => h.newT G h2 p hp⟩
  · exact .inr ⟨h3, h.pure G (RelX.of G ⟨a, vs, rfl, h3, h2⟩)⟩
theorem call_listF : CallR X (.type "list") (rB1 X.K (bi1 "list")) := by
  intro pins s σ H xs us Q I r h
  obtain ⟨g, d, b, EX, p, x, w, rfl, G, r1, e, h⟩ := h
  obtain ⟨ps, e1, rfl⟩ := Option.map_eq_some_iff.mp (show (seqOf p).map .lst = some w from e)
  obtain ⟨a, vs, rfl, h2, h3⟩ := seq_of e1 r1
  refine call_list_of pins s σ H _ us Q I r ⟨a, vs, rfl, ?_, fun p hp => h.newL G h2 p hp⟩
  rcases h3 with ⟨_, h3⟩ | ⟨_, h3⟩
  · exact .inl h3
  · exact .inr h3
/-! ### dict(pairs) -/
theorem rel_putK {K : PySem.W.Frag} {H : Hp} {g : Gh} {k : Key} {v : PV} {x : V} (rv : RelP K H g v x) : ∀ {kvs : List (Key × V)} {vs : List PV}, RelPs K H g vs (kvs.map (·.2)) →
    (FW.putK (kPV k) v (kvs.map fun q => kPV q.1) vs).1 = (L2.putK kvs k x).map (fun q => kPV q.1) ∧ RelPs K H g (FW.putK (kPV k) v (kvs.map fun q => kPV q.1) vs).2 ((L2.putK kvs k x).map (·.2)) := by
  intro kvs vs r
  have ha : ((kvs.map fun q => kPV q.1).any fun z => eqPV z (kPV k)) = kvs.any fun kv => decide (kv.1 = k) := by
    rw [List.any_map]
    congr 1
    funext q
    exact eq_kPV q.1 k
  unfold FW.putK L2.putK
  rw [ha]
  by_cases hk : (kvs.any fun kv => decide (kv.1 = k)) = true
  · rw [if_pos hk, if_pos hk]
    refine ⟨?_, ?_⟩
    · simp only [List.map_map]
      congr 1
      funext q
      simp only [Function.comp]
      split <;> rfl
    · clear hk ha
      simp only
      induction kvs generalizing vs with
      | nil =>
        have : vs = [] := by cases vs with
          | nil => rfl
          | cons _ _ => obtain ⟨_, _, e, _⟩ := r; cases e
        subst this
        rfl
      | cons q kvs ih =>
        cases vs with
        | nil => cases (show (q :: kvs).map (·.2) = [] from r)
        | cons w vs =>
          obtain ⟨y, ys, e, r1, r2⟩ := r
          cases e
          show RelPs K H g ((if eqPV (kPV q.1) (kPV k) then v else w) :: setK (kPV k) v (kvs.map fun q => kPV q.1) vs) _
          rw [eq_kPV]
          by_cases hq : q.1 = k
          · rw [decide_eq_true hq, if_pos rfl]
            exact ⟨x, _, by rw [List.map_cons, List.map_cons, if_pos hq], rv, ih r2⟩
          · rw [decide_eq_false hq, if_neg (by decide)]
            exact ⟨q.2, _, by rw [List.map_cons, List.map_cons, if_neg hq], r1, ih r2⟩
  · rw [if_neg hk, if_neg hk]
    refine ⟨by simp, ?_⟩
    simp only [List.map_append, List.map_cons, List.map_nil]
    exact r.append ⟨x, [], rfl, rv, rfl⟩
theorem dictF_cons {p : PV} {ps ks vs : List PV} {w : PV} (h : dictF (p :: ps) ks vs = some w) : ∃ a b, p = .tup [a, b] ∧ (kOf a).isSome = true ∧ dictF ps (FW.putK a b ks vs).1 (FW.putK a b ks vs).2 = some w := by
  unfold dictF at h
  split at h
  · rename_i q
    cases q
  · rename_i k v r q
    cases q
    split at h
    · rename_i hk
      exact ⟨k, v, rfl, hk, h⟩
    · cases h
  · cases h
theorem rel_dictF {K : PySem.W.Frag} {H : Hp} {g : Gh} : ∀ {ps : List PV} {xs : List V} {kvs : List (Key × V)} {vs : List PV} {w : PV}, RelPs K H g ps xs → RelPs K H g vs (kvs.map (·.2)) → dictF ps (kvs.map fun q => kPV q.1) vs = some w →
    ∃ (as : List Addr) (more : List (Key × V)) (us : List PV), xs = as.map V.ref ∧ Paired (fun p kv => SqT K H p [kV kv.1, kv.2]) as more ∧ w = .dct false ((more.foldl (fun acc kv => L2.putK acc kv.1 kv.2) kvs).map fun q => kPV q.1) us ∧
      RelPs K H g us ((more.foldl (fun acc kv => L2.putK acc kv.1 kv.2) kvs).map (·.2))
  | [], xs, kvs, vs, w, hx, r, h => by
    cases h
    have hx : xs = [] := hx
    subst hx
    exact ⟨[], [], vs, rfl, .nil, rfl, r⟩
  | p :: ps, xs, kvs, vs, w, hx, r, h => by
    obtain ⟨y, ys, rfl, hp, hr⟩ := hx
    obtain ⟨a, b, rfl, hk, h⟩ := dictF_cons h
    obtain ⟨c, zs, rfl, hs, hz⟩ := hp
    obtain ⟨x1, z1, rfl, ra, hz⟩ := hz
    obtain ⟨x2, z2, rfl, rb, hz⟩ := hz
    have hz : z2 = [] := hz
    subst hz
    obtain ⟨k, hk⟩ := Option.isSome_iff_exists.mp hk
    have ea := kOf_some hk
    subst ea
    obtain rfl := relP_key ra
    obtain ⟨q1, q2⟩ := rel_putK (k := k) rb r
    rw [q1] at h
    obtain ⟨as, more, us, rfl, hpair, e1, e2⟩ := rel_dictF hr q2 h
    exact ⟨c :: as, (k, x2) :: more, us, rfl, .cons hs hpair, e1, e2⟩
theorem call_dictF (hc : X.calm = true) : CallR X (.type "dict") (rB1 X.K (bi1 "dict")) := by
  intro pins s σ H xs us Q I r h
  obtain ⟨g, d, b, EX, p, x, w, rfl, G, r1, e, h⟩ := h
  cases p with
  | lst ps =>
    have e : dictF ps [] [] = some w := e
    obtain ⟨a, vs, rfl, _, h1, h2⟩ := r1.lst
    obtain ⟨as, more, us', rfl, hp, rfl, hr⟩ := rel_dictF (kvs := []) (vs := []) h2 rfl e
    refine call_dictP hc pins s σ H _ us Q I r ⟨a, as, more, rfl, SqL.of h1, hp, fun q hq => ?_⟩
    have e2 := Ext.allocF (o := .dK (mergeK [] more)) G hq
    exact h _ _ _ e2 (G.allocF hq) (RelX.of (G.allocF hq) ⟨q, _, rfl, .inr rfl, ⟨mergeK [] more, upd_same, rfl, rfl⟩, RelPs.ext e2 hr⟩)
  | _ => cases e
theorem call_intF : CallR X (.type "int") (rB1 X.K (bi1 "int")) := by
  intro pins s σ H xs us Q I r h
  obtain ⟨g, d, b, EX, p, x, w, rfl, G, r1, e, h⟩ := h
  cases p with
  | int i => cases e; obtain rfl := r1.int; exact call_int1 pins s σ H _ us Q I r (.inl ⟨_, rfl, h.pure G (RelX.of G rfl)⟩)
  | bl c => cases e; obtain rfl := r1.bl; exact call_int1 pins s σ H _ us Q I r (.inr ⟨_, rfl, h.pure G (RelX.of G rfl)⟩)
  | _ => cases e
theorem call_absF : CallR X (.builtin "abs") (rB1 X.K (bi1 "abs")) := by
  intro pins s σ H xs us Q I r h
  obtain ⟨g, d, b, EX, p, x, w, rfl, G, r1, e, h⟩ := h
  cases p with
  | int i => cases e; obtain rfl := r1.int; exact call_abs pins s σ H _ us Q I r ⟨_, rfl, h.pure G (RelX.of G rfl)⟩
  | _ => cases e
/-- values by their keys -/
theorem keys_of {κ : Type} {f : κ → PV} {k : Value → κ} {H : Hp} {g : Gh} {K : PySem.W.Frag} : ∀ {ps : List PV} {xs : List V} {its : List Value}, RelPs K H g ps xs → Vals xs its → (∀ p x v, p ∈ ps → RelP K H g p x → RelV x v → f (k v) = p) →
    its.map (fun v => f (k v)) = ps ∧ ∀ v ∈ its, ∃ x, RelV x v ∧ RelP K H g (f (k v)) x
  | [], _, _, r, v, _ => by cases r; cases v; exact ⟨rfl, (fun v hv => by cases hv)⟩
  | p :: ps, _, _, r, v, h => by
    obtain ⟨y, t, rfl, r1, r2⟩ := r
    cases v with
    | @cons _ u _ us rv v =>
      obtain ⟨q1, q2⟩ := keys_of r2 v fun p x v hp => h p x v (List.mem_cons_of_mem _ hp)
      have e := h p y u List.mem_cons_self r1 rv
      refine ⟨by rw [List.map_cons, q1, e], fun w hw => ?_⟩
      rcases List.mem_cons.mp hw with z | z
      · subst z; exact ⟨y, rv, by rw [e]; exact r1⟩
      · exact q2 w z
theorem vals_pick {f : Value → PV} {H : Hp} {g : Gh} {K : PySem.W.Frag} : ∀ {out : List Value}, (∀ v ∈ out, ∃ x, RelV x v ∧ RelP K H g (f v) x) → ∃ ys, Vals ys out ∧ RelPs K H g (out.map f) ys
  | [], _ => ⟨[], .nil, rfl⟩
  | v :: out, h => by
    obtain ⟨ys, q1, q2⟩ := vals_pick (out := out) fun u hu => h u (List.mem_cons_of_mem _ hu)
    obtain ⟨x, q3, q4⟩ := h v List.mem_cons_self
    exact ⟨x :: ys, .cons q3 q1, x, ys, rfl, q4, q2⟩
theorem sorted_fin {κ : Type} {lt : κ → κ → Bool} (O : STO lt) {f : κ → PV} (hf : ∀ a b, ltPV (f a) (f b) = lt a b) (k : Value → κ) {pins : List (Addr × Obj)} {s : Shared} {σ : L2.St} {H : Hp} {Q : VK} (I : Inv X pins σ H s) {g : Gh} {d : DS} {b : Bool} {EX : Hp → Gh → Exc → Prop}
    {ps : List PV} {xs : List V} {its out : List Value} (G : GOk X.K H g d) (r : RelPs X.K H g ps xs) (rv : Vals xs its) (hz : its.length ≤ sizeLine) (hk : ∀ p x v, p ∈ ps → RelP X.K H g p x → RelV x v → f (k v) = p)
    (hs : SrtO.Srtd (fun v u => lt (k v) (k u)) out) (hb : SrtO.Stb (fun v u => lt (k v) (k u)) out its) (h : Post X.K H g (RelX X.K b) (M.pure (.lst (srtPV ps)) d) Q EX) :
    EP X pins σ Q (.ref (s.heap.objs.size + 1)) { s with heap := sortedAll s.heap its out.toArray } := by
  obtain ⟨q1, q2⟩ := keys_of r rv hk
  have q3 : out.map k = srtK lt (its.map k) := srt_eq O (hb.perm.map k) (List.pairwise_map.mpr hs)
  have q4 : srtPV ps = out.map fun v => f (k v) := by
    rw [← q1, show (its.map fun v => f (k v)) = (its.map k).map f by rw [List.map_map]; rfl, srt_of hf, ← q3, List.map_map]
    rfl
  obtain ⟨ys, q5, q6⟩ := vals_pick (out := out) (f := fun v => f (k v)) fun v hv => q2 v (hb.perm.mem_iff.mp hv)
  have hn : H (s.heap.objs.size + 1) = none := I.hok.fresh (Nat.le_succ _)
  have hlen : ys.length ≤ sizeLine := by rw [q5.length, hb.perm.length_eq]; exact hz
  obtain ⟨ep, at1⟩ := PyProof.Rows.sortedAll_at s.heap its out.toArray
  have I2 := I.laid (t' := s.toks) (fun _ _ => PyProof.Rows.sortedAll_old) (Nat.le_succ _) (show ObjOk X.prog X.w (upd H (s.heap.objs.size + 1) (.lst ys)) _ _ _ from ⟨hlen, out, ep, q5, at1⟩)
  refine ⟨.ref (s.heap.objs.size + 1), _, I2, rfl, ?_⟩
  rw [q4] at h
  exact h.newL G q6 _ hn
theorem src_sorted {pins : List (Addr × Obj)} {s : Shared} {σ : L2.St} {H : Hp} (I : Inv X pins σ H s) {p : PV} {ps : List PV} {a : Addr} {xs : List V} (h : (p = .lst ps ∧ SqL X.K H a xs) ∨ (p = .tup ps ∧ SqT X.K H a xs)) :
    ∃ its : List Value, Vals xs its ∧ its.length ≤ sizeLine ∧ ∀ {ltv : Value → Value → Bool} {Q : Value → Shared → Prop} {E : Value → Shared → Prop}, SrtO.Swo ltv →
      (2 ≤ its.length → ∀ (h₁ : Heap) (b : Addr), (∀ o, h₁.get? b = some o → o.cls ≠ .type "tuple") → (∀ c o, s.heap.get? c = some o → h₁.get? c = some o) → SrtO.SortableO X.prog X.w X.A.in1.in1 { s with heap := h₁ } b its ltv) →
      (∀ out : List Value, SrtO.Srtd ltv out → SrtO.Stb ltv out its → Q (.ref (s.heap.objs.size + 1)) { s with heap := sortedAll s.heap its out.toArray }) → wpAny (model X.prog X.w) X.A (call (.builtin "sorted") [.ref a]) Q E s := by
  have noT : ∀ {h₁ : Heap} {b : Addr} {its : List Value}, h₁.get? b = some (seqObj "list" its.toArray 0) → ∀ o, h₁.get? b = some o → o.cls ≠ .type "tuple" := fun e o e' c => by
    rw [e] at e'
    cases e'
    exact absurd (Value.type.inj c) (by decide)
  rcases h with ⟨_, h⟩ | ⟨_, h⟩
  · obtain ⟨its, rv, hl, hz⟩ := I.list h
    have hz' : its.length ≤ sizeLine := by rw [← rv.length]; exact hz
    exact ⟨its, rv, hz', fun O hS q => SrtO.sorted_ord O hl.isList hz' (fun h2 h₁ b e kk => hS h2 h₁ b (noT e) fun c o e => (kk c o e).2) q⟩
  · obtain ⟨its, rv, ht, hz⟩ := I.tuple h
    have hz' : its.length ≤ sizeLine := by rw [← rv.length]; exact hz
    exact ⟨its, rv, hz', fun O hS q => sorted_tup O (show s.heap.IsTuple a its.toArray from ht) hz' (fun h2 h₁ b e kk => hS h2 h₁ b (noT e) fun c o e => (kk c o e).2) q⟩
theorem call_sortedF : CallR X (.builtin "sorted") (rB1 X.K (bi1 "sorted")) := by
  intro pins s σ H xs us Q I r h
  obtain ⟨g, d, b, EX, p, x, w, rfl, G, r1, e, h⟩ := h
  obtain ⟨ps, e1, e2⟩ := Option.bind_eq_some_iff.mp (show ((seqOf p).bind fun ys => if sortable ys then some (PV.lst (srtPV ys)) else none) = some w from e)
  split at e2
  · rename_i hs
    cases e2
    obtain ⟨a, vs, rfl, h2, h3⟩ := seq_of e1 r1
    rw [Vals.ref1 r]
    obtain ⟨its, rv, hz, key⟩ := src_sorted I h3
    unfold sortable at hs
    rw [Bool.or_eq_true, Bool.or_eq_true] at hs
    rcases hs with (hs | hs) | hs
    · have hk : ∀ p x v, p ∈ ps → RelP X.K H g p x → RelV x v → PV.int (intV v) = p := fun p x v hp rp rx => by
        have hp := List.all_eq_true.mp hs p hp
        cases p with
        | int i => obtain rfl := (show x = .int i from rp); obtain ⟨t, rfl⟩ := rx; rfl
        | _ => cases hp
      have hI : ∀ v ∈ its, ∃ i t, v = Value.int i t := fun v hv => by
        obtain ⟨_, q2⟩ := keys_of h2 rv hk
        obtain ⟨x, q3, q4⟩ := q2 v hv
        obtain rfl := (show x = .int (intV v) from q4)
        obtain ⟨t, q3⟩ := q3
        exact ⟨_, t, q3⟩
      have e1 : (fun v u => ltInt (intV v) (intV u)) = SrtO.ltIv := by
        funext v u
        cases v <;> cases u <;> rfl
      refine key (ltv := fun v u => ltInt (intV v) (intV u)) (sto_int.swo intV) (fun hh h₁ b _ _ => ?_) fun out o1 o2 => sorted_fin sto_int (f := PV.int) (fun _ _ => rfl) intV I G h2 rv hz hk o1 o2 h
      rw [e1]
      exact SrtO.ints_sortable (SrtO.ints_iv hI) hh
    · have hk : ∀ p x v, p ∈ ps → RelP X.K H g p x → RelV x v → PV.str (strV v) = p := fun p x v hp rp rx => by
        have hp := List.all_eq_true.mp hs p hp
        cases p with
        | str i => obtain rfl := (show x = .str i from rp); obtain ⟨t, rfl⟩ := rx; rfl
        | _ => cases hp
      have hI : ∀ v ∈ its, ∃ i t, v = Value.str i t := fun v hv => by
        obtain ⟨_, q2⟩ := keys_of h2 rv hk
        obtain ⟨x, q3, q4⟩ := q2 v hv
        obtain rfl := (show x = .str (strV v) from q4)
        obtain ⟨t, q3⟩ := q3
        exact ⟨_, t, q3⟩
      exact key (ltv := fun v u => ltStr (strV v) (strV u)) (sto_str.swo strV) (fun hh h₁ b _ _ => strs_sortable hh hI) fun out o1 o2 => sorted_fin sto_str (f := PV.str) (fun _ _ => rfl) strV I G h2 rv hz hk o1 o2 h
    · have hT : ∀ p x v, p ∈ ps → RelP X.K H g p x → RelV x v → IsTS s.heap v ∧ tupS (tupV s.heap v) = p := fun p x v hp rp rx => by
        have hp := List.all_eq_true.mp hs p hp
        cases p with
        | tup qs =>
          obtain ⟨c, ws, rfl, k1, k2⟩ := rp
          obtain rfl := (show v = Value.ref c from rx)
          obtain ⟨ts, rt, ⟨o, o1, o2, n, o3⟩, _⟩ := I.tuple k1
          have hp : (!qs.isEmpty && qs.all isStrP) = true := hp
          rw [Bool.and_eq_true] at hp
          have hstr : ∀ (qs : List PV) (ws : List V) (ts : List Value), RelPs X.K H g qs ws → Vals ws ts → qs.all isStrP = true → (∀ u ∈ ts, ∃ x t, u = Value.str x t) ∧ (ts.map strV).map PV.str = qs := by
            intro qs
            induction qs with
            | nil => intro ws ts r v _; cases r; cases v; exact ⟨(fun u hu => by cases hu), rfl⟩
            | cons q qs ih =>
              intro ws ts r v hh
              obtain ⟨y, t, rfl, z1, z2⟩ := r
              cases v with
              | @cons _ u _ us rv v =>
                rw [List.all_cons, Bool.and_eq_true] at hh
                obtain ⟨w1, w2⟩ := ih _ _ z2 v hh.2
                cases q with
                | str z =>
                  obtain rfl := (show y = .str z from z1)
                  obtain ⟨t', rfl⟩ := rv
                  refine ⟨fun u hu => ?_, by rw [List.map_cons, List.map_cons, w2]; rfl⟩
                  rcases List.mem_cons.mp hu with e | e
                  · exact ⟨z, t', e⟩
                  · exact w1 u e
                | _ => cases hh.1
          obtain ⟨s1, s2⟩ := hstr qs ws ts k2 rt hp.2
          have hne : ts ≠ [] := fun z => by
            subst z
            rw [← s2] at hp
            simp at hp
          have hd : o.data = .seq ts.toArray n := o3
          refine ⟨⟨c, o, ts, n, rfl, o1, o2, hd, s1, hne⟩, ?_⟩
          rw [IsTS.key o1 hd]
          show PV.tup _ = _
          rw [s2]
        | _ => cases hp
      have hk : ∀ p x v, p ∈ ps → RelP X.K H g p x → RelV x v → tupS (tupV s.heap v) = p := fun p x v hp rp rx => (hT p x v hp rp rx).2
      have hI : ∀ v ∈ its, IsTS s.heap v := fun v hv => by
        obtain ⟨q1, q2⟩ := keys_of h2 rv hk
        obtain ⟨x, q3, q4⟩ := q2 v hv
        exact (hT _ x v (by rw [← q1]; exact List.mem_map.mpr ⟨v, hv, rfl⟩) q4 q3).1
      exact key (ltv := fun v u => lexL ltStr (tupV s.heap v) (tupV s.heap u)) (sto_str.lex.swo (tupV s.heap)) (fun hh h₁ b nb kk => ts_sortable (s := { s with heap := h₁ }) hh (fun v hv => (hI v hv).same fun c o e _ => kk c o e) nb)
        fun out o1 o2 => sorted_fin sto_str.lex (f := tupS) ltPV_tupS (tupV s.heap) I G h2 rv hz hk o1 o2 h
  · cases e2
def rB2 (K : PySem.W.Frag) (f : PV → PV → Option PV) : List V → Hp → VK → Prop := fun xs H Q => ∃ g d b EX p q x y w, xs = [x, y] ∧ GOk K H g d ∧ RelB K H g p x ∧ RelB K H g q y ∧ f p q = some w ∧ Post K H g (RelX K b) (M.pure w d) Q EX
theorem call_minF (hc : X.calm = true) : CallR X (.builtin "min") (rB2 X.K (bi2 "min")) := by
  intro pins s σ H xs us Q I r h
  obtain ⟨g, d, b, EX, p, q, x, y, w, rfl, G, r1, r2, e, h⟩ := h
  cases p with
  | int i => cases q with
    | int j => cases e; obtain rfl := r1.int; obtain rfl := r2.int; exact call_min2 hc pins s σ H _ us Q I r ⟨_, _, rfl, h.pure G (RelX.of G rfl)⟩
    | _ => cases e
  | _ => cases e
theorem call_maxF (hc : X.calm = true) : CallR X (.builtin "max") (rB2 X.K (bi2 "max")) := by
  intro pins s σ H xs us Q I r h
  obtain ⟨g, d, b, EX, p, q, x, y, w, rfl, G, r1, r2, e, h⟩ := h
  cases p with
  | int i => cases q with
    | int j => cases e; obtain rfl := r1.int; obtain rfl := r2.int; exact call_max2 hc pins s σ H _ us Q I r ⟨_, _, rfl, h.pure G (RelX.of G rfl)⟩
    | _ => cases e
  | _ => cases e
/-! ### repr of lists and tuples of data -/
theorem hasD_of : ∀ {p : PV}, (toD p).hasDict = false
  | .non | .bl _ | .int _ | .str _ | .dct _ _ _ | .drw | .scr _ => rfl
  | .lst xs | .tup xs => by simp only [toD, PyData.hasDict]; exact hasDs_of
where hasDs_of : ∀ {ps : List PV}, PyData.hasDictAll (toDs ps) = false
  | [] => rfl
  | p :: ps => by simp only [toDs, PyData.hasDictAll, hasD_of, hasDs_of, Bool.or_self]
theorem call_reprF (hg : X.A.guards = some []) (hu : X.A.units + 100 < cLine) : CallR X (.builtin "repr") (rB1 X.K (bi1 "repr")) := by
  intro pins s σ H xs us Q I r h
  obtain ⟨g, d, b, EX, p, x, w, rfl, G, r1, e, h⟩ := h
  have e : reprF p = some w := e
  have main : ∀ (a : Addr), x = .ref a → okD p = true → (toD p).showable = true → (toD p).shown.length ≤ LIM → w = .str (toD p).shown → wpAny (model X.prog X.w) X.A (call (.builtin "repr") us) (EP X pins σ Q) X.xe s := by
    intro a ex ho hs hz hw
    subst ex hw
    have hd : Dp X.K H (.ref a) (toD p) := dpB_of (okD_noD ho) r1
    have eu : us = [.ref a] := Vals.ref1 r
    subst eu
    obtain ⟨as, rd⟩ := Dp.reads I (toD p) (.ref a) (.ref a) hd rfl
    have hdep : (toD p).depth ≤ 64 := by
      rw [dep_of]
      unfold okD at ho
      simp only [Bool.and_eq_true, decide_eq_true_eq] at ho
      exact ho.2
    refine repr_of_reads' rd hs (PyData.noDict_hsm hasD_of) hg (by omega) (fun _ _ z => z) (fun h' u tk kp => ?_) (by rw [← LIM_eq]; exact hz)
    refine ⟨.str (toD p).shown, H, I.un (t' := tk) (Un.kept kp) (fun b u z => (I.hok b u z).stay (fun c v _ q => kp c v q) (fun c q => q) fun c xs q => q), ⟨u, rfl⟩, h.pure G (RelX.of G rfl)⟩
  unfold reprF at e
  split at e
  · rename_i ps
    split at e
    · rename_i hc
      simp only [Bool.and_eq_true, decide_eq_true_eq] at hc
      cases e
      obtain ⟨a, vs, rfl, _⟩ := r1.lst
      exact main a rfl hc.1.1 hc.1.2 hc.2 rfl
    · cases e
  · rename_i ps
    split at e
    · rename_i hc
      simp only [Bool.and_eq_true, decide_eq_true_eq] at hc
      cases e
      obtain ⟨a, vs, rfl, _⟩ := r1.tup
      exact main a rfl hc.1.1 hc.1.2 hc.2 rfl
    · cases e
  · cases e
/-- the built-ins of one value, of two -/
def bv1 : String → Option Value
  | "len" => some (.builtin "len") | "all" => some (.builtin "all") | "any" => some (.builtin "any") | "sum" => some (.builtin "sum")
  | "tuple" => some (.type "tuple") | "list" => some (.type "list") | "sorted" => some (.builtin "sorted") | "int" => some (.type "int") | "dict" => some (.type "dict") | "repr" => some (.builtin "repr") | "abs" => some (.builtin "abs")
  | _ => none
def bv2 : String → Option Value
  | "min" => some (.builtin "min") | "max" => some (.builtin "max")
  | _ => none
theorem call_bi1 (hc : X.calm = true) (hg : X.A.guards = some []) (hu : X.A.units + 100 < cLine) {b : String} {v : Value} (h : bv1 b = some v) : CallR X v (rB1 X.K (bi1 b)) ∧ bootBuiltins (Str.ofString b) = some v ∧ ((∃ i, v = .builtin i) ∨ ∃ i, v = .type i) := by
  unfold bv1 at h
  split at h <;> first
    | (cases h; exact ⟨call_lenF, boot_len, .inl ⟨_, rfl⟩⟩)
    | (cases h; exact ⟨call_allF hc, boot_all, .inl ⟨_, rfl⟩⟩)
    | (cases h; exact ⟨call_anyF hc, boot_any, .inl ⟨_, rfl⟩⟩)
    | (cases h; exact ⟨call_sumF hc, boot_sum, .inl ⟨_, rfl⟩⟩)
    | (cases h; exact ⟨call_tupleF, PyProof.Rows.boot_tuple, .inr ⟨_, rfl⟩⟩)
    | (cases h; exact ⟨call_listF, PyProof.Rows.boot_list, .inr ⟨_, rfl⟩⟩)
    | (cases h; exact ⟨call_sortedF, boot_sorted, .inl ⟨_, rfl⟩⟩)
    | (cases h; exact ⟨call_intF, PyProof.Rows.boot_int, .inr ⟨_, rfl⟩⟩)
    | (cases h; exact ⟨call_reprF hg hu, by decide +kernel, .inl ⟨_, rfl⟩⟩)
    | (cases h; exact ⟨call_dictF hc, by decide +kernel, .inr ⟨_, rfl⟩⟩)
    | (cases h; exact ⟨call_absF, boot_abs, .inl ⟨_, rfl⟩⟩)
    | cases h
theorem call_bi2 (hc : X.calm = true) {b : String} {v : Value} (h : bv2 b = some v) : CallR X v (rB2 X.K (bi2 b)) ∧ bootBuiltins (Str.ofString b) = some v ∧ ((∃ i, v = .builtin i) ∨ ∃ i, v = .type i) := by
  unfold bv2 at h
  split at h <;> first
    | (cases h; exact ⟨call_minF hc, boot_min, .inl ⟨_, rfl⟩⟩)
    | (cases h; exact ⟨call_maxF hc, boot_max, .inl ⟨_, rfl⟩⟩)
    | cases h
end
end FW
namespace FW
open PySem PySem.Spec PyProof.Rows L2
theorem cnt_snoc : ∀ (xs seen : List Str) (x : Str), cntS seen (xs ++ [x]) = cntS seen xs + (if (seen ++ xs).contains x then 0 else 1)
  | [], seen, x => by simp [cntS]
  | y :: xs, seen, x => by
    show (if seen.contains y then 0 else 1) + cntS (seen ++ [y]) (xs ++ [x]) = (if seen.contains y then 0 else 1) + cntS (seen ++ [y]) xs + _
    rw [cnt_snoc xs (seen ++ [y]) x, List.append_assoc, List.singleton_append]
    omega
theorem cnt_le : ∀ (xs seen : List Str), cntS seen xs ≤ xs.length
  | [], _ => Nat.le_refl _
  | x :: xs, seen => by
    have := cnt_le xs (seen ++ [x])
    unfold cntS
    rw [List.length_cons]
    split <;> omega
/-- a text's entry in a set: the text -/
def txtOf (e : Int × Value) : Str := match e.2 with
  | .str k _ => k
  | _ => Str.empty
def TxtE (w : World) (e : Int × Value) : Prop := ∃ k tk, e.2 = Value.str k tk ∧ e.1 = hashStr w k
/-- at a: a set of texts, S its members, n their number; its table rises and can be walked -/
def TxtSet (w : World) (h : Heap) (a : Addr) (S : Str → Bool) (n : Nat) : Prop :=
  ∃ o es ep t, h.get? a = some o ∧ o.ExactSet ∧ o.data = .set es ep t ∧ (∀ e ∈ es.toList, TxtE w e) ∧
    (es.toList.map txtOf).Nodup ∧ (∀ k, S k = true ↔ k ∈ es.toList.map txtOf) ∧
    es.size < scanBound ∧ t.fits es.size = true ∧ es.size = n ∧ Ris t.place.toList ∧
    (w.params.followText "set-order" = true ∨ t.led = true)
section
variable {prog : Program} {w : World} {h h' : Heap} {a : Addr} {S : Str → Bool} {n : Nat}
theorem TxtSet.sub (T : TxtSet w h a S n) (k : ∀ o, h.get? a = some o → h'.get? a = some o) : TxtSet w h' a S n := by
  obtain ⟨o, es, ep, t, e, more⟩ := T
  exact ⟨o, es, ep, t, k o e, more⟩
theorem TxtSet.like {S' : Str → Bool} {m : Nat} (T : TxtSet w h a S n) (e : ∀ k, S k = S' k) (en : n = m) : TxtSet w h a S' m := by
  obtain rfl : S = S' := funext e
  subst en
  exact T
theorem txt_elems {l : List (Int × Value)} (g : ∀ e ∈ l, TxtE w e) : ElemsOf (PySem.strKind prog w) l := by
  intro e he
  obtain ⟨k, tk, q1, q2⟩ := g e he
  refine ⟨⟨k, ?_, q2⟩, ?_⟩
  · rw [q1]; exact strKind_is prog w k tk
  · rw [q1]; rfl
theorem txt_is {e : Int × Value} (g : TxtE w e) (k : Str) : (PySem.strKind prog w).is k e.2 = true ↔ txtOf e = k := by
  obtain ⟨k0, tk, q, _⟩ := g
  unfold txtOf
  rw [q]
  constructor
  · intro z
    obtain ⟨t, e⟩ := Value.isStrOf_shape (show Value.isStrOf k (.str k0 tk) = true from z)
    injection e
  · rintro rfl
    exact strKind_is prog w _ tk
theorem txt_mem {l : List (Int × Value)} (g : ∀ e ∈ l, TxtE w e) (k : Str) : k ∈ l.map txtOf ↔ ∃ e ∈ l, (PySem.strKind prog w).is k e.2 = true := by
  simp only [List.mem_map]
  constructor
  · rintro ⟨e, he, q⟩; exact ⟨e, he, (txt_is (g e he) k).mpr q⟩
  · rintro ⟨e, he, q⟩; exact ⟨e, he, (txt_is (g e he) k).mp q⟩
theorem TxtSet.setOf (T : TxtSet w h a S n) : h.SetOf (PySem.strKind prog w) a S n := by
  obtain ⟨o, es, ep, t, e1, e2, e3, g, _, m, b, f, k, _⟩ := T
  exact ⟨o, es, ep, t, e1, e2, e3, txt_elems g, fun x => (m x).trans (txt_mem g x), b, f, k⟩
theorem txt_fresh {a : Addr} (e : h.get? a = some { cls := .type "set", dict := none, data := .set #[] 0 (.fresh 0 0 (!w.params.followText "set-order")) }) : TxtSet w h a (fun _ => false) 0 := by
  refine ⟨_, #[], 0, _, e, ⟨rfl, rfl, rfl⟩, rfl, fun _ z => (by cases z), List.nodup_nil, fun k => (by simp), (by unfold scanBound; decide), rfl, rfl, List.Pairwise.nil, ?_⟩
  show _ ∨ (!w.params.followText "set-order") = true
  cases w.params.followText "set-order" <;> simp
end
section
variable {prog : Program} {w : World} {A : Around} {E : Value → Shared → Prop} {s : Shared} {a : Addr} {S : Str → Bool} {n : Nat}
/-- a set's entries laid down, the table made anew where it is too full -/
theorem txt_tail {gv : Bool → Sem Unit} (hgv : ∀ (b : Bool) (s1 : Shared) (Q' : Unit → Shared → Prop), Q' () s1 → wpAny (model prog w) A (gv b) Q' E s1)
    {o : Obj} {es : Array (Int × Value)} {ep : Nat} {t : SetTable} (at0 : s.heap.get? a = some o) (exa : o.ExactSet) (dat : o.data = .set es ep t)
    {fs : Array (Int × Value)} {u : SetTable} {S' : Str → Bool} (gd : ∀ e ∈ fs.toList, TxtE w e) (ndp : (fs.toList.map txtOf).Nodup) (mem : ∀ k, S' k = true ↔ k ∈ fs.toList.map txtOf)
    (few : fs.size < scanBound) (fit : u.fits fs.size = true) (ris : Ris u.place.toList) (led : w.params.followText "set-order" = true ∨ u.led = true) {old : Bool} {Rr : Option Bool → Shared → Prop}
    (fin : ∀ h', Heap.SameBut a s.heap h' → TxtSet w h' a S' fs.size → Rr (some true) { s with heap := h' }) :
    wpAny (model prog w) A (do
        storeSet a fs u
        if (!old && u.tooFull) = true then do
            gv (relayAll u fs (SetTable.grown fs.size)).2.2
            storeSet a (relayAll u fs (SetTable.grown fs.size)).1 (relayAll u fs (SetTable.grown fs.size)).2.1
            pure (some true)
          else pure (some true)) Rr E s := by
  apply wpAny_bind
  refine wpAny_storeSet_of at0 dat ?_ (fits_of_scanBound few)
  have at1 := store_at (es' := fs) (t' := u) at0 dat
  have same := Heap.SameBut.update s.heap a (Obj.putSet fs u)
  split
  · have p1 := relayAll_perm u fs (SetTable.grown fs.size); have p2 := relayAll_fits u fs (SetTable.grown fs.size)
    have p3 := relayAll_ris u fs (SetTable.grown fs.size); have p4 := relayAll_led u fs (SetTable.grown fs.size)
    generalize relayAll u fs (SetTable.grown fs.size) = Y at p1 p2 p3 p4 ⊢
    obtain ⟨gs, v, gave⟩ := Y
    dsimp only at p1 p2 p3 p4 ⊢
    have size : gs.size = fs.size := by rw [← Array.length_toList, p1.length_eq, Array.length_toList]
    have few2 : gs.size < scanBound := by rw [size]; exact few
    apply wpAny_bind
    apply hgv
    apply wpAny_bind
    refine wpAny_storeSet_of at1 rfl ?_ (fits_of_scanBound few2)
    have at2 := store_at (es' := gs) (t' := v) at1 rfl
    apply wpAny_pure
    refine fin _ (same.trans (Heap.SameBut.update _ a _)) ⟨_, gs, _, v, at2, exa, rfl, fun e he => gd e (p1.mem_iff.mp he), ?_, fun k => ?_, few2, p2, size, p3, ?_⟩
    · exact (p1.map txtOf).nodup_iff.mpr ndp
    · exact (mem k).trans (p1.map txtOf).mem_iff.symm
    · rw [p4]; exact led
  · exact wpAny_pure (fin _ same ⟨_, fs, _, u, at1, exa, rfl, gd, ndp, mem, few, fit, rfl, ris, led⟩)
/-- a text put into a set -/
theorem txt_add {k : Str} {tk : Tok} {Q : Bool → Shared → Prop} (T : TxtSet w s.heap a S n) (room : n + 1 < scanBound)
    (q : ∀ h', Heap.SameBut a s.heap h' → TxtSet w h' a (fun j => S j || decide (j = k)) (if S k = true then n else n + 1) → Q (!S k) { s with heap := h' }) :
    wpAny (model prog w) A (setAddHashed a (.str k tk) ((PySem.strKind prog w).hash k)) Q E s := by
  obtain ⟨o, es, ep, t, at0, exa, dat, gd, ndp, mem, few, fit, size, ris, led⟩ := T
  have key : (PySem.strKind prog w).is k (.str k tk) = true := strKind_is prog w k tk
  have scan : (Value.str k tk).scannable = true := rfl
  have elems : ElemsOf (PySem.strKind prog w) es.toList := txt_elems gd
  unfold setAddHashed setAddHashedIn
  apply wpAny_holding
  apply wpAny_bind
  refine wpAny_setState_of at0 dat fit ?_
  dsimp only
  rw [byScan_of scan few elems]
  simp only [↓reduceIte]
  unfold setAddByScan
  apply wpAny_bind
  apply wpAny_bind
  apply wpAny_rule
  apply wpAny_bind
  refine wpAny_setScan_of key at0 dat fit elems ?_
  cases found : List.findIdx? (fun e => (PySem.strKind prog w).is k e.2) es.toList with
  | some j =>
    dsimp only
    obtain ⟨lt, is, _⟩ := List.findIdx?_eq_some_iff_getElem.mp found
    have inS : S k = true := (mem k).mpr ((txt_mem (prog := prog) gd k).mpr ⟨_, List.getElem_mem lt, is⟩)
    apply wpAny_pure
    apply wpAny_pure
    have z := q s.heap (Heap.SameBut.refl a s.heap) (by
      rw [if_pos inS]
      refine ⟨o, es, ep, t, at0, exa, dat, gd, ndp, fun i => ?_, few, fit, size, ris, led⟩
      rw [Bool.or_eq_true, decide_eq_true_eq, ← mem i]
      constructor
      · rintro (z | rfl)
        · exact z
        · exact inS
      · exact .inl)
    rw [inS] at z
    exact z
  | none =>
    dsimp only
    have out : k ∉ es.toList.map txtOf := fun z => by
      obtain ⟨e, he, y⟩ := (txt_mem (prog := prog) gd k).mp z
      have := List.findIdx?_eq_none_iff.mp found e he
      rw [y] at this
      cases this
    have outS : S k = false := by
      cases y : S k with
      | false => rfl
      | true => exact absurd ((mem k).mp y) out
    have gave : ∀ (b : Bool) {s1 : Shared} {Q' : Unit → Shared → Prop}, Q' () s1 → wpAny (model prog w) A (match b with | true => rule "set.scan.the-table-gave-way" | false => pure ()) Q' E s1 := by
      intro b s1 Q' y
      cases b
      · exact wpAny_pure y
      · exact wpAny_rule y
    have p1 := layNew_perm t es ((PySem.strKind prog w).hash k) (.str k tk); have p2 := layNew_fits t es ((PySem.strKind prog w).hash k) (.str k tk)
    have p3 := layNew_ris t es ((PySem.strKind prog w).hash k) (.str k tk) ris; have p4 := layNew_led t es ((PySem.strKind prog w).hash k) (.str k tk)
    generalize layNew t es ((PySem.strKind prog w).hash k) (.str k tk) = Y at p1 p2 p3 p4 ⊢
    obtain ⟨fs, u, old, gv⟩ := Y
    dsimp only at p1 p2 p3 p4 ⊢
    rw [Array.toList_push] at p1
    have p5 : fs.toList.Perm (((PySem.strKind prog w).hash k, Value.str k tk) :: es.toList) := p1.trans (List.perm_append_singleton _ _)
    have p6 : (fs.toList.map txtOf).Perm (k :: es.toList.map txtOf) := p5.map txtOf
    have gd1 : ∀ e ∈ fs.toList, TxtE w e := by
      intro e he
      rcases List.mem_cons.mp (p5.mem_iff.mp he) with rfl | y
      · exact ⟨k, tk, rfl, rfl⟩
      · exact gd e y
    have ndp1 : (fs.toList.map txtOf).Nodup := p6.nodup_iff.mpr (List.nodup_cons.mpr ⟨out, ndp⟩)
    have mem1 : ∀ i, (S i || decide (i = k)) = true ↔ i ∈ fs.toList.map txtOf := by
      intro i
      rw [p6.mem_iff, List.mem_cons, Bool.or_eq_true, decide_eq_true_eq, mem i, or_comm]
    have size1 : fs.size = n + 1 := by rw [← Array.length_toList, p5.length_eq, List.length_cons, Array.length_toList, size]
    have few1 : fs.size < scanBound := by rw [size1]; exact room
    have led1 : w.params.followText "set-order" = true ∨ u.led = true := by rw [p4]; exact led
    have fin : ∀ h', Heap.SameBut a s.heap h' → TxtSet w h' a (fun j => S j || decide (j = k)) fs.size → Q true { s with heap := h' } := by
      intro h' same T1
      have y := q h' same
      rw [outS, if_neg Bool.false_ne_true, ← size1] at y
      exact y T1
    apply wpAny_bind
    apply gave
    split
    · apply wpAny_bind
      rw [hashByValue_scannable 8 scan]
      apply wpAny_pure
      refine txt_tail ?_ at0 exa dat gd1 ndp1 mem1 few1 ?_ ?_ ?_ ?_
      · intro b s1 Q' y
        cases b
        · exact wpAny_pure y
        · exact wpAny_rule y
      · first | (split <;> first | exact p2 | exact SetTable.fits_plain_off p2) | exact p2
      · first | (split <;> exact p3) | exact p3
      · first | (split <;> exact led1) | exact led1
      · intro h' same T1
        dsimp only
        exact wpAny_pure (fin h' same T1)
    · apply wpAny_bind
      apply wpAny_pure
      simp only [↓reduceIte]
      refine txt_tail ?_ at0 exa dat gd1 ndp1 mem1 few1 p2 p3 led1 ?_
      · intro b s1 Q' y
        cases b
        · exact wpAny_pure y
        · exact wpAny_rule y
      · intro h' same T1
        dsimp only
        exact wpAny_pure (fin h' same T1)
end
section
variable {prog : Program} {w : World} {A : Around} {R : Result → Shared → Prop} {I : Addr} {fp wr : List Addr} {G : Array GenState → Array GenState → Prop} {n : Nat} {P : Nat → Value → Prop} {St : Nat → Shared → Prop}
abbrev seenK (xs : List Str) (i : Nat) : Str → Bool := fun z => (xs.take i).contains z
/-- the update of a set of texts by what an iterator gives -/
theorem set_texts (W : WalksS prog w A.in1 I fp wr G n P St) (S : Addr) (nS : S ∉ fp) (xs : List Str) (len : xs.length = n) (few : n + 1 < scanBound) (val : ∀ i v, P i v → ∃ t, v = .str (xs.getD i Str.empty) t) :
    ∀ (k i : Nat) (s : Shared), i + k = n → St i s → TxtSet w s.heap S (seenK xs i) (cntS [] (xs.take i)) →
      (∀ s', Moved (S :: wr) G s s' → TxtSet w s'.heap S (seenK xs n) (cntS [] xs) → R (.ok (.ret .none)) s') →
      codeAny (model prog w) A (.builtin "set.update.loop" ⟨[.ref S, .ref I], []⟩) R s
  | 0, i, s, hk, st, hS, fin => by
    obtain rfl : i = n := by omega
    have nw : S ∉ wr := fun z => nS (W.sub _ z)
    apply codeAny_builtin PyProof.Rows.F.entry_set_update_loop
    rw [Around.under_plainId PyProof.Rows.F.plain_set_update_loop _]
    show wpAny _ A.in1 (pyNext (.ref I) >>= _) _ _ s
    apply wpAny_bind
    apply W.done s _ _ st
    intro s' mv
    show wpAny _ A.in1 (ret Value.none) _ _ s'
    apply wpAny_pure
    obtain ⟨o, es, ep, tb, at0, more⟩ := hS
    rw [← len, List.take_length] at more
    apply fin s' (mv.mono fun b hb => List.mem_cons_of_mem _ hb)
    refine ⟨o, es, ep, tb, mv.heap S _ nw at0, ?_⟩
    rw [← len]
    unfold seenK
    rw [List.take_length]
    have more' := more
    unfold seenK at more'
    rw [List.take_length] at more'
    exact more'
  | k + 1, i, s, hk, st, hS, fin => by
    have lt : i < n := by omega
    have lt' : i < xs.length := by omega
    have nw : S ∉ wr := fun z => nS (W.sub _ z)
    apply codeAny_builtin PyProof.Rows.F.entry_set_update_loop
    rw [Around.under_plainId PyProof.Rows.F.plain_set_update_loop _]
    show wpAny _ A.in1 (pyNext (.ref I) >>= _) _ _ s
    apply wpAny_bind
    apply W.item i s _ _ lt st
    intro v s' hv st' mv
    obtain ⟨t, rfl⟩ := val i v hv
    have eg : xs.getD i Str.empty = xs[i] := by rw [List.getD_eq_getElem?_getD, List.getElem?_eq_getElem lt']; rfl
    have hS' : TxtSet w s'.heap S (seenK xs i) (cntS [] (xs.take i)) := by
      obtain ⟨o, es, ep, tb, at0, more⟩ := hS
      exact ⟨o, es, ep, tb, mv.heap S _ nw at0, more⟩
    show wpAny _ A.in1 (holding [Value.str (xs.getD i Str.empty) t]
      (setAdd S (.str (xs.getD i Str.empty) t)) >>= _) _ _ s'
    apply wpAny_bind; apply wpAny_holding
    unfold setAdd
    apply wpAny_holding; apply wpAny_bind
    apply (PySem.strKind prog w).pyHash (k := xs.getD i Str.empty) (strKind_is _ _ _ _)
    have room : cntS [] (xs.take i) + 1 < scanBound := by
      have a := cnt_le (xs.take i) []
      rw [List.length_take] at a
      omega
    refine txt_add (s := { s' with toks := s'.toks + 1 }) hS' room fun h' only hS2 => ?_
    have etake : xs.take (i + 1) = xs.take i ++ [xs[i]] := by rw [List.take_add_one, List.getElem?_eq_getElem lt']; rfl
    have hS3 : TxtSet w h' S (seenK xs (i + 1)) (cntS [] (xs.take (i + 1))) := by
      refine hS2.like (fun z => ?_) ?_
      · show ((xs.take i).contains z || decide (z = xs.getD i Str.empty)) = (xs.take (i + 1)).contains z
        rw [etake, eg]
        generalize xs[i] = a
        generalize xs.take i = l
        by_cases e : z = a
        · subst e; simp
        · simp [e]
      · show (if seenK xs i (xs.getD i Str.empty) = true then cntS [] (xs.take i) else cntS [] (xs.take i) + 1) = _
        rw [etake, cnt_snoc, eg, List.nil_append]
        unfold seenK
        by_cases e : (xs.take i).contains xs[i] = true
        · rw [if_pos e, if_pos e]; rfl
        · rw [if_neg e, if_neg e]
    refine wpAny_pure ⟨plainId_quiet PyProof.Rows.F.plain_set_update_loop _, ?_⟩
    refine set_texts W S nS xs len few val k (i + 1) _ (by omega) ?_ hS3 fun s2 mv2 hS4 => ?_
    · refine W.frame _ s' _ _ st' (Nat.le_succ _) fun b hb o e => ?_
      rw [only.2 b (fun z : b = S => nS (by rw [← z]; exact hb))]
      exact e
    · apply fin s2 _ hS4
      refine Moved.trans W.gtrans ((mv.mono fun b hb => List.mem_cons_of_mem _ hb).then_heap (Nat.le_succ _) fun b o hb e => ?_) mv2
      rw [only.2 b (fun z : b = S => hb (by rw [z]; exact List.mem_cons_self))]
      exact e
end
end FW
namespace FW
open PySem PySem.Spec PyProof.Rows L2
section
variable {prog : Program} {w : World} {A : Around} {E : Value → Shared → Prop} {s : Shared}
abbrev newSet (w : World) (h : Heap) : Heap := h.push { cls := .type "set", dict := none, data := .set #[] 0 (.fresh 0 0 (!w.params.followText "set-order")) }
/-- set(xs), xs a list of texts -/
theorem call_setlist {l : Addr} {items : Array Value} {xs : List Str} {Q : Value → Shared → Prop} (calm : A.handled = none) (src : s.heap.IsList l items) (texts : StrsAre items.toList xs) (few : xs.length + 1 < scanBound)
    (q : ∀ (h' : Heap) (tk : Nat), TxtSet w h' s.heap.objs.size (seenK xs xs.length) (cntS [] xs) → (∀ b o, b < s.heap.objs.size → s.heap.get? b = some o → h'.get? b = some o) →
      Q (.ref s.heap.objs.size) { s with heap := h', toks := tk }) : wpAny (model prog w) A (call (.type "set") [.ref l]) Q E s := by
  obtain ⟨cc, tt, mro⟩ := PySem.F.called_set.mro
  have made := PySem.F.called_set.made; have sub := PySem.F.called_set.sub
  apply wpAny_call; apply codeAny_of_tree
  show wpAny _ _ (callAny (.type "set") _) _ _ _
  refine wpAny_pure ⟨Code.quiet_builtin _ (by decide +kernel), ?_⟩
  apply codeAny_builtin PySem.F.entry_type_call
  rw [Around.under_plain (weight_type_call_type "set" [.ref l] []) rfl]
  have n1 := PySem.F.called_set.notType; have n2 := PySem.F.called_set.canCreate
  have n3 := PySem.F.typeCall_set_1 (.ref l)
  repeat (any_goals (first | assumption | wp_step))
  refine codeAny_mono (code_set_led1 (.ref l) (E := E)
    (Q₁ := fun obj s₁ => obj = .ref s.heap.objs.size ∧ s₁ = { s with heap := newSet w s.heap })
    ⟨rfl, rfl⟩) fun res s₁ made1 => ?_
  match res, made1 with
  | .error e, made1 => exact made1
  | .ok (.ret obj), made1 =>
    obtain ⟨rfl, rfl⟩ := made1
    have at0 : (newSet w s.heap).get? s.heap.objs.size = some { cls := .type "set", dict := none, data := .set #[] 0 (.fresh 0 0 (!w.params.followText "set-order")) } := Heap.get?_push_size _ rfl
    have ty0 : Shared.TypeIs { s with heap := newSet w s.heap } (.ref s.heap.objs.size) "set" := ⟨_, at0, rfl⟩
    have i1 := PySem.F.called_set.init.lookup
    have i2 := PySem.F.called_set.init.bind (.ref s.heap.objs.size)
    repeat (any_goals (first | assumption | wp_step))
    refine codeAny_mono (codeAny_call_builtin
      (R := wants (fun r s₂ => r = .none ∧ ∃ h' tk, s₂ = { s with heap := h', toks := tk } ∧ TxtSet w h' s.heap.objs.size (seenK xs xs.length) (cntS [] xs) ∧
        (∀ b o, b < s.heap.objs.size → s.heap.get? b = some o → h'.get? b = some o)) E)
      PySem.F.called_set.init.plain PySem.F.entry_set_init (check_set_init_1 ty0 ?_)) fun res2 s₂ made2 => ?_
    · obtain ⟨⟨oc, od, oda, osl⟩, at1, cls1, nn, dat1⟩ := src
      dsimp only at cls1 dat1
      subst cls1 dat1
      have at2 : (newSet w s.heap).get? l = some { cls := .type "list", dict := od, data := .seq items nn, slots := osl } := Heap.get?_push_of_some _ at1
      have t1 := PySem.F.sub_list_set; have t2 := PySem.F.sub_list_frozenset
      have t3 : (Value.type "list" == Value.type "dict") = false := by decide
      have src2 : (newSet w s.heap).IsList l items := ⟨_, at2, rfl, nn, rfl⟩
      unfold Builtin.«set.__init__» noKeywords Builtin.Frozenset.updateFrom
      generalize it0 : pyIter = IT
      wp_walk
      subst it0
      apply wpAny_pyIter_list src2
      apply wpAny_bind; apply wpAny_runValue
      have below : l < s.heap.objs.size := Heap.lt_size at1
      have calm3 : A.in1.in1.in1.handled = none := by simp [calm]
      have sz : (newSet w s.heap).objs.size = s.heap.objs.size + 1 := Heap.size_push ..
      have apart : l ≠ (newSet w s.heap).objs.size := by rw [sz]; exact Nat.ne_of_lt (Nat.lt_succ_of_lt below)
      have apart2 : s.heap.objs.size ∉ [(newSet w s.heap).objs.size, l] := by
        rw [sz]
        simp only [List.mem_cons, List.not_mem_nil, or_false, not_or]
        exact ⟨Nat.ne_of_lt (Nat.lt_succ_self _), Nat.ne_of_gt below⟩
      have len : xs.length = items.size := by rw [← StrsAre.len_eq texts, Array.length_toList]
      have val : ∀ (i : Nat) (v : Value), items[i]? = some v → ∃ t, v = .str (xs.getD i Str.empty) t := fun i v e => SS.strs_at texts i v (by rw [Array.getElem?_toList]; exact e)
      refine set_texts ((Walks.list calm3 _ l apart items).toS) s.heap.objs.size apart2 xs len (by omega) val items.size 0 _ (by omega) ⟨⟨_, Heap.get?_push_size _ rfl, rfl, rfl⟩, src2.push _⟩ ?_ fun s3 mv hS => ?_
      · have at3 : ((newSet w s.heap).push { cls := .type "list_iterator", data := .fields #[.ref l, .int 0 0] }).get? s.heap.objs.size = some { cls := .type "set", dict := none, data := .set #[] 0 (.fresh 0 0 (!w.params.followText "set-order")) } := Heap.get?_push_of_some _ at0
        exact (txt_fresh at3).like (fun _ => rfl) rfl
      · obtain ⟨h3, g3, d3, tk3, os3⟩ := s3
        obtain rfl : g3 = s.gens := mv.gens
        obtain rfl : d3 = s.drawn := mv.drawn
        obtain rfl : os3 = s.os := mv.os
        show wpAny _ _ _ _ _ _
        apply wpAny_pure
        show wpAny _ _ (ret Value.none) _ _ _
        refine wpAny_pure ⟨rfl, h3, tk3, rfl, by rw [len]; exact hS, fun b o lt e => ?_⟩
        refine mv.heap b o ?_ (Heap.get?_push_of_some _ (Heap.get?_push_of_some _ e))
        rw [sz]
        simp only [List.mem_cons, List.not_mem_nil, or_false, not_or]
        exact ⟨Nat.ne_of_lt lt, Nat.ne_of_lt (Nat.lt_succ_of_lt lt)⟩
    · match res2, made2 with
      | .error e, made2 => exact made2
      | .ok (.ret r), made2 =>
        obtain ⟨rfl, h', tk, rfl, r1, r2⟩ := made2
        repeat (any_goals (first | assumption | wp_step))
        exact q _ _ r1 r2
      | .ok .next, made2 => exact made2.elim
      | .ok .brk, made2 => exact made2.elim
      | .ok .cont, made2 => exact made2.elim
  | .ok .next, made1 => exact made1.elim
  | .ok .brk, made1 => exact made1.elim
  | .ok .cont, made1 => exact made1.elim
/-- set(xs), xs a tuple of texts -/
theorem call_settuple {l : Addr} {items : Array Value} {xs : List Str} {Q : Value → Shared → Prop} (calm : A.handled = none) (src : s.heap.IsTuple l items) (texts : StrsAre items.toList xs) (few : xs.length + 1 < scanBound)
    (q : ∀ (h' : Heap) (tk : Nat), TxtSet w h' s.heap.objs.size (seenK xs xs.length) (cntS [] xs) → (∀ b o, b < s.heap.objs.size → s.heap.get? b = some o → h'.get? b = some o) →
      Q (.ref s.heap.objs.size) { s with heap := h', toks := tk }) : wpAny (model prog w) A (call (.type "set") [.ref l]) Q E s := by
  obtain ⟨cc, tt, mro⟩ := PySem.F.called_set.mro
  have made := PySem.F.called_set.made; have sub := PySem.F.called_set.sub
  apply wpAny_call; apply codeAny_of_tree
  show wpAny _ _ (callAny (.type "set") _) _ _ _
  refine wpAny_pure ⟨Code.quiet_builtin _ (by decide +kernel), ?_⟩
  apply codeAny_builtin PySem.F.entry_type_call
  rw [Around.under_plain (weight_type_call_type "set" [.ref l] []) rfl]
  have n1 := PySem.F.called_set.notType; have n2 := PySem.F.called_set.canCreate
  have n3 := PySem.F.typeCall_set_1 (.ref l)
  repeat (any_goals (first | assumption | wp_step))
  refine codeAny_mono (code_set_led1 (.ref l) (E := E)
    (Q₁ := fun obj s₁ => obj = .ref s.heap.objs.size ∧ s₁ = { s with heap := newSet w s.heap })
    ⟨rfl, rfl⟩) fun res s₁ made1 => ?_
  match res, made1 with
  | .error e, made1 => exact made1
  | .ok (.ret obj), made1 =>
    obtain ⟨rfl, rfl⟩ := made1
    have at0 : (newSet w s.heap).get? s.heap.objs.size = some { cls := .type "set", dict := none, data := .set #[] 0 (.fresh 0 0 (!w.params.followText "set-order")) } := Heap.get?_push_size _ rfl
    have ty0 : Shared.TypeIs { s with heap := newSet w s.heap } (.ref s.heap.objs.size) "set" := ⟨_, at0, rfl⟩
    have i1 := PySem.F.called_set.init.lookup
    have i2 := PySem.F.called_set.init.bind (.ref s.heap.objs.size)
    repeat (any_goals (first | assumption | wp_step))
    refine codeAny_mono (codeAny_call_builtin
      (R := wants (fun r s₂ => r = .none ∧ ∃ h' tk, s₂ = { s with heap := h', toks := tk } ∧ TxtSet w h' s.heap.objs.size (seenK xs xs.length) (cntS [] xs) ∧
        (∀ b o, b < s.heap.objs.size → s.heap.get? b = some o → h'.get? b = some o)) E)
      PySem.F.called_set.init.plain PySem.F.entry_set_init (check_set_init_1 ty0 ?_)) fun res2 s₂ made2 => ?_
    · obtain ⟨⟨oc, od, oda, osl⟩, at1, cls1, nn, dat1⟩ := src
      dsimp only at cls1 dat1
      subst cls1 dat1
      have at2 : (newSet w s.heap).get? l = some { cls := .type "tuple", dict := od, data := .seq items nn, slots := osl } := Heap.get?_push_of_some _ at1
      have t1 := PySem.F.sub_tuple_set; have t2 := PySem.F.sub_tuple_frozenset
      have t3 : (Value.type "tuple" == Value.type "dict") = false := by decide
      have src2 : (newSet w s.heap).IsTuple l items := ⟨_, at2, rfl, nn, rfl⟩
      unfold Builtin.«set.__init__» noKeywords Builtin.Frozenset.updateFrom
      generalize it0 : pyIter = IT
      wp_walk
      subst it0
      apply wpAny_pyIter_tuple src2
      apply wpAny_bind; apply wpAny_runValue
      have below : l < s.heap.objs.size := Heap.lt_size at1
      have calm3 : A.in1.in1.in1.handled = none := by simp [calm]
      have sz : (newSet w s.heap).objs.size = s.heap.objs.size + 1 := Heap.size_push ..
      have apart : l ≠ (newSet w s.heap).objs.size := by rw [sz]; exact Nat.ne_of_lt (Nat.lt_succ_of_lt below)
      have apart2 : s.heap.objs.size ∉ [(newSet w s.heap).objs.size, l] := by
        rw [sz]
        simp only [List.mem_cons, List.not_mem_nil, or_false, not_or]
        exact ⟨Nat.ne_of_lt (Nat.lt_succ_self _), Nat.ne_of_gt below⟩
      have len : xs.length = items.size := by rw [← StrsAre.len_eq texts, Array.length_toList]
      have val : ∀ (i : Nat) (v : Value), items[i]? = some v → ∃ t, v = .str (xs.getD i Str.empty) t := fun i v e => SS.strs_at texts i v (by rw [Array.getElem?_toList]; exact e)
      refine set_texts ((Walks.tuple calm3 _ l apart items).toS) s.heap.objs.size apart2 xs len (by omega) val items.size 0 _ (by omega) ⟨⟨_, Heap.get?_push_size _ rfl, rfl, rfl⟩, src2.push _⟩ ?_ fun s3 mv hS => ?_
      · have at3 : ((newSet w s.heap).push { cls := .type "tuple_iterator", data := .fields #[.ref l, .int 0 0] }).get? s.heap.objs.size = some { cls := .type "set", dict := none, data := .set #[] 0 (.fresh 0 0 (!w.params.followText "set-order")) } := Heap.get?_push_of_some _ at0
        exact (txt_fresh at3).like (fun _ => rfl) rfl
      · obtain ⟨h3, g3, d3, tk3, os3⟩ := s3
        obtain rfl : g3 = s.gens := mv.gens
        obtain rfl : d3 = s.drawn := mv.drawn
        obtain rfl : os3 = s.os := mv.os
        show wpAny _ _ _ _ _ _
        apply wpAny_pure
        show wpAny _ _ (ret Value.none) _ _ _
        refine wpAny_pure ⟨rfl, h3, tk3, rfl, by rw [len]; exact hS, fun b o lt e => ?_⟩
        refine mv.heap b o ?_ (Heap.get?_push_of_some _ (Heap.get?_push_of_some _ e))
        rw [sz]
        simp only [List.mem_cons, List.not_mem_nil, or_false, not_or]
        exact ⟨Nat.ne_of_lt lt, Nat.ne_of_lt (Nat.lt_succ_of_lt lt)⟩
    · match res2, made2 with
      | .error e, made2 => exact made2
      | .ok (.ret r), made2 =>
        obtain ⟨rfl, h', tk, rfl, r1, r2⟩ := made2
        repeat (any_goals (first | assumption | wp_step))
        exact q _ _ r1 r2
      | .ok .next, made2 => exact made2.elim
      | .ok .brk, made2 => exact made2.elim
      | .ok .cont, made2 => exact made2.elim
  | .ok .next, made1 => exact made1.elim
  | .ok .brk, made1 => exact made1.elim
  | .ok .cont, made1 => exact made1.elim
end
end FW
namespace FW
open PySem PySem.Spec PyProof.Rows L2
section
variable {X : Cx}
/-- at a: a set of texts -/
def SetT (w : World) (a : Addr) (S : Str → Bool) (n : Nat) : HO := .ext fun h => TxtSet w h a S n
theorem setT_new {w : World} {P : Program} {H : Hp} {h : Heap} {a : Addr} {S : Str → Bool} {n : Nat} (R : TxtSet w h a S n) : ObjOk P w H h a (SetT w a S n) := by
  refine ⟨R, ?_, fun h1 h2 p k => p.sub k⟩
  obtain ⟨o, es, ep, t, e, more⟩ := R
  exact ⟨o, e⟩
/-- set(xs) -/
def rSetT (K : PySem.W.Frag) (w : World) : List V → Hp → VK → Prop := fun vs H Q => ∃ (a : Addr) (xs : List Str), vs = [.ref a] ∧ (SqL K H a (xs.map .str) ∨ SqT K H a (xs.map .str)) ∧ xs.length + 1 < scanBound ∧
  ∀ p, H p = none → Q (.ref p) (upd H p (SetT w p (seenK xs xs.length) (cntS [] xs)))
theorem call_setT (hc : X.calm = true) : CallR X (.type "set") (rSetT X.K X.w) := by
  intro pins s σ H vs us Q I r h
  obtain ⟨a, xs, rfl, src, few, q⟩ := h
  rw [Vals.ref1 r]
  have fin : ∀ (h' : Heap) (tk : Nat), TxtSet X.w h' s.heap.objs.size (seenK xs xs.length) (cntS [] xs) → (∀ b o, b < s.heap.objs.size → s.heap.get? b = some o → h'.get? b = some o) →
      EP X pins σ Q (.ref s.heap.objs.size) { s with heap := h', toks := tk } := fun h' tk R keep =>
    ⟨.ref s.heap.objs.size, _, I.laid (t' := tk) (fun b o e => keep b o (Heap.lt_size e) e) (Nat.le_refl _) (setT_new R), rfl, q _ (I.hok.fresh (Nat.le_refl _))⟩
  rcases src with src | src
  · obtain ⟨its, rv, pl, _⟩ := I.list src
    exact call_setlist (I.ok.hd hc) pl.isList (by simpa using strsAre_of rv) few fin
  · obtain ⟨its, rv, pl, _⟩ := I.tuple src
    exact call_settuple (I.ok.hd hc) (show s.heap.IsTuple a its.toArray from pl) (by simpa using strsAre_of rv) few fin
/-- len of such a set -/
def rLenT (w : World) : List V → Hp → VK → Prop := fun vs H Q => ∃ (a : Addr) (S : Str → Bool) (n : Nat), vs = [.ref a] ∧ H a = some (SetT w a S n) ∧ n ≤ sizeLine ∧ Q (.int (n : Nat)) H
theorem call_lenT : CallR X (.builtin "len") (rLenT X.w) := by
  intro pins s σ H vs us Q I r h
  obtain ⟨a, S, n, rfl, ha, hz, q⟩ := h
  rw [Vals.ref1 r]
  obtain ⟨R, _, _⟩ := (show ObjOk X.prog X.w H s.heap a (.ext fun h => TxtSet X.w h a S n) from I.hok a _ ha)
  obtain ⟨o, es, ep, t, ho, hex, hd, _, _, _, hf, hn⟩ := R.setOf (prog := X.prog)
  exact call_len_set ho hex hd hf (by rw [hn]; have := sizeLine_eq; omega) ⟨.int n, H, I.tok _, ⟨_, by rw [hn]⟩, q⟩
/-! ### sorted(set(texts)) -/
theorem txts_of : ∀ {l : List Value}, (∀ v ∈ l, ∃ x t, v = Value.str x t) → Vals ((l.map strV).map V.str) l
  | [], _ => .nil
  | v :: l, h => by
    obtain ⟨x, t, rfl⟩ := h v List.mem_cons_self
    exact .cons ⟨t, rfl⟩ (txts_of fun u hu => h u (List.mem_cons_of_mem _ hu))
theorem sorted_txt {prog : Program} {w : World} {A : Around} {E : Value → Shared → Prop} {s : Shared} {a : Addr} {S : Str → Bool} {n : Nat} {Q : Value → Shared → Prop} (T : TxtSet w s.heap a S n) (calm : A.handled = none) (few : n < 64)
    (q : ∀ (s' : Shared) (p : Addr) (out : List Value) (c : Nat), (∀ b o, s.heap.get? b = some o → s'.heap.get? b = some o) → s'.gens = s.gens → s'.os = s.os → s.heap.objs.size ≤ p →
      s'.heap.get? p = some (seqObj "list" out.toArray c) → (∀ v ∈ out, ∃ x t, v = Value.str x t) → (out.map strV).Nodup → (∀ k, k ∈ out.map strV ↔ S k = true) → out.length = n →
      SrtO.Srtd (fun v u => ltStr (strV v) (strV u)) out → Q (.ref p) s') : wpAny (model prog w) A (call (.builtin "sorted") [.ref a]) Q E s := by
  obtain ⟨o, es, ep, t, at0, exa, dat, gd, ndp, mem, lim, fit, size, ris, led⟩ := T
  apply Calls.call_function_entry kind_sorted plain_sorted entry_sorted
    (args_sorted1 _)
  unfold Builtin.«sorted»
  apply wpAny_bind (m := checkCount "sorted" 1 1 _)
  apply wpAny_pure
  apply wpAny_bind
  refine collect_set (A := A.in1) calm ⟨o, at0, exa.1, dat⟩ fit lim ris led fun s1 vs kept grown gens os perm => ?_
  have len : vs.length = n := by rw [perm.length_eq, List.length_map, Array.length_toList, size]
  have txt : ∀ v ∈ vs, ∃ x t, v = Value.str x t := by
    intro v hv
    obtain ⟨e, he, rfl⟩ := List.mem_map.mp (perm.mem_iff.mp hv)
    obtain ⟨k, tk, e1, _⟩ := gd e he
    exact ⟨k, tk, e1⟩
  have p1 : (vs.map strV).Perm (es.toList.map txtOf) := by
    have z := perm.map strV
    rw [List.map_map] at z
    refine z.trans (List.Perm.of_eq (List.map_congr_left fun e he => ?_))
    obtain ⟨k, tk, e1, _⟩ := gd e he
    show strV e.2 = txtOf e
    unfold txtOf
    rw [e1]
    rfl
  apply wpAny_bind
  have hz : vs.length ≤ sizeLine := by rw [len, sizeLine_eq]; omega
  refine wpAny_newList ?_ hz
  have at1 : (s1.heap.push (seqObj "list" vs.toArray 0)).get? s1.heap.objs.size = some (seqObj "list" vs.toArray 0) := Heap.get?_push_size _ rfl
  apply wpAny_bind
  refine wpAny_holding ?_
  refine wpAny_call_entry slot_list_sort ⟨_, at1, rfl⟩ entry_list_sort ?_ (args_list_sort _)
  refine SrtO.list_sort_ord (sto_str.swo strV) at1 hz (fun h2 => strs_sortable h2 txt) fun out o1 o2 => ⟨_, rfl, ?_⟩
  obtain ⟨c, at2⟩ := PyProof.Rows.sortedHeap_at (vs := vs) (out := out.toArray) at1
  have p2 : out.Perm vs := o2.perm
  have p3 := (p2.map strV).trans p1
  refine wpAny_pure ⟨_, rfl, q _ s1.heap.objs.size out c (fun b u e => ?_) gens os grown at2 (fun v hv => txt v (p2.mem_iff.mp hv)) (p3.nodup_iff.mpr ndp) (fun k => by rw [p3.mem_iff, mem k]) (by rw [p2.length_eq, len]) o1⟩
  have z := kept b u e
  have lt := Heap.lt_size z
  show (sortedHeap (s1.heap.push (seqObj "list" vs.toArray 0)) s1.heap.objs.size vs out.toArray).get? b = some u
  rw [sortedHeap_old (Nat.ne_of_lt lt) (by rw [Heap.size_push]; exact Nat.lt_succ_of_lt lt)]
  exact Heap.get?_push_of_some _ z
/-- sorted of such a set -/
def rSortTxt (w : World) : List V → Hp → VK → Prop := fun vs H Q => ∃ (a : Addr) (S : Str → Bool) (n : Nat), vs = [V.ref a] ∧ H a = some (SetT w a S n) ∧ n < 64 ∧
  ∀ (ys : List Str) (p : Addr), ys.Nodup → (∀ k, k ∈ ys ↔ S k = true) → ys.Pairwise (fun x y => ltStr y x = false) → H p = none → Q (.ref p) (upd H p (.lst (ys.map V.str)))
theorem call_sortTxt (hc : X.calm = true) : CallR X (.builtin "sorted") (rSortTxt X.w) := by
  intro pins s σ H vs us Q I r h
  obtain ⟨a, S, n, rfl, ha, few, q⟩ := h
  rw [Vals.ref1 r]
  obtain ⟨R, _, _⟩ := (show ObjOk X.prog X.w H s.heap a (.ext fun h => TxtSet X.w h a S n) from I.hok a _ ha)
  refine sorted_txt R (I.ok.hd hc) few fun s' p out c kept gens os grown at1 txt ndp mem len srt => ?_
  obtain ⟨h', g', d', tk', os'⟩ := s'
  obtain rfl : g' = s.gens := gens
  obtain rfl : os' = s.os := os
  have hlen : ((out.map strV).map V.str).length ≤ sizeLine := by rw [List.length_map, List.length_map, len, sizeLine_eq]; omega
  have new := I.hok.fresh grown
  have I2 : Inv X pins σ (upd H p (.lst ((out.map strV).map V.str))) { s with heap := h', gens := s.gens, drawn := d', toks := tk' } :=
    I.call (ch := []) (Un.laid kept grown new) (I.hok.laid kept grown ⟨hlen, out, c, txts_of txt, at1⟩) I.bare (fun _ z => (by cases z))
  exact ⟨.ref p, _, I2, rfl, q _ p ndp mem (List.pairwise_map.mpr srt) new⟩
end
end FW
namespace FW
open PySem PySem.Spec
open Sem (wp)
section
variable {pg : Program} {w : World} {A : Around} {EE : Value → Shared → Prop} {s : Shared}
/-- the cells of the walk: three iterators, their tuple, zip's own tuple, zip -/
structure ZC (h : Heap) (m ta tb tc : Nat) (X Y Z : Array Value) (k : Nat) (Ts : List Nat) : Prop where
  st : (IsZip h (m + 5) (m + 3) (m + 4) .none ∧ k = 0) ∨ ∃ T f oT, IsZipHeld h (m + 5) (m + 3) (m + 4) T f ∧ m + 6 < T ∧ h.get? T = some oT
  its : IsTupOf3 h (m + 3) (.ref m) (.ref (m + 1)) (.ref (m + 2))
  own : ∃ p q r, IsTupOf3 h (m + 4) p q r
  i1 : h.IsTupleIter m ta k
  i2 : h.IsTupleIter (m + 1) tb k
  i3 : h.IsTupleIter (m + 2) tc k
  t1 : h.IsTuple ta X
  t2 : h.IsTuple tb Y
  t3 : h.IsTuple tc Z
  len : Ts.length = k
  new : ∀ T ∈ Ts, m + 6 < T ∧ T < h.objs.size
  nd : Ts.Nodup
  made : ∀ (j : Nat) (T : Nat), Ts[j]? = some T → ∃ x y z : Value, X[j]? = some x ∧ Y[j]? = some y ∧ Z[j]? = some z ∧ IsTupOf3 h T x y z
theorem ZC.at {h h' : Heap} {m ta tb tc : Nat} {X Y Z : Array Value} {k : Nat} {Ts : List Nat} (c : ZC h m ta tb tc X Y Z k Ts) (a1 : ta < m) (a2 : tb < m) (a3 : tc < m)
    (kp : ∀ (b : Nat) o, b ≠ m + 6 → h.get? b = some o → h'.get? b = some o) (hz : h.objs.size ≤ h'.objs.size) : ZC h' m ta tb tc X Y Z k Ts where
  st := by
    rcases c.st with ⟨a, b⟩ | ⟨T, f, oT, a, b, d⟩
    · exact .inl ⟨kp _ _ (by omega) a, b⟩
    · exact .inr ⟨T, f, oT, kp _ _ (by omega) a, b, kp _ _ (by omega) d⟩
  its := kp _ _ (by omega) c.its
  own := let ⟨p, q, r, e⟩ := c.own; ⟨p, q, r, kp _ _ (by omega) e⟩
  i1 := c.i1.at fun o e => kp _ _ (by omega) e
  i2 := c.i2.at fun o e => kp _ _ (by omega) e
  i3 := c.i3.at fun o e => kp _ _ (by omega) e
  t1 := c.t1.at fun o e => kp _ _ (by omega) e
  t2 := c.t2.at fun o e => kp _ _ (by omega) e
  t3 := c.t3.at fun o e => kp _ _ (by omega) e
  len := c.len
  new := fun T hT => ⟨(c.new T hT).1, Nat.lt_of_lt_of_le (c.new T hT).2 hz⟩
  nd := c.nd
  made := fun j T e => by
    obtain ⟨x, y, z, e1, e2, e3, e4⟩ := c.made j T e
    have := (c.new T (List.mem_of_getElem? e)).1
    exact ⟨x, y, z, e1, e2, e3, kp _ _ (by omega) e4⟩
theorem nA {a b : Nat} (h : a < b ∨ b < a) : @Ne Addr a b := fun e => by
  have e' : (a : Nat) = b := e
  omega
theorem sepZ {m ta tb tc : Nat} (a1 : ta < m) (a2 : tb < m) (a3 : tc < m) : ZipSep3 (m + 5) (m + 3) (m + 4) m (m + 1) (m + 2) [m, ta] [m + 1, tb] [m + 2, tc] := by
  constructor <;> first
    | (intro q; have q' : (_ : Nat) = _ := q; omega)
    | (simp; done)
    | (intro q; simp only [List.mem_cons, List.not_mem_nil, or_false] at q; rcases q with q | q <;> (have q' : (_ : Nat) = _ := q; omega))
/-- the next one, the one before still there -/
theorem next_held {m ta tb tc : Nat} {X Y Z : Array Value} {k T : Nat} {f : Bool} {oT : Obj} {QQ : Value → Shared → Prop} (hh : A.handled = none) (a1 : ta < m) (a2 : tb < m) (a3 : tc < m)
    (hz : IsZipHeld s.heap (m + 5) (m + 3) (m + 4) T f) (hT : s.heap.get? T = some oT) (hI : IsTupOf3 s.heap (m + 3) (.ref m) (.ref (m + 1)) (.ref (m + 2)))
    (i1 : s.heap.IsTupleIter m ta k) (i2 : s.heap.IsTupleIter (m + 1) tb k) (i3 : s.heap.IsTupleIter (m + 2) tc k) (t1 : s.heap.IsTuple ta X) (t2 : s.heap.IsTuple tb Y) (t3 : s.heap.IsTuple tc Z)
    {x y z : Value} (hx : X[k]? = some x) (hy : Y[k]? = some y) (hv : Z[k]? = some z)
    (hQ : ∀ g : Heap, IsZipHeld g (m + 5) (m + 3) (m + 4) T true → g.IsTupleIter m ta (k + 1) → g.IsTupleIter (m + 1) tb (k + 1) → g.IsTupleIter (m + 2) tc (k + 1) → IsTupOf3 g s.heap.objs.size x y z → g.objs.size = s.heap.objs.size + 1 →
      (∀ (c : Nat) o, c ≠ m + 5 → c ≠ m → c ≠ m + 1 → c ≠ m + 2 → s.heap.get? c = some o → g.get? c = some o) → QQ (.ref s.heap.objs.size) { s with heap := g }) :
    wpAny (model pg w) A (Builtin.«zip.__next__» ⟨[.ref (m + 5)], []⟩) (fun fin s' => ∃ v, fin = .done (.ret v) ∧ QQ v s') EE s := by
  (show wpAny _ _ (field (.ref (m + 5)) 2 >>= _) _ _ _); refine wpAny_bind (wpAny_field hz rfl (x := .bool false) rfl ?_)
  (show wpAny _ _ (field (.ref (m + 5)) 3 >>= _) _ _ _); refine wpAny_bind (wpAny_field hz rfl (x := .ref (m + 3)) rfl ?_)
  refine wpAny_bind (wpAny_seqItems hI rfl ?_)
  (show wpAny _ _ (Builtin.SmallTypes.ownedTupleIsFree (.ref (m + 5)) >>= _) _ _ _); refine wpAny_bind (wpAny_tupleHeld_zip hz hT fun g1 hz1 hs1 => ?_)
  (simp only [Bool.false_eq_true, if_false]); refine wpAny_bind ?_
  (rw [← Array.forIn_toList]); simp only [List.forIn_cons, List.forIn_nil]
  refine wpAny_bind (wpAny_bind (wpAny_holding ?_)); show wpAny _ _ (Builtin.SmallTypes.nextOf (.ref m) >>= _) _ _ _
  refine wpAny_bind (wpAny_nextOf_tuple_item (s := { s with heap := g1 }) (i1.extBut hs1.extBut (nA (by omega))) (t1.extBut hs1.extBut (nA (by omega))) hx fun g2 j1 hs2 => wpAny_pure ?_); refine wpAny_pure ?_
  refine wpAny_bind (wpAny_bind (wpAny_holding ?_)); show wpAny _ _ (Builtin.SmallTypes.nextOf (.ref (m + 1)) >>= _) _ _ _
  refine wpAny_bind (wpAny_nextOf_tuple_item (s := { s with heap := g2 }) ((i2.extBut hs1.extBut (nA (by omega))).extBut hs2.extBut (nA (by omega))) ((t2.extBut hs1.extBut (nA (by omega))).extBut hs2.extBut (nA (by omega))) hy fun g3 j2 hs3 => wpAny_pure ?_); refine wpAny_pure ?_
  refine wpAny_bind (wpAny_bind (wpAny_holding ?_)); show wpAny _ _ (Builtin.SmallTypes.nextOf (.ref (m + 2)) >>= _) _ _ _
  refine wpAny_bind (wpAny_nextOf_tuple_item (s := { s with heap := g3 }) (((i3.extBut hs1.extBut (nA (by omega))).extBut hs2.extBut (nA (by omega))).extBut hs3.extBut (nA (by omega))) (((t3.extBut hs1.extBut (nA (by omega))).extBut hs2.extBut (nA (by omega))).extBut hs3.extBut (nA (by omega))) hv fun g4 j3 hs4 => wpAny_pure ?_); refine wpAny_pure (wpAny_pure ?_)
  (show wpAny _ _ (newTuple [x, y, z] >>= _) _ _ _); refine wpAny_bind (wpAny_newTuple ?_)
  have hsz : g4.objs.size = s.heap.objs.size := by rw [hs4.1, hs3.1, hs2.1, hs1.1]
  have kp : ∀ (c : Nat) o, c ≠ m + 5 → c ≠ m → c ≠ m + 1 → c ≠ m + 2 → s.heap.get? c = some o → g4.get? c = some o := fun c o c1 c2 c3 c4 e => hs4.extBut _ _ c4 (hs3.extBut _ _ c3 (hs2.extBut _ _ c2 (hs1.extBut _ _ c1 e)))
  have hz4 : IsZipHeld g4 (m + 5) (m + 3) (m + 4) T true := hs4.extBut _ _ (nA (by omega)) (hs3.extBut _ _ (nA (by omega)) (hs2.extBut _ _ (nA (by omega)) hz1))
  have j1' := (j1.extBut hs3.extBut (nA (by omega))).extBut hs4.extBut (nA (by omega))
  have j2' := j2.extBut hs4.extBut (nA (by omega))
  refine wpAny_pure ⟨_, rfl, ?_⟩; show QQ (.ref g4.objs.size) _
  have hn : IsTupOf3 (g4.push { cls := .type "tuple", data := .seq #[x, y, z] }) g4.objs.size x y z := Heap.get?_push_size _ rfl
  have hp : (g4.push { cls := .type "tuple", data := .seq #[x, y, z] }).objs.size = g4.objs.size + 1 := Heap.size_push ..
  rw [hsz] at hn hp ⊢
  exact hQ _ (Heap.get?_push_of_some _ hz4) (j1'.at fun o e => Heap.get?_push_of_some _ e) (j2'.at fun o e => Heap.get?_push_of_some _ e) (j3.at fun o e => Heap.get?_push_of_some _ e) hn hp fun c o c1 c2 c3 c4 e => Heap.get?_push_of_some _ (kp c o c1 c2 c3 c4 e)
/-- the end, the one before still there -/
theorem next_held_end {m ta tb tc : Nat} {X : Array Value} {k T : Nat} {f : Bool} {oT : Obj} {QQ : Fin → Shared → Prop} (hh : A.handled = none) (a1 : ta < m)
    (hz : IsZipHeld s.heap (m + 5) (m + 3) (m + 4) T f) (hT : s.heap.get? T = some oT) (hI : IsTupOf3 s.heap (m + 3) (.ref m) (.ref (m + 1)) (.ref (m + 2)))
    (i1 : s.heap.IsTupleIter m ta k) (t1 : s.heap.IsTuple ta X) (hx : X[k]? = none)
    (hE : ∀ g e, (∀ (c : Nat) o, c ≠ m + 5 → c ≠ m → s.heap.get? c = some o → g.get? c = some o) → (∃ o, g.get? e = some o ∧ o.cls = .type "StopIteration") → EE (.ref e) { s with heap := g }) :
    wpAny (model pg w) A (Builtin.«zip.__next__» ⟨[.ref (m + 5)], []⟩) QQ EE s := by
  (show wpAny _ _ (field (.ref (m + 5)) 2 >>= _) _ _ _); refine wpAny_bind (wpAny_field hz rfl (x := .bool false) rfl ?_)
  (show wpAny _ _ (field (.ref (m + 5)) 3 >>= _) _ _ _); refine wpAny_bind (wpAny_field hz rfl (x := .ref (m + 3)) rfl ?_)
  refine wpAny_bind (wpAny_seqItems hI rfl ?_)
  (show wpAny _ _ (Builtin.SmallTypes.ownedTupleIsFree (.ref (m + 5)) >>= _) _ _ _); refine wpAny_bind (wpAny_tupleHeld_zip hz hT fun g1 hz1 hs1 => ?_)
  (simp only [Bool.false_eq_true, if_false]); refine wpAny_bind ?_
  (rw [← Array.forIn_toList]); simp only [List.forIn_cons, List.forIn_nil]
  refine wpAny_bind (wpAny_bind (wpAny_holding ?_)); show wpAny _ _ (Builtin.SmallTypes.nextOf (.ref m) >>= _) _ _ _
  exact wpAny_bind (wpAny_nextOf_tuple_end (s := { s with heap := g1 }) hh (i1.extBut hs1.extBut (nA (by omega))) (t1.extBut hs1.extBut (nA (by omega))) hx fun g2 e hs2 he =>
    hE g2 e (fun c o c1 c2 x => hs2 _ _ c2 (hs1.extBut _ _ c1 x)) he)
/-- a turn -/
theorem zc_item {m ta tb tc : Nat} {X Y Z : Array Value} {k : Nat} {Ts : List Nat} {QQ : Option Value → Shared → Prop} (hh : A.handled = none) (c : ZC s.heap m ta tb tc X Y Z k Ts) (a1 : ta < m) (a2 : tb < m) (a3 : tc < m)
    (hY : Y.size = X.size) (hZ : Z.size = X.size) (hk : k < X.size) (h6 : m + 6 < s.heap.objs.size)
    (hQ : ∀ (g : Heap) (tk : Nat), ZC g m ta tb tc X Y Z (k + 1) (Ts ++ [s.heap.objs.size]) → g.objs.size = s.heap.objs.size + 1 → (∀ (b : Nat) o, (b < m ∨ b = m + 6) → s.heap.get? b = some o → g.get? b = some o) → QQ (some (.ref s.heap.objs.size)) { s with heap := g, toks := tk }) :
    wpAny (model pg w) A (pyNext (.ref (m + 5))) QQ EE s := by
  have ex : X[k]? = some X[k] := Array.getElem?_eq_getElem hk
  have ey : Y[k]? = some (Y[k]'(by omega)) := Array.getElem?_eq_getElem (by omega)
  have ez : Z[k]? = some (Z[k]'(by omega)) := Array.getElem?_eq_getElem (by omega)
  have fin : ∀ (g : Heap) (tk : Nat) (x y z : Value), X[k]? = some x → Y[k]? = some y → Z[k]? = some z → (∃ f, IsZipHeld g (m + 5) (m + 3) (m + 4) s.heap.objs.size f ∨ ∃ T oT, IsZipHeld g (m + 5) (m + 3) (m + 4) T f ∧ m + 6 < T ∧ g.get? T = some oT) → (∃ p q r, IsTupOf3 g (m + 4) p q r) →
      g.IsTupleIter m ta (k + 1) → g.IsTupleIter (m + 1) tb (k + 1) → g.IsTupleIter (m + 2) tc (k + 1) → IsTupOf3 g s.heap.objs.size x y z → g.objs.size = s.heap.objs.size + 1 →
      (∀ (b : Nat) o, b ≠ m + 5 → b ≠ m + 4 → b ≠ m → b ≠ m + 1 → b ≠ m + 2 → s.heap.get? b = some o → g.get? b = some o) → QQ (some (.ref s.heap.objs.size)) { s with heap := g, toks := tk } := by
    intro g tk x y z e1 e2 e3 zs ow j1 j2 j3 hn hs kp
    refine hQ g tk ⟨?_, kp _ _ (by omega) (by omega) (by omega) (by omega) (by omega) c.its, ow, j1, j2, j3, c.t1.at fun o e => kp _ _ (by omega) (by omega) (by omega) (by omega) (by omega) e, c.t2.at fun o e => kp _ _ (by omega) (by omega) (by omega) (by omega) (by omega) e,
      c.t3.at fun o e => kp _ _ (by omega) (by omega) (by omega) (by omega) (by omega) e, by simp [c.len], ?_, ?_, ?_⟩ hs fun b o hb e => kp b o (by omega) (by omega) (by omega) (by omega) (by omega) e
    · obtain ⟨f, zs | ⟨T, oT, z1, z2, z3⟩⟩ := zs
      · exact .inr ⟨_, f, _, zs, h6, hn⟩
      · exact .inr ⟨T, f, oT, z1, z2, z3⟩
    · intro T hT
      rcases List.mem_append.mp hT with hT | hT
      · have := c.new T hT
        omega
      · rw [List.mem_singleton.mp hT]
        omega
    · rw [List.nodup_append]
      refine ⟨c.nd, by simp, fun a ha b hb => ?_⟩
      have := (c.new a ha).2
      rw [List.mem_singleton.mp hb]
      omega
    · intro j T e
      by_cases hj : j < Ts.length
      · rw [List.getElem?_append_left hj] at e
        obtain ⟨x', y', z', q1, q2, q3, q4⟩ := c.made j T e
        have := (c.new T (List.mem_of_getElem? e)).1
        exact ⟨x', y', z', q1, q2, q3, kp _ _ (by omega) (by omega) (by omega) (by omega) (by omega) q4⟩
      · rw [List.getElem?_append_right (by omega)] at e
        have hj0 : j - Ts.length = 0 := by
          rcases Nat.eq_zero_or_pos (j - Ts.length) with h | h
          · exact h
          · rw [List.getElem?_eq_none (by simp; omega)] at e
            cases e
        rw [hj0] at e
        cases e
        have : j = k := by have := c.len; omega
        subst this
        exact ⟨x, y, z, e1, e2, e3, hn⟩
  rcases c.st with ⟨hz, hk0⟩ | ⟨T, f, oT, hz, hT1, hT⟩
  · obtain ⟨p, q, r, ho⟩ := c.own
    refine wpAny_pyNext_zipD3_item (sepZ a1 a2 a3) (Draws.tuple (A := A.in1) hh m ta (nA (by omega)) X) (Draws.tuple (A := A.in1) hh (m + 1) tb (nA (by omega)) Y) (Draws.tuple (A := A.in1) hh (m + 2) tc (nA (by omega)) Z) hz c.its ho (i := k) ⟨c.i1, c.t1⟩ ⟨c.i2, c.t2⟩ ⟨c.i3, c.t3⟩ hk (by omega) (by omega) ?_
    intro x y z g tk e1 e2 e3 z1 z2 s1 s2 s3 hn hs kp
    exact fin g tk x y z e1 e2 e3 ⟨false, .inl z1⟩ ⟨_, _, _, z2⟩ s1.1 s2.1 s3.1 hn hs fun b o b1 b2 b3 b4 b5 e => kp b o b1 b2 b3 b4 b5 e
  · have hTy : s.TypeIs (.ref (m + 5)) "zip" := ⟨_, hz, rfl⟩
    unfold pyNext
    refine wpAny_bind (wpAny_attempt (wpAny_callSpecial?_slot (name := Str.ofString "__next__") hTy F.slot_zip_next (wpAny_call_entry F.slot_zip_next hTy F.entry_zip_next (next_held hh a1 a2 a3 hz hT c.its c.i1 c.i2 c.i3 c.t1 c.t2 c.t3 ex ey ez
      fun g z1 j1 j2 j3 hn hs kp => ?_) (F.args_zip_next_1 _))))
    have hlt := Heap.lt_size hT
    exact wpAny_pure (fin g s.toks _ _ _ ex ey ez ⟨true, .inr ⟨T, oT, z1, hT1, kp _ _ (by omega) (by omega) (by omega) (by omega) hT⟩⟩ (let ⟨p, q, r, e⟩ := c.own; ⟨p, q, r, kp _ _ (by omega) (by omega) (by omega) (by omega) e⟩) j1 j2 j3 hn hs fun b o b1 b2 b3 b4 b5 e => kp b o b1 b3 b4 b5 e)
theorem zc_done {m ta tb tc : Nat} {X Y Z : Array Value} {Ts : List Nat} {QQ : Option Value → Shared → Prop} (hh : A.handled = none) (c : ZC s.heap m ta tb tc X Y Z X.size Ts) (a1 : ta < m) (a2 : tb < m) (a3 : tc < m)
    (hY : Y.size = X.size) (hZ : Z.size = X.size) (hQ : ∀ (g : Heap) (tk : Nat), (∀ (b : Nat) o, (b < m ∨ m + 6 ≤ b) → s.heap.get? b = some o → g.get? b = some o) → QQ none { s with heap := g, toks := tk }) :
    wpAny (model pg w) A (pyNext (.ref (m + 5))) QQ EE s := by
  rcases c.st with ⟨hz, hk0⟩ | ⟨T, f, oT, hz, hT1, hT⟩
  · obtain ⟨p, q, r, ho⟩ := c.own
    exact wpAny_pyNext_zipD3_end (sepZ a1 a2 a3) (Draws.tuple (A := A.in1) hh m ta (nA (by omega)) X) (Draws.tuple (A := A.in1) hh (m + 1) tb (nA (by omega)) Y) (Draws.tuple (A := A.in1) hh (m + 2) tc (nA (by omega)) Z) hz c.its ho (i := X.size) ⟨c.i1, c.t1⟩ ⟨c.i2, c.t2⟩ ⟨c.i3, c.t3⟩ (Nat.le_refl _) (by omega) (by omega) (.inl rfl)
      fun g tk kp => hQ g tk fun b o hb e => kp b o (nA (by omega)) (nA (by omega)) (nA (by omega)) (nA (by omega)) (nA (by omega)) e
  · have hTy : s.TypeIs (.ref (m + 5)) "zip" := ⟨_, hz, rfl⟩
    unfold pyNext
    refine wpAny_bind (wpAny_attempt (wpAny_callSpecial?_slot (name := Str.ofString "__next__") hTy F.slot_zip_next (wpAny_call_entry F.slot_zip_next hTy F.entry_zip_next (next_held_end (tb := tb) (tc := tc) hh a1 hz hT c.its c.i1 c.t1 (by simp)
      fun g e kp he => ?_) (F.args_zip_next_1 _))))
    obtain ⟨o, ho, hc⟩ := he
    exact wpAny_bind (wpAny_isInstance (T := "StopIteration") (b := true) ⟨o, ho, hc⟩ isSubtype_stop (wpAny_pure (hQ g s.toks fun b o hb e => kp b o (by omega) (by omega) e)))
/-- what is left in the end -/
def ZFin (h g : Heap) (m : Nat) (X Y Z : Array Value) : Prop := ∃ (Ts : List Nat) (c : Nat), g.get? (m + 6) = some { cls := .type "list", dict := none, data := .seq (Ts.map fun T => Value.ref T).toArray c, slots := #[] } ∧ Ts.length = X.size ∧ (∀ T ∈ Ts, m + 6 < T) ∧ Ts.Nodup ∧
  (∀ (j : Nat) (T : Nat), Ts[j]? = some T → ∃ x y z : Value, X[j]? = some x ∧ Y[j]? = some y ∧ Z[j]? = some z ∧ IsTupOf3 g T x y z) ∧ ∀ (b : Nat) o, b < m → h.get? b = some o → g.get? b = some o
theorem extend_zip {R : Result → Shared → Prop} {m ta tb tc : Nat} {X Y Z : Array Value} (hh : A.in1.handled = none) (a1 : ta < m) (a2 : tb < m) (a3 : tc < m) (hY : Y.size = X.size) (hZ : Z.size = X.size) (hn : X.size ≤ sizeLine) (res : Value) :
    ∀ (r k : Nat) (s : Shared) (Ts : List Nat), X.size - k = r → k ≤ X.size → ZC s.heap m ta tb tc X Y Z k Ts → (∃ c, s.heap.get? (m + 6) = some { cls := .type "list", dict := none, data := .seq (Ts.map fun T => Value.ref T).toArray c, slots := #[] }) →
    (∀ g tk, ZFin s.heap g m X Y Z → R (.ok (.ret res)) { s with heap := g, toks := tk }) → codeAny (model pg w) A (.builtin "list.extend.loop" ⟨[.ref (m + 6), .ref (m + 5), res], []⟩) R s := by
  intro r
  induction r with
  | zero =>
    intro k s Ts hk hle C ⟨c, hS⟩ hR
    obtain rfl : k = X.size := by omega
    refine codeAny_builtin F.entry_extend_loop ?_; rw [Around.under_plainId F.plain_extend_loop _]
    (show wpAny _ A.in1 (pyNext (.ref (m + 5)) >>= _) _ _ s); refine wpAny_bind (zc_done hh C a1 a2 a3 hY hZ fun g tk kp => ?_)
    refine wpAny_pure (hR g tk ⟨Ts, c, kp _ _ (by omega) hS, C.len, fun T hT => (C.new T hT).1, C.nd, fun j T e => ?_, fun b o hb e => kp _ _ (.inl hb) e⟩)
    obtain ⟨x, y, z, q1, q2, q3, q4⟩ := C.made j T e
    have := (C.new T (List.mem_of_getElem? e)).1
    exact ⟨x, y, z, q1, q2, q3, kp _ _ (by omega) q4⟩
  | succ r ih =>
    intro k s Ts hk hle C ⟨c, hS⟩ hR
    have h6 : m + 6 < s.heap.objs.size := Heap.lt_size hS
    refine codeAny_builtin F.entry_extend_loop ?_; rw [Around.under_plainId F.plain_extend_loop _]
    (show wpAny _ A.in1 (pyNext (.ref (m + 5)) >>= _) _ _ s); refine wpAny_bind (zc_item hh C a1 a2 a3 hY hZ (by omega) h6 fun g tk C' hg kp => ?_)
    have hS' := kp _ _ (.inr rfl) hS
    (show wpAny _ A.in1 (updateSeq (m + 6) (·.push (Value.ref s.heap.objs.size)) >>= _) _ _ _); refine wpAny_bind ?_
    have e1 : (Ts.map fun T => Value.ref T).toArray.push (Value.ref s.heap.objs.size) = ((Ts ++ [s.heap.objs.size]).map fun T => Value.ref T).toArray := by simp
    have up := Heap.SameBut.update (m + 6) (Obj.mapSeq (·.push (Value.ref s.heap.objs.size))) (h := g)
    refine wpAny_updateSeq hS' rfl (wpAny_pure ⟨plainId_quiet F.plain_extend_loop _, ih (k + 1) _ (Ts ++ [s.heap.objs.size]) (by omega) (by omega) (C'.at a1 a2 a3 (fun b o hb e => up.extBut b o hb e) (Nat.le_of_eq up.1.symm)) ?_ fun g2 tk2 Z2 => ?_⟩)
      (by simp [C.len]; omega) (by simp [C.len]; omega)
    · rw [← e1]
      exact ⟨_, Heap.get?_update_self _ hS' rfl⟩
    · obtain ⟨Us, c2, u1, u2, u3, u4, u5, u6⟩ := Z2
      exact hR g2 tk2 ⟨Us, c2, u1, u2, u3, u4, u5, fun b o hb e => u6 b o hb (up.extBut b o (nA (by omega)) (kp b o (.inl hb) e))⟩
theorem nolen_zip : typeLookup (.type "zip") "__len__" = pure none := by rw [typeLookup_type, builtinLookup_eq_fast]; kernel_rfl
theorem nohint_zip : typeLookup (.type "zip") "__length_hint__" = pure none := by rw [typeLookup_type, builtinLookup_eq_fast]; kernel_rfl
theorem list_zip {m ta tb tc : Nat} {X Y Z : Array Value} {QQ : Value → Shared → Prop} (hh : A.handled = none) (a1 : ta < m) (a2 : tb < m) (a3 : tc < m) (hY : Y.size = X.size) (hZ : Z.size = X.size) (hn : X.size ≤ sizeLine)
    (C : ZC s.heap m ta tb tc X Y Z 0 []) (hz0 : IsZip s.heap (m + 5) (m + 3) (m + 4) .none) (hm : s.heap.objs.size = m + 6) (hQ : ∀ g tk, ZFin s.heap g m X Y Z → QQ (.ref (m + 6)) { s with heap := g, toks := tk }) :
    wpAny (model pg w) A (call (.type "list") [.ref (m + 5)]) QQ EE s := by
  obtain ⟨hp, gn, d, tk0, os⟩ := s
  have hm : hp.objs.size = m + 6 := hm
  have hz0 : IsZip hp (m + 5) (m + 3) (m + 4) .none := hz0
  refine callType_codes (Q₁ := fun obj s₁ => obj = .ref hp.objs.size ∧ s₁ = ⟨hp.push { cls := .type "list", data := .seq #[] }, gn, d, tk0, os⟩) F.called_list (F.typeCall_list_1 _) F.entry_list_init (code_list_new _ ⟨rfl, rfl⟩) fun obj s₁ h₁ => ?_
  obtain ⟨rfl, rfl⟩ := h₁
  have hS : (hp.push { cls := .type "list", data := .seq #[] }).get? hp.objs.size = some { cls := .type "list", data := .seq #[] } := Heap.get?_push_size _ rfl
  refine ⟨⟨_, hS, rfl⟩, F.args_list_init_2 _ _, ?_⟩
  rw [hm] at hS ⊢
  have hT : ∀ (h : Heap), ZC h m ta tb tc X Y Z 0 [] → ∀ gn d tk os, (⟨h, gn, d, tk, os⟩ : Shared).TypeIs (.ref (m + 5)) "zip" := fun h C gn d tk os => by
    rcases C.st with ⟨z, _⟩ | ⟨T, f, oT, z, _, _⟩
    · exact ⟨_, z, rfl⟩
    · exact ⟨_, z, rfl⟩
  have hz1 : (hp.push { cls := .type "list", data := .seq #[] }).objs.size = m + 7 := by rw [Heap.size_push, hm]
  have C1 : ZC (hp.push { cls := .type "list", data := .seq #[] }) m ta tb tc X Y Z 0 [] := C.at a1 a2 a3 (fun b o _ e => Heap.get?_push_of_some _ e) (by rw [hz1, hm]; omega)
  generalize hH : hp.push { cls := .type "list", data := .seq #[] } = H1 at hS C1 hz1
  have k0 : ∀ (b : Nat) o, hp.get? b = some o → H1.get? b = some o := fun b o e => by rw [← hH]; exact Heap.get?_push_of_some _ e
  clear hH
  (show wpAny _ _ (do let old ← Builtin.List.listItems (.ref (m + 6)); Builtin.List.listUpdate (.ref (m + 6)) (fun _ => #[]); letGo old.toList.reverse; Builtin.List.listExtendWith (.ref (m + 6)) (.ref (m + 5)) .none) _ _ _); refine wpAny_bind ?_
  unfold Builtin.List.listItems; refine wpAny_bind (wpAny_seqItems hS rfl (wpAny_pure ?_))
  (show wpAny _ _ (updateSeq (m + 6) (fun _ => #[]) >>= fun _ => letGo (#[] : Array Value).toList.reverse >>= fun _ => Builtin.List.listExtendWith (.ref (m + 6)) (.ref (m + 5)) .none) _ _ _); refine wpAny_bind (wpAny_updateSeq hS rfl ?_)
  have hS2 := Heap.get?_update_self (Obj.mapSeq (fun _ => (#[] : Array Value))) hS rfl
  have u2 := Heap.SameBut.update (m + 6) (Obj.mapSeq (fun _ => (#[] : Array Value))) (h := H1)
  have C2 := C1.at a1 a2 a3 (fun b o hb e => u2.extBut b o hb e) (Nat.le_of_eq u2.1.symm)
  have k1 : ∀ (b : Nat) o, b ≠ m + 6 → hp.get? b = some o → (H1.update (m + 6) (Obj.mapSeq (fun _ => (#[] : Array Value)))).get? b = some o := fun b o hb e => u2.extBut b o hb (k0 b o e)
  generalize (H1.update (m + 6) (Obj.mapSeq (fun _ => (#[] : Array Value)))) = H2 at hS2 C2 k1
  clear u2 C1 hS k0
  refine wpAny_bind (wpAny_letGo ?_)
  unfold Builtin.List.listExtendWith
  refine wpAny_bind (wpAny_typeOf (hT _ C2 _ _ _ _) ?_)
  have h1 : Builtin.List.listSameRef (.ref (m + 6)) (.ref (m + 5)) = false := by simp [Builtin.List.listSameRef]
  have h2 : (Value.type "zip" == Value.type "list") = false := by decide
  have h3 : (Value.type "zip" == Value.type "tuple") = false := by decide
  (simp only [h1, h2, h3, Bool.or_false, Bool.false_eq_true, if_false]); refine wpAny_bind ?_
  have self : ∀ {Q : Value → Shared → Prop} {E : Value → Shared → Prop} {A : Around}, Q (.ref (m + 5)) ⟨H2, gn, d, tk0, os⟩ → wpAny (model pg w) A (pyIter (.ref (m + 5))) Q E ⟨H2, gn, d, tk0, os⟩ := fun h => wpAny_pyIter_zip (k1 _ _ (by omega) hz0) h
  refine self ?_
  refine wpAny_bind (wpAny_holding ?_); unfold Builtin.List.listLengthHint
  refine wpAny_bind (wpAny_specialOf (hT _ C2 _ _ _ _) nolen_zip ?_)
  (show wpAny _ _ (specialOf (Value.ref (m + 5)) (Str.ofString "__length_hint__") >>= _) _ _ _); refine wpAny_bind (wpAny_specialOf (hT _ C2 _ _ _ _) nohint_zip (wpAny_pure ?_))
  (show wpAny _ _ (rule "list.extend.makes-room" >>= fun _ => Builtin.List.listTouch (.ref (m + 6)) >>= fun _ => again (.builtin "list.extend.loop" ⟨[.ref (m + 6), .ref (m + 5), .none], []⟩)) _ _ _); refine wpAny_bind (wpAny_rule (wpAny_bind ?_))
  (show wpAny _ _ (updateSeq (m + 6) (·.push .none) >>= fun _ => updateSeq (m + 6) (·.pop)) _ _ _); refine wpAny_bind (wpAny_updateSeq hS2 rfl ?_)
  have hS3 := Heap.get?_update_self (Obj.mapSeq (·.push Value.none)) hS2 rfl
  have u3 := Heap.SameBut.update (m + 6) (Obj.mapSeq (·.push Value.none)) (h := H2)
  refine wpAny_updateSeq (hz := by seq_fits) hS3 rfl ?_
  have hS4 := Heap.get?_update_self (Obj.mapSeq (·.pop)) hS3 rfl
  have u4 := Heap.SameBut.update (m + 6) (Obj.mapSeq (·.pop)) (h := H2.update (m + 6) (Obj.mapSeq (·.push Value.none)))
  have C3 := C2.at a1 a2 a3 (fun b o hb e => u4.extBut b o hb (u3.extBut b o hb e)) (Nat.le_of_eq (by rw [u4.1, u3.1]))
  refine wpAny_pure ⟨plainId_quiet F.plain_extend_loop _, extend_zip (A := A.in1) hh a1 a2 a3 hY hZ hn _ _ 0 _ [] rfl (Nat.zero_le _) C3 ⟨_, hS4⟩ fun g tk Zf => ?_⟩
  obtain ⟨Us, c2, v1, v2, v3, v4, v5, v6⟩ := Zf
  exact ⟨rfl, hQ g tk ⟨Us, c2, v1, v2, v3, v4, v5, fun b o hb e => v6 b o hb (u4.extBut b o (nA (by omega)) (u3.extBut b o (nA (by omega)) (k1 b o (by omega) e)))⟩⟩
end
end FW
namespace FW
open PySem PySem.Spec PyProof.Rows L2
theorem hok_new {P : Program} {w : World} {H : Hp} {h : Heap} {a : Addr} {o : HO} (x : HOk P w H h) (hn : H a = none) (new : ObjOk P w (upd H a o) h a o) : HOk P w (upd H a o) h := by
  intro b u e
  by_cases hb : b = a
  · subst hb; rw [upd_same] at e
    injection e with e
    exact e ▸ new
  · rw [upd_ne hb] at e
    refine (x b u e).stay (fun _ _ _ q => q) (fun c q => ?_) fun c xs q => ?_
    · rw [upd_ne (ne_of_none q hn)]; exact q
    · rw [upd_ne (ne_of_none q hn)]; exact q
theorem n6 {a b : Nat} (h : b < a) : @Ne Addr b (a + 6) := nA (by omega)
/-- tuples laid -/
def layT (H : Hp) : List (Nat × List V) → Hp
  | [] => H
  | p :: r => layT (upd H p.1 (.tup p.2)) r
theorem layT_none {a : Nat} : ∀ {l : List (Nat × List V)} {H : Hp}, H a = none → a ∉ l.map (·.1) → layT H l a = none
  | [], _, h, _ => h
  | p :: r, H, h, n => by
    simp only [List.map_cons, List.mem_cons, not_or] at n
    exact layT_none (l := r) (H := upd H p.1 (.tup p.2)) (by rw [upd_ne n.1]; exact h) n.2
theorem layT_some {a : Nat} {u : HO} : ∀ {l : List (Nat × List V)} {H : Hp}, H a = some u → a ∉ l.map (·.1) → layT H l a = some u
  | [], _, h, _ => h
  | p :: r, H, h, n => by
    simp only [List.map_cons, List.mem_cons, not_or] at n
    exact layT_some (l := r) (H := upd H p.1 (.tup p.2)) (by rw [upd_ne n.1]; exact h) n.2
theorem layT_mem {q : Nat × List V} : ∀ {l : List (Nat × List V)} {H : Hp}, (l.map (·.1)).Nodup → q ∈ l → layT H l q.1 = some (.tup q.2)
  | p :: r, H, nd, hq => by
    rw [List.map_cons, List.nodup_cons] at nd
    rcases List.mem_cons.mp hq with rfl | hq
    · exact layT_some (l := r) (H := upd H q.1 (.tup q.2)) upd_same nd.1
    · exact layT_mem (l := r) (H := upd H p.1 (.tup p.2)) nd.2 hq
theorem ext_layT {K : PySem.W.Frag} {g : Gh} {d : DS} : ∀ {l : List (Nat × List V)} {H : Hp}, GOk K H g d → (∀ q ∈ l, H q.1 = none) → (l.map (·.1)).Nodup → Ext H g (layT H l) g ∧ GOk K (layT H l) g d
  | [], H, G, _, _ => ⟨.refl _ _, G⟩
  | p :: r, H, G, hn, nd => by
    rw [List.map_cons, List.nodup_cons] at nd
    have hp := hn p List.mem_cons_self
    obtain ⟨e, G'⟩ := ext_layT (l := r) (G.alloc (o := .tup p.2) hp) (fun q hq => by
      rw [upd_ne (fun z => nd.1 (by rw [← z]; exact List.mem_map.mpr ⟨q, hq, rfl⟩))]
      exact hn q (List.mem_cons_of_mem _ hq)) nd.2
    exact ⟨(Ext.alloc G hp).trans e, G'⟩
theorem hok_layT {P : Program} {w : World} {h : Heap} : ∀ {l : List (Nat × List V)} {H : Hp}, HOk P w H h → (∀ q ∈ l, H q.1 = none) → (l.map (·.1)).Nodup → (∀ q ∈ l, q.2.length ≤ sizeLine ∧ ∃ its : List Value, Vals q.2 its ∧ IsTup h q.1 its.toArray) → HOk P w (layT H l) h
  | [], H, x, _, _, _ => x
  | p :: r, H, x, hn, nd, ht => by
    rw [List.map_cons, List.nodup_cons] at nd
    exact hok_layT (l := r) (hok_new x (hn p List.mem_cons_self) (ht p List.mem_cons_self)) (fun q hq => by
      rw [upd_ne (fun z => nd.1 (by rw [← z]; exact List.mem_map.mpr ⟨q, hq, rfl⟩))]
      exact hn q (List.mem_cons_of_mem _ hq)) nd.2 fun q hq => ht q (List.mem_cons_of_mem _ hq)
def z3 : List V → List V → List V → List (List V)
  | a :: as, b :: bs, c :: cs => [a, b, c] :: z3 as bs cs
  | _, _, _ => []
theorem z3_len : ∀ {x y z : List V}, y.length = x.length → z.length = x.length → (z3 x y z).length = x.length
  | [], _, _, _, _ => by simp [z3]
  | a :: as, [], _, h, _ => by cases h
  | a :: as, _ :: _, [], _, h => by cases h
  | a :: as, b :: bs, c :: cs, h1, h2 => by
    simp only [List.length_cons] at h1 h2
    simp only [z3, List.length_cons]
    rw [z3_len (by omega) (by omega)]
theorem z3_at : ∀ {x y z : List V} {j : Nat} {q : List V}, (z3 x y z)[j]? = some q → ∃ a b c, x[j]? = some a ∧ y[j]? = some b ∧ z[j]? = some c ∧ q = [a, b, c]
  | [], _, _, j, q, h => by simp [z3] at h
  | a :: as, [], _, j, q, h => by simp [z3] at h
  | a :: as, _ :: _, [], j, q, h => by simp [z3] at h
  | a :: as, b :: bs, c :: cs, 0, q, h => by
    simp [z3] at h
    exact ⟨a, b, c, rfl, rfl, rfl, h.symm⟩
  | a :: as, b :: bs, c :: cs, j + 1, q, h => by
    simp only [z3, List.getElem?_cons_succ] at h ⊢
    exact z3_at h
theorem vals_at : ∀ {xs : List V} {us : List Value} {j : Nat} {x : V} {u : Value}, Vals xs us → xs[j]? = some x → us[j]? = some u → L2.RelV x u
  | _, _, 0, x, u, .cons r _, h1, h2 => by
    cases h1
    cases h2
    exact r
  | _, _, j + 1, x, u, .cons _ r, h1, h2 => vals_at r (by simpa using h1) (by simpa using h2)
/-- what is asked of list(zip(x, y, z)) -/
def rLZ (K : PySem.W.Frag) : List V → Hp → VK → Prop := fun vs H Q => ∃ (ta tb tc : Addr) (x y z : List V), vs = [.ref ta, .ref tb, .ref tc] ∧ SqT K H ta x ∧ SqT K H tb y ∧ SqT K H tc z ∧ y.length = x.length ∧ z.length = x.length ∧
  ∀ (Ts : List Nat) (L : Nat), Ts.length = x.length → Ts.Nodup → L ∉ Ts → (∀ T ∈ Ts, H T = none) → H L = none → Q (.ref L) (upd (layT H (Ts.zip (z3 x y z))) L (.lst (Ts.map .ref)))
theorem vrefs : ∀ Ts : List Nat, Vals (Ts.map .ref) (Ts.map fun T => Value.ref T)
  | [] => .nil
  | _ :: Ts => .cons rfl (vrefs Ts)
section
variable {X : Cx} {e1 e2 e3 : Expr} {t : TA} {p p2 q pos : Pos}
theorem pe_lzip3 (hc : X.calm = true) (g1 : Gl X ("list" : Str)) (m1 : X.mg ("list" : Str) = none) (g2 : Gl X ("zip" : Str)) (m2 : X.mg ("zip" : Str) = none) (hi : starEach [.Call (.Name ("zip" : Str) p2) [e1, e2, e3] [] q] X.env = [(false, eval (.Call (.Name ("zip" : Str) p2) [e1, e2, e3] [] q) X.env)])
    (ha : PA X [e1, e2, e3] t) (he : starEach [e1, e2, e3] X.env = (false, eval e1 X.env) :: starEach [e2, e3] X.env) (hpl : (backTo q (starEach [e2, e3] X.env)).any (·.1) = false) :
    PE X (.Call (.Name ("list" : Str) p) [.Call (.Name ("zip" : Str) p2) [e1, e2, e3] [] q] [] pos) (tCB (rLZ X.K) t) := by
  have bz : bootBuiltins ("zip" : Str) = some (.type "zip") := by decide +kernel
  refine ⟨fun pins s σ H Q I h => ?_⟩
  refine wpAny_Call_Name_kw (ld_blt I g1 m1 PyProof.Rows.boot_list ?_ (by decide) (by decide))
  refine PyProof.Rows.callWith_type1 ?_ hi rfl
  rw [hi]
  show wpAny _ _ (spliced [(false, eval (.Call (.Name ("zip" : Str) p2) [e1, e2, e3] [] q) X.env)]) _ _ s
  refine Calls.spliced_cons ?_
  refine wpAny_Call_Name_kw (ld_blt I g2 m2 bz ?_ (by decide) (by decide))
  refine PyProof.Rows.callWith_type1 (thn (ha.run q pins s σ H _ I h) fun us s1 ⟨vs, H1, I1, r1, q1⟩ => ?_) he hpl
  obtain ⟨ta, tb, tc, x, y, z, rfl, sx, sy, sz, ly, lz, hq⟩ := q1
  obtain ⟨ix, vx, px, zx⟩ := I1.tuple sx
  obtain ⟨iy, vy, py, zy⟩ := I1.tuple sy
  obtain ⟨iz, vz, pz, zz⟩ := I1.tuple sz
  have hus : us = [.ref ta, .ref tb, .ref tc] := by
    cases r1 with
    | cons a r => cases r with
      | cons b r => cases r with
        | cons c r =>
          cases r
          have a' := a; have b' := b; have c' := c
          simp only [L2.RelV] at a' b' c'
          rw [a', b', c']
  subst hus
  have hh : X.A.handled = none := I1.ok.hd hc
  have lx := vx.length
  have lY := vy.length
  have lZ := vz.length
  have at1 : ta < s1.heap.objs.size := by obtain ⟨o, e, _⟩ := px; exact Heap.lt_size e
  have at2 : tb < s1.heap.objs.size := by obtain ⟨o, e, _⟩ := py; exact Heap.lt_size e
  have at3 : tc < s1.heap.objs.size := by obtain ⟨o, e, _⟩ := pz; exact Heap.lt_size e
  refine zip_begins3 (begins_tuple ta ix.toArray) (begins_tuple tb iy.toArray) (begins_tuple tc iz.toArray) px py pz fun h' k1 k2 k3 o1 o2 o3 hs kp => ?_
  refine Calls.spliced_nil ?_
  refine list_zip (X := ix.toArray) (Y := iy.toArray) (Z := iz.toArray) (s := { s1 with heap := h' }) (m := s1.heap.objs.size) hh at1 at2 at3 (by simp; omega) (by simp; omega) (by simp; omega)
    ⟨.inl ⟨k1, rfl⟩, k2, ⟨_, _, _, k3⟩, ⟨_, o1, rfl, rfl⟩, ⟨_, o2, rfl, rfl⟩, ⟨_, o3, rfl, rfl⟩, (show s1.heap.IsTuple ta ix.toArray from px).at fun o e => kp _ _ e, (show s1.heap.IsTuple tb iy.toArray from py).at fun o e => kp _ _ e, (show s1.heap.IsTuple tc iz.toArray from pz).at fun o e => kp _ _ e, rfl, by simp, by simp, by simp⟩ k1 hs fun gg tk Zf => ?_
  obtain ⟨Ts, c, v1, v2, v3, v4, v5, v6⟩ := Zf
  have v2 : Ts.length = x.length := by rw [v2]; simp; omega
  have zl := z3_len ly lz
  have fr : ∀ a : Nat, s1.heap.objs.size ≤ a → H1 a = none := fun a ha => I1.hok.fresh ha
  have map1 : (Ts.zip (z3 x y z)).map (·.1) = Ts := List.map_fst_zip (by omega)
  have Lout : s1.heap.objs.size + 6 ∉ Ts := fun z => by have := v3 _ z; omega
  have hnone : ∀ q ∈ Ts.zip (z3 x y z), H1 q.1 = none := fun q hq => fr _ (by
    have hm : q.1 ∈ (Ts.zip (z3 x y z)).map (·.1) := List.mem_map.mpr ⟨q, hq, rfl⟩
    rw [map1] at hm
    have := v3 _ hm
    omega)
  have kp2 : ∀ (b : Nat) o, s1.heap.get? b = some o → gg.get? b = some o := fun b o e => v6 b o (Heap.lt_size e) (kp b o e)
  have hokT : HOk X.prog X.w (layT H1 (Ts.zip (z3 x y z))) gg := hok_layT (fun a u e => (I1.hok a u e).stay (fun c v _ q => kp2 c v q) (fun c q => q) fun c xs q => q) hnone (by rw [map1]; exact v4) fun q hq => by
    obtain ⟨j, hj⟩ := List.getElem?_of_mem hq
    obtain ⟨T, tt⟩ := q
    rw [List.getElem?_zip_eq_some] at hj
    obtain ⟨j1, j2⟩ := hj
    obtain ⟨a, b, c', d1, d2, d3, rfl⟩ := z3_at j2
    obtain ⟨xv, yv, zv, w1, w2, w3, w4⟩ := v5 j T j1
    refine ⟨by simp [sizeLine_eq], [xv, yv, zv], .cons (vals_at vx d1 (by simpa using w1)) (.cons (vals_at vy d2 (by simpa using w2)) (.cons (vals_at vz d3 (by simpa using w3)) .nil)), ?_⟩
    exact ⟨_, w4, rfl, _, rfl⟩
  have Hn : layT H1 (Ts.zip (z3 x y z)) (s1.heap.objs.size + 6) = none := layT_none (fr _ (by omega)) (by rw [map1]; exact Lout)
  refine ⟨.ref (s1.heap.objs.size + 6), _, I1.un (t' := tk) (h' := gg) (H' := upd (layT H1 (Ts.zip (z3 x y z))) (s1.heap.objs.size + 6) (.lst (Ts.map .ref))) ?_ (hok_new hokT Hn ?_), rfl, hq Ts _ v2 v4 Lout (fun T hT => fr T (by have := v3 T hT; omega)) (fr _ (by omega))⟩
  · have old : ∀ (b : Nat), b < s1.heap.objs.size → b ≠ s1.heap.objs.size + 6 ∧ b ∉ (Ts.zip (z3 x y z)).map (·.1) := fun b hb => ⟨by omega, by
      rw [map1]
      intro z
      have := v3 _ z
      omega⟩
    have keepH : ∀ (b : Nat) u, H1 b = some u → upd (layT H1 (Ts.zip (z3 x y z))) (s1.heap.objs.size + 6) (.lst (Ts.map .ref)) b = some u := fun b u e => by
      rw [upd_ne (n6 (I1.hok b u e).lt)]
      exact layT_some e (old b (I1.hok b u e).lt).2
    exact ⟨fun b u e _ _ _ => kp2 b u e, fun b u e _ _ _ => ⟨u.slots, kp2 b u e⟩, fun b u e n _ => by
      rw [upd_ne (n6 (Heap.lt_size e))]
      exact layT_none n (old b (Heap.lt_size e)).2, fun b u e _ => ⟨u, kp2 b u e⟩, fun b xs e => keepH b _ e, fun b u xs e => keepH b _ e, fun b ps e => ⟨#[], by rw [keepH b _ e]; simp⟩⟩
  · refine ⟨by rw [List.length_map]; omega, Ts.map fun T => Value.ref T, c, ?_, v1⟩
    exact vrefs Ts
end
theorem relZ {K : PySem.W.Frag} {H : Hp} {g : Gh} : ∀ {ps qs rs : List PV} {x y z : List V} {Ts : List Nat}, RelPs K H g ps x → RelPs K H g qs y → RelPs K H g rs z → y.length = x.length → z.length = x.length → Ts.length = x.length →
    (∀ q ∈ Ts.zip (z3 x y z), H q.1 = some (.tup q.2)) → RelPs K H g (zip3P ps qs rs) (Ts.map .ref)
  | [], _, _, x, _, _, Ts, hx, _, _, _, _, hl, _ => by
    have hx : x = [] := hx
    subst hx
    obtain rfl := List.length_eq_zero_iff.mp hl
    rfl
  | p :: ps, [], _, x, y, _, Ts, hx, hy, _, h1, _, _, _ => by
    obtain ⟨a, x', rfl, _, _⟩ := hx
    have hy : y = [] := hy
    subst hy
    cases h1
  | p :: ps, q :: qs, [], x, y, z, Ts, hx, _, hz, _, h2, _, _ => by
    obtain ⟨a, x', rfl, _, _⟩ := hx
    have hz : z = [] := hz
    subst hz
    cases h2
  | p :: ps, q :: qs, r :: rs, x, y, z, Ts, hx, hy, hz, h1, h2, hl, hm => by
    obtain ⟨a, x', rfl, ra, rx⟩ := hx
    obtain ⟨b, y', rfl, rb, ry⟩ := hy
    obtain ⟨c, z', rfl, rc, rz⟩ := hz
    match Ts, hl, hm with
    | T :: Ts, hl, hm =>
      refine ⟨.ref T, Ts.map .ref, rfl, ⟨T, [a, b, c], rfl, .inl (.inl (hm (T, [a, b, c]) (by simp [z3]))), ⟨a, _, rfl, ra, b, _, rfl, rb, c, _, rfl, rc, rfl⟩⟩, relZ rx ry rz (by simpa using h1) (by simpa using h2) (by simpa using hl) fun q hq => hm q ?_⟩
      simp only [z3, List.zip_cons_cons]
      exact List.mem_cons_of_mem _ hq
end FW
namespace FW
open PySem PySem.Spec PyProof.Rows L2
theorem fm_lookup {α : Type} : ∀ {ps : List Str} {vs : List α} {S : List (Str × α)}, vs.length = ps.length → (∀ (j : Nat) x, ps[j]? = some x → S.lookup x = vs[j]?) → ps.filterMap (fun n => (S.lookup n).map fun v => (n, v)) = ps.zip vs
  | [], vs, S, _, _ => by simp
  | p :: ps, [], S, h, _ => by cases h
  | p :: ps, v :: vs, S, h, k => by
    rw [List.filterMap_cons, k 0 p rfl]
    show (p, v) :: _ = (p, v) :: ps.zip vs
    congr 1
    exact fm_lookup (by simpa using h) fun j x e => k (j + 1) x e
theorem lookup_zip {α : Type} : ∀ {ps : List Str} {us : List α} {j : Nat} {x : Str}, ps.Nodup → ps[j]? = some x → j < us.length → (ps.zip us).lookup x = us[j]?
  | [], _, _, _, _, h, _ => by simp at h
  | p :: ps, [], _, _, _, _, h => by cases h
  | p :: ps, u :: us, 0, x, nd, h, _ => by
    simp at h
    subst h
    simp
  | p :: ps, u :: us, j + 1, x, nd, h, hj => by
    rw [List.nodup_cons] at nd
    simp only [List.getElem?_cons_succ] at h
    have : (x == p) = false := by
      apply beq_eq_false_iff_ne.mpr
      rintro rfl
      exact nd.1 (List.mem_of_getElem? h)
    rw [List.zip_cons_cons, List.lookup_cons, this]
    exact lookup_zip nd.2 h (by simpa using hj)
theorem lookup_none {α : Type} : ∀ {ps : List Str} {us : List α} {x : Str}, (∀ (j : Nat), j < us.length → ps[j]? ≠ some x) → (ps.zip us).lookup x = none
  | [], _, _, _ => by simp
  | p :: ps, [], _, _ => by simp
  | p :: ps, u :: us, x, h => by
    have : (x == p) = false := by
      apply beq_eq_false_iff_ne.mpr
      rintro rfl
      exact h 0 (by simp) rfl
    rw [List.zip_cons_cons, List.lookup_cons, this]
    exact lookup_none fun j hj => h (j + 1) (by simpa using hj)
theorem lookup_append {α : Type} (x : Str) : ∀ {A B : List (Str × α)}, A.lookup x = none → (A ++ B).lookup x = B.lookup x
  | [], _, _ => rfl
  | (p, v) :: A, B, h => by
    rw [List.lookup_cons] at h
    cases e : x == p with
    | true => rw [e] at h; cases h
    | false =>
      rw [e] at h
      rw [List.cons_append, List.lookup_cons, e]
      exact lookup_append x h
theorem lookup_append' {α : Type} (x : Str) : ∀ {A B : List (Str × α)} {v : α}, A.lookup x = some v → (A ++ B).lookup x = some v
  | (p, w) :: A, B, v, h => by
    rw [List.lookup_cons] at h
    rw [List.cons_append, List.lookup_cons]
    cases e : x == p with
    | true => rw [e] at h; exact h
    | false =>
      rw [e] at h
      exact lookup_append' x h
theorem fm_all {α : Type} {F : Nat → Option α} : ∀ {l : List Nat}, (∀ j ∈ l, ∃ v, F j = some v) → (l.filterMap F).length = l.length ∧ ∀ i : Nat, (l.filterMap F)[i]? = l[i]?.bind F
  | [], _ => ⟨rfl, fun i => by simp⟩
  | j :: l, h => by
    obtain ⟨v, e⟩ := h j List.mem_cons_self
    obtain ⟨a, b⟩ := fm_all (l := l) fun i hi => h i (List.mem_cons_of_mem _ hi)
    rw [List.filterMap_cons, e]
    refine ⟨by simp [a], fun i => ?_⟩
    cases i with
    | zero => simp [e]
    | succ i => simpa using b i
/-- all the slots, after the keywords -/
theorem slots_kw {α : Type} {ps nm : List Str} {n : Nat} {perm : List Nat} {us ws : List α} (nd : ps.Nodup) (h : permOk ps n nm perm = true) (hu : us.length = n) (hw : ws.length = nm.length) :
    (pick perm us ws).length = ps.length ∧ ∀ (j : Nat) x, ps[j]? = some x → (ps.zip us ++ nm.zip ws).lookup x = (pick perm us ws)[j]? := by
  unfold permOk at h
  simp only [Bool.and_eq_true, decide_eq_true_eq, List.all_eq_true, List.contains_iff_mem] at h
  obtain ⟨⟨⟨⟨h1, h2⟩, h3⟩, h4⟩, h5⟩ := h
  have hin : ∀ (j : Nat) x, ps[j]? = some x → ¬ j < n → x ∈ nm := fun j x e hj => h3 x (by
    rw [List.mem_iff_getElem?]
    exact ⟨j - n, by rw [List.getElem?_drop, show n + (j - n) = j by omega]; exact e⟩)
  have key : ∀ (j : Nat), j < ps.length → ∃ v, (us ++ ws)[(if j < n then j else n + nm.idxOf (ps[j]?.getD default))]? = some v ∧ ∀ x, ps[j]? = some x → (ps.zip us ++ nm.zip ws).lookup x = some v := by
    intro j hj
    have ex : ps[j]? = some ps[j] := List.getElem?_eq_getElem hj
    by_cases hn : j < n
    · rw [if_pos hn, List.getElem?_append_left (by omega)]
      refine ⟨us[j]'(by omega), List.getElem?_eq_getElem _, fun x e => lookup_append' x ?_⟩
      rw [lookup_zip nd e (by omega)]
      exact List.getElem?_eq_getElem _
    · rw [if_neg hn, ex, Option.getD_some, List.getElem?_append_right (by omega)]
      have hm := hin j _ ex hn
      have hi : nm.idxOf ps[j] < nm.length := List.idxOf_lt_length_of_mem hm
      rw [show n + nm.idxOf ps[j] - us.length = nm.idxOf ps[j] by omega]
      refine ⟨ws[nm.idxOf ps[j]]'(by omega), List.getElem?_eq_getElem _, fun x e => ?_⟩
      have e : some ps[j] = some x := e
      injection e with e
      subst e
      rw [lookup_append]
      · rw [lookup_zip h2 (j := nm.idxOf ps[j]) (by rw [List.getElem?_eq_getElem hi, List.getElem_idxOf hi]) (by omega)]
        exact List.getElem?_eq_getElem _
      · refine lookup_none fun i hi' e => ?_
        have : i = j := nodup_ix nd e ex
        omega
  have hp : pick perm us ws = (List.range ps.length).filterMap fun j => (us ++ ws)[(if j < n then j else n + nm.idxOf (ps[j]?.getD default))]? := by
    unfold pick
    rw [h5, permOf, List.filterMap_map]
    rfl
  obtain ⟨g1, g2⟩ := fm_all (l := List.range ps.length) (F := fun j => (us ++ ws)[(if j < n then j else n + nm.idxOf (ps[j]?.getD default))]?) fun j hj => by
    obtain ⟨v, e, _⟩ := key j (List.mem_range.mp hj)
    exact ⟨v, e⟩
  refine ⟨by rw [hp, g1, List.length_range], fun j x e => ?_⟩
  obtain ⟨hj, _⟩ := List.getElem?_eq_some_iff.mp e
  obtain ⟨v, e1, e2⟩ := key j hj
  rw [hp, g2, List.getElem?_range hj, e2 x e]
  exact e1.symm
theorem kw_loop {σ : Type} {f : Str × Value → σ → Sem (ForInStep σ)} (step : σ → Str × Value → σ) (I : List (Str × Value) → σ → Prop) (h : ∀ a l b, I (a :: l) b → f a b = pure (.yield (step b a)) ∧ I l (step b a)) :
    ∀ (l : List (Str × Value)) (b : σ), I l b → forIn l b f = pure (l.foldl step b)
  | [], b, _ => by rw [List.forIn_nil]; rfl
  | a :: l, b, hi => by
    obtain ⟨e, h'⟩ := h a l b hi
    rw [List.forIn_cons, e, pure_bind]
    exact kw_loop step I h l _ h'
theorem bind_kw {x qual : Str} {as : List Arg} {kd : List (Option Expr)} {dfl : List Expr} {body : List Stmt} {sc : Scope} {kV doc pm cdv ct : Value} {an : Option Addr} {us ws : List Value} {n : Nat} {nm : List Str} {perm : List Nat}
    (nd : (as.map (·.arg)).Nodup) (h : permOk (as.map (·.arg)) n nm perm = true) (hu : us.length = n) (hw : ws.length = nm.length) :
    bindArgs (PySem.W.fnOf x qual ⟨[], as, none, [], kd, none, dfl⟩ body sc .none kV doc pm an cdv ct) ⟨us, nm.zip ws⟩ = pure ((as.map (·.arg)).zip (pick perm us ws)) := by
  obtain ⟨s1, s2⟩ := slots_kw nd h hu hw
  have hk := h
  unfold permOk at hk
  simp only [Bool.and_eq_true, decide_eq_true_eq, List.all_eq_true, List.contains_iff_mem] at hk
  obtain ⟨⟨⟨⟨h1, h2⟩, h3⟩, h4⟩, h5⟩ := hk
  have e0 : notAStandIn Value.none = pure () := rfl
  have all1 : ∀ y ∈ as.map (·.arg), (((as.map (·.arg)).zip us ++ nm.zip ws).lookup y).isNone = false := fun y hy => by
    obtain ⟨j, hj⟩ := List.getElem?_of_mem hy
    rw [s2 j y hj]
    obtain ⟨hj', _⟩ := List.getElem?_eq_some_iff.mp hj
    rw [List.getElem?_eq_getElem (by omega)]
    rfl
  have h1' : (List.filter (fun n => (((as.map (·.arg)).zip us ++ nm.zip ws).lookup n).isNone) (as.map (·.arg))) = [] := by
    rw [List.filter_eq_nil_iff]
    intro y hy
    rw [all1 y hy]
    simp
  have fin := fm_lookup s1 s2
  have hI : (∀ a ∈ nm.zip ws, a.1 ∈ as.map (·.arg)) ∧ ((nm.zip ws).map (·.1)).Nodup ∧ ∀ a ∈ nm.zip ws, ((as.map (·.arg)).zip us).lookup a.1 = none := by
    refine ⟨fun a ha => List.mem_of_mem_drop (h4 _ (List.of_mem_zip ha).1), ?_, fun a ha => lookup_none fun i hi e => ?_⟩
    · rw [List.map_fst_zip (by omega)]
      exact h2
    · have hm := h4 _ (List.of_mem_zip ha).1
      obtain ⟨j, hj⟩ := List.getElem?_of_mem hm
      rw [List.getElem?_drop] at hj
      have := nodup_ix nd e hj
      omega
  have ff : ∀ (l : List (Str × Value)) (S : List (Str × Value)), l.foldl (fun (b : List (Str × Value) × List (Str × Value)) a => (b.1 ++ [(a.1, a.2)], b.2)) (S, []) = (S ++ l, []) := by
    intro l
    induction l with
    | nil => intro S; simp
    | cons a l ih =>
      intro S
      rw [List.foldl_cons, ih]
      simp
  have h2' : List.take as.length (as.map (·.arg)) = as.map (·.arg) := by rw [List.take_of_length_le (by simp)]
  have ul : ¬ as.length < us.length := by simp at h1; omega
  unfold bindArgs
  simp only [PySem.W.fnOf, List.map_nil, List.nil_append]
  rw [kw_loop (σ := List (Str × Value) × List (Str × Value)) (fun b a => (b.1 ++ [(a.1, a.2)], b.2)) (fun l b => (∀ a ∈ l, a.1 ∈ as.map (·.arg)) ∧ (l.map (·.1)).Nodup ∧ ∀ a ∈ l, b.1.lookup a.1 = none) ?_ _ _ hI]
  · rw [ff, pure_bind]
    simp [seqItems?, e0, h2', h1', ul]
    rw [List.filterMap_map] at fin
    exact congrArg pure fin
  · rintro ⟨k, v⟩ l b ⟨i1, i2, i3⟩
    have c1 : ((as.map (·.arg)).contains k || ([] : List Str).contains k) = true := by
      have := i1 (k, v) List.mem_cons_self
      simpa using this
    have c2 : ¬ (b.1.lookup k).isSome = true := by
      have := i3 (k, v) List.mem_cons_self
      simp only at this
      rw [this]
      simp
    rw [if_pos c1, if_neg c2]
    rw [List.map_cons, List.nodup_cons] at i2
    refine ⟨rfl, fun a ha => i1 a (List.mem_cons_of_mem _ ha), i2.2, fun a ha => ?_⟩
    show (b.1 ++ [(k, v)]).lookup a.1 = none
    rw [lookup_append _ (i3 a (List.mem_cons_of_mem _ ha)), List.lookup_cons]
    have : (a.1 == k) = false := by
      apply beq_eq_false_iff_ne.mpr
      rintro rfl
      exact i2.1 (List.mem_map.mpr ⟨a, ha, rfl⟩)
    rw [this]
    rfl
/-- how a def of the text binds what is named -/
def KB (K : PySem.W.Frag) (FD : FuncData) (ps : List Str) : Prop := ∀ (n : Nat) (nm : List Str) (perm : List Nat), permOk ps n nm perm = true → KBn K FD ps n nm (pick perm) (pick perm)
theorem vals_pk {perm : List Nat} {vs zs : List V} {us ws : List Value} (r : Vals vs us) (r2 : Vals zs ws) : Vals (pick perm vs zs) (pick perm us ws) := by
  have ra := r.append r2
  have at_ : ∀ {xs : List V} {ys : List Value} (i : Nat), Vals xs ys → (xs[i]? = none ∧ ys[i]? = none) ∨ ∃ x y, xs[i]? = some x ∧ ys[i]? = some y ∧ L2.RelV x y := by
    intro xs ys i h
    induction h generalizing i with
    | nil => exact .inl ⟨by simp, by simp⟩
    | cons a b ih =>
      cases i with
      | zero => exact .inr ⟨_, _, rfl, rfl, a⟩
      | succ i => simpa using ih i
  unfold pick
  induction perm with
  | nil => exact .nil
  | cons i l ih =>
    rw [List.filterMap_cons, List.filterMap_cons]
    rcases at_ i ra with ⟨a, b⟩ | ⟨x, y, a, b, c⟩
    · rw [a, b]; exact ih
    · rw [a, b]; exact .cons c ih
section
variable {X : Cx} {CX : CXT} {k n : Nat} {f : Addr} {fd : FuncData} {ps ks : List Str} {sp : Sp} {E : L2.St → XK} {x : Str} {p pos : Pos} {e : Expr} {es : List Expr} {kws : List Keyword} {t tk : TA} {g : List Value → List Value → List Value} {gV : List V → List V → List V}
theorem run_kw {pins : List (Addr × Obj)} {σ : L2.St} {H : Hp} {s : Shared} {Q : VK} {us ws : List Value} {vs zs : List V} {E : XK} (F : FnOk X.prog X.w X.K X.mg X.base CX k f fd ps sp) (hr : Room k X.A) (hb : KBn X.K fd ps n ks g gV) (hx : PassesAt CX X σ E)
    (I : Inv X pins σ H s) (r : Vals vs us) (rz : Vals zs ws) (l1 : vs.length = n) (l2 : zs.length = ks.length) (h : sp (gV vs zs) H Q E) : wpAny (model X.prog X.w) X.A (call (.ref f) us (ks.zip ws)) (EP X pins σ Q) X.xe s := by
  have r2 := hb.rel r rz
  refine wpAny_call (codeAny_mono (F.run X.A X.stack s H ⟨us, ks.zip ws⟩ (g us ws) (gV vs zs) Q E hr I.env0 (hb.to s us ws I.kIn (r.length.symm.trans l1) (rz.length.symm.trans l2)) r2 h) fun res s' hq => ?_)
  rcases res with e | (_ | _ | _ | u)
  · exact hx pins H s e s' I hq
  all_goals first | exact I.after hq | exact False.elim hq
def tCallNS (n m : Nat) (sp : Sp) (gV : List V → List V → List V) (E : L2.St → XK) (t tk : TA) : TE := fun σ H Q => t σ H fun vs H1 => tk σ H1 fun zs H2 => vs.length = n ∧ zs.length = m ∧ sp (gV vs zs) H2 Q (E σ)
theorem pe_kw (F : FnOk X.prog X.w X.K X.mg X.base CX k f fd ps sp) (hr : Room k X.A) (hg : Gl X x) (hm : X.mg x = some (.ref f)) (hk : PySem.W.keepIn X.K (.ref f) = true) (hb : KBn X.K fd ps n ks g gV) (hx : ∀ σ, PassesAt CX X σ (E σ))
    (ha : PA X (e :: es) t) (hkw : PK X kws tk) (hall : (backToKw pos (keywordEach kws X.env)).all (·.1.isSome) = true) (hks : (backToKw pos (keywordEach kws X.env)).filterMap (·.1) = ks)
    (hdb : (x == ("__debug__" : Str)) = false) (he : starEach (e :: es) X.env = (false, eval e X.env) :: starEach es X.env) (hpl : ((backTo pos (starEach (e :: es) X.env)).any (·.1) || (backToKw pos (keywordEach kws X.env)).any (·.1.isNone)) = false) :
    PE X (.Call (.Name x p) (e :: es) kws pos) (tCallNS n ks.length sp gV E t tk) := by
  refine ⟨fun pins s σ H Q I h => wpAny_Call_Name_kw (ld_glob I hg hm (PySem.W.callWith_KW (h₀ := X.base) I.ok.mod.kin hk hall (thn (ha.run pos pins s σ H _ I h) fun us s1 ⟨vs, H1, I1, r, q⟩ => thn (hkw.run pos pins s1 σ H1 _ I1 q) fun ws s2 ⟨zs, H2, I2, rz, l1, l2, q2⟩ => ⟨I2.kIn, ?_⟩) hpl he) hdb)⟩
  rw [hks]
  exact run_kw F hr hb (hx σ) I2 r rz l1 l2 q2
theorem pe_kw0 (F : FnOk X.prog X.w X.K X.mg X.base CX k f fd ps sp) (hr : Room k X.A) (hg : Gl X x) (hm : X.mg x = some (.ref f)) (hk : PySem.W.keepIn X.K (.ref f) = true) (hb : KBn X.K fd ps n ks g gV) (hx : ∀ σ, PassesAt CX X σ (E σ))
    (hkw : PK X kws tk) (hall : (backToKw pos (keywordEach kws X.env)).all (·.1.isSome) = true) (hks : (backToKw pos (keywordEach kws X.env)).filterMap (·.1) = ks)
    (hdb : (x == ("__debug__" : Str)) = false) (hpl : ((backTo pos (starEach [] X.env)).any (·.1) || (backToKw pos (keywordEach kws X.env)).any (·.1.isNone)) = false) :
    PE X (.Call (.Name x p) [] kws pos) (tCallNS n ks.length sp gV E tNil tk) := by
  refine ⟨fun pins s σ H Q I h => wpAny_Call_Name_kw (ld_glob I hg hm (PySem.W.callWith_KW0 (h₀ := X.base) I.ok.mod.kin hk hall (thn (hkw.run pos pins s σ H _ I h) fun ws s2 ⟨zs, H2, I2, rz, l1, l2, q2⟩ => ⟨I2.kIn, ?_⟩) hpl) hdb)⟩
  rw [hks]
  exact run_kw (us := []) F hr hb (hx σ) I2 .nil rz l1 l2 q2
end
/-- keywords that are named, as they stand -/
def kwNames : List Keyword → List Str
  | [] => []
  | k :: r => (match k.arg with
    | some x => [x]
    | none => []) ++ kwNames r
def kwAll : List Keyword → Bool
  | [] => true
  | k :: r => k.arg.isSome && kwAll r
theorem kw_rows (pos : Pos) (env : Env) : ∀ {kws : List Keyword}, kwAll kws = true → (backToKw pos (keywordEach kws env)).all (·.1.isSome) = true ∧ (backToKw pos (keywordEach kws env)).filterMap (·.1) = kwNames kws ∧ (backToKw pos (keywordEach kws env)).any (·.1.isNone) = false
  | [], _ => ⟨rfl, rfl, rfl⟩
  | ⟨some x, e, q⟩ :: r, h => by
    obtain ⟨a, b, c⟩ := kw_rows pos env (kws := r) (by simpa [kwAll] using h)
    refine ⟨?_, ?_, ?_⟩
    · show (true && _) = true
      exact a
    · show x :: _ = x :: kwNames r
      rw [← b]
      rfl
    · show (false || _) = false
      exact c
end FW
namespace FW
open PySem PySem.Spec PyProof.Rows L2
/-- a def's promise, to callers above whom no repr stands -/
structure FnG (P : Program) (w : World) (K : PySem.W.Frag) (mg : Str → Option Value) (base : Heap) (CX : CXT) (k : Nat) (f : Addr) (fd : FuncData) (ps : List Str) (sp : Sp) : Prop where
  size : ∀ vs H Q E, sp vs H Q E → vs.length = ps.length
  go : ∀ (A : Around) (out : List Env) (s : Shared) (H : Hp) (ar : Args) (us : List Value) (vs : List V) (Q : VK) (E : XK), A.guards = some [] ∧ Room k A → Env0 P w K mg base A out s H → BindsTo s fd ar (ps.zip us) → Vals vs us → sp vs H Q E →
    codeAny (model P w) A (.call (.ref f) ar) (CR CX out P w H s Q E) s
section
variable {X : Cx} {CX : CXT} {k n : Nat} {f : Addr} {fd : FuncData} {ps ks : List Str} {sp : Sp} {E : L2.St → XK} {x : Str} {p pos : Pos} {e : Expr} {es : List Expr} {kws : List Keyword} {t tk : TA} {g : List Value → List Value → List Value} {gV : List V → List V → List V}
/-- a call whose arguments bind -/
theorem run_g {pins : List (Addr × Obj)} {σ : L2.St} {H : Hp} {s : Shared} {Q : VK} {ar us : List Value} {kw : List (Str × Value)} {vs : List V} {E : XK} (F : FnG X.prog X.w X.K X.mg X.base CX k f fd ps sp) (hr : X.A.guards = some [] ∧ Room k X.A) (hb : BindsTo s fd ⟨ar, kw⟩ (ps.zip us)) (hx : PassesAt CX X σ E)
    (I : Inv X pins σ H s) (r : Vals vs us) (h : sp vs H Q E) : wpAny (model X.prog X.w) X.A (call (.ref f) ar kw) (EP X pins σ Q) X.xe s := by
  refine wpAny_call (codeAny_mono (F.go X.A X.stack s H ⟨ar, kw⟩ us vs Q E hr I.env0 hb r h) fun res s' hq => ?_)
  rcases res with e | (_ | _ | _ | u)
  · exact hx pins H s e s' I hq
  all_goals first | exact I.after hq | exact False.elim hq
theorem pe_callG (F : FnG X.prog X.w X.K X.mg X.base CX k f fd ps sp) (hr : X.A.guards = some [] ∧ Room k X.A) (hg : Gl X x) (hm : X.mg x = some (.ref f)) (hk : PySem.W.keepIn X.K (.ref f) = true) (hb : Binds X.K fd ps []) (hx : ∀ σ, PassesAt CX X σ (E σ)) (ha : PA X (e :: es) t)
    (hdb : (x == ("__debug__" : Str)) = false) (he : starEach (e :: es) X.env = (false, eval e X.env) :: starEach es X.env) (hpl : (backTo pos (starEach es X.env)).any (·.1) = false) : PE X (.Call (.Name x p) (e :: es) [] pos) (tCallS sp E t) := by
  refine ⟨fun pins s σ H Q I h => wpAny_Call_Name_kw (ld_glob I hg hm (PySem.W.callWith_K (h₀ := X.base) I.ok.mod.kin hk (thn (ha.run pos pins s σ H _ I h) fun us s1 ⟨vs, H1, I1, r, q⟩ => ⟨I1.kIn, ?_⟩) he hpl) hdb)⟩
  have b := hb s1 us I1.kIn (by rw [List.append_nil, ← r.length]; exact F.size _ _ _ _ q)
  rw [List.append_nil] at b
  exact run_g F hr b (hx σ) I1 r q
theorem pe_kwG (F : FnG X.prog X.w X.K X.mg X.base CX k f fd ps sp) (hr : X.A.guards = some [] ∧ Room k X.A) (hg : Gl X x) (hm : X.mg x = some (.ref f)) (hk : PySem.W.keepIn X.K (.ref f) = true) (hb : KBn X.K fd ps n ks g gV) (hx : ∀ σ, PassesAt CX X σ (E σ))
    (ha : PA X (e :: es) t) (hkw : PK X kws tk) (hall : (backToKw pos (keywordEach kws X.env)).all (·.1.isSome) = true) (hks : (backToKw pos (keywordEach kws X.env)).filterMap (·.1) = ks)
    (hdb : (x == ("__debug__" : Str)) = false) (he : starEach (e :: es) X.env = (false, eval e X.env) :: starEach es X.env) (hpl : ((backTo pos (starEach (e :: es) X.env)).any (·.1) || (backToKw pos (keywordEach kws X.env)).any (·.1.isNone)) = false) :
    PE X (.Call (.Name x p) (e :: es) kws pos) (tCallNS n ks.length sp gV E t tk) := by
  refine ⟨fun pins s σ H Q I h => wpAny_Call_Name_kw (ld_glob I hg hm (PySem.W.callWith_KW (h₀ := X.base) I.ok.mod.kin hk hall (thn (ha.run pos pins s σ H _ I h) fun us s1 ⟨vs, H1, I1, r, q⟩ => thn (hkw.run pos pins s1 σ H1 _ I1 q) fun ws s2 ⟨zs, H2, I2, rz, l1, l2, q2⟩ => ⟨I2.kIn, ?_⟩) hpl he) hdb)⟩
  rw [hks]
  exact run_g F hr (hb.to s2 us ws I2.kIn (r.length.symm.trans l1) (rz.length.symm.trans l2)) (hx σ) I2 (hb.rel r rz) q2
theorem pe_kw0G (F : FnG X.prog X.w X.K X.mg X.base CX k f fd ps sp) (hr : X.A.guards = some [] ∧ Room k X.A) (hg : Gl X x) (hm : X.mg x = some (.ref f)) (hk : PySem.W.keepIn X.K (.ref f) = true) (hb : KBn X.K fd ps n ks g gV) (hx : ∀ σ, PassesAt CX X σ (E σ))
    (hkw : PK X kws tk) (hall : (backToKw pos (keywordEach kws X.env)).all (·.1.isSome) = true) (hks : (backToKw pos (keywordEach kws X.env)).filterMap (·.1) = ks)
    (hdb : (x == ("__debug__" : Str)) = false) (hpl : ((backTo pos (starEach [] X.env)).any (·.1) || (backToKw pos (keywordEach kws X.env)).any (·.1.isNone)) = false) :
    PE X (.Call (.Name x p) [] kws pos) (tCallNS n ks.length sp gV E tNil tk) := by
  refine ⟨fun pins s σ H Q I h => wpAny_Call_Name_kw (ld_glob I hg hm (PySem.W.callWith_KW0 (h₀ := X.base) I.ok.mod.kin hk hall (thn (hkw.run pos pins s σ H _ I h) fun ws s2 ⟨zs, H2, I2, rz, l1, l2, q2⟩ => ⟨I2.kIn, ?_⟩) hpl) hdb)⟩
  rw [hks]
  exact run_g F hr (hb.to s2 [] ws I2.kIn l1 (rz.length.symm.trans l2)) (hx σ) I2 (hb.rel .nil rz) q2
end
/-! ### a def of the text, by its body -/
section
variable {P : Program} {w : World} {K : PySem.W.Frag} {mg : Str → Option Value} {base : Heap} {x qual : Str} {params : Arguments} {body : List Stmt} {scope : Scope} {dvs : List V} {kws : List (Str × V)} {f : Addr} {fd : FuncData} {CX : CXT} {N ps : List Str} {k : Nat} {sp : Sp}
theorem bodyG (F : FunD K x qual params body scope dvs kws f fd) (S : FnScope N ps scope) (size : ∀ vs H Q E, sp vs H Q E → vs.length = ps.length)
    (does : ∀ (cdv : Value) (A : Around) (out : List Env) (s : Shared) (H : Hp) (vs : List V) (Q : VK) (E : XK), A.guards = some [] → Room k (A.deeper (envOfC qual scope s.heap.objs.size f cdv)) → sp vs H Q E →
      ∃ t, PSs (cxOf CX P w K mg base N qual scope f cdv A out s H E) body t ∧ t { nx := fun _ H1 => Q .non H1, rt := Q } (start N vs) H) : FnG P w K mg base CX (k + 1) f fd ps sp where
  size := size
  go := by
    intro A out s H ar us vs Q E hg e0 hbi rel hsp
    obtain ⟨oc, od, dV, kV, doc, pm, an, cdv, ct, osl, rfl, inK, code, _⟩ := F.ex
    have old : ∀ b o, base.get? b = some o → s.heap.get? b = some o := fun b o e => (e0.bs b o e).1
    have inS : K.In s.heap := e0.mod.kin.keeps old
    obtain ⟨t, walk, holds⟩ := does cdv A out s H vs Q E hg.1 (hg.2.deeper _) hsp
    refine codeAny_call_function hg.2.depth (inS _ _ inK) rfl S.co S.gen rfl (PySem.W.codeRec_of inS code) (hbi _ _ _ _ (wpAny_newFunctionEnv_cells S.kind (fun q hq => ?_) fun env he s1 made => ?_))
    · exact (S.par q.1 (List.of_mem_zip (a := q.1) (b := q.2) hq).1).imp id fun c => ⟨c, PySem.W.cellsFrom_some _ _ _ (.inl c)⟩
    · cases he
      refine ⟨(e0.mod.nolimit.keeps old).keeps made.toInCall.keep, codeAny_func (wpAny_mono (walk.run [] s1 _ H _ (inv_start S hg.2.hd e0 (size _ _ _ _ hsp) rel made) holds) (fun fl s2 z => ?_) fun _ _ z => z)⟩
      rcases fl with _ | _ | _ | u
      · obtain ⟨_, H1, J, q⟩ := z
        exact ⟨.non, H1, J.os, J.bare, J.base, J.hok, rfl, q⟩
      · exact (z.choose_spec.choose_spec.2).elim
      · exact (z.choose_spec.choose_spec.2).elim
      · obtain ⟨v, _, H1, J, rv, q⟩ := z
        exact ⟨v, H1, J.os, J.bare, J.base, J.hok, rv, q⟩
end
/-! ### the law's own call -/
theorem law_goes {P : Program} {w : World} {K : PySem.W.Frag} {mg mb : Str → Option Value} {CX : CXT} {k : Nat} {fa a : Addr} {fd : FuncData} {x : Str} {sp : Sp} {s : Shared} {vs : List Value} {ns : List Int} (inS : K.In s.heap) (gl : s.heap.Ns mainGlobals mg)
    (bn : s.heap.Ns builtinsNs mb) (bb : ∀ x : Str, x ≠ "__name__" → mb x = bootBuiltins x) (lim : s.heap.NoLimit) (gen : s.gens = #[]) (obj : s.heap.get? a = some { cls := .type "list", data := .seq vs.toArray }) (nums : IntsAre vs ns) (few : ns.length ≤ sizeLine) (room : Room k callerA)
    (F : ∀ base : Heap, K.In base → base.Ns mainGlobals mg → FnG P w K mg base CX k fa fd [x] sp) (bind1 : ∀ (s : Shared) (u : Value), BindsTo s fd ⟨[u], []⟩ [(x, u)]) (asks : ∀ H : Hp, Only H → SqL K H a (ns.map V.int) → sp [.ref a] H (fun v _ => v = .bl true) fun _ _ _ => False)
    (none_out : ∀ H e s', CX [] H s (fun _ _ _ => False) e s' → False) :
    codeAny (model P w) callerA (.call (.ref fa) ⟨[.ref a], []⟩) (fun r s' => r = .ok (.ret (.bool true)) ∧ OldK s.heap s'.heap ∧ s'.os = s.os ∧ AllBare s'.gens) s := by
  have vals := vals_ints nums
  -- what is tracked is the script at most, and stays as it is
  have main : ∀ H : Hp, (∀ b u, H b = some u → b = a ∧ u = .frz { cls := .type "list", data := .seq vs.toArray } (.lst (ns.map V.int)) ∧ K.lookup a = none) → SqL K H a (ns.map V.int) →
      codeAny (model P w) callerA (.call (.ref fa) ⟨[.ref a], []⟩) (fun r s' => r = .ok (.ret (.bool true)) ∧ OldK s.heap s'.heap ∧ s'.os = s.os ∧ AllBare s'.gens) s := by
    intro H track seq
    have only : Only H := fun b => by
      cases q : H b with
      | none => exact .inl rfl
      | some u => exact .inr ⟨_, _, congrArg some (track b u q).2.1⟩
    have ok : HOk P w H s.heap := fun b u q => by
      obtain ⟨rfl, rfl, _⟩ := track b u q
      exact ⟨obj, by rw [List.length_map]; exact few, vs, _, vals, obj⟩
    have free : ∀ {b : Addr} {o : Obj}, s.heap.get? b = some o → (∀ q n, o.data ≠ .seq q n) → H b = none := fun {b o} e n => by
      cases q : H b with
      | none => rfl
      | some u =>
        obtain ⟨rfl, _, _⟩ := track b u q
        rw [obj] at e
        cases e
        exact absurd rfl (n _ _)
    have hid : ∀ {b : Addr} {m : Str → Option Value}, s.heap.Ns b m → (hidT s.heap H).Ns b m := fun {b m} ⟨o, es, ep, e, d, r⟩ => ⟨o, es, ep, hidT_get e (free e fun q n z => by rw [d] at z; cases z), d, r⟩
    have inB : K.In (hidT s.heap H) := fun b o e => hidT_get (inS b o e) (by
      cases q : H b with
      | none => rfl
      | some u =>
        obtain ⟨rfl, _, z⟩ := track b u q
        rw [z] at e
        cases e)
    obtain ⟨mc, l1, l2⟩ := lim
    have env : Env0 P w K mg (hidT s.heap H) callerA [] s H := ⟨rfl, ⟨inB, hid gl, ⟨mb, hid bn, bb⟩, ⟨mc, hid l1, l2⟩⟩, fun b o e => of_hidT e, Nat.le_of_eq (hidT_size _ _), trivial, fun b hb => absurd hb List.not_mem_nil, ok, .of_eq gen⟩
    refine codeAny_mono ((F _ inB (hid gl)).go callerA [] s H ⟨[.ref a], []⟩ [.ref a] [.ref a] _ _ ⟨rfl, room⟩ env (bind1 s _) (.cons rfl .nil) (asks H only seq)) fun res s2 z => ?_
    rcases res with e | (_ | _ | _ | u)
    · exact (none_out H e s2 z).elim
    · exact z.elim
    · exact z.elim
    · exact z.elim
    · obtain ⟨v, H2, os, bare, un, ok2, rv, q⟩ := z
      obtain rfl : v = .bl true := q
      obtain rfl : u = Value.bool true := rv
      refine ⟨rfl, OldK.of_keep fun b o e => ?_, os, bare⟩
      cases q : H b with
      | none => exact un.keep b o e q (fun z => nomatch z) (fun z => nomatch z)
      | some u =>
        obtain ⟨rfl, rfl, _⟩ := track b u q
        rw [obj] at e
        cases e
        exact (ok2 b _ (un.frzs b _ _ q)).1
  cases hk : K.lookup a with
  | some o =>
    have e := inS a o hk
    rw [obj] at e
    cases e
    exact main (fun _ => none) (fun b u z => by cases z) (.inr ⟨_, vs.toArray, _, hk, rfl, rfl, rfl, by rw [List.size_toArray, nums.length]; exact few, by simpa using vals⟩)
  | none =>
    refine main (fun b => if b = a then some (.frz { cls := .type "list", data := .seq vs.toArray } (.lst (ns.map V.int))) else none) (fun b u z => ?_) (.inl (.inr ⟨{ cls := .type "list", data := .seq vs.toArray }, if_pos rfl⟩))
    by_cases hb : b = a
    · have z : some _ = some u := (if_pos hb).symm.trans z
      cases z
      exact ⟨hb, rfl, hk⟩
    · have z : none = some u := (if_neg hb).symm.trans z
      cases z
/-- a law, from its def's promise -/
theorem walk_g {l : PySem.W.OpenLaw} {n k : Nat} {q : Program} {loose : List Str} {XP : (Str → Option Value) → Heap → Prop} {YP : World → Heap → Prop} {d : DefRec} {CX : CXT} {x : Str} (most : l.most = some n) (small : n ≤ sizeLine) (plain : d.params.defaults = []) (room : Room k callerA)
    (F : ∀ (w : World) (mg : Str → Option Value) (fa : Addr) (h : Heap), YP w h → h.Ns mainGlobals mg → mg d.name = some (.ref fa) → ∃ (K : PySem.W.Frag) (fd : FuncData) (sp : Sp), K.In h ∧ (∀ (s : Shared) (u : Value), BindsTo s fd ⟨[u], []⟩ [(x, u)]) ∧
      (∀ (H : Hp) (a : Addr) (ns : List Int), ns.length ≤ n → Only H → SqL K H a (ns.map V.int) → sp [.ref a] H (fun v _ => v = .bl true) fun _ _ _ => False) ∧ ∀ base : Heap, K.In base → base.Ns mainGlobals mg → FnG l.prog w K mg base CX k fa fd [x] sp)
    (none_out : ∀ (H : Hp) (s : Shared) (e : Value) (s' : Shared), CX [] H s (fun _ _ _ => False) e s' → False) : PySem.W.WalkO q loose XP YP l.row.toRowW d [] (fun f vs => PySem.call f vs) :=
  Att.attach_call most plain fun w _ s1 mg mb fa _ _ _ _ a vs ns G Y _ _ _ hmg hobj nums hlen hg => by
    obtain ⟨K, fd, sp, inS, hb, hsp, hF⟩ := F w mg fa _ Y G.T.g hmg
    exact law_goes inS G.T.g G.T.b G.T.builtins G.T.nolimit hg hobj nums (Nat.le_trans hlen small) room hF hb (fun H hO hS => hsp H a ns hlen hO hS) fun H e s' => none_out H s1 e s'
end FW
namespace FW
open PySem PySem.Spec PyProof.Rows L2
/-- names by slot, the scope, which names' cells are this frame's own -/
structure NS where
  N : List Str
  sc : Scope
  fn : Str → Bool
def nmOk (x : Str) : Bool := !(x == ("__debug__" : Str)) && !(x == ("__classdict__" : Str)) && !(x == ("__name__" : Str))
def visB (sc : Scope) (x : Str) : Bool := match sc.names.lookup x with
  | some .local => true | some .cell => true | some .free => true
  | _ => false
def glB (sc : Scope) (x : Str) : Bool := sc.names.lookup x == some .globalImplicit
def stoB (S : NS) (x : Str) : Bool := match S.sc.names.lookup x with
  | some .local => true
  | some .cell => S.fn x
  | _ => false
def BN : List String := ["len", "all", "any", "sum", "tuple", "list", "sorted", "int", "abs", "min", "max", "isinstance", "set", "zip", "range", "enumerate", "repr", "str", "dict", "bool"]
def TN : List String := ["list", "tuple", "str", "int", "bool", "dict"]
def notStar : Expr → Bool
  | .Starred _ _ => false
  | _ => true
def notSet : Expr → Bool
  | .Set _ _ _ => false
  | _ => true
def notSlice : Expr → Bool
  | .Slice _ _ _ _ => false
  | _ => true
def plainT : Expr → Bool
  | .Name _ _ => true
  | .Call _ _ _ _ => true
  | .Subscript _ _ _ => true
  | .Constant _ _ _ => true
  | _ => false
def isSuperCall : Expr → Bool
  | .Call (.Name _ _) [] [] _ => true
  | _ => false
theorem attrB {o : Expr} (h : isSuperCall o = false) (a : Str) (env : Env) (w : Sem Value) : attributeBase o a env w = w := by
  unfold attributeBase
  cases o with
  | Call f as kw p =>
    cases f with
    | Name x q =>
      cases as with
      | nil =>
        cases kw with
        | nil => cases h
        | cons _ _ => rfl
      | cons _ _ => rfl
    | _ => rfl
  | _ => rfl
/-- what the program gives: what a module's name is worth, its defs with their parameters, how an exception lies -/
structure Tab where
  P : PE'
  ps : Str → Option (List Str)
  ExV : Hp → Gh → Exc → Value → Option Addr → Prop
def chkNm (S : NS) (i : Nat) (x : Str) : Bool := decide (S.N[i]? = some x) && nmOk x
def chkG1 (S : NS) (i : Nat) : Expr → Bool
  | .Name x _ => chkNm S i x && stoB S x
  | _ => false
def chkGs (S : NS) : List Nat → List Expr → Bool
  | [], [] => true
  | i :: is, e :: es => chkG1 S i e && chkGs S is es
  | _, _ => false
def chkG (S : NS) : G → Expr → Bool
  | .nm i, e => chkG1 S i e
  | .tp is, .Tuple es _ _ => chkGs S is es
  | _, _ => false
def ownP (N : List Str) (own : List Nat) : List (Str × Nat) := own.filterMap fun i => (N[i]?).map fun x => (x, i)
def chkBlk (S : NS) (scope : Scope) (own : List Nat) : Bool := blkC S.N S.sc scope (ownP S.N own) && decide ((ownP S.N own).map (·.2) = own)
def NS.blk (S : NS) (scope : Scope) : NS := ⟨S.N, relS scope S.sc, fun x => scope.names.lookup x == some .cell⟩
def tysOf : List Expr → Option (List Str)
  | [] => some []
  | .Name x _ :: r => (tysOf r).map (x :: ·)
  | _ :: _ => none
/-! ### what an expression is -/
def vName : Expr → Option Str
  | .Name x _ => some x
  | _ => none
theorem vName_of {e : Expr} {x : Str} (h : vName e = some x) : ∃ p, e = .Name x p := by cases e <;> first | (cases h; exact ⟨_, rfl⟩) | cases h
def vConst : Expr → Option Const
  | .Constant c _ _ => some c
  | _ => none
theorem vConst_of {e : Expr} {x : Const} (h : vConst e = some x) : ∃ k p, e = .Constant x k p := by cases e <;> first | (cases h; exact ⟨_, _, rfl⟩) | cases h
def cNon : Option Const → Bool
  | some .none => true
  | _ => false
def cBl (b : Bool) : Option Const → Bool
  | some (.bool c) => b == c
  | _ => false
def cInt (b : Int) : Option Const → Bool
  | some (.int c) => b == c
  | _ => false
def cStr (b : Str) : Option Const → Bool
  | some (.str c) => b == c
  | _ => false
theorem cNon_of {o : Option Const} (h : cNon o = true) : o = some .none := by
  cases o with
  | none => cases h
  | some c => cases c <;> first | rfl | cases h
theorem cBl_of {o : Option Const} {b : Bool} (h : cBl b o = true) : o = some (.bool b) := by
  cases o with
  | none => cases h
  | some c => cases c <;> first | (rw [show b = _ from eq_of_beq h]) | cases h
theorem cInt_of {o : Option Const} {b : Int} (h : cInt b o = true) : o = some (.int b) := by
  cases o with
  | none => cases h
  | some c => cases c <;> first | (rw [show b = _ from eq_of_beq h]) | cases h
theorem cStr_of {o : Option Const} {b : Str} (h : cStr b o = true) : o = some (.str b) := by
  cases o with
  | none => cases h
  | some c => cases c <;> first | (rw [show b = _ from eq_of_beq h]) | cases h
def vTup : Expr → Option (List Expr)
  | .Tuple l _ _ => some l
  | _ => none
theorem vTup_of {e : Expr} {l : List Expr} (h : vTup e = some l) : ∃ k p, e = .Tuple l k p := by cases e <;> first | (cases h; exact ⟨_, _, rfl⟩) | cases h
def vLst : Expr → Option (List Expr)
  | .List l _ => some l
  | _ => none
theorem vLst_of {e : Expr} {l : List Expr} (h : vLst e = some l) : ∃ p, e = .List l p := by cases e <;> first | (cases h; exact ⟨_, rfl⟩) | cases h
def vBin : Expr → Option (Expr × Operator × Expr)
  | .BinOp l op r _ => some (l, op, r)
  | _ => none
theorem vBin_of {e l r : Expr} {op : Operator} (h : vBin e = some (l, op, r)) : ∃ p, e = .BinOp l op r p := by cases e <;> first | (cases h; exact ⟨_, rfl⟩) | cases h
def vUn : Expr → Option (UnaryOp × Expr)
  | .UnaryOp op x _ => some (op, x)
  | _ => none
theorem vUn_of {e x : Expr} {op : UnaryOp} (h : vUn e = some (op, x)) : ∃ p, e = .UnaryOp op x p := by cases e <;> first | (cases h; exact ⟨_, rfl⟩) | cases h
def vCmp : Expr → Option (Expr × List CmpOp × List Expr)
  | .Compare l ops rs _ => some (l, ops, rs)
  | _ => none
theorem vCmp_of {e l : Expr} {ops : List CmpOp} {rs : List Expr} (h : vCmp e = some (l, ops, rs)) : ∃ p, e = .Compare l ops rs p := by cases e <;> first | (cases h; exact ⟨_, rfl⟩) | cases h
def vBool : Expr → Option (BoolOp × List Expr × Pos)
  | .BoolOp op rs p => some (op, rs, p)
  | _ => none
theorem vBool_of {e : Expr} {op : BoolOp} {rs : List Expr} {p : Pos} (h : vBool e = some (op, rs, p)) : e = .BoolOp op rs p := by cases e <;> first | (cases h; rfl) | cases h
def vIf : Expr → Option (Expr × Expr × Expr)
  | .IfExp t a c _ => some (t, a, c)
  | _ => none
theorem vIf_of {e t a c : Expr} (h : vIf e = some (t, a, c)) : ∃ p, e = .IfExp t a c p := by cases e <;> first | (cases h; exact ⟨_, rfl⟩) | cases h
def vSub : Expr → Option (Expr × Expr)
  | .Subscript v i _ => some (v, i)
  | _ => none
theorem vSub_of {e v i : Expr} (h : vSub e = some (v, i)) : ∃ p, e = .Subscript v i p := by cases e <;> first | (cases h; exact ⟨_, rfl⟩) | cases h
def vSlc : Expr → Option (Option Expr × Option Expr × Option Expr)
  | .Slice l h s _ => some (l, h, s)
  | _ => none
theorem vSlc_of {e : Expr} {l h s : Option Expr} (q : vSlc e = some (l, h, s)) : ∃ p, e = .Slice l h s p := by cases e <;> first | (cases q; exact ⟨_, rfl⟩) | cases q
/-- -1 -/
def isM1 (e : Expr) : Bool := match vUn e with
  | some (.USub, x) => cInt 1 (vConst x)
  | _ => false
theorem isM1_of {e : Expr} (h : isM1 e = true) : ∃ k p1 p2, e = .UnaryOp .USub (.Constant (.int 1) k p1) p2 := by
  unfold isM1 at h
  cases q : vUn e with
  | none => rw [q] at h; cases h
  | some t =>
    obtain ⟨op, x⟩ := t
    rw [q] at h
    obtain ⟨p, rfl⟩ := vUn_of q
    cases op <;> first
      | (obtain ⟨k, p1, rfl⟩ := vConst_of (cInt_of h); exact ⟨k, p1, p, rfl⟩)
      | cases h
/-- a name called, no keywords -/
def vCall : Expr → Option (Str × List Expr)
  | .Call (.Name f _) as [] _ => some (f, as)
  | _ => none
theorem vCall_of {e : Expr} {f : Str} {as : List Expr} (h : vCall e = some (f, as)) : ∃ p q, e = .Call (.Name f p) as [] q := by
  cases e with
  | Call g l kw q => cases g <;> first | (cases kw <;> first | (cases h; exact ⟨_, _, rfl⟩) | cases h) | cases h
  | _ => cases h
def vCallK : Expr → Option (Str × List Expr × List Keyword)
  | .Call (.Name f _) as kws _ => some (f, as, kws)
  | _ => none
theorem vCallK_of {e : Expr} {f : Str} {as : List Expr} {kws : List Keyword} (h : vCallK e = some (f, as, kws)) : ∃ p q, e = .Call (.Name f p) as kws q := by
  cases e with
  | Call g l kw q => cases g <;> first | (cases h; exact ⟨_, _, rfl⟩) | cases h
  | _ => cases h
def vDict : Expr → Option (List (Option Expr) × List Expr)
  | .Dict ks vs _ => some (ks, vs)
  | _ => none
theorem vDict_of {e : Expr} {ks : List (Option Expr)} {vs : List Expr} (h : vDict e = some (ks, vs)) : ∃ p, e = .Dict ks vs p := by
  cases e <;> first | (cases h; exact ⟨_, rfl⟩) | cases h
def keysAre : List Str → List (Option Expr) → Bool
  | [], l => l.isEmpty
  | k :: ks, l => match l with
    | some e :: es => cStr k (vConst e) && keysAre ks es
    | _ => false
def vMeth : Expr → Option (Expr × Str × Pos × List Expr × Pos)
  | .Call (.Attribute o m p) as [] q => some (o, m, p, as, q)
  | _ => none
theorem vMeth_of {e o : Expr} {m : Str} {p q : Pos} {as : List Expr} (h : vMeth e = some (o, m, p, as, q)) : e = .Call (.Attribute o m p) as [] q := by
  cases e with
  | Call g l kw q => cases g <;> first | (cases kw <;> first | (cases h; rfl) | cases h) | cases h
  | _ => cases h
def vLc : Expr → Option (Expr × List Comprehension × Scope)
  | .ListComp elt gs sc _ => some (elt, gs, sc)
  | _ => none
theorem vLc_of {e elt : Expr} {gs : List Comprehension} {sc : Scope} (h : vLc e = some (elt, gs, sc)) : ∃ p, e = .ListComp elt gs sc p := by cases e <;> first | (cases h; exact ⟨_, rfl⟩) | cases h
/-- may it be a test? -/
def tOkE : E → Bool
  | .and a c => tOkE a && tOkE c
  | .or a c => tOkE a && tOkE c
  | .not a => tOkE a
  | .cmp _ _ _ => true
  | .chain _ _ _ _ _ => true
  | .var _ => true
  | .call _ _ => true
  | .bi _ _ => true
  | .isin _ _ => true
  | .sub _ _ => true
  | .drge _ => true
  | _ => false
def isTpl : Expr → Bool
  | .Tuple _ _ _ => true
  | _ => false
def slotsG : G → List Nat
  | .nm i => [i]
  | .tp is => is
def chkTys (S : NS) (tys : List String) (c : Expr) : Bool := match vName c with
  | some t => decide (tys.map Str.ofString = [t]) && glB S.sc t && nmOk t
  | none => match vTup c with
    | some l => decide (tysOf l = some (tys.map Str.ofString)) && (tys.all fun t => glB S.sc (Str.ofString t) && nmOk (Str.ofString t)) && decide (tys.length ≤ 100)
    | none => false
abbrev PsT := Str → Option (List Str)
def drKey : Nat → Str
  | 0 => ("rest" : Str)
  | 1 => ("turn" : Str)
  | _ => ("cells" : Str)
def isNil (e : Expr) : Bool := match vLst e with
  | some [] => true
  | _ => false
mutual
def chkE (T : PsT) (S : NS) : E → Expr → Bool
  | .var i, e => match vName e with
    | some x => chkNm S i x && visB S.sc x
    | none => false
  | .non, e => cNon (vConst e)
  | .bl b, e => cBl b (vConst e)
  | .int i, e => cInt i (vConst e)
  | .str s, e => cStr s (vConst e)
  | .glob x, e => match vName e with
    | some y => decide (x = y) && glB S.sc x && nmOk x
    | none => false
  | .tup es, e => match vTup e with
    | some l => chkEs T S es l
    | none => false
  | .lst es, e => match vLst e with
    | some l => chkEs T S es l
    | none => false
  | .bin op a c, e => match vBin e with
    | some (l, op', r) => decide (op = op') && chkE T S a l && chkE T S c r
    | none => false
  | .neg a, e => match vUn e with
    | some (.USub, x) => chkE T S a x
    | _ => false
  | .cmp op a c, e => match vCmp e with
    | some (l, [op'], [r]) => decide (op = op') && chkE T S a l && chkE T S c r && !behindInMarks op r
    | _ => false
  | .chain op op2 a c d, e => match vCmp e with
    | some (l, [p, p2], [r, r2]) => decide (op = p) && decide (op2 = p2) && chkE T S a l && chkE T S c r && chkE T S d r2 && !behindInMarks op2 r2
    | _ => false
  | .and a c, e => match vBool e with
    | some (.And, l :: r :: rs, p) => chkE T S a l && (match rs with
      | [] => chkE T S c r
      | _ :: _ => chkE T S c (.BoolOp .And (r :: rs) p))
    | _ => false
  | .or a c, e => match vBool e with
    | some (.Or, l :: r :: rs, p) => chkE T S a l && (match rs with
      | [] => chkE T S c r
      | _ :: _ => chkE T S c (.BoolOp .Or (r :: rs) p))
    | _ => false
  | .not a, e => match vUn e with
    | some (.Not, x) => chkE T S a x
    | _ => false
  | .ite t a c, e => match vIf e with
    | some (t', a', c') => chkE T S t t' && tOkE t && chkE T S a a' && chkE T S c c'
    | none => false
  | .sub a i, e => match vSub e with
    | some (v, s) => chkE T S a v && chkE T S i s && notSlice s
    | none => false
  | .slc a lo hi, e => match vSub e with
    | some (v, s) => match vSlc s with
      | some (l, h, none) => chkE T S a v && chkP T S lo l && chkP T S hi h
      | _ => false
    | none => false
  | .rev a, e => match vSub e with
    | some (v, s) => match vSlc s with
      | some (none, none, some m) => chkE T S a v && isM1 m
      | _ => false
    | none => false
  | .call f es, e => match vCall e with
    | some (g, a :: as) => decide (f = g) && glB S.sc f && nmOk f && (T f).isSome && (a :: as).all notStar && chkEs T S es (a :: as)
    | _ => false
  | .bi b es, e => match vCall e with
    | some (g, a :: as) => decide (Str.ofString b = g) && glB S.sc g && nmOk g && BN.contains b && ((bv1 b).isSome && as.isEmpty || (bv2 b).isSome && as.length == 1) && (a :: as).all notStar && chkEs T S es (a :: as)
    | _ => false
  | .join s a, e => match vMeth e with
    | some (o, m, p, [x], q) => decide (m = ("join" : Str)) && chkE T S s o && chkE T S a x && notStar x && !isSuperCall o && p.endLine == q.line
    | _ => false
  | .dct _ ks vs, e => match vDict e with
    | some (keys, values) => (match dispKs ks with
      | some l => keysAre l keys && decide (l.length ≤ 15) && !l.isEmpty
      | none => false) && decide (values.length = keys.length) && values.all notStar && chkEs T S vs values
    | none => false
  | .callK f es ks nm perm, e => match vCallK e with
    | some (g, as, kws) => decide (f = g) && glB S.sc f && nmOk f && kwAll kws && decide (kwNames kws = nm) && (match T f with
      | some ps => permOk ps as.length nm perm
      | none => false) && as.all notStar && chkEs T S es as && chkKs T S ks kws
    | _ => false
  | .lenset a, e => match vCall e with
    | some (g, [s]) => (match vCall s with
      | some (g2, [x]) => decide (g = ("len" : Str)) && decide (g2 = ("set" : Str)) && glB S.sc g && glB S.sc g2 && notStar x && chkE T S a x
      | _ => false)
    | _ => false
  | .sortset a, e => match vCall e with
    | some (g, [s]) => (match vCall s with
      | some (g2, [x]) => decide (g = ("sorted" : Str)) && decide (g2 = ("set" : Str)) && glB S.sc g && glB S.sc g2 && notStar x && chkE T S a x
      | _ => false)
    | _ => false
  | .lzip3 a c d, e => match vCall e with
    | some (g, [s]) => (match vCall s with
      | some (g2, [x, y, z]) => decide (g = ("list" : Str)) && decide (g2 = ("zip" : Str)) && glB S.sc g && glB S.sc g2 && notStar x && notStar y && notStar z && chkE T S a x && chkE T S c y && chkE T S d z
      | _ => false)
    | _ => false
  | .isin a tys, e => match vCall e with
    | some (g, [x, c]) => decide (g = ("isinstance" : Str)) && glB S.sc g && chkE T S a x && notStar x && tys.all (TN.contains ·) && chkTys S tys c
    | _ => false
  | .nev, _ => true
  | .dr o f, e => match vSub e with
    | some (v, s) => chkE T S o v && cStr (drKey f) (vConst s)
    | none => false
  | .drge o, e => match vCmp e with
    | some (l, [.NotEq], [r]) => (match vSub l with
      | some (v, s) => chkE T S o v && cStr ("great" : Str) (vConst s) && isNil r
      | none => false)
    | _ => false
  | .lc e g it c own, x => match vLc x with
    | some (elt, [⟨tg, iter, ifs, 0⟩], scope) => chkI T S tg it iter && notSet iter && chkBlk S scope own && chkG (S.blk scope) g tg && (slotsG g).all (own.contains ·) && chkC T (S.blk scope) c ifs && chkE T (S.blk scope) e elt
    | _ => false
  | .lc2 e g it c g2 it2 c2 own own2 _, x => match vLc x with
    | some (elt, [⟨tg, iter, ifs, 0⟩, ⟨tg2, iter2, ifs2, 0⟩], scope) => chkI T S tg it iter && notSet iter && chkBlk S scope own && chkG (S.blk scope) g tg && (slotsG g).all (own.contains ·) && chkC T (S.blk scope) c ifs &&
        (chkI T (S.blk scope) tg2 it2 iter2 && notSet iter2 && chkG (S.blk scope) g2 tg2 && (slotsG g2).all (own2.contains ·) && own2.all (own.contains ·) && chkC T (S.blk scope) c2 ifs2 && chkE T (S.blk scope) e elt)
    | _ => false
  | _, _ => false
def chkKs (T : PsT) (S : NS) : Es → List Keyword → Bool
  | .nil, l => l.isEmpty
  | .cons e r, l => match l with
    | k :: ks => chkE T S e k.value && chkKs T S r ks
    | [] => false
  | .star _ _, _ => false
def chkEs (T : PsT) (S : NS) : Es → List Expr → Bool
  | .nil, l => l.isEmpty
  | .cons e r, l => match l with
    | x :: xs => notStar x && chkE T S e x && chkEs T S r xs
    | [] => false
  | .star e r, l => match l with
    | .Starred x _ :: xs => chkE T S e x && chkEs T S r xs
    | _ => false
def chkI (T : PsT) (S : NS) (tg : Expr) : I → Expr → Bool
  | .seq e, x => chkE T S e x
  | .rng1 a, e => match vCall e with
    | some (g, [x]) => decide (g = ("range" : Str)) && glB S.sc g && chkE T S a x && notStar x
    | _ => false
  | .rng2 a c, e => match vCall e with
    | some (g, [x, y]) => decide (g = ("range" : Str)) && glB S.sc g && chkE T S a x && notStar x && chkE T S c y && notStar y
    | _ => false
  | .enum a, e => match vCall e with
    | some (g, [x]) => decide (g = ("enumerate" : Str)) && glB S.sc g && chkE T S a x && notStar x && isTpl tg
    | _ => false
  | .zip2 a c, e => match vCall e with
    | some (g, [x, y]) => decide (g = ("zip" : Str)) && glB S.sc g && chkE T S a x && notStar x && chkE T S c y && notStar y && isTpl tg
    | _ => false
  | _, _ => false
def chkC (T : PsT) (S : NS) : C → List Expr → Bool
  | .no, l => l.isEmpty
  | .yes e, l => match l with
    | [x] => chkE T S e x && tOkE e
    | _ => false
def chkP (T : PsT) (S : NS) : C → Option Expr → Bool
  | .no, o => o.isNone
  | .yes e, o => match o with
    | some x => chkE T S e x
    | none => false
end
/-! ### what the context must bear -/
def exW (T : Tab) (W : WX) : L2.St → Hp → Gh → Exc → Prop := fun σ H g e => ∀ c dd, T.ExV H g e c dd → W c dd σ H
def spF (T : Tab) (K : PySem.W.Frag) (f : Str) : Sp := fun vs H Q E => ∃ g d xs, GOk K H g d ∧ RelPs K H g xs vs ∧ Post K H g (RelP K) (T.P.cf f xs d) Q (fun H' g' e => ∀ c dd, T.ExV H' g' e c dd → E c dd H')
structure FOk (X : Cx) (T : Tab) (k : Nat) (f : Str) (ps : List Str) : Prop where
  ex : ∃ fa FD, X.mg f = some (.ref fa) ∧ PySem.W.keepIn X.K (.ref fa) = true ∧ Binds X.K FD ps [] ∧ KB X.K FD ps ∧ FnG X.prog X.w X.K X.mg X.base (L2.CX X.prog X.w) k fa FD ps (spF T X.K f)
structure XOk (X : Cx) (T : Tab) (S : NS) (W : WX) : Prop where
  hN : X.N = S.N
  nd : S.N.Nodup
  hsc : X.env.scope = S.sc
  hfn : X.fn = S.fn
  calm : X.calm = true
  un : X.A.units + 100 < cLine
  gd : X.A.guards = some []
  bi : ∀ b ∈ BN, X.mg (Str.ofString b) = none
  gl : ∀ x p, T.P.gl x = some p → ∃ u v, X.mg x = some u ∧ RelV v u ∧ ∀ H g, RelP X.K H g p v
  fns : ∃ k, Room k X.A ∧ ∀ f ps, T.ps f = some ps → FOk X T k f ps
  tk : Takes X W
theorem XOk.nd' {X : Cx} {T : Tab} {S : NS} {W : WX} (h : XOk X T S W) : X.N.Nodup := h.hN ▸ h.nd
theorem XOk.blk {X : Cx} {T : Tab} {S : NS} {W : WX} (h : XOk X T S W) (scope : Scope) (s : Shared) (H : Hp) (C : Addr) (cl : List (Str × Addr)) (fp : List Addr) :
    XOk (X.blk s H scope (compEnvC scope cl C X.env) fp) T (S.blk scope) (fun _ _ _ _ => False) where
  hN := h.hN
  nd := h.nd
  hsc := by show relS scope X.env.scope = relS scope S.sc; rw [h.hsc]
  hfn := rfl
  calm := h.calm
  un := h.un
  gd := h.gd
  bi := h.bi
  gl := h.gl
  fns := let ⟨k, r, f⟩ := h.fns; ⟨k, r, fun x ps q => ⟨(f x ps q).ex⟩⟩
  tk := L2.takes0
theorem PE.conv {X : Cx} {e : Expr} {t t' : TE} (p : PE X e t) (f : ∀ σ H Q, t' σ H Q → t σ H Q) : PE X e t' := ⟨fun pins s σ H Q I h => p.run pins s σ H Q I (f σ H Q h)⟩
theorem PA.conv {X : Cx} {e : List Expr} {t t' : TA} (p : PA X e t) (f : ∀ σ H Q, t' σ H Q → t σ H Q) : PA X e t' := ⟨fun pos pins s σ H Q I h => p.run pos pins s σ H Q I (f σ H Q h)⟩
theorem PT.conv {X : Cx} {e : Expr} {t t' : TT} (p : PT X e t) (f : ∀ σ H Q, t' σ H Q → t σ H Q) : PT X e t' := ⟨fun pins s σ H Q I h => p.run pins s σ H Q I (f σ H Q h)⟩
theorem PW.conv {X : Cx} {e : Expr} {t t' : TT} (p : PW X e t) (f : ∀ σ H Q, t' σ H Q → t σ H Q) : PW X e t' := ⟨fun wh pins s σ H Q I h => p.run wh pins s σ H Q I (f σ H Q h)⟩
theorem PTs.conv {X : Cx} {e : List Expr} {t t' : TT} (p : PTs X e t) (f : ∀ σ H Q, t' σ H Q → t σ H Q) : PTs X e t' := ⟨fun pins s σ H Q I h => p.run pins s σ H Q I (f σ H Q h)⟩
theorem PI.conv {X : Cx} {tg e : Expr} {t t' : TI} (p : PI X tg e t) (f : ∀ σ H Q, t' σ H Q → t σ H Q) : PI X tg e t' := ⟨fun pins s σ H Q I h => p.run pins s σ H Q I (f σ H Q h)⟩
theorem PG.conv {X : Cx} {e : Expr} {t t' : TG} (p : PG X e t) (f : ∀ v σ H Q, t' v σ H Q → t v σ H Q) : PG X e t' := ⟨fun pins s σ H v u Q I r h => p.run pins s σ H v u Q I r (f v σ H Q h)⟩
theorem PGs.conv {X : Cx} {e : List Expr} {t t' : TGs} (p : PGs X e t) (f : ∀ v σ H Q, t' v σ H Q → t v σ H Q) : PGs X e t' := ⟨fun pins s σ H v u Q I r h => p.run pins s σ H v u Q I r (f v σ H Q h)⟩
theorem PS.conv {X : Cx} {e : Stmt} {t t' : TS} (p : PS X e t) (f : ∀ D σ H, t' D σ H → t D σ H) : PS X e t' := ⟨fun pins s σ H D I h => p.run pins s σ H D I (f D σ H h)⟩
theorem PSs.conv {X : Cx} {e : List Stmt} {t t' : TS} (p : PSs X e t) (f : ∀ D σ H, t' D σ H → t D σ H) : PSs X e t' := ⟨fun pins s σ H D I h => p.run pins s σ H D I (f D σ H h)⟩
theorem starEach_plain {e : Expr} (h : notStar e = true) (es : List Expr) (env : Env) : starEach (e :: es) env = (false, eval e env) :: starEach es env := by
  cases e <;> first | rfl | cases h
theorem starEach_any : ∀ {es : List Expr}, es.all notStar = true → ∀ (pos : Pos) (env : Env), (backTo pos (starEach es env)).any (·.1) = false
  | [], _, _, _ => rfl
  | e :: es, h, pos, env => by
    simp only [List.all_cons, Bool.and_eq_true] at h
    rw [starEach_plain h.1]
    have ih := starEach_any h.2 pos env
    show ((backTo pos ((false, eval e env) :: starEach es env)).any (·.1)) = false
    simp only [backTo, List.map_cons, List.any_cons, Bool.false_or] at ih ⊢
    exact ih
theorem plainIx {e : Expr} (h : notSlice e = true) : PlainIx e := by
  intro o i
  cases e <;> first | rfl | cases h
theorem fse {e : Expr} (h : notSet e = true) (env : Env) (x : Value) : foldedSetIterable e env x = pure x := by
  cases e <;> first | rfl | cases h
theorem nmOk_of {x : Str} (h : nmOk x = true) : (x == ("__debug__" : Str)) = false ∧ (x == ("__classdict__" : Str)) = false ∧ x ≠ "__name__" := by
  unfold nmOk at h
  simp only [Bool.and_eq_true, Bool.not_eq_true'] at h
  exact ⟨h.1.1, h.1.2, fun z => by have := h.2; rw [z] at this; revert this; decide +kernel⟩
theorem vis_of {sc : Scope} {x : Str} (h : visB sc x = true) : Vis sc x := by
  unfold visB at h
  unfold Vis
  split at h <;> first
    | (rename_i q; exact .inl q)
    | (rename_i q; exact .inr (.inl q))
    | (rename_i q; exact .inr (.inr q))
    | cases h
theorem gl_of {X : Cx} {T : Tab} {S : NS} {W : WX} (ok : XOk X T S W) {x : Str} (h : glB S.sc x = true) : Gl X x := by
  unfold glB at h
  show X.env.scope.names.lookup x = _
  rw [ok.hsc]
  exact beq_iff_eq.mp h
end FW
namespace FW
open PySem PySem.Spec PyProof.Rows L2
abbrev tE (T : Tab) (W : WX) (K : PySem.W.Frag) (b : Bool) (m : List Slot → M PV) : TE := tM K (RelX K b) (exW T W) m
section
variable {X : Cx} {T : Tab} {S : NS} {W : WX} {b : Bool} {e l r : Expr} {a c : E} {pos : Pos}
theorem sVar (ok : XOk X T S W) {i : Nat} {x : Str} (h1 : chkNm S i x = true) (h2 : visB S.sc x = true) : PE X (.Name x pos) (tE T W X.K b (ev T.P b (.var i))) := by
  unfold chkNm at h1
  simp only [Bool.and_eq_true, decide_eq_true_eq] at h1
  obtain ⟨n1, n2, _⟩ := nmOk_of h1.2
  refine PE.conv (pe_var (i := i) (by rw [ok.hN]; exact h1.1) (by rw [ok.hsc]; exact vis_of h2) n1 n2) fun σ H Q ⟨g, ls, d, G, L, h⟩ => ?_
  obtain ⟨v, e, h⟩ := (show Post X.K H g (RelX X.K b) (M.lift (rd b i ls) d) Q _ from h).lift
  unfold rd at e
  split at e
  · rename_i own v' q
    split at e <;> rename_i hb
    · cases e
    · cases e
      cases own with
      | false =>
        obtain ⟨x, q1, q2⟩ := L.val i _ q
        exact ⟨x, q1, h.pure G (RelX.of G q2)⟩
      | true =>
        have hb' : b = true := by cases b <;> simp at hb ⊢
        subst hb'
        obtain ⟨a, q1, q2⟩ := L.own i _ q
        exact ⟨_, q1, h.pure G (show RelX X.K true H g _ _ from q2.b)⟩
  · cases e
theorem sNon {j : Nat} : PE X (.Constant .none j pos) (tE T W X.K b (ev T.P b .non)) :=
  PE.conv pe_non fun σ H Q ⟨g, ls, d, G, L, h⟩ => h.pure G (RelX.of G rfl)
theorem sBl {j : Nat} {k : Bool} : PE X (.Constant (.bool k) j pos) (tE T W X.K b (ev T.P b (.bl k))) :=
  PE.conv pe_bl fun σ H Q ⟨g, ls, d, G, L, h⟩ => h.pure G (RelX.of G rfl)
theorem sInt {j : Nat} {k : Int} : PE X (.Constant (.int k) j pos) (tE T W X.K b (ev T.P b (.int k))) :=
  PE.conv pe_int fun σ H Q ⟨g, ls, d, G, L, h⟩ => h.pure G (RelX.of G rfl)
theorem sStr {j : Nat} {k : Str} : PE X (.Constant (.str k) j pos) (tE T W X.K b (ev T.P b (.str k))) :=
  PE.conv pe_str fun σ H Q ⟨g, ls, d, G, L, h⟩ => h.pure G (RelX.of G rfl)
theorem sGlob (ok : XOk X T S W) {x : Str} (h1 : glB S.sc x = true) (h2 : nmOk x = true) : PE X (.Name x pos) (tE T W X.K b (ev T.P b (.glob x))) := by
  refine ⟨fun pins s σ H Q I ⟨g, ls, d, G, L, h⟩ => ?_⟩
  obtain ⟨p, e, h⟩ := (show Post X.K H g (RelX X.K b) (M.lift (T.P.gl x) d) Q _ from h).lift
  obtain ⟨u, v, hm, r, rp⟩ := ok.gl x p e
  exact (pe_glob (gl_of ok h1) hm r (nmOk_of h2).1).run pins s σ H Q I (h.pure G (RelX.of G (rp H g)))
theorem sTup {es : Es} {l : List Expr} {j : Nat} (h : PA X l (tM X.K (fun H g => RelPs X.K H g) (exW T W) (evs T.P es))) : PE X (.Tuple l j pos) (tE T W X.K b (ev T.P b (.tup es))) := by
  refine PE.conv (pe_tup h) fun σ H Q ⟨g, ls, d, G, L, h⟩ => ⟨g, ls, d, G, L, (Post.bind h).imp fun xs H1 ⟨ps, g1, d1, e1, G1, r1, h1⟩ => ?_⟩
  obtain ⟨hz, h1⟩ := h1.ite
  exact ⟨by rw [← r1.length, ← LIM_eq]; exact hz, fun p hp => h1.newT G1 r1 p hp⟩
theorem sLst {es : Es} {l : List Expr} (h : PA X l (tM X.K (fun H g => RelPs X.K H g) (exW T W) (evs T.P es))) : PE X (.List l pos) (tE T W X.K b (ev T.P b (.lst es))) := by
  refine PE.conv (pe_lst h) fun σ H Q ⟨g, ls, d, G, L, h⟩ => ⟨g, ls, d, G, L, (Post.bind h).imp fun xs H1 ⟨ps, g1, d1, e1, G1, r1, h1⟩ => ?_⟩
  obtain ⟨hz, h1⟩ := h1.ite
  exact ⟨by rw [← r1.length, ← LIM_eq]; exact hz, fun p hp => h1.newL G1 r1 p hp⟩
theorem sBin {op : Operator} (ha : PE X l (tE T W X.K true (ev T.P true a))) (hc : PE X r (tE T W X.K true (ev T.P true c))) : PE X (.BinOp l op r pos) (tE T W X.K b (ev T.P b (.bin op a c))) := by
  refine PE.conv (pe_op (op_binF op) ha hc) fun σ H Q ⟨g, ls, d, G, L, h⟩ => ⟨g, ls, d, G, L, (Post.bind h).imp fun x H1 ⟨va, g1, d1, e1, G1, r1, h1⟩ =>
    ⟨g1, ls, d1, G1, L.ext e1, (Post.bind h1).imp fun y H2 ⟨vb, g2, d2, e2, G2, r2, h2⟩ => ?_⟩⟩
  obtain ⟨v, e, h2⟩ := h2.lift
  exact ⟨g2, d2, b, _, va, vb, v, G2, (r1.ext e2).toB G2, r2.toB G2, e, h2⟩
theorem sNeg (ha : PE X l (tE T W X.K true (ev T.P true a))) : PE X (.UnaryOp .USub l pos) (tE T W X.K b (ev T.P b (.neg a))) := by
  refine PE.conv (pe_un un_neg ha) fun σ H Q ⟨g, ls, d, G, L, h⟩ => ⟨g, ls, d, G, L, (Post.bind h).imp fun x H1 ⟨va, g1, d1, e1, G1, r1, h1⟩ => ?_⟩
  cases va with
  | int i => exact ⟨i, (r1.toB G1).int, h1.pure G1 (RelX.of G1 rfl)⟩
  | _ => exact h1.elim
theorem rdCmp {K : PySem.W.Frag} {op : CmpOp} {σ : L2.St} {H : Hp} {Q : VK} (h : tE T W K b (ev T.P b (.cmp op a c)) σ H Q) : tOp (rCmp K op) (tE T W K true (ev T.P true a)) (tE T W K true (ev T.P true c)) σ H Q := by
  obtain ⟨g, ls, d, G, L, h⟩ := h
  refine ⟨g, ls, d, G, L, (Post.bind h).imp fun x H1 ⟨va, g1, d1, e1, G1, r1, h1⟩ =>
    ⟨g1, ls, d1, G1, L.ext e1, (Post.bind h1).imp fun y H2 ⟨vb, g2, d2, e2, G2, r2, h2⟩ => ?_⟩⟩
  obtain ⟨k, e, h3⟩ := h2.liftB
  exact ⟨g2, d2, va, vb, k, G2, (r1.ext e2).toB G2, r2.toB G2, e, h3.pure G2 (RelX.of G2 rfl)⟩
theorem sCmp (ok : XOk X T S W) {op : CmpOp} (hm : behindInMarks op r = false) (ha : PE X l (tE T W X.K true (ev T.P true a))) (hc : PE X r (tE T W X.K true (ev T.P true c))) : PE X (.Compare l [op] [r] pos) (tE T W X.K b (ev T.P b (.cmp op a c))) :=
  PE.conv (pe_cmpR (op_cmpF (by have := ok.un; omega) op) ha hc hm) fun σ H Q h => rdCmp h
theorem rdChain {K : PySem.W.Frag} {op op' : CmpOp} {c' : E} {σ : L2.St} {H : Hp} {Q : VK} (h : tE T W K b (ev T.P b (.chain op op' a c c')) σ H Q) :
    L2.tChain (rCmp K op) (rCmp K op') (tE T W K true (ev T.P true a)) (tE T W K true (ev T.P true c)) (tE T W K true (ev T.P true c')) σ H Q := by
  obtain ⟨g, ls, d, G, L, h⟩ := h
  refine ⟨g, ls, d, G, L, (Post.bind h).imp fun x H1 ⟨va, g1, d1, e1, G1, r1, h1⟩ =>
    ⟨g1, ls, d1, G1, L.ext e1, (Post.bind h1).imp fun y H2 ⟨vb, g2, d2, e2, G2, r2, h2⟩ => ?_⟩⟩
  obtain ⟨k, e, h3⟩ := h2.liftB
  refine ⟨g2, d2, va, vb, k, G2, (r1.ext e2).toB G2, r2.toB G2, e, k, rfl, ?_⟩
  cases k with
  | false => exact (show Post K H2 g2 (RelX K b) (M.pure (.bl false) d2) Q _ from h3).pure G2 (RelX.of G2 rfl)
  | true =>
    refine ⟨g2, ls, d2, G2, (L.ext e1).ext e2, (Post.bind (show Post K H2 g2 (RelX K b) (((ev T.P true c' ls).bind fun z => (M.lift (cmpF op' vb z)).bind fun k => M.pure (.bl k)) d2) Q _ from h3)).imp fun z H3 ⟨vc, g3, d3, e3, G3, r3, h4⟩ => ?_⟩
    obtain ⟨k', e', h5⟩ := h4.liftB
    exact ⟨g3, d3, vb, vc, k', G3, (r2.ext e3).toB G3, r3.toB G3, e', h5.pure G3 (RelX.of G3 rfl)⟩
theorem sChain (ok : XOk X T S W) {op op' : CmpOp} {r' : Expr} {c' : E} (hm : behindInMarks op' r' = false) (ha : PE X l (tE T W X.K true (ev T.P true a))) (hc : PE X r (tE T W X.K true (ev T.P true c))) (hc' : PE X r' (tE T W X.K true (ev T.P true c'))) :
    PE X (.Compare l [op, op'] [r, r'] pos) (tE T W X.K b (ev T.P b (.chain op op' a c c'))) :=
  have hu : X.A.units + 65 < cLine := by have := ok.un; omega
  PE.conv (pe_chain (op_cmpF hu op) (op_cmpF hu op') ha hc hc' (by show lastMarks [op'] [r'] = false; exact hm)) fun σ H Q h => rdChain h
/-- the value of a test: a bool -/
theorem blF_of {p : PV} {k : Bool} (h : blF p = some k) : p = .bl k := by cases p <;> first | (cases h; rfl) | cases h
theorem Post.evBl {α β : Type} {K : PySem.W.Frag} {H : Hp} {g : Gh} {d : DS} {m : M PV} {k : Bool → M α} {R : Hp → Gh → α → β → Prop} {Q : β → Hp → Prop} {EX : Hp → Gh → Exc → Prop} (h : Post K H g R (((FW.evBl m).bind k) d) Q EX) :
    Post K H g (RelX K true) (m d) (fun x H1 => ∃ c g1 d1, x = .bl c ∧ Ext H g H1 g1 ∧ GOk K H1 g1 d1 ∧ Post K H1 g1 R (k c d1) Q EX) EX := by
  unfold FW.evBl at h
  rw [M.bind_assoc] at h
  refine (Post.bind (R := RelX K true) h).imp fun x H1 ⟨va, g1, d1, e1, G1, r1, h1⟩ => ?_
  obtain ⟨c, e, h1⟩ := h1.liftB
  obtain rfl := blF_of e
  exact ⟨c, g1, d1, (r1.toB G1).bl, e1, G1, h1⟩
theorem Post.blB {K : PySem.W.Frag} {H : Hp} {g : Gh} {d : DS} {Q : V → Hp → Prop} {EX : Hp → Gh → Exc → Prop} {m : M PV}
    (h : Post K H g (RelX K b) (((FW.evBl m).bind fun j => M.pure (.bl j)) d) Q EX) : Post K H g (RelX K true) (m d) Q EX := by
  refine (Post.evBl h).imp fun x H1 ⟨c, g1, d1, e, e1, G1, h1⟩ => ?_
  rw [e]
  exact h1.pure G1 (RelX.of G1 rfl)
theorem sAnd {rs : List Expr} (ha : PE X l (tE T W X.K true (ev T.P true a))) (hc : PE X (.BoolOp .And (r :: rs) pos) (tE T W X.K true (ev T.P true c))) : PE X (.BoolOp .And (l :: r :: rs) pos) (tE T W X.K b (ev T.P b (.and a c))) := by
  refine PE.conv (pe_and ha hc) fun σ H Q ⟨g, ls, d, G, L, h⟩ => ⟨g, ls, d, G, L, (Post.evBl h).imp fun x H1 ⟨k, g1, d1, e, e1, G1, h1⟩ => ⟨k, e, ?_⟩⟩
  cases k with
  | true => exact ⟨g1, ls, d1, G1, L.ext e1, Post.blB (m := ev T.P true c ls) h1⟩
  | false => exact (show Post X.K H1 g1 (RelX X.K b) (M.pure (.bl false) d1) Q _ from h1).pure G1 (RelX.of G1 rfl)
theorem sOr {rs : List Expr} (ha : PE X l (tE T W X.K true (ev T.P true a))) (hc : PE X (.BoolOp .Or (r :: rs) pos) (tE T W X.K true (ev T.P true c))) : PE X (.BoolOp .Or (l :: r :: rs) pos) (tE T W X.K b (ev T.P b (.or a c))) := by
  refine PE.conv (pe_or ha hc) fun σ H Q ⟨g, ls, d, G, L, h⟩ => ⟨g, ls, d, G, L, (Post.evBl h).imp fun x H1 ⟨k, g1, d1, e, e1, G1, h1⟩ => ⟨k, e, ?_⟩⟩
  cases k with
  | false => exact ⟨g1, ls, d1, G1, L.ext e1, Post.blB (m := ev T.P true c ls) h1⟩
  | true => exact (show Post X.K H1 g1 (RelX X.K b) (M.pure (.bl true) d1) Q _ from h1).pure G1 (RelX.of G1 rfl)
theorem sNot (ha : PE X l (tE T W X.K true (ev T.P true a))) : PE X (.UnaryOp .Not l pos) (tE T W X.K b (ev T.P b (.not a))) := by
  refine PE.conv (pe_not ha) fun σ H Q ⟨g, ls, d, G, L, h⟩ => ⟨g, ls, d, G, L, (Post.evBl h).imp fun x H1 ⟨k, g1, d1, e, e1, G1, h1⟩ => ⟨k, e, h1.pure G1 (RelX.of G1 rfl)⟩⟩
/-- a test's reading -/
abbrev tT (T : Tab) (W : WX) (K : PySem.W.Frag) (a : E) : TT := tM K RelK (exW T W) (fun ls => (ev T.P true a ls).bind fun x => M.lift (truF x))
theorem sIte {t' : Expr} {t : E} (ht : PT X t' (tT T W X.K t)) (ha : ∀ b, PE X l (tE T W X.K b (ev T.P false a))) (hc : ∀ b, PE X r (tE T W X.K b (ev T.P false c))) : PE X (.IfExp t' l r pos) (tE T W X.K b (ev T.P b (.ite t a c))) := by
  refine PE.conv (pe_ifExp ht (ha b) (hc b)) fun σ H Q ⟨g, ls, d, G, L, h⟩ => ?_
  have h : Post X.K H g (RelX X.K b) ((((ev T.P true t ls).bind fun x => M.lift (truF x)).bind (fun k => if k = true then ev T.P false a ls else ev T.P false c ls)) d) Q (exW T W σ) := by
    rw [M.bind_assoc]; exact h
  refine ⟨g, ls, d, G, L, (Post.bind (R := RelK) h).imp fun k H1 ⟨k', g1, d1, e1, G1, r1, h1⟩ => ?_⟩
  obtain rfl : k = k' := r1
  cases k with
  | true => exact ⟨g1, ls, d1, G1, L.ext e1, h1⟩
  | false => exact ⟨g1, ls, d1, G1, L.ext e1, h1⟩
theorem sSub (ok : XOk X T S W) (hs : notSlice r = true) (ha : PE X l (tE T W X.K true (ev T.P true a))) (hc : PE X r (tE T W X.K true (ev T.P true c))) : PE X (.Subscript l r pos) (tE T W X.K b (ev T.P b (.sub a c))) := by
  refine PE.conv (pe_ix (ix_subF (by have := ok.un; omega)) ha hc (plainIx hs)) fun σ H Q ⟨g, ls, d, G, L, h⟩ => ⟨g, ls, d, G, L, (Post.bind h).imp fun x H1 ⟨va, g1, d1, e1, G1, r1, h1⟩ =>
    ⟨g1, ls, d1, G1, L.ext e1, (Post.bind h1).imp fun y H2 ⟨vb, g2, d2, e2, G2, r2, h2⟩ => ?_⟩⟩
  obtain ⟨v, e, h2⟩ := h2.lift
  exact ⟨g2, d2, b, _, va, vb, v, G2, (r1.ext e2).toB G2, r2.toB G2, e, h2⟩
/-- a slice's part -/
def RelI (H : Hp) (g : Gh) (a b : Option Int) : Prop := b = a
abbrev tPt (T : Tab) (W : WX) (K : PySem.W.Frag) (a : C) : TO := tM K RelI (exW T W) (evP T.P a)
theorem sPNo : PO X none (tPt T W X.K .no) := ⟨fun pins s σ H Q I ⟨g, ls, d, G, L, h⟩ => po_none.run pins s σ H Q I (h.pure G rfl)⟩
theorem sPYes (ha : PE X l (tE T W X.K true (ev T.P true a))) : PO X (some l) (tPt T W X.K (.yes a)) := by
  refine ⟨fun pins s σ H Q I ⟨g, ls, d, G, L, h⟩ => (po_some ha).run pins s σ H Q I ⟨g, ls, d, G, L, (Post.bind h).imp fun x H1 ⟨p, g1, d1, e1, G1, r1, h1⟩ => ?_⟩⟩
  cases p with
  | int j => exact ⟨j, (r1.toB G1).int, h1.pure G1 rfl⟩
  | _ => exact h1.elim
theorem sSlc {lo hi : C} {l' h' : Option Expr} {p2 : Pos} (ha : PE X l (tE T W X.K true (ev T.P true a))) (hl : PO X l' (tPt T W X.K lo)) (hh : PO X h' (tPt T W X.K hi)) : PE X (.Subscript l (.Slice l' h' none p2) pos) (tE T W X.K b (ev T.P b (.slc a lo hi))) := by
  refine PE.conv (pe_slice sl_slcF ha hl hh) fun σ H Q ⟨g, ls, d, G, L, h⟩ => ⟨g, ls, d, G, L, (Post.bind h).imp fun x H1 ⟨va, g1, d1, e1, G1, r1, h1⟩ =>
    ⟨g1, ls, d1, G1, L.ext e1, (Post.bind h1).imp fun i H2 ⟨i', g2, d2, e2, G2, r2, h2⟩ => ⟨g2, ls, d2, G2, (L.ext e1).ext e2, (Post.bind h2).imp fun j H3 ⟨j', g3, d3, e3, G3, r3, h3⟩ => ?_⟩⟩⟩
  obtain rfl : i = i' := r2
  obtain rfl : j = j' := r3
  obtain ⟨v, e, h3⟩ := h3.lift
  exact ⟨g3, d3, b, _, va, v, G3, ((r1.ext e2).ext e3).toB G3, e, h3⟩
theorem sRev {k : Nat} {p1 p2 p3 : Pos} (ha : PE X l (tE T W X.K true (ev T.P true a))) : PE X (.Subscript l (.Slice none none (some (.UnaryOp .USub (.Constant (.int 1) k p1) p2)) p3) pos) (tE T W X.K b (ev T.P b (.rev a))) := by
  refine PE.conv (pe_revL ha) fun σ H Q ⟨g, ls, d, G, L, h⟩ => ⟨g, ls, d, G, L, (Post.bind h).imp fun x H1 ⟨va, g1, d1, e1, G1, r1, h1⟩ => ?_⟩
  cases va with
  | lst ps =>
    obtain ⟨p, vs, ex, _, q1, q2⟩ := (r1.toB G1).lst
    exact ⟨p, vs, ex, SqL.of q1, fun q hq => h1.newL G1 q2.reverse q hq⟩
  | _ => exact h1.elim
/-! ### arguments -/
abbrev tPs (T : Tab) (W : WX) (K : PySem.W.Frag) (es : Es) : TA := tM K (fun H g => RelPs K H g) (exW T W) (evs T.P es)
abbrev tBs (T : Tab) (W : WX) (K : PySem.W.Frag) (es : Es) : TA := tM K (fun H g => RelBs K H g) (exW T W) (evsB T.P es)
theorem sPsNil : PA X [] (tPs T W X.K .nil) := PA.conv pa_nil fun σ H Q ⟨g, ls, d, G, L, h⟩ => h.pure G rfl
theorem sPsCons {es : Es} {rs : List Expr} (hs : notStar l = true) (ha : PE X l (tE T W X.K false (ev T.P false a))) (hr : PA X rs (tPs T W X.K es)) : PA X (l :: rs) (tPs T W X.K (.cons a es)) := by
  refine PA.conv (pa_cons ha hr (starEach_plain hs _ _)) fun σ H Q ⟨g, ls, d, G, L, h⟩ => ⟨g, ls, d, G, L, (Post.bind h).imp fun x H1 ⟨va, g1, d1, e1, G1, r1, h1⟩ =>
    ⟨g1, ls, d1, G1, L.ext e1, (Post.bind (R := fun H g => RelPs X.K H g) h1).imp fun ys H2 ⟨ps, g2, d2, e2, G2, r2, h2⟩ => h2.pure G2 (RelPs.cons (RelP.ext e2 r1) r2)⟩⟩
theorem sPsStar {es : Es} {rs : List Expr} {p : Pos} (ha : PE X l (tE T W X.K true (ev T.P true a))) (hr : PA X rs (tPs T W X.K es)) : PA X (.Starred l p :: rs) (tPs T W X.K (.star a es)) := by
  refine PA.conv (StX.pa_star ha hr) fun σ H Q ⟨g, ls, d, G, L, h⟩ => ⟨g, ls, d, G, L, (Post.bind h).imp fun x H1 ⟨va, g1, d1, e1, G1, r1, h1⟩ => ?_⟩
  cases e : seqOf va with
  | none => simp only [e] at h1; exact h1.elim
  | some ys =>
    simp only [e] at h1
    obtain ⟨p, vs, ex, q1, q2⟩ := seq_of e (r1.toB G1)
    refine ⟨p, vs, ex, ?_, g1, ls, d1, G1, L.ext e1, (Post.bind (R := fun H g => RelPs X.K H g) h1).imp fun zs H2 ⟨ps, g2, d2, e2, G2, r2, h2⟩ => h2.pure G2 (RelPs.append (RelPs.ext e2 q1) r2)⟩
    rcases q2 with ⟨_, q2⟩ | ⟨_, q2⟩
    · exact .inr q2
    · exact .inl q2
theorem sBsNil : PA X [] (tBs T W X.K .nil) := PA.conv pa_nil fun σ H Q ⟨g, ls, d, G, L, h⟩ => h.pure G rfl
theorem sBsCons {es : Es} {rs : List Expr} (hs : notStar l = true) (ha : PE X l (tE T W X.K true (ev T.P true a))) (hr : PA X rs (tBs T W X.K es)) : PA X (l :: rs) (tBs T W X.K (.cons a es)) := by
  refine PA.conv (pa_cons ha hr (starEach_plain hs _ _)) fun σ H Q ⟨g, ls, d, G, L, h⟩ => ⟨g, ls, d, G, L, (Post.bind h).imp fun x H1 ⟨va, g1, d1, e1, G1, r1, h1⟩ =>
    ⟨g1, ls, d1, G1, L.ext e1, (Post.bind (R := fun H g => RelBs X.K H g) h1).imp fun ys H2 ⟨ps, g2, d2, e2, G2, r2, h2⟩ => h2.pure G2 ⟨_, _, rfl, (r1.ext e2).toB G2, r2⟩⟩⟩
/-! ### calls -/
theorem sCall (ok : XOk X T S W) {f : Str} {es : Es} {p : Pos} {e : Expr} {as : List Expr} (h1 : glB S.sc f = true) (h2 : nmOk f = true) (h3 : (T.ps f).isSome = true) (h4 : (e :: as).all notStar = true) (ha : PA X (e :: as) (tPs T W X.K es)) :
    PE X (.Call (.Name f p) (e :: as) [] pos) (tE T W X.K b (ev T.P b (.call f es))) := by
  obtain ⟨ps, q⟩ := Option.isSome_iff_exists.mp h3
  obtain ⟨k, hr, fs⟩ := ok.fns
  obtain ⟨fa, FD, hm, hk, hb, _, F⟩ := (fs f ps q).ex
  have h4' := h4
  simp only [List.all_cons, Bool.and_eq_true] at h4'
  refine PE.conv (pe_callG F ⟨ok.gd, hr⟩ (gl_of ok h1) hm hk hb (fun σ => passAt ok.tk σ) ha (nmOk_of h2).1 (starEach_plain h4'.1 _ _) (starEach_any h4'.2 _ _)) fun σ H Q ⟨g, ls, d, G, L, h⟩ =>
    ⟨g, ls, d, G, L, (Post.bind (R := fun H g => RelPs X.K H g) h).imp fun xs H1 ⟨vs, g1, d1, e1, G1, r1, h1⟩ => ⟨g1, d1, vs, G1, r1, ?_⟩⟩
  exact h1.rel fun H' g' d' v x G' r => RelX.of G' r
theorem relPs_pick {K : PySem.W.Frag} {H : Hp} {g : Gh} {xs ys : List PV} {vs zs : List V} (r1 : RelPs K H g xs vs) (r2 : RelPs K H g ys zs) : ∀ perm : List Nat, RelPs K H g (pick perm xs ys) (pick perm vs zs) := by
  have ra := r1.append r2
  intro perm
  unfold pick
  induction perm with
  | nil => rfl
  | cons i l ih =>
    rw [List.filterMap_cons, List.filterMap_cons]
    cases e : (xs ++ ys)[i]? with
    | none =>
      have : (vs ++ zs)[i]? = none := by
        rw [List.getElem?_eq_none_iff] at e ⊢
        rw [ra.length] at e
        exact e
      rw [this]
      exact ih
    | some p =>
      obtain ⟨x, e2, rx⟩ := ra.get e
      rw [e2]
      exact ⟨x, _, rfl, rx, ih⟩
theorem PK.conv {X : Cx} {e : List Keyword} {t t' : TA} (p : PK X e t) (f : ∀ σ H Q, t' σ H Q → t σ H Q) : PK X e t' := ⟨fun pos pins s σ H Q I h => p.run pos pins s σ H Q I (f σ H Q h)⟩
theorem sKsNil : PK X [] (tPs T W X.K .nil) := PK.conv pk_nil fun σ H Q ⟨g, ls, d, G, L, h⟩ => h.pure G rfl
theorem sKsCons {es : Es} {k : Keyword} {rs : List Keyword} (ha : PE X k.value (tE T W X.K false (ev T.P false a))) (hr : PK X rs (tPs T W X.K es)) : PK X (k :: rs) (tPs T W X.K (.cons a es)) := by
  obtain ⟨nm, e, kp⟩ := k
  refine PK.conv (pk_cons (nm := nm) (e := e) (kpos := kp) ha hr) fun σ H Q ⟨g, ls, d, G, L, h⟩ => ⟨g, ls, d, G, L, (Post.bind h).imp fun x H1 ⟨va, g1, d1, e1, G1, r1, h1⟩ =>
    ⟨g1, ls, d1, G1, L.ext e1, (Post.bind (R := fun H g => RelPs X.K H g) h1).imp fun ys H2 ⟨ps, g2, d2, e2, G2, r2, h2⟩ => h2.pure G2 (RelPs.cons (RelP.ext e2 r1) r2)⟩⟩
theorem sCallK (ok : XOk X T S W) {f : Str} {es ks : Es} {nm : List Str} {perm : List Nat} {p : Pos} {as : List Expr} {kws : List Keyword} {ps : List Str} (h1 : glB S.sc f = true) (h2 : nmOk f = true) (h3 : T.ps f = some ps) (h4 : as.all notStar = true) (h5 : kwAll kws = true) (h6 : kwNames kws = nm) (h7 : permOk ps as.length nm perm = true) (h8 : as = [] → es = .nil)
    (ha : PA X as (tPs T W X.K es)) (hk : PK X kws (tPs T W X.K ks)) : PE X (.Call (.Name f p) as kws pos) (tE T W X.K b (ev T.P b (.callK f es ks nm perm))) := by
  obtain ⟨k, hr, fs⟩ := ok.fns
  obtain ⟨fa, FD, hm, hkp, _, hb, F⟩ := (fs f ps h3).ex
  have rows := kw_rows pos X.env h5
  have hN := hb _ _ _ h7
  rw [← h6] at hN
  have hlen : perm.length = as.length + nm.length := by
    unfold permOk at h7
    simp only [Bool.and_eq_true, decide_eq_true_eq] at h7
    rw [h7.2, permOf, List.length_map, List.length_range]
    exact h7.1.1.1.1.symm
  have rd : ∀ σ H Q, tE T W X.K b (ev T.P b (.callK f es ks nm perm)) σ H Q → tCallNS as.length (kwNames kws).length (spF T X.K f) (pick perm) (WE W) (tPs T W X.K es) (tPs T W X.K ks) σ H Q := by
    rintro σ H Q ⟨g, ls, d, G, L, h⟩
    refine ⟨g, ls, d, G, L, (Post.bind (R := fun H g => RelPs X.K H g) h).imp fun xs H1 ⟨vs, g1, d1, e1, G1, r1, h1⟩ => ⟨g1, ls, d1, G1, L.ext e1, (Post.bind (R := fun H g => RelPs X.K H g) h1).imp fun ys H2 ⟨zs, g2, d2, e2, G2, r2, h2⟩ => ?_⟩⟩
    by_cases hq : vs.length + zs.length = perm.length ∧ zs.length = nm.length
    · rw [if_pos hq] at h2
      have l1 := r1.length
      have l2 := r2.length
      refine ⟨by omega, by rw [h6]; omega, g2, d2, pick perm vs zs, G2, relPs_pick (r1.ext e2) r2 perm, ?_⟩
      exact h2.rel fun H' g' d' v x G' r => RelX.of G' r
    · rw [if_neg hq] at h2
      exact h2.elim
  cases as with
  | nil =>
    obtain rfl := h8 rfl
    refine PE.conv (pe_kw0G F ⟨ok.gd, hr⟩ (gl_of ok h1) hm hkp hN (fun σ => passAt ok.tk σ) hk rows.1 rows.2.1 (nmOk_of h2).1 (by rw [rows.2.2]; rfl)) fun σ H Q z => ?_
    obtain ⟨g, ls, d, G, L, z⟩ := rd σ H Q z
    exact (show Post X.K H g (fun H g => RelPs X.K H g) (M.pure [] d) _ (exW T W σ) from z).pure G rfl
  | cons e as =>
    simp only [List.all_cons, Bool.and_eq_true] at h4
    refine PE.conv (pe_kwG F ⟨ok.gd, hr⟩ (gl_of ok h1) hm hkp hN (fun σ => passAt ok.tk σ) ha hk rows.1 rows.2.1 (nmOk_of h2).1 (starEach_plain h4.1 _ _) ?_) rd
    rw [rows.2.2, Bool.or_false, starEach_plain h4.1]
    exact starEach_any h4.2 pos X.env
theorem sBi (ok : XOk X T S W) {f : String} {es : Es} {p : Pos} {e : Expr} {as : List Expr} (h1 : glB S.sc (Str.ofString f) = true) (h2 : nmOk (Str.ofString f) = true) (h3 : BN.contains f = true) (h5 : ((bv1 f).isSome && as.isEmpty || (bv2 f).isSome && as.length == 1) = true)
    (h4 : (e :: as).all notStar = true) (ha : PA X (e :: as) (tBs T W X.K es)) : PE X (.Call (.Name (Str.ofString f) p) (e :: as) [] pos) (tE T W X.K b (ev T.P b (.bi f es))) := by
  have h4' := h4
  simp only [List.all_cons, Bool.and_eq_true] at h4'
  have hm : X.mg (Str.ofString f) = none := ok.bi f (by simpa using h3)
  obtain ⟨n1, _, n3⟩ := nmOk_of h2
  have he := starEach_plain h4'.1 as X.env
  have hpl := starEach_any h4'.2 pos X.env
  have gen : ∀ (v : Value) (R : List V → Hp → VK → Prop), CallR X v R → bootBuiltins (Str.ofString f) = some v → ((∃ i, v = .builtin i) ∨ ∃ i, v = .type i) → PE X (.Call (.Name (Str.ofString f) p) (e :: as) [] pos) (tCB R (tBs T W X.K es)) := by
    intro v R hc hv hk
    rcases hk with ⟨i, rfl⟩ | ⟨i, rfl⟩
    · exact pe_callB hc (gl_of ok h1) hm hv ha n3 n1 he hpl
    · exact pe_callTy hc (gl_of ok h1) hm hv ha n3 n1 he hpl
  rw [Bool.or_eq_true, Bool.and_eq_true, Bool.and_eq_true] at h5
  by_cases q1 : (bv1 f).isSome = true
  · obtain ⟨v, q⟩ := Option.isSome_iff_exists.mp q1
    obtain ⟨c1, c2, c3⟩ := call_bi1 ok.calm ok.gd ok.un q
    refine PE.conv (gen v _ c1 c2 c3) fun σ H Q ⟨g, ls, d, G, L, h⟩ => ⟨g, ls, d, G, L, (Post.bind (R := fun H g => RelBs X.K H g) h).imp fun xs H1 ⟨vs, g1, d1, e1, G1, r1, h1⟩ => ?_⟩
    obtain ⟨w, e2, h2⟩ := h1.lift
    cases vs with
    | nil => cases e2
    | cons v1 vs =>
      obtain ⟨y, t, rfl, r2, r3⟩ := r1
      cases vs with
      | nil =>
        cases r3
        exact ⟨g1, d1, b, _, v1, y, w, rfl, G1, r2, e2, h2⟩
      | cons v2 vs =>
        cases vs with
        | nil =>
          exfalso
          have e2 : bi2 f v1 v2 = some w := e2
          unfold bv1 at q
          split at q <;> first
            | (exact absurd (show (none : Option PV) = some w from e2) (by simp))
            | cases q
        | cons _ _ => cases e2
  · have q2 : (bv2 f).isSome = true := by
      rcases h5 with h5 | h5
      · exact absurd h5.1 q1
      · exact h5.1
    obtain ⟨v, q⟩ := Option.isSome_iff_exists.mp q2
    obtain ⟨c1, c2, c3⟩ := call_bi2 ok.calm q
    refine PE.conv (gen v _ c1 c2 c3) fun σ H Q ⟨g, ls, d, G, L, h⟩ => ⟨g, ls, d, G, L, (Post.bind (R := fun H g => RelBs X.K H g) h).imp fun xs H1 ⟨vs, g1, d1, e1, G1, r1, h1⟩ => ?_⟩
    obtain ⟨w, e2, h2⟩ := h1.lift
    cases vs with
    | nil => cases e2
    | cons v1 vs =>
      obtain ⟨y, t, rfl, r2, r3⟩ := r1
      cases vs with
      | nil =>
        exfalso
        have e2 : bi1 f v1 = some w := e2
        unfold bv2 at q
        split at q <;> first
          | (exact absurd (show (none : Option PV) = some w from e2) (by simp))
          | cases q
      | cons v2 vs =>
        obtain ⟨y2, t2, rfl, r4, r5⟩ := r3
        cases vs with
        | nil =>
          cases r5
          exact ⟨g1, d1, b, _, v1, v2, y, y2, w, rfl, G1, r2, r4, e2, h2⟩
        | cons _ _ => cases e2
end
end FW
namespace FW
open PySem PySem.Spec PyProof.Rows L2
/-! ### forgotten slots -/
theorem wipe_set {σ : L2.St} {i : Nat} {x : Option V} : ∀ {vs : List Nat}, i ∈ vs → wipe (σ.set i x) vs = wipe σ vs
  | [], h => by cases h
  | v :: vs, h => by
    show (wipe (σ.set i x) vs).set v none = (wipe σ vs).set v none
    by_cases hi : i ∈ vs
    · rw [wipe_set hi]
    · have e : i = v := by
        rcases List.mem_cons.mp h with e | e
        · exact e
        · exact absurd e hi
      subst e
      have hh : ∀ {vs : List Nat}, i ∉ vs → wipe (σ.set i x) vs = (wipe σ vs).set i x := by
        intro vs
        induction vs with
        | nil => intro _; rfl
        | cons w ws ih =>
          intro hn
          rw [List.mem_cons, not_or] at hn
          show (wipe (σ.set i x) ws).set w none = ((wipe σ ws).set w none).set i x
          rw [ih hn.2, List.set_comm _ _ hn.1]
      rw [hh hi, List.set_set]
theorem LRel.wipe {K : PySem.W.Frag} {H : Hp} {g : Gh} {ls : List Slot} {σ : L2.St} (L : LRel K H g ls σ) : ∀ vs : List Nat, LRel K H g (wipeP ls vs) (L2.wipe σ vs)
  | [] => L
  | v :: vs => (LRel.wipe L vs).none v
/-! ### targets -/
def tG (K : PySem.W.Frag) (t : G) : TG := fun v σ H Q => ∃ g ls ls' p d, GOk K H g d ∧ LRel K H g ls σ ∧ RelP K H g p v ∧ storeG t p ls = some ls' ∧
  ∀ σ', LRel K H g ls' σ' → (∀ vs : List Nat, (∀ i ∈ slotsG t, i ∈ vs) → wipe σ' vs = wipe σ vs) → Q σ' H
theorem storeOk {X : Cx} {T : Tab} {S : NS} {W : WX} (ok : XOk X T S W) {x : Str} (h : stoB S x = true) : Loc X.env.scope x ∧ (X.fn x = true ∨ X.env.scope.names.lookup x = some .local) := by
  unfold stoB at h
  rw [ok.hsc, ok.hfn]
  split at h
  · rename_i q; exact ⟨.inl q, .inr q⟩
  · rename_i q; exact ⟨.inr q, .inl h⟩
  · cases h
theorem chkG1_of {S : NS} {i : Nat} {e : Expr} (h : chkG1 S i e = true) : ∃ x p, e = .Name x p ∧ S.N[i]? = some x ∧ stoB S x = true := by
  cases e <;> first
    | (simp only [chkG1, chkNm, Bool.and_eq_true, decide_eq_true_eq] at h; exact ⟨_, _, rfl, h.1.1, h.2⟩)
    | cases h
section
variable {X : Cx} {T : Tab} {S : NS} {W : WX}
theorem pg1 (ok : XOk X T S W) {i : Nat} {e : Expr} (h : chkG1 S i e = true) : PG X e (gName i) := by
  obtain ⟨x, p, rfl, h1, h2⟩ := chkG1_of h
  obtain ⟨a, b⟩ := storeOk ok h2
  exact pg_name ok.nd' (by rw [ok.hN]; exact h1) a b
def setAll : List Nat → List V → L2.St → L2.St
  | i :: is, v :: vs, σ => setAll is vs (σ.set i (some v))
  | _, _, σ => σ
theorem assignEach_plain {e : Expr} {es : List Expr} {env : Env} (h : notStar e = true) : assignEach (e :: es) env = (false, assign e env) :: assignEach es env := by
  cases e <;> first | rfl | cases h
theorem chkGs_plain {S : NS} : ∀ {is : List Nat} {es : List Expr}, chkGs S is es = true → is.length = es.length ∧ ∀ env, (assignEach es env).length = es.length ∧ (assignEach es env).findIdx? (·.1) = none
  | [], [], _ => ⟨rfl, fun _ => ⟨rfl, rfl⟩⟩
  | [], _ :: _, h => by cases h
  | _ :: _, [], h => by cases h
  | i :: is, e :: es, h => by
    have h' : (chkG1 S i e && chkGs S is es) = true := h
    rw [Bool.and_eq_true] at h'
    obtain ⟨x, p, rfl, _⟩ := chkG1_of h'.1
    obtain ⟨q1, q2⟩ := chkGs_plain h'.2
    refine ⟨by rw [List.length_cons, List.length_cons, q1], fun env => ?_⟩
    rw [assignEach_plain rfl]
    obtain ⟨q3, q4⟩ := q2 env
    exact ⟨by rw [List.length_cons, List.length_cons, q3], by rw [List.findIdx?_cons]; simp [q4]⟩
theorem pgs (ok : XOk X T S W) : ∀ {is : List Nat} {es : List Expr}, chkGs S is es = true → PGs X es (fun vs σ H Q => vs.length = is.length ∧ Q (setAll is vs σ) H)
  | [], [], _ => ⟨fun pins s σ H vs us Q I r h => pgs_nil.run pins s σ H vs us Q I r ⟨by obtain ⟨h, _⟩ := h; simpa using h, by obtain ⟨h, q⟩ := h; exact q⟩⟩
  | [], _ :: _, h => by cases h
  | _ :: _, [], h => by cases h
  | i :: is, e :: es, h => by
    have h' : (chkG1 S i e && chkGs S is es) = true := h
    rw [Bool.and_eq_true] at h'
    have hp : notStar e = true := by obtain ⟨x, p, rfl, _⟩ := chkG1_of h'.1; rfl
    refine ⟨fun pins s σ H vs us Q I r ⟨h1, h2⟩ => (pgs_cons (pg1 ok h'.1) (pgs ok h'.2) (by rw [assignEach_plain hp]; rfl)).run pins s σ H vs us Q I r ?_⟩
    cases vs with
    | nil => cases h1
    | cons v vs => exact ⟨v, vs, rfl, by simpa using h1, h2⟩
theorem LRel.setAll {K : PySem.W.Frag} {H : Hp} {g : Gh} : ∀ (is : List Nat) (ps : List PV) (vs : List V) {ls : List Slot} {σ : L2.St}, LRel K H g ls σ → RelPs K H g ps vs → LRel K H g ((is.zip ps).foldl (fun l p => l.set p.1 (some (false, p.2))) ls) (setAll is vs σ)
  | [], _, _, _, _, L, _ => L
  | _ :: _, [], _, _, _, L, r => by cases r; exact L
  | i :: is, p :: ps, _, _, _, L, r => by
    obtain ⟨y, t, rfl, r1, r2⟩ := r
    exact LRel.setAll is ps t (L.set i r1) r2
theorem wipe_setAll : ∀ (is : List Nat) (vs : List V) (σ : L2.St) (ws : List Nat), (∀ i ∈ is, i ∈ ws) → wipe (setAll is vs σ) ws = wipe σ ws
  | [], _, _, _, _ => rfl
  | _ :: _, [], _, _, _ => rfl
  | i :: is, v :: vs, σ, ws, h => by
    show wipe (setAll is vs (σ.set i (some v))) ws = _
    rw [wipe_setAll is vs _ ws fun j hj => h j (List.mem_cons_of_mem _ hj), wipe_set (h i List.mem_cons_self)]
theorem sG (ok : XOk X T S W) {t : G} {e : Expr} (h : chkG S t e = true) : PG X e (tG X.K t) := by
  cases t with
  | nm i =>
    have h : chkG1 S i e = true := h
    refine PG.conv (pg1 ok h) fun v σ H Q ⟨g, ls, ls', p, d, G, L, r, e1, q⟩ => ?_
    have e1 : (if i < ls.length then some (ls.set i (some (false, p))) else none) = some ls' := e1
    split at e1
    · cases e1
      exact q _ (L.set i r) fun vs hv => wipe_set (hv i (by simp [slotsG]))
    · cases e1
  | tp is =>
    cases e with
    | Tuple es k pos =>
      have h : chkGs S is es = true := h
      obtain ⟨hl, hp⟩ := chkGs_plain h
      refine ⟨fun pins s σ H v u Q I r ⟨g, ls, ls', p, d, G, L, r1, e1, q⟩ => ?_⟩
      have e1 : (match seqOf p with
        | some xs => if xs.length = is.length ∧ is.all (· < ls.length) then some ((is.zip xs).foldl (fun l p => l.set p.1 (some (false, p.2))) ls) else none
        | none => none) = some ls' := e1
      cases e2 : seqOf p with
      | none => rw [e2] at e1; cases e1
      | some xs =>
        rw [e2] at e1
        simp only at e1
        split at e1 <;> rename_i hc
        · cases e1
          obtain ⟨a, vs, rfl, q1, q2⟩ := seq_of e2 (r1.b G)
          have hvl : vs.length = is.length := by rw [← q1.length]; exact hc.1
          have fin : Q (setAll is vs σ) H := q _ (LRel.setAll is xs vs L q1) fun ws hw => wipe_setAll is vs σ ws hw
          rcases q2 with ⟨_, q2⟩ | ⟨_, q2⟩
          · exact (pg_lst ok.calm (pgs ok h) (hp X.env).1 (hp X.env).2).run pins s σ H _ u Q I r ⟨a, vs, rfl, q2, by rw [hvl, hl], hvl, fin⟩
          · exact (pg_tup ok.calm (pgs ok h) (hp X.env).1 (hp X.env).2).run pins s σ H _ u Q I r ⟨a, vs, rfl, q2, by rw [hvl, hl], hvl, fin⟩
        · cases e1
    | _ => cases h
/-! ### what is walked -/
def RelJ (K : PySem.W.Frag) (b : Bool) (H : Hp) (g : Gh) (ps : List PV) (J : It) : Prop :=
  ∀ H' g' d, (if b = true then Ext H g H' g' else Mono H g H' g') → GOk K H' g' d → (∀ (i : Nat) p, ps[i]? = some p → J.go i H' ∧ ∀ x H'', J.yld i H' x H'' → ∃ g'', Ext H' g' H'' g'' ∧ GOk K H'' g'' d ∧ RelP K H'' g'' p x) ∧ ∀ i : Nat, ps.length ≤ i → J.stop i H'
theorem RelJ.mono_of {b : Bool} {H H' : Hp} {g g' : Gh} (h : if b = true then Ext H g H' g' else Mono H g H' g') : Mono H g H' g' := by
  cases b with
  | true => exact Ext.mono h
  | false => exact h
theorem relJ_lst {K : PySem.W.Frag} {b : Bool} {H : Hp} {g : Gh} {ps : List PV} {x : V} (r : RelX K b H g (.lst ps) x) : ∃ a, x = .ref a ∧ (∃ vs, SqL K H a vs) ∧ RelJ K b H g ps (Itl K a) := by
  have key : ∃ a vs, x = .ref a ∧ H a = some (.lst vs) ∧ RelPs K H g ps vs ∧ ∀ H' g', (if b = true then Ext H g H' g' else Mono H g H' g') → H' a = some (.lst vs) := by
    cases b with
    | true =>
      obtain ⟨a, vs, h1, h2, h3, h4⟩ := r
      exact ⟨a, vs, h1, h3, h4, fun H' g' e => Ext.keep e a _ h3 h2⟩
    | false =>
      obtain ⟨a, vs, h1, h2, h3, h4⟩ := r
      exact ⟨a, vs, h1, h3, h4, fun H' g' e => (Mono.fz e a h2).2.trans h3⟩
  obtain ⟨a, vs, h1, h2, h3, h4⟩ := key
  refine ⟨a, h1, ⟨vs, SqL.of h2⟩, fun H' g' d e G => ⟨fun i p hp => ?_, fun i hi => ⟨vs, SqL.of (h4 _ _ e), by rw [← h3.length]; exact hi⟩⟩⟩
  obtain ⟨y, q1, q2⟩ := h3.get hp
  refine ⟨⟨vs, y, SqL.of (h4 _ _ e), q1⟩, fun z H'' ⟨e1, e2⟩ => ?_⟩
  subst e1
  have := e2 vs (SqL.of (h4 _ _ e))
  rw [q1] at this
  cases this
  exact ⟨g', Ext.refl _ _, G, RelP.mono (RelJ.mono_of e) q2⟩
theorem relJ_tup {K : PySem.W.Frag} {b : Bool} {H : Hp} {g : Gh} {d : DS} {ps : List PV} {x : V} (G : GOk K H g d) (r : RelX K b H g (.tup ps) x) : ∃ a, x = .ref a ∧ (∃ vs, SqT K H a vs) ∧ RelJ K b H g ps (Itt K a) := by
  obtain ⟨a, vs, h1, h2, h3⟩ := (r.toB G).tup
  refine ⟨a, h1, ⟨vs, h2⟩, fun H' g' d e G => ⟨fun i p hp => ?_, fun i hi => ⟨vs, (RelJ.mono_of e).sqT h2, by rw [← h3.length]; exact hi⟩⟩⟩
  obtain ⟨y, q1, q2⟩ := h3.get hp
  refine ⟨⟨vs, y, (RelJ.mono_of e).sqT h2, q1⟩, fun z H'' ⟨e1, e2⟩ => ?_⟩
  subst e1
  have := e2 vs ((RelJ.mono_of e).sqT h2)
  rw [q1] at this
  cases this
  exact ⟨g', Ext.refl _ _, G, RelP.mono (RelJ.mono_of e) q2⟩
theorem relJ_str {K : PySem.W.Frag} {b : Bool} {H : Hp} {g : Gh} {x : Str} : RelJ K b H g (x.cps.toList.map fun c => .str ⟨#[c]⟩) (Its x) := by
  refine fun H' g' d e G => ⟨fun i p hp => ?_, fun i hi => ?_⟩
  · rw [List.getElem?_map] at hp
    obtain ⟨c, h1, rfl⟩ := Option.map_eq_some_iff.mp hp
    have hs : x.cps[i]? = some c := by simpa using h1
    refine ⟨?_, fun z H'' ⟨e1, c', e2, e3⟩ => ?_⟩
    · show i < x.cps.size
      exact (Array.getElem?_eq_some_iff.mp hs).1
    · subst e1
      rw [hs] at e2
      cases e2
      exact ⟨g', Ext.refl _ _, G, e3⟩
  · show x.cps.size ≤ i
    simpa using hi
theorem relJ_rng {K : PySem.W.Frag} {b : Bool} {H : Hp} {g : Gh} {lo : Int} {n : Nat} : RelJ K b H g (rangeP lo n) (Itr lo n) := by
  refine fun H' g' d e G => ⟨fun i p hp => ?_, fun i hi => ?_⟩
  · unfold rangeP at hp
    rw [List.getElem?_map] at hp
    obtain ⟨c, h1, rfl⟩ := Option.map_eq_some_iff.mp hp
    obtain ⟨hi, rfl⟩ := List.getElem?_eq_some_iff.mp h1
    rw [List.length_range] at hi
    refine ⟨hi, fun z H'' ⟨e1, e2⟩ => ?_⟩
    subst e1
    refine ⟨g', Ext.refl _ _, G, ?_⟩
    rw [List.getElem_range]
    exact e2
  · unfold rangeP at hi
    show n ≤ i
    simpa using hi
theorem relJ_pair {K : PySem.W.Frag} {H : Hp} {g : Gh} {d : DS} (G : GOk K H g d) {T : Addr} (hT : H T = none) {p q : PV} {x y : V} (r1 : RelP K H g p x) (r2 : RelP K H g q y) :
    ∃ g'', Ext H g (upd H T (.tup [x, y])) g'' ∧ GOk K (upd H T (.tup [x, y])) g'' d ∧ RelP K (upd H T (.tup [x, y])) g'' (.tup [p, q]) (.ref T) := by
  have e := Ext.alloc (o := .tup [x, y]) G hT
  exact ⟨g, e, G.alloc hT, T, [x, y], rfl, .inl (.inl upd_same), x, [y], rfl, RelP.ext e r1, y, [], rfl, RelP.ext e r2, rfl⟩
theorem enum_get : ∀ {ps : List PV} {k i : Nat} {q : PV}, (enumP k ps)[i]? = some q → ∃ p, ps[i]? = some p ∧ q = .tup [.int ((k + i : Nat) : Int), p]
  | [], _, _, _, h => by simp [enumP] at h
  | p :: ps, k, 0, q, h => by
    have h : PV.tup [.int (k : Nat), p] = q := by simpa [enumP] using h
    exact ⟨p, rfl, by rw [← h]; rfl⟩
  | p :: ps, k, i + 1, q, h => by
    obtain ⟨p', h1, h2⟩ := enum_get (ps := ps) (k := k + 1) (i := i) (q := q) (by simpa [enumP] using h)
    exact ⟨p', by simpa using h1, by rw [h2]; simp only [PV.tup.injEq, List.cons.injEq, PV.int.injEq, and_true]; omega⟩
theorem enum_len : ∀ {ps : List PV} {k : Nat}, (enumP k ps).length = ps.length
  | [], _ => rfl
  | _ :: ps, k => by simp [enumP, enum_len (ps := ps)]
theorem relJ_enum {K : PySem.W.Frag} {b : Bool} {H : Hp} {g : Gh} {ps : List PV} {x : V} (r : RelX K b H g (.lst ps) x) : ∃ a vs, x = .ref a ∧ SqL K H a vs ∧ RelJ K b H g (enumP 0 ps) (Ite K a) := by
  have key : ∃ a vs, x = .ref a ∧ H a = some (.lst vs) ∧ RelPs K H g ps vs ∧ ∀ H' g', (if b = true then Ext H g H' g' else Mono H g H' g') → H' a = some (.lst vs) := by
    cases b with
    | true =>
      obtain ⟨a, vs, h1, h2, h3, h4⟩ := r
      exact ⟨a, vs, h1, h3, h4, fun H' g' e => Ext.keep e a _ h3 h2⟩
    | false =>
      obtain ⟨a, vs, h1, h2, h3, h4⟩ := r
      exact ⟨a, vs, h1, h3, h4, fun H' g' e => (Mono.fz e a h2).2.trans h3⟩
  obtain ⟨a, vs, h1, h2, h3, h4⟩ := key
  refine ⟨a, vs, h1, SqL.of h2, fun H' g' d e G => ⟨fun i p hp => ?_, fun i hi => ⟨vs, SqL.of (h4 _ _ e), by rw [← h3.length]; rw [enum_len] at hi; exact hi⟩⟩⟩
  obtain ⟨p, hp', rfl⟩ := enum_get hp
  obtain ⟨y, q1, q2⟩ := h3.get hp'
  refine ⟨⟨vs, y, SqL.of (h4 _ _ e), q1⟩, fun z H'' ⟨A, y', e1, e2, e3, e4⟩ => ?_⟩
  have := e4 vs (SqL.of (h4 _ _ e))
  rw [q1] at this
  cases this
  subst e1 e3
  exact relJ_pair G e2 (by rw [Nat.zero_add]; rfl) (RelP.mono (RelJ.mono_of e) q2)
theorem zip_get : ∀ {ps qs : List PV} {i : Nat} {q : PV}, (zip2P ps qs)[i]? = some q → ∃ a c, ps[i]? = some a ∧ qs[i]? = some c ∧ q = .tup [a, c]
  | [], _, _, _, h => by simp [zip2P] at h
  | _ :: _, [], _, _, h => by simp [zip2P] at h
  | p :: ps, r :: qs, 0, q, h => by
    have h : PV.tup [p, r] = q := by simpa [zip2P] using h
    exact ⟨p, r, rfl, rfl, h.symm⟩
  | p :: ps, r :: qs, i + 1, q, h => by
    obtain ⟨a, c, h1, h2, h3⟩ := zip_get (ps := ps) (qs := qs) (i := i) (q := q) (by simpa [zip2P] using h)
    exact ⟨a, c, by simpa using h1, by simpa using h2, h3⟩
theorem zip_len : ∀ {ps qs : List PV} {i : Nat}, (zip2P ps qs).length ≤ i → ps.length ≤ i ∨ qs.length ≤ i
  | [], _, _, _ => .inl (Nat.zero_le _)
  | _ :: _, [], _, _ => .inr (Nat.zero_le _)
  | p :: ps, r :: qs, 0, h => by simp [zip2P] at h
  | p :: ps, r :: qs, i + 1, h => by
    rcases zip_len (ps := ps) (qs := qs) (i := i) (by simpa [zip2P] using h) with h | h
    · exact .inl (by simpa using h)
    · exact .inr (by simpa using h)
theorem lst_keep {K : PySem.W.Frag} {b : Bool} {H : Hp} {g : Gh} {ps : List PV} {x : V} (r : RelX K b H g (.lst ps) x) :
    ∃ a vs, x = .ref a ∧ H a = some (.lst vs) ∧ RelPs K H g ps vs ∧ ∀ H' g', (if b = true then Ext H g H' g' else Mono H g H' g') → H' a = some (.lst vs) := by
  cases b with
  | true =>
    obtain ⟨a, vs, h1, h2, h3, h4⟩ := r
    exact ⟨a, vs, h1, h3, h4, fun H' g' e => Ext.keep e a _ h3 h2⟩
  | false =>
    obtain ⟨a, vs, h1, h2, h3, h4⟩ := r
    exact ⟨a, vs, h1, h3, h4, fun H' g' e => (Mono.fz e a h2).2.trans h3⟩
theorem relJ_zipL {K : PySem.W.Frag} {b : Bool} {H : Hp} {g : Gh} {ps qs : List PV} {x y : V} (r : RelX K b H g (.lst ps) x) (r' : RelX K b H g (.lst qs) y) :
    ∃ a c vs ws, x = .ref a ∧ y = .ref c ∧ SqL K H a vs ∧ SqL K H c ws ∧ RelJ K b H g (zip2P ps qs) (Itz K a c) := by
  obtain ⟨a, vs, h1, h2, h3, h4⟩ := lst_keep r
  obtain ⟨c, ws, k1, k2, k3, k4⟩ := lst_keep r'
  refine ⟨a, c, vs, ws, h1, k1, SqL.of h2, SqL.of k2, fun H' g' d e G => ⟨fun i p hp => ?_, fun i hi => ⟨vs, ws, SqL.of (h4 _ _ e), SqL.of (k4 _ _ e), by rw [← h3.length, ← k3.length]; exact zip_len hi⟩⟩⟩
  obtain ⟨p1, p2, e1, e2, rfl⟩ := zip_get hp
  obtain ⟨y1, q1, q2⟩ := h3.get e1
  obtain ⟨y2, q3, q4⟩ := k3.get e2
  refine ⟨⟨vs, ws, y1, y2, SqL.of (h4 _ _ e), SqL.of (k4 _ _ e), q1, q3⟩, fun z H'' ⟨A, z1, z2, e1, e2, e3, e4, e5⟩ => ?_⟩
  have t1 := e4 vs (SqL.of (h4 _ _ e))
  have t2 := e5 ws (SqL.of (k4 _ _ e))
  rw [q1] at t1; rw [q3] at t2
  cases t1; cases t2
  subst e1 e3
  exact relJ_pair G e2 (RelP.mono (RelJ.mono_of e) q2) (RelP.mono (RelJ.mono_of e) q4)
theorem relJ_zipT {K : PySem.W.Frag} {b : Bool} {H : Hp} {g : Gh} {d : DS} (G : GOk K H g d) {ps qs : List PV} {x y : V} (r : RelX K b H g (.tup ps) x) (r' : RelX K b H g (.tup qs) y) :
    ∃ a c vs ws, x = .ref a ∧ y = .ref c ∧ SqT K H a vs ∧ SqT K H c ws ∧ RelJ K b H g (zip2P ps qs) (RZ.ItzT K a c) := by
  obtain ⟨a, vs, h1, h2, h3⟩ := (r.toB G).tup
  obtain ⟨c, ws, k1, k2, k3⟩ := (r'.toB G).tup
  refine ⟨a, c, vs, ws, h1, k1, h2, k2, fun H' g' d e G => ⟨fun i p hp => ?_, fun i hi => ⟨vs, ws, (RelJ.mono_of e).sqT h2, (RelJ.mono_of e).sqT k2, by rw [← h3.length, ← k3.length]; exact zip_len hi⟩⟩⟩
  obtain ⟨p1, p2, e1, e2, rfl⟩ := zip_get hp
  obtain ⟨y1, q1, q2⟩ := h3.get e1
  obtain ⟨y2, q3, q4⟩ := k3.get e2
  refine ⟨⟨vs, ws, y1, y2, (RelJ.mono_of e).sqT h2, (RelJ.mono_of e).sqT k2, q1, q3⟩, fun z H'' ⟨A, z1, z2, e1, e2, e3, e4, e5⟩ => ?_⟩
  have t1 := e4 vs ((RelJ.mono_of e).sqT h2)
  have t2 := e5 ws ((RelJ.mono_of e).sqT k2)
  rw [q1] at t1; rw [q3] at t2
  cases t1; cases t2
  subst e1 e3
  exact relJ_pair G e2 (RelP.mono (RelJ.mono_of e) q2) (RelP.mono (RelJ.mono_of e) q4)
abbrev tI (T : Tab) (W : WX) (K : PySem.W.Frag) (b : Bool) (it : I) : TI := tM K (RelJ K b) (exW T W) (evI T.P b it)
theorem PI.by {X : Cx} {tg e : Expr} {t : TI} (f : ∀ σ H R, t σ H R → ∃ u, PI X tg e u ∧ u σ H R) : PI X tg e t :=
  ⟨fun pins s σ H R I h => let ⟨_, p, q⟩ := f σ H R h; p.run pins s σ H R I q⟩
variable {b : Bool} {tg l r : Expr} {a c : E}
theorem relJ_scr {K : PySem.W.Frag} {b : Bool} {H : Hp} {g : Gh} {ns : List Int} {x : V} {d : DS} (G : GOk K H g d) (r : RelX K b H g (.scr ns) x) : ∃ a, x = .ref a ∧ (∃ vs, SqL K H a vs) ∧ RelJ K b H g (ns.map .int) (Itl K a) := by
  obtain ⟨a, rfl, h⟩ := (show ∃ a, x = .ref a ∧ ScrAt K H a (ns.map .int) from r.toB G)
  refine ⟨a, rfl, ⟨_, h.sq⟩, fun H' g' d e G => ?_⟩
  have h' : SqL K H' a (ns.map .int) := by
    rcases h with ⟨o, h⟩ | h
    · exact .inl (.inr ⟨o, (RelJ.mono_of e).frzs _ _ _ h⟩)
    · exact .inr h
  refine ⟨fun i p hp => ?_, fun i hi => ⟨_, h', by rw [List.length_map] at hi ⊢; exact hi⟩⟩
  rw [List.getElem?_map] at hp
  obtain ⟨k, h1, rfl⟩ := Option.map_eq_some_iff.mp hp
  have h2 : (ns.map V.int)[i]? = some (.int k) := by rw [List.getElem?_map, h1]; rfl
  refine ⟨⟨_, _, h', h2⟩, fun z H'' ⟨e1, e2⟩ => ?_⟩
  subst e1
  have := e2 _ h'
  rw [h2] at this
  cases this
  exact ⟨g', Ext.refl _ _, G, rfl⟩
theorem sISeq (ha : PE X l (tE T W X.K b (ev T.P b a))) : PI X tg l (tI T W X.K b (.seq a)) := by
  refine PI.by fun σ H R ⟨g, ls, d, G, L, h⟩ => ?_
  have h : Post X.K H g (RelJ X.K b) (((ev T.P b a ls).bind fun x => M.lift (itemsF x)) d) R (exW T W σ) := h
  unfold M.bind at h
  cases q : ev T.P b a ls d with
  | bad => rw [q] at h; exact h.elim
  | ex e d' => exact ⟨_, pi_list ha, g, ls, d, G, L, by rw [q] at h ⊢; exact h⟩
  | ok v d' =>
    rw [q] at h
    obtain ⟨xs, e, h⟩ := (show Post X.K H g (RelJ X.K b) (M.lift (itemsF v) d') R (exW T W σ) from h).lift
    cases v with
    | lst ys =>
      cases e
      refine ⟨_, pi_list ha, g, ls, d, G, L, ?_⟩
      rw [q]
      intro H' g' x e G' rx
      obtain ⟨ad, h2, h3, h4⟩ := relJ_lst rx
      exact ⟨ad, h2, h3, h H' g' _ e G' h4⟩
    | tup ys =>
      cases e
      refine ⟨_, pi_tup ha, g, ls, d, G, L, ?_⟩
      rw [q]
      intro H' g' x e G' rx
      obtain ⟨ad, h2, h3, h4⟩ := relJ_tup G' rx
      exact ⟨ad, h2, h3, h H' g' _ e G' h4⟩
    | scr ns =>
      cases e
      refine ⟨_, pi_list ha, g, ls, d, G, L, ?_⟩
      rw [q]
      intro H' g' x e G' rx
      obtain ⟨ad, h2, h3, h4⟩ := relJ_scr G' rx
      exact ⟨ad, h2, h3, h H' g' _ e G' h4⟩
    | str z =>
      have e : (if z.length ≤ LIM then some (z.cps.toList.map fun c => PV.str ⟨#[c]⟩) else none) = some xs := e
      by_cases hz : z.length ≤ LIM
      · rw [if_pos hz] at e
        cases e
        refine ⟨_, pi_str ha, g, ls, d, G, L, ?_⟩
        rw [q]
        intro H' g' x e G' rx
        exact ⟨z, (rx.toB G').str, h H' g' _ e G' relJ_str⟩
      · rw [if_neg hz] at e; cases e
    | _ => cases e
/-- one argument, or two, as they are -/
theorem starEach_1 {x : Expr} (h : notStar x = true) (env : Env) : starEach [x] env = [(false, eval x env)] := by
  rw [starEach_plain h]; rfl
theorem starEach_2 {x y : Expr} (h : notStar x = true) (h' : notStar y = true) (env : Env) : starEach [x, y] env = [(false, eval x env), (false, eval y env)] := by
  rw [starEach_plain h, starEach_plain h']; rfl
theorem sIRng1 (ok : XOk X T S W) {p pos : Pos} (h1 : glB S.sc ("range" : Str) = true) (hs : notStar l = true) (ha : PE X l (tE T W X.K true (ev T.P true a))) :
    PI X tg (.Call (.Name ("range" : Str) p) [l] [] pos) (tI T W X.K b (.rng1 a)) := by
  refine PI.conv (pi_range1 (gl_of ok h1) (ok.bi "range" (by decide)) (pa_cons ha pa_nil (starEach_plain hs _ _)) (starEach_1 hs _)) fun σ H R ⟨g, ls, d, G, L, h⟩ => ⟨g, ls, d, G, L, (Post.bind h).imp fun x H1 ⟨v, g1, d1, e1, G1, r1, h1⟩ => ?_⟩
  cases v with
  | int n =>
    obtain ⟨⟨q1, q2⟩, h2⟩ := h1.ite
    exact ⟨n, by rw [(r1.toB G1).int], q2, q1, h2.pure G1 relJ_rng⟩
  | _ => exact h1.elim
theorem sIRng2 (ok : XOk X T S W) {p pos : Pos} (h1 : glB S.sc ("range" : Str) = true) (hs : notStar l = true) (hs2 : notStar r = true) (ha : PE X l (tE T W X.K true (ev T.P true a))) (hc : PE X r (tE T W X.K true (ev T.P true c))) :
    PI X tg (.Call (.Name ("range" : Str) p) [l, r] [] pos) (tI T W X.K b (.rng2 a c)) := by
  refine PI.conv (pi_range2 (gl_of ok h1) (ok.bi "range" (by decide)) (pa_cons ha (pa_cons hc pa_nil (starEach_plain hs2 _ _)) (starEach_plain hs _ _)) (starEach_2 hs hs2 _) (starEach_1 hs2 _)) fun σ H R ⟨g, ls, d, G, L, h⟩ =>
    ⟨g, ls, d, G, L, (Post.bind h).imp fun x H1 ⟨v, g1, d1, e1, G1, r1, h1⟩ => ⟨g1, ls, d1, G1, L.ext e1, (Post.bind h1).imp fun y H2 ⟨w, g2, d2, e2, G2, r2, h2⟩ => ?_⟩⟩
  cases v with
  | int m =>
    cases w with
    | int n =>
      obtain ⟨⟨q1, q2, q3, q4⟩, h2⟩ := h2.ite
      exact ⟨m, n, by rw [((r1.ext e2).toB G2).int, (r2.toB G2).int], ⟨q2, q3, q4, q1⟩, h2.pure G2 relJ_rng⟩
    | _ => exact h2.elim
  | _ => exact h2.elim
theorem sIEnum (ok : XOk X T S W) {es : List Expr} {k : Nat} {tp p pos : Pos} (h1 : glB S.sc ("enumerate" : Str) = true) (hs : notStar l = true) (ha : PE X l (tE T W X.K b (ev T.P b a))) :
    PI X (.Tuple es k tp) (.Call (.Name ("enumerate" : Str) p) [l] [] pos) (tI T W X.K b (.enum a)) := by
  refine PI.conv (pi_enum (gl_of ok h1) (ok.bi "enumerate" (by decide)) (pa_cons ha pa_nil (starEach_plain hs _ _)) (starEach_1 hs _)) fun σ H R ⟨g, ls, d, G, L, h⟩ => ⟨g, ls, d, G, L, (Post.bind h).imp fun x H1 ⟨v, g1, d1, e1, G1, r1, h1⟩ => ?_⟩
  cases v with
  | lst xs =>
    obtain ⟨ad, vs, h2, h3, h4⟩ := relJ_enum r1
    exact ⟨ad, vs, by rw [h2], h3, h1.pure G1 h4⟩
  | _ => exact h1.elim
theorem RelX.step {K : PySem.W.Frag} {H H' : Hp} {g g' : Gh} {p : PV} {x : V} (e : Ext H g H' g') (h : RelX K b H g p x) : RelX K b H' g' p x := h.ext e
theorem sIZip (ok : XOk X T S W) {es : List Expr} {k : Nat} {tp p pos : Pos} (h1 : glB S.sc ("zip" : Str) = true) (hs : notStar l = true) (hs2 : notStar r = true) (ha : PE X l (tE T W X.K b (ev T.P b a))) (hc : PE X r (tE T W X.K b (ev T.P b c))) :
    PI X (.Tuple es k tp) (.Call (.Name ("zip" : Str) p) [l, r] [] pos) (tI T W X.K b (.zip2 a c)) := by
  refine PI.conv (RZ.pi_zipA (gl_of ok h1) (ok.bi "zip" (by decide)) (pa_cons ha (pa_cons hc pa_nil (starEach_plain hs2 _ _)) (starEach_plain hs _ _)) (starEach_plain hs _ _) (starEach_any (by simp [hs2]) _ _)) fun σ H R ⟨g, ls, d, G, L, h⟩ =>
    ⟨g, ls, d, G, L, (Post.bind h).imp fun x H1 ⟨v, g1, d1, e1, G1, r1, h1⟩ => ⟨g1, ls, d1, G1, L.ext e1, (Post.bind h1).imp fun y H2 ⟨w, g2, d2, e2, G2, r2, h2⟩ => ?_⟩⟩
  have r1 := r1.ext e2
  cases v with
  | lst m =>
    cases w with
    | lst n =>
      obtain ⟨a1, c1, vs, ws, q1, q2, q3, q4, q5⟩ := relJ_zipL r1 r2
      exact ⟨a1, c1, vs, ws, by rw [q1, q2], .inl ⟨q3, q4, h2.pure G2 q5⟩⟩
    | _ => exact h2.elim
  | tup m =>
    cases w with
    | tup n =>
      obtain ⟨a1, c1, vs, ws, q1, q2, q3, q4, q5⟩ := relJ_zipT G2 r1 r2
      exact ⟨a1, c1, vs, ws, by rw [q1, q2], .inr ⟨q3, q4, h2.pure G2 q5⟩⟩
    | _ => exact h2.elim
  | _ => exact h2.elim
end
end FW
namespace FW
open PySem PySem.Spec PyProof.Rows L2
theorem M.bind_ok {α β : Type} {m : M α} {k : α → M β} {d d2 : DS} {b : β} (h : (m.bind k) d = .ok b d2) : ∃ a d1, m d = .ok a d1 ∧ k a d1 = .ok b d2 := by
  unfold M.bind at h
  cases q : m d with
  | bad => rw [q] at h; cases h
  | ok a d1 => rw [q] at h; exact ⟨a, d1, rfl, h⟩
  | ex e d1 => rw [q] at h; cases h
theorem Post.of_ok {α β : Type} {K : PySem.W.Frag} {H : Hp} {g : Gh} {R : Hp → Gh → α → β → Prop} {r : Res α} {v : α} {d' : DS} {Q : β → Hp → Prop} {EX : Hp → Gh → Exc → Prop} (e : r = .ok v d')
    (h : ∀ H' g' x, Ext H g H' g' → GOk K H' g' d' → R H' g' v x → Q x H') : Post K H g R r Q EX := by subst e; exact h
theorem stepF_ok {st : Option (List Slot)} {c : List Slot → M Bool} {e : List Slot → M PV} {d d2 : DS} {o : Option PV} (h : stepF st c e d = .ok o d2) :
    ∃ ls', st = some ls' ∧ ∃ k d1, c ls' d = .ok k d1 ∧ ((k = true ∧ ∃ y, o = some y ∧ e ls' d1 = .ok y d2) ∨ (k = false ∧ o = none ∧ d1 = d2)) := by
  unfold stepF at h
  cases st with
  | none => cases h
  | some ls' =>
    obtain ⟨k, d1, h1, h2⟩ := M.bind_ok h
    refine ⟨ls', rfl, k, d1, h1, ?_⟩
    cases k with
    | true =>
      obtain ⟨y, d3, h3, h4⟩ := M.bind_ok (show ((e ls').bind fun y => M.pure (some y)) d1 = .ok o d2 from h2)
      cases h4
      exact .inl ⟨rfl, y, rfl, h3⟩
    | false =>
      cases (show (Res.ok (none : Option PV) d1) = .ok o d2 from h2)
      exact .inr ⟨rfl, rfl, rfl⟩
theorem compM_ok {f : PV → M (Option PV)} {x : PV} {xs acc fin : List PV} {d d2 : DS} (h : compM f (x :: xs) acc d = .ok fin d2) :
    ∃ o d1, f x d = .ok o d1 ∧ ((o = none ∧ compM f xs acc d1 = .ok fin d2) ∨ ∃ y, o = some y ∧ acc.length < LIM ∧ compM f xs (acc ++ [y]) d1 = .ok fin d2) := by
  obtain ⟨o, d1, h1, h2⟩ := M.bind_ok h
  refine ⟨o, d1, h1, ?_⟩
  cases o with
  | none => exact .inl ⟨rfl, h2⟩
  | some y =>
    have h2 : (if acc.length < LIM then compM f xs (acc ++ [y]) else M.bad) d1 = .ok fin d2 := h2
    by_cases hl : acc.length < LIM
    · rw [if_pos hl] at h2; exact .inr ⟨y, rfl, hl, h2⟩
    · rw [if_neg hl] at h2; cases h2
/-- the growing list of a comprehension -/
def LcI (K : PySem.W.Frag) (H1 : Hp) (g1 : Gh) (D : Addr) (acc : List PV) (Hc : Hp) (gc : Gh) (dc : DS) : Prop :=
  ∃ vs, Ext H1 g1 Hc gc ∧ GOk K Hc gc dc ∧ ¬ gc.fz D ∧ ¬ gc.isD D ∧ Hc D = some (.lst vs) ∧ RelPs K Hc gc acc vs
section
variable {K : PySem.W.Frag} {H1 Hc H' : Hp} {g1 gc g' : Gh} {D : Addr} {acc : List PV} {dc d' : DS}
theorem LcI.start (G : GOk K H1 g1 dc) (hD : H1 D = none) : LcI K H1 g1 D [] (upd H1 D (.lst [])) g1 dc :=
  ⟨[], Ext.alloc G hD, G.alloc hD, fun z => G.fzT _ z hD, fun z => G.trk z hD, upd_same, rfl⟩
theorem LcI.step (h : LcI K H1 g1 D acc Hc gc dc) (e : Ext Hc gc H' g') (G : GOk K H' g' d') : LcI K H1 g1 D acc H' g' d' := by
  obtain ⟨vs, h1, h2, h3, h4, h5, h6⟩ := h
  refine ⟨vs, h1.trans e, G, fun z => ?_, fun z => ?_, e.keep _ _ h5 h4, h6.ext e⟩
  · rcases e.new _ z with z | z
    · exact h3 z
    · rw [h5] at z; cases z
  · rcases e.drn _ z with z | z
    · exact h4 z
    · rw [h5] at z; cases z
theorem LcI.app (hD : H1 D = none) (h : LcI K H1 g1 D acc Hc gc dc) {p : PV} {y : V} (r : RelP K Hc gc p y) (hl : acc.length < LIM) :
    ∃ vs, Hc D = some (.lst vs) ∧ vs.length < sizeLine ∧ LcI K H1 g1 D (acc ++ [p]) (upd Hc D (.lst (vs ++ [y]))) gc dc ∧ Mono Hc gc (upd Hc D (.lst (vs ++ [y]))) gc := by
  obtain ⟨vs, h1, h2, h3, h4, h5, h6⟩ := h
  have m : Mono Hc gc (upd Hc D (.lst (vs ++ [y]))) gc := Mono.upd h5 (fun xs z => by cases z) (fun b u z => by cases z) h3
  refine ⟨vs, h5, by rw [← h6.length, ← LIM_eq]; exact hl, ⟨_, h1.upd hD h3, h2.upd h3 h4, h3, h4, upd_same, ?_⟩, m⟩
  exact RelPs.append (RelPs.mono m h6) (RelPs.one (RelP.mono m r))
theorem Mono.add {H : Hp} {g : Gh} {a : Addr} : Mono H g H (g.add a) := ⟨fun _ _ h => h, fun _ _ _ h => h, fun _ h => ⟨.inl h, rfl⟩, fun _ h => h⟩
/-- given away -/
theorem LcI.fin (hD : H1 D = none) (h : LcI K H1 g1 D acc Hc gc dc) : Ext H1 g1 Hc (gc.add D) ∧ GOk K Hc (gc.add D) dc ∧ RelP K Hc (gc.add D) (.lst acc) (.ref D) := by
  obtain ⟨vs, h1, h2, h3, h4, h5, h6⟩ := h
  exact ⟨h1.add hD, h2.add (by rw [h5]; simp) h4, D, vs, rfl, .inr rfl, h5, RelPs.mono Mono.add h6⟩
end
theorem wipe_sub {σ : L2.St} {vs : List Nat} : ∀ {us : List Nat}, (∀ i ∈ us, i ∈ vs) → wipe (wipe σ us) vs = wipe σ vs
  | [], _ => rfl
  | u :: us, h => by
    show wipe ((wipe σ us).set u none) vs = _
    rw [wipe_set (h u List.mem_cons_self), wipe_sub fun i hi => h i (List.mem_cons_of_mem _ hi)]
abbrev tT' (T : Tab) (W : WX) (K : PySem.W.Frag) (c : C) : TT := tM K RelK (exW T W) (evC T.P c)
abbrev W0 : WX := fun _ _ _ _ => False
section
variable {X : Cx} {T : Tab} {S : NS} {W : WX} {b : Bool} {l r : Expr} {a c : E} {pos : Pos}
theorem drop_at {α : Type} {ps : List α} {i : Nat} {p : α} (h : ps[i]? = some p) : ps.drop i = p :: ps.drop (i + 1) := by
  obtain ⟨hi, rfl⟩ := List.getElem?_eq_some_iff.mp h
  exact List.drop_eq_getElem_cons hi
theorem blk_of (ok : XOk X T S W) {scope : Scope} {own : List Nat} (h : chkBlk S scope own = true) : BlkOk X.N X.env.scope scope (ownP S.N own) ∧ (ownP S.N own).map (·.2) = own := by
  unfold chkBlk at h
  rw [Bool.and_eq_true, decide_eq_true_eq] at h
  exact ⟨by rw [ok.hN, ok.hsc]; exact blkOk_by h.1, h.2⟩
theorem lcCore {K : PySem.W.Frag} {g : G} {cc : C} {own : List Nat} {e : E} {σ : L2.St} {H1 : Hp} {g1 : Gh} {d1 dF : DS} {ls : List Slot} {ps fin : List PV} {J : It} {Q : VK} (hgo : (slotsG g).all (own.contains ·) = true) (rJ : RelJ K true H1 g1 ps J) (G1 : GOk K H1 g1 d1) (L0 : LRel K H1 g1 ls σ)
    (q : compM (fun x => stepF (storeG g x (wipeP ls own)) (evC T.P cc) (ev T.P false e)) ps [] d1 = .ok fin dF) (hQ : ∀ D Hc gc, H1 D = none → LcI K H1 g1 D fin Hc gc dF → Q (.ref D) Hc) :
    ∀ D, H1 D = none → ∃ W : Nat → Nat → Hp → Prop, (∃ m, W 0 m (upd H1 D (.lst []))) ∧ ∀ i m H, W i m H →
      (J.stop i H ∧ Q (.ref D) H) ∨ (J.go i H ∧ ∃ Nx : Hp → Prop, (∀ H', Nx H' → ∃ m', m' < m ∧ W (i + 1) m' H') ∧ ∀ x H', J.yld i H x H' → tG K g x (wipe σ own) H' fun σ2 H2 => wipe σ2 own = wipe σ own ∧ tT' T W0 K cc σ2 H2 fun b H3 =>
        if b = true then tE T W0 K false (ev T.P false e) σ2 H3 fun y H4 => ∃ acc, H4 D = some (.lst acc) ∧ acc.length < sizeLine ∧ Nx (upd H4 D (.lst (acc ++ [y]))) else Nx H3) := by
  intro D hD
  have hgo' : ∀ i ∈ slotsG g, i ∈ own := fun i hm => by simpa using List.all_eq_true.mp hgo i hm
  generalize hf : (fun x => stepF (storeG g x (wipeP ls own)) (evC T.P cc) (ev T.P false e)) = f at q
  have L1 : LRel K H1 g1 (wipeP ls own) (wipe σ own) := L0.wipe own
  refine ⟨fun i m Hc => m = ps.length - i ∧ i ≤ ps.length ∧ ∃ gc dc acc, LcI K H1 g1 D acc Hc gc dc ∧ compM f (ps.drop i) acc dc = .ok fin dF, ⟨_, rfl, Nat.zero_le _, g1, d1, [], LcI.start G1 hD, q⟩, ?_⟩
  rintro i m Hc ⟨rfl, hi, gc, dc, acc, hI, hc⟩
  obtain ⟨go, stop⟩ := rJ Hc gc dc (by rw [if_pos rfl]; exact hI.choose_spec.1) hI.choose_spec.2.1
  by_cases hlt : i < ps.length
  · have hp : ps[i]? = some ps[i] := List.getElem?_eq_getElem hlt
    obtain ⟨g1', y1⟩ := go i _ hp
    rw [drop_at hp] at hc
    obtain ⟨o, d2, hfx, hrest⟩ := compM_ok hc
    rw [← hf] at hfx
    obtain ⟨ls', hst, k, d3, hk, hcase⟩ := stepF_ok hfx
    refine .inr ⟨g1', fun H' => ∃ gc dc acc, LcI K H1 g1 D acc H' gc dc ∧ compM f (ps.drop (i + 1)) acc dc = .ok fin dF, fun H' h' => ⟨_, by omega, rfl, hlt, h'⟩, fun x H' hy => ?_⟩
    obtain ⟨g'', e2, G2, r2⟩ := y1 x H' hy
    have I2 := hI.step e2 G2
    refine ⟨g'', wipeP ls own, ls', _, dc, G2, L1.ext I2.choose_spec.1, r2, hst, fun σ' L' hw => ⟨(hw own hgo').trans (wipe_sub fun _ z => z), g'', ls', dc, G2, L', Post.of_ok hk fun H3 g3 k' e3 G3 rk => ?_⟩⟩
    obtain rfl : k' = k := rk
    have I3 := I2.step e3 G3
    rcases hcase with ⟨rfl, y, rfl, hy2⟩ | ⟨rfl, rfl, rfl⟩
    · rcases hrest with ⟨z, _⟩ | ⟨y', z, hl, hrest⟩
      · cases z
      · cases z
        refine ⟨g3, ls', d3, G3, L'.ext e3, Post.of_ok hy2 fun H4 g4 yv e4 G4 ry => ?_⟩
        obtain ⟨vs, q1, q2, q3, _⟩ := (I3.step e4 G4).app hD ry hl
        exact ⟨vs, q1, q2, g4, d2, _, q3, hrest⟩
    · rcases hrest with ⟨_, hrest⟩ | ⟨y', z, _⟩
      · exact ⟨g3, d3, acc, I3, hrest⟩
      · cases z
  · have hi' : i = ps.length := by omega
    subst hi'
    rw [List.drop_length] at hc
    cases hc
    exact .inl ⟨stop _ (Nat.le_refl _), hQ D Hc gc hD hI⟩
theorem peLc (ok : XOk X T S W) {g : G} {it : I} {cc : C} {own : List Nat} {e : E} {tg iter elt : Expr} {ifs : List Expr} {scope : Scope}
    (hi : PI X tg iter (tI T W X.K true it)) (hns : notSet iter = true) (hb : chkBlk S scope own = true)
    (hg : ∀ {X' : Cx}, XOk X' T (S.blk scope) W0 → PG X' tg (tG X'.K g)) (ht : ∀ {X' : Cx}, XOk X' T (S.blk scope) W0 → PTs X' ifs (tT' T W0 X'.K cc)) (he : ∀ {X' : Cx}, XOk X' T (S.blk scope) W0 → PE X' elt (tE T W0 X'.K false (ev T.P false e))) :
    PE X (.ListComp elt [⟨tg, iter, ifs, 0⟩] scope pos) (tLc (tI T W X.K true it) (tG X.K g) (tT' T W0 X.K cc) (tE T W0 X.K false (ev T.P false e)) own) := by
  obtain ⟨hB, hO⟩ := blk_of ok hb
  have main := pe_lc (pos := pos) (g := tG X.K g) (tt := tT' T W0 X.K cc) (te := tE T W0 X.K false (ev T.P false e)) (elt := elt) ok.calm ok.nd' hi hB (fun s H C cl fp => hg (ok.blk scope s H C cl fp)) (fun s H C cl fp => ht (ok.blk scope s H C cl fp)) (fun s H C cl fp => he (ok.blk scope s H C cl fp)) (fun x => fse hns _ x)
  rw [hO] at main
  exact main
/-- a value in a new list that is yet its maker's own -/
def RelF (K : PySem.W.Frag) (Hs : Hp) (H : Hp) (g : Gh) (p : PV) (x : V) : Prop := ∃ a, x = .ref a ∧ Hs a = none ∧ RelO' K H g a p
def tF (T : Tab) (W : WX) (K : PySem.W.Frag) (m : List Slot → M PV) : TE := fun σ H Q => ∃ g ls d, GOk K H g d ∧ LRel K H g ls σ ∧ Post K H g (RelF K H) (m ls d) Q (exW T W σ)
theorem nox_ok {α β γ : Type} {K : PySem.W.Frag} {H : Hp} {g : Gh} {R : Hp → Gh → β → γ → Prop} {m : M α} {k : α → β} {d : DS} {Q : γ → Hp → Prop} {EX : Hp → Gh → Exc → Prop} (h : Post K H g R (M.nox (m.bind fun x => M.pure (k x)) d) Q EX) :
    ∃ a d', m d = .ok a d' ∧ ∀ H' g' x, Ext H g H' g' → GOk K H' g' d' → R H' g' (k a) x → Q x H' := by
  unfold M.nox M.bind at h
  cases q : m d with
  | bad => rw [q] at h; exact h.elim
  | ex x dx => rw [q] at h; exact h.elim
  | ok a d' => rw [q] at h; exact ⟨a, d', rfl, h⟩
theorem rdLc {K : PySem.W.Frag} {g : G} {it : I} {cc : C} {own : List Nat} {e : E} (hgo : (slotsG g).all (own.contains ·) = true) {σ : L2.St} {H : Hp} {Q : VK} (h : tE T W K b (ev T.P b (.lc e g it cc own)) σ H Q) :
    tLc (tI T W K true it) (tG K g) (tT' T W0 K cc) (tE T W0 K false (ev T.P false e)) own σ H Q := by
  obtain ⟨gh, ls, d, G, L, h⟩ := h
  refine ⟨gh, ls, d, G, L, (Post.bind (R := RelJ K true) h).imp fun J H1 ⟨ps, g1, d1, e1, G1, rJ, h1⟩ => ?_⟩
  obtain ⟨fin, dF, q, h1⟩ := nox_ok h1
  refine lcCore hgo rJ G1 (L.ext e1) q fun D Hc gc hD hI => ?_
  obtain ⟨q1, q2, q3⟩ := hI.fin hD
  exact h1 _ _ _ q1 q2 (RelX.of q2 q3)
theorem rdLcO {K : PySem.W.Frag} {g : G} {it : I} {cc : C} {own : List Nat} {e : E} (hgo : (slotsG g).all (own.contains ·) = true) {σ : L2.St} {H : Hp} {Q : VK} (h : tF T W K (ev T.P false (.lc e g it cc own)) σ H Q) :
    tLc (tI T W K true it) (tG K g) (tT' T W0 K cc) (tE T W0 K false (ev T.P false e)) own σ H Q := by
  obtain ⟨gh, ls, d, G, L, h⟩ := h
  refine ⟨gh, ls, d, G, L, (Post.bind (R := RelJ K true) h).imp fun J H1 ⟨ps, g1, d1, e1, G1, rJ, h1⟩ => ?_⟩
  obtain ⟨fin, dF, q, h1⟩ := nox_ok h1
  refine lcCore hgo rJ G1 (L.ext e1) q fun D Hc gc hD hI => ?_
  obtain ⟨vs, k1, k2, k3, k4, k5, k6⟩ := hI
  exact h1 _ _ _ k1 k2 ⟨D, rfl, Classical.byContradiction fun n => e1.there D n hD, k3, k4, vs, k5, k6⟩
theorem sLc (ok : XOk X T S W) {g : G} {it : I} {cc : C} {own : List Nat} {e : E} {tg iter elt : Expr} {ifs : List Expr} {scope : Scope}
    (hi : PI X tg iter (tI T W X.K true it)) (hns : notSet iter = true) (hb : chkBlk S scope own = true) (hgo : (slotsG g).all (own.contains ·) = true)
    (hg : ∀ {X' : Cx}, XOk X' T (S.blk scope) W0 → PG X' tg (tG X'.K g)) (ht : ∀ {X' : Cx}, XOk X' T (S.blk scope) W0 → PTs X' ifs (tT' T W0 X'.K cc)) (he : ∀ {X' : Cx}, XOk X' T (S.blk scope) W0 → PE X' elt (tE T W0 X'.K false (ev T.P false e))) :
    PE X (.ListComp elt [⟨tg, iter, ifs, 0⟩] scope pos) (tE T W X.K b (ev T.P b (.lc e g it cc own))) :=
  PE.conv (peLc ok hi hns hb hg ht he) fun σ H Q h => rdLc hgo h
theorem stepI_ok {st : Option (List Slot)} {c : List Slot → M Bool} {acc o : List PV} {e : List Slot → M (List PV)} {d d2 : DS} (h : stepI st c acc e d = .ok o d2) :
    ∃ ls', st = some ls' ∧ ∃ k d1, c ls' d = .ok k d1 ∧ ((k = true ∧ e ls' d1 = .ok o d2) ∨ (k = false ∧ o = acc ∧ d1 = d2)) := by
  unfold stepI at h
  cases st with
  | none => cases h
  | some ls' =>
    obtain ⟨k, d1, h1, h2⟩ := M.bind_ok h
    refine ⟨ls', rfl, k, d1, h1, ?_⟩
    cases k with
    | true => exact .inl ⟨rfl, h2⟩
    | false =>
      cases (show (Res.ok acc d1) = .ok o d2 from h2)
      exact .inr ⟨rfl, rfl, rfl⟩
theorem Mono.trans {H H1 H2 : Hp} {g g1 g2 : Gh} (a : Mono H g H1 g1) (b : Mono H1 g1 H2 g2) : Mono H g H2 g2 :=
  ⟨fun c xs h => b.tups c xs (a.tups c xs h), fun c o u h => b.frzs c o u (a.frzs c o u h), fun c h => ⟨(b.fz c (a.fz c h).1).1, (b.fz c (a.fz c h).1).2.trans (a.fz c h).2⟩, fun D h => b.dr D (a.dr D h)⟩
theorem Mono.refl {H : Hp} {g : Gh} : Mono H g H g := (Ext.refl H g).mono
theorem LRel.mono {K : PySem.W.Frag} {H H' : Hp} {g g' : Gh} (e : Mono H g H' g') {ls : List Slot} {σ : L2.St} (h : LRel K H g ls σ) (ho : ∀ (i : Nat) p a, ls[i]? = some (some (true, p)) → σ[i]? = some (some (.ref a)) → RelO' K H g a p → RelO' K H' g' a p) : LRel K H' g' ls σ :=
  ⟨h.len, fun i p q => let ⟨x, h1, h2⟩ := h.val i p q; ⟨x, h1, RelP.mono e h2⟩, fun i p q => let ⟨a, h1, h2⟩ := h.own i p q; ⟨a, h1, ho i p a q h1 h2⟩, h.dis⟩
/-- a thing changes that is no slot's own -/
theorem RelO'.upd {K : PySem.W.Frag} {H : Hp} {g : Gh} {a b : Addr} {o : HO} {p : PV} (m : Mono H g (upd H b o) g) (n : a ≠ b) (h : RelO' K H g a p) : RelO' K (upd H b o) g a p := by
  cases p with
  | lst xs =>
    obtain ⟨h1, h2, vs, h3, h4⟩ := h
    exact ⟨h1, h2, vs, by rw [upd_ne n]; exact h3, RelPs.mono m h4⟩
  | dct t ks vs =>
    obtain ⟨h1, h2, ws, h3, h4⟩ := h
    exact ⟨h1, h2, ws, h3.of (by rw [upd_ne n]), RelPs.mono m h4⟩
  | _ => exact h
/-- an address that a slot has, there -/
theorem RelO'.there {K : PySem.W.Frag} {H : Hp} {g : Gh} {a : Addr} {p : PV} (h : RelO' K H g a p) : H a ≠ none := by
  cases p with
  | lst xs => obtain ⟨h1, h2, vs, h3, h4⟩ := h; rw [h3]; simp
  | dct t ks vs => obtain ⟨h1, h2, ws, h3, h4⟩ := h; obtain ⟨o, e⟩ := h3.some; rw [e]; simp
  | _ => exact h.elim
/-- no slot of ls has D as its own, seen from H1 where D was nothing -/
theorem LRel.noD {K : PySem.W.Frag} {H1 : Hp} {g1 : Gh} {ls : List Slot} {σ : L2.St} {D : Addr} (h : LRel K H1 g1 ls σ) (hD : H1 D = Option.none) : ∀ (i : Nat) p, ls[i]? = some (some (true, p)) → σ[i]? ≠ some (some (.ref D)) := fun i p e z => by
  obtain ⟨a, h1, h2⟩ := h.own i p e
  rw [z] at h1
  cases h1
  exact h2.there hD
def NoOwn (ls : List Slot) : Prop := ∀ (i : Nat) p, ls[i]? ≠ some (some (true, p))
theorem NoOwn.drop (ls : List Slot) : NoOwn (ls.map dropOwn) := fun i p h => by
  rw [List.getElem?_map] at h
  obtain ⟨s, _, h2⟩ := Option.map_eq_some_iff.mp h
  unfold dropOwn at h2
  split at h2
  · cases h2
  · rename_i q; exact q _ h2
theorem NoOwn.set {ls : List Slot} (h : NoOwn ls) (i : Nat) {s : Slot} (hs : ∀ p, s ≠ some (true, p)) : NoOwn (ls.set i s) := fun j p e => by
  by_cases hi : i = j
  · subst hi
    by_cases hl : i < ls.length
    · rw [List.getElem?_set_self hl] at e; exact hs p (Option.some.inj e)
    · rw [List.getElem?_eq_none (by rw [List.length_set]; omega)] at e; cases e
  · rw [List.getElem?_set_ne hi] at e; exact h j p e
theorem NoOwn.wipe {ls : List Slot} (h : NoOwn ls) : ∀ vs : List Nat, NoOwn (wipeP ls vs)
  | [] => h
  | v :: vs => (NoOwn.wipe h vs).set v fun _ z => by cases z
theorem NoOwn.setAll : ∀ (is : List Nat) (ps : List PV) {ls : List Slot}, NoOwn ls → NoOwn ((is.zip ps).foldl (fun l p => l.set p.1 (some (false, p.2))) ls)
  | [], _, _, h => h
  | _ :: _, [], _, h => h
  | i :: is, p :: ps, _, h => NoOwn.setAll is ps (h.set i fun _ z => by cases z)
theorem NoOwn.store {t : G} {p : PV} {ls ls' : List Slot} (h : NoOwn ls) (e : storeG t p ls = some ls') : NoOwn ls' := by
  cases t with
  | nm i =>
    have e1 : (if i < ls.length then some (ls.set i (some (false, p))) else none) = some ls' := e
    split at e1
    · cases e1; exact h.set i fun _ z => by cases z
    · cases e1
  | tp is =>
    have e1 : (match seqOf p with
      | some xs => if xs.length = is.length ∧ is.all (· < ls.length) then some ((is.zip xs).foldl (fun l p => l.set p.1 (some (false, p.2))) ls) else none
      | none => none) = some ls' := e
    cases e2 : seqOf p with
    | none => rw [e2] at e1; cases e1
    | some xs =>
      rw [e2] at e1
      simp only at e1
      split at e1
      · cases e1; exact NoOwn.setAll is xs h
      · cases e1
theorem LRel.drop {K : PySem.W.Frag} {H : Hp} {g : Gh} {ls : List Slot} {σ : L2.St} (h : LRel K H g ls σ) : LRel K H g (ls.map dropOwn) σ where
  len := by rw [List.length_map]; exact h.len
  val := fun i p e => by
    rw [List.getElem?_map] at e
    obtain ⟨s, h1, h2⟩ := Option.map_eq_some_iff.mp e
    unfold dropOwn at h2
    split at h2
    · cases h2
    · subst h2; exact h.val i p h1
  own := fun i p e => absurd e (NoOwn.drop ls i p)
  dis := fun i j p q a e => absurd e (NoOwn.drop ls i p)
theorem LRel.no {K : PySem.W.Frag} {H H' : Hp} {g g' : Gh} {ls : List Slot} {σ : L2.St} (h : LRel K H g ls σ) (n : NoOwn ls) (m : Mono H g H' g') : LRel K H' g' ls σ :=
  h.mono m fun i p a e => absurd e (n i p)
theorem comp2M_ok {f : PV → List PV → M (List PV)} {x : PV} {xs acc fin : List PV} {d d2 : DS} (h : comp2M f (x :: xs) acc d = .ok fin d2) : ∃ o d1, f x acc d = .ok o d1 ∧ comp2M f xs o d1 = .ok fin d2 := M.bind_ok h
theorem lc2Core {K : PySem.W.Frag} {g g2 : G} {it2 : I} {cc cc2 : C} {own own2 : List Nat} {e : E} {σ : L2.St} {H1 : Hp} {g1 : Gh} {d1 dF : DS} {ls : List Slot} {ps fin : List PV} {J : It} {Q : VK} (hgo : (slotsG g).all (own.contains ·) = true) (hgo2 : (slotsG g2).all (own2.contains ·) = true) (rJ : RelJ K true H1 g1 ps J) (G1 : GOk K H1 g1 d1) (L0 : LRel K H1 g1 ls σ)
    (q : comp2M (fun x acc => stepI (storeG g x (wipeP (ls.map dropOwn) own)) (evC T.P cc) acc fun ls' => (evI T.P false it2 ls').bind fun zs => compM (fun z => stepF (storeG g2 z (wipeP ls' own2)) (evC T.P cc2) (ev T.P false e)) zs acc) ps [] d1 = .ok fin dF)
    (hQ : ∀ D Hc gc, H1 D = none → LcI K H1 g1 D fin Hc gc dF → Q (.ref D) Hc) :
    ∀ D, H1 D = none → ∃ W : Nat → Nat → Hp → Prop, (∃ m, W 0 m (upd H1 D (.lst []))) ∧ ∀ i m H, W i m H →
      (J.stop i H ∧ Q (.ref D) H) ∨ (J.go i H ∧ ∃ Nx : Hp → Prop, (∀ H', Nx H' → ∃ m', m' < m ∧ W (i + 1) m' H') ∧ ∀ x H', J.yld i H x H' → tG K g x (wipe σ own) H' fun σ2 H2 => wipe σ2 own = wipe σ own ∧ tT' T W0 K cc σ2 H2 fun b H3 =>
        if b = true then tI T W0 K false it2 σ2 H3 fun J1 H4 => ∃ W1 : Nat → Nat → Hp → Prop, (∃ m, W1 0 m H4) ∧ ∀ j k H, W1 j k H →
          (J1.stop j H ∧ Nx H) ∨ (J1.go j H ∧ ∃ Nx1 : Hp → Prop, (∀ H', Nx1 H' → ∃ k', k' < k ∧ W1 (j + 1) k' H') ∧ ∀ x H', J1.yld j H x H' → tG K g2 x (wipe σ2 own2) H' fun σ3 H5 => wipe σ3 own2 = wipe σ2 own2 ∧ tT' T W0 K cc2 σ3 H5 fun b H6 =>
            if b = true then tE T W0 K false (ev T.P false e) σ3 H6 fun y H7 => ∃ acc, H7 D = some (.lst acc) ∧ acc.length < sizeLine ∧ Nx1 (upd H7 D (.lst (acc ++ [y]))) else Nx1 H6)
        else Nx H3) := by
  intro D hD
  have hgo' : ∀ i ∈ slotsG g, i ∈ own := fun i hm => by simpa using List.all_eq_true.mp hgo i hm
  have hgo2' : ∀ i ∈ slotsG g2, i ∈ own2 := fun i hm => by simpa using List.all_eq_true.mp hgo2 i hm
  generalize hf : (fun x acc => stepI (storeG g x (wipeP (ls.map dropOwn) own)) (evC T.P cc) acc fun ls' => (evI T.P false it2 ls').bind fun zs => compM (fun z => stepF (storeG g2 z (wipeP ls' own2)) (evC T.P cc2) (ev T.P false e)) zs acc) = f at q
  have L1 : LRel K H1 g1 (wipeP (ls.map dropOwn) own) (wipe σ own) := L0.drop.wipe own
  have N1 : NoOwn (wipeP (ls.map dropOwn) own) := (NoOwn.drop ls).wipe own
  refine ⟨fun i m Hc => m = ps.length - i ∧ i ≤ ps.length ∧ ∃ gc dc acc, LcI K H1 g1 D acc Hc gc dc ∧ comp2M f (ps.drop i) acc dc = .ok fin dF, ⟨_, rfl, Nat.zero_le _, g1, d1, [], LcI.start G1 hD, q⟩, ?_⟩
  rintro i m Hc ⟨rfl, hi, gc, dc, acc, hI, hc⟩
  obtain ⟨go, stop⟩ := rJ Hc gc dc (by rw [if_pos rfl]; exact hI.choose_spec.1) hI.choose_spec.2.1
  by_cases hlt : i < ps.length
  · have hp : ps[i]? = some ps[i] := List.getElem?_eq_getElem hlt
    obtain ⟨g1', y1⟩ := go i _ hp
    rw [drop_at hp] at hc
    obtain ⟨o, d2, hfx, hrest⟩ := comp2M_ok hc
    rw [← hf] at hfx
    obtain ⟨ls', hst, k, d3, hk, hcase⟩ := stepI_ok hfx
    refine .inr ⟨g1', fun H' => ∃ gc, LcI K H1 g1 D o H' gc d2, fun H' ⟨gc, h'⟩ => ⟨_, by omega, rfl, hlt, gc, d2, o, h', hrest⟩, fun x H' hy => ?_⟩
    obtain ⟨g'', e2, G2, r2⟩ := y1 x H' hy
    have I2 := hI.step e2 G2
    have N2 : NoOwn ls' := N1.store hst
    refine ⟨g'', wipeP (ls.map dropOwn) own, ls', _, dc, G2, L1.ext I2.choose_spec.1, r2, hst, fun σ' L' hw => ⟨(hw own hgo').trans (wipe_sub fun _ z => z), g'', ls', dc, G2, L', Post.of_ok hk fun H3 g3 k' e3 G3 rk => ?_⟩⟩
    obtain rfl : k' = k := rk
    have I3 := I2.step e3 G3
    rcases hcase with ⟨rfl, hy2⟩ | ⟨rfl, rfl, rfl⟩
    · obtain ⟨zs, d4, hz, hm⟩ := M.bind_ok hy2
      refine ⟨g3, ls', d3, G3, L'.ext e3, Post.of_ok hz fun H4 g4 J1 e4 G4 rJ1 => ?_⟩
      have L4 := (L'.ext e3).ext e4
      generalize hf2 : (fun z => stepF (storeG g2 z (wipeP ls' own2)) (evC T.P cc2) (ev T.P false e)) = f2 at hm
      refine ⟨fun j k Hc => k = zs.length - j ∧ j ≤ zs.length ∧ ∃ gc dc acc1, LcI K H1 g1 D acc1 Hc gc dc ∧ Mono H4 g4 Hc gc ∧ compM f2 (zs.drop j) acc1 dc = .ok o d2, ⟨_, rfl, Nat.zero_le _, g4, d4, acc, I3.step e4 G4, Mono.refl, hm⟩, ?_⟩
      rintro j kk Hd ⟨rfl, hj, gd, dd, acc1, hJ, mo, hcm⟩
      obtain ⟨go1, stop1⟩ := rJ1 Hd gd dd (by rw [if_neg Bool.false_ne_true]; exact mo) hJ.choose_spec.2.1
      by_cases hlt1 : j < zs.length
      · have hp1 : zs[j]? = some zs[j] := List.getElem?_eq_getElem hlt1
        obtain ⟨gg, y2⟩ := go1 j _ hp1
        rw [drop_at hp1] at hcm
        obtain ⟨o1, d5, hfx1, hrest1⟩ := compM_ok hcm
        rw [← hf2] at hfx1
        obtain ⟨ls2, hst1, k1, d6, hk1, hcase1⟩ := stepF_ok hfx1
        refine .inr ⟨gg, fun H' => ∃ gc dc acc1, LcI K H1 g1 D acc1 H' gc dc ∧ Mono H4 g4 H' gc ∧ compM f2 (zs.drop (j + 1)) acc1 dc = .ok o d2, fun H' h' => ⟨_, by omega, rfl, hlt1, h'⟩, fun x1 H5 hy1 => ?_⟩
        obtain ⟨g5, e5, G5, r5⟩ := y2 x1 H5 hy1
        have J5 := hJ.step e5 G5
        have m5 := mo.trans e5.mono
        refine ⟨g5, wipeP ls' own2, ls2, _, dd, G5, (L4.no N2 m5).wipe own2, r5, hst1, fun σ3 L6 hw1 => ⟨(hw1 own2 hgo2').trans (wipe_sub fun _ z => z), g5, ls2, dd, G5, L6, Post.of_ok hk1 fun H6 g6 k1' e6 G6 rk1 => ?_⟩⟩
        obtain rfl : k1' = k1 := rk1
        have J6 := J5.step e6 G6
        rcases hcase1 with ⟨rfl, y, rfl, hy3⟩ | ⟨rfl, rfl, rfl⟩
        · rcases hrest1 with ⟨z, _⟩ | ⟨y', z, hl, hrest1⟩
          · cases z
          · cases z
            refine ⟨g6, ls2, d6, G6, L6.ext e6, Post.of_ok hy3 fun H7 g7 yv e7 G7 ry => ?_⟩
            obtain ⟨vs, q1, q2, q3, q4⟩ := (J6.step e7 G7).app hD ry hl
            exact ⟨vs, q1, q2, g7, d5, _, q3, ((m5.trans e6.mono).trans e7.mono).trans q4, hrest1⟩
        · rcases hrest1 with ⟨_, hrest1⟩ | ⟨y', z, _⟩
          · exact ⟨g6, d6, acc1, J6, m5.trans e6.mono, hrest1⟩
          · cases z
      · have hj' : j = zs.length := by omega
        subst hj'
        rw [List.drop_length] at hcm
        cases hcm
        exact .inl ⟨stop1 _ (Nat.le_refl _), gd, hJ⟩
    · exact ⟨g3, I3⟩
  · have hi' : i = ps.length := by omega
    subst hi'
    rw [List.drop_length] at hc
    cases hc
    exact .inl ⟨stop _ (Nat.le_refl _), hQ D Hc gc hD hI⟩
theorem peLc2 (ok : XOk X T S W) {g g2 : G} {it it2 : I} {cc cc2 : C} {own own2 : List Nat} {e : E} {tg iter tg2 iter2 elt : Expr} {ifs ifs2 : List Expr} {scope : Scope}
    (hi : PI X tg iter (tI T W X.K true it)) (hns : notSet iter = true) (hb : chkBlk S scope own = true) (hoo : own2.all (own.contains ·) = true) (hns2 : notSet iter2 = true)
    (hg : ∀ {X' : Cx}, XOk X' T (S.blk scope) W0 → PG X' tg (tG X'.K g)) (ht : ∀ {X' : Cx}, XOk X' T (S.blk scope) W0 → PTs X' ifs (tT' T W0 X'.K cc))
    (hi2 : ∀ {X' : Cx}, XOk X' T (S.blk scope) W0 → PI X' tg2 iter2 (tI T W0 X'.K false it2))
    (hg2 : ∀ {X' : Cx}, XOk X' T (S.blk scope) W0 → PG X' tg2 (tG X'.K g2)) (ht2 : ∀ {X' : Cx}, XOk X' T (S.blk scope) W0 → PTs X' ifs2 (tT' T W0 X'.K cc2)) (he : ∀ {X' : Cx}, XOk X' T (S.blk scope) W0 → PE X' elt (tE T W0 X'.K false (ev T.P false e))) :
    PE X (.ListComp elt [⟨tg, iter, ifs, 0⟩, ⟨tg2, iter2, ifs2, 0⟩] scope pos) (tLc2 (tI T W X.K true it) (tG X.K g) (tT' T W0 X.K cc) (tI T W0 X.K false it2) (tG X.K g2) (tT' T W0 X.K cc2) (tE T W0 X.K false (ev T.P false e)) own own2) := by
  obtain ⟨hB, hO⟩ := blk_of ok hb
  have hoo' : ∀ i ∈ own2, i ∈ (ownP S.N own).map (·.2) := fun i hm => by rw [hO]; simpa using List.all_eq_true.mp hoo i hm
  have main := pe_lc2 (pos := pos) (g := tG X.K g) (tt := tT' T W0 X.K cc) (g1 := tG X.K g2) (tt1 := tT' T W0 X.K cc2) (wi1 := tI T W0 X.K false it2) (te := tE T W0 X.K false (ev T.P false e)) (elt := elt) (vs1 := own2) ok.calm ok.nd' hi hB hoo' (fun s H C cl fp => hg (ok.blk scope s H C cl fp)) (fun s H C cl fp => ht (ok.blk scope s H C cl fp))
    (fun s H C cl fp => hi2 (ok.blk scope s H C cl fp)) (fun s H C cl fp => hg2 (ok.blk scope s H C cl fp)) (fun s H C cl fp => ht2 (ok.blk scope s H C cl fp)) (fun s H C cl fp => he (ok.blk scope s H C cl fp)) (fun x => fse hns _ x) (fun env x => fse hns2 _ x)
  rw [hO] at main
  exact main
theorem rdLc2 {K : PySem.W.Frag} {g g2 : G} {it it2 : I} {cc cc2 : C} {own own2 fr : List Nat} {e : E} (hgo : (slotsG g).all (own.contains ·) = true) (hgo2 : (slotsG g2).all (own2.contains ·) = true) {σ : L2.St} {H : Hp} {Q : VK} (h : tE T W K b (ev T.P b (.lc2 e g it cc g2 it2 cc2 own own2 fr)) σ H Q) :
    tLc2 (tI T W K true it) (tG K g) (tT' T W0 K cc) (tI T W0 K false it2) (tG K g2) (tT' T W0 K cc2) (tE T W0 K false (ev T.P false e)) own own2 σ H Q := by
  obtain ⟨gh, ls, d, G, L, h⟩ := h
  refine ⟨gh, ls, d, G, L, (Post.bind (R := RelJ K true) h).imp fun J H1 ⟨ps, g1, d1, e1, G1, rJ, h1⟩ => ?_⟩
  obtain ⟨fin, dF, q, h1⟩ := nox_ok h1
  refine lc2Core hgo hgo2 rJ G1 (L.ext e1) q fun D Hc gc hD hI => ?_
  obtain ⟨q1, q2, q3⟩ := hI.fin hD
  exact h1 _ _ _ q1 q2 (RelX.of q2 q3)
theorem rdLc2O {K : PySem.W.Frag} {g g2 : G} {it it2 : I} {cc cc2 : C} {own own2 fr : List Nat} {e : E} (hgo : (slotsG g).all (own.contains ·) = true) (hgo2 : (slotsG g2).all (own2.contains ·) = true) {σ : L2.St} {H : Hp} {Q : VK} (h : tF T W K (ev T.P false (.lc2 e g it cc g2 it2 cc2 own own2 fr)) σ H Q) :
    tLc2 (tI T W K true it) (tG K g) (tT' T W0 K cc) (tI T W0 K false it2) (tG K g2) (tT' T W0 K cc2) (tE T W0 K false (ev T.P false e)) own own2 σ H Q := by
  obtain ⟨gh, ls, d, G, L, h⟩ := h
  refine ⟨gh, ls, d, G, L, (Post.bind (R := RelJ K true) h).imp fun J H1 ⟨ps, g1, d1, e1, G1, rJ, h1⟩ => ?_⟩
  obtain ⟨fin, dF, q, h1⟩ := nox_ok h1
  refine lc2Core hgo hgo2 rJ G1 (L.ext e1) q fun D Hc gc hD hI => ?_
  obtain ⟨vs, k1, k2, k3, k4, k5, k6⟩ := hI
  exact h1 _ _ _ k1 k2 ⟨D, rfl, Classical.byContradiction fun n => e1.there D n hD, k3, k4, vs, k5, k6⟩
theorem sLc2 (ok : XOk X T S W) {g g2 : G} {it it2 : I} {cc cc2 : C} {own own2 fr : List Nat} {e : E} {tg iter tg2 iter2 elt : Expr} {ifs ifs2 : List Expr} {scope : Scope}
    (hi : PI X tg iter (tI T W X.K true it)) (hns : notSet iter = true) (hb : chkBlk S scope own = true) (hgo : (slotsG g).all (own.contains ·) = true) (hgo2 : (slotsG g2).all (own2.contains ·) = true) (hoo : own2.all (own.contains ·) = true) (hns2 : notSet iter2 = true)
    (hg : ∀ {X' : Cx}, XOk X' T (S.blk scope) W0 → PG X' tg (tG X'.K g)) (ht : ∀ {X' : Cx}, XOk X' T (S.blk scope) W0 → PTs X' ifs (tT' T W0 X'.K cc))
    (hi2 : ∀ {X' : Cx}, XOk X' T (S.blk scope) W0 → PI X' tg2 iter2 (tI T W0 X'.K false it2))
    (hg2 : ∀ {X' : Cx}, XOk X' T (S.blk scope) W0 → PG X' tg2 (tG X'.K g2)) (ht2 : ∀ {X' : Cx}, XOk X' T (S.blk scope) W0 → PTs X' ifs2 (tT' T W0 X'.K cc2)) (he : ∀ {X' : Cx}, XOk X' T (S.blk scope) W0 → PE X' elt (tE T W0 X'.K false (ev T.P false e))) :
    PE X (.ListComp elt [⟨tg, iter, ifs, 0⟩, ⟨tg2, iter2, ifs2, 0⟩] scope pos) (tE T W X.K b (ev T.P b (.lc2 e g it cc g2 it2 cc2 own own2 fr))) :=
  PE.conv (peLc2 ok hi hns hb hoo hns2 hg ht hi2 hg2 ht2 he) fun σ H Q h => rdLc2 hgo hgo2 h
end
end FW
namespace FW
open PySem PySem.Spec PyProof.Rows L2
section
variable {X : Cx} {T : Tab} {S : NS} {W : WX} {b : Bool} {l r : Expr} {a c : E} {pos : Pos}
/-! ### isinstance -/
theorem ty_of {K : PySem.W.Frag} {H : Hp} {g : Gh} {d : DS} (G : GOk K H g d) {p : PV} {x : V} (r : RelB K H g p x) : TyX K H x (.type (tyN p)) := by
  cases p with
  | non => rw [r.non]; exact .base .non
  | bl k => rw [r.bl]; exact .base (.bl k)
  | int i => rw [r.int]; exact .base (.int i)
  | str s => rw [r.str]; exact .base (.str s)
  | tup xs =>
    obtain ⟨a, vs, rfl, h1, _⟩ := r.tup
    rcases h1 with (h1 | ⟨o, h1⟩) | ⟨o, its, n, h1, h2, _⟩
    · exact .base (.tup h1)
    · exact .fTuple h1
    · exact .kTuple h1 h2
  | lst xs =>
    obtain ⟨a, vs, rfl, _, h1, _⟩ := r.lst
    exact .base (.lst h1)
  | dct t ks vs =>
    obtain ⟨a, ws, rfl, _, h1, _⟩ := r
    unfold DctAt at h1
    cases t with
    | true => obtain ⟨kvs, h1, _⟩ := h1; exact .base (.dT h1)
    | false => obtain ⟨kvs, h1, _⟩ := h1; exact .base (.dK h1)
  | drw =>
    obtain ⟨D, h1, rfl⟩ := r
    have q := G.dr
    rw [h1] at q
    cases d with
    | none => exact q.elim
    | some d =>
      obtain ⟨_, _, _, q1, _⟩ := q
      exact .base (.dK q1)
  | scr ns =>
    obtain ⟨a, rfl, h1⟩ := r
    rcases h1 with ⟨o, h1⟩ | ⟨o, its, n, h1, h2, _⟩
    · exact .base (.frz h1)
    · exact .kList h1 h2
theorem kit_names : ∀ n ∈ ["NoneType", "bool", "int", "str", "tuple", "list", "dict"], ∀ t ∈ TN, kitB n t = some (n == t || (n == "bool" && t == "int")) := by decide +kernel
theorem tyN_in (p : PV) : tyN p ∈ ["NoneType", "bool", "int", "str", "tuple", "list", "dict"] := by cases p <;> simp [tyN]
theorem kit_of' {K : PySem.W.Frag} (p : PV) {t : String} (h : t ∈ TN) : PySem.W.kitOne K (.type (tyN p)) (.type t) = some (tyOk p t) := kit_ty (kit_names _ (tyN_in p) _ h)
theorem kitAny_of {K : PySem.W.Frag} (p : PV) : ∀ {ts : List String}, (∀ t ∈ ts, t ∈ TN) → PySem.W.kitAny K (.type (tyN p)) (ts.map Value.type) = some (ts.any (tyOk p))
  | [], _ => kitAny_nil
  | t :: ts, h => by
    refine kitAny_cons (b := tyOk p t) (kit_of' p (h t List.mem_cons_self)) (fun e => ?_) (fun e => ?_)
    · rw [kitAny_of p fun t ht => h t (List.mem_cons_of_mem _ ht), List.any_cons, e, Bool.false_or]
    · rw [List.any_cons, e, Bool.true_or]
theorem boot_ty : ∀ t ∈ TN, bootBuiltins (Str.ofString t) = some (.type t) := by decide +kernel
theorem TN_BN : ∀ t ∈ TN, t ∈ BN := by decide
theorem tysOf_names : ∀ {l : List Expr} {ns : List Str}, tysOf l = some ns → l.all notStar = true ∧ Paired (fun e n => ∃ p, e = Expr.Name n p) l ns
  | [], ns, h => by cases h; exact ⟨rfl, .nil⟩
  | .Name x p :: r, ns, h => by
    obtain ⟨ms, h1, rfl⟩ := Option.map_eq_some_iff.mp (show (tysOf r).map (x :: ·) = some ns from h)
    obtain ⟨q1, q2⟩ := tysOf_names h1
    exact ⟨by simp only [List.all_cons, q1, Bool.and_true]; rfl, .cons ⟨p, rfl⟩ q2⟩
theorem pe_ty (ok : XOk X T S W) {t : String} {p : Pos} (ht : t ∈ TN) (h1 : glB S.sc (Str.ofString t) = true) (h2 : nmOk (Str.ofString t) = true) : PE X (.Name (Str.ofString t) p) (tC (.ty t)) := by
  obtain ⟨n1, _, n3⟩ := nmOk_of h2
  exact pe_bltn (gl_of ok h1) (ok.bi t (TN_BN t ht)) (boot_ty t ht) rfl n3 n1
theorem pa_tys (ok : XOk X T S W) : ∀ {ts : List String} {l : List Expr}, Paired (fun e n => ∃ p, e = Expr.Name n p) l (ts.map Str.ofString) → (∀ t ∈ ts, t ∈ TN) → (∀ t ∈ ts, (glB S.sc (Str.ofString t) && nmOk (Str.ofString t)) = true) →
    PA X l (fun _ H Q => Q (ts.map V.ty) H)
  | [], _, .nil, _, _ => pa_nil
  | t :: ts, _, .cons ⟨p, e⟩ rest, h1, h2 => by
    subst e
    have q := h2 t List.mem_cons_self
    rw [Bool.and_eq_true] at q
    exact PA.conv (pa_cons (pe_ty ok (h1 t List.mem_cons_self) q.1 q.2) (pa_tys ok rest (fun t ht => h1 t (List.mem_cons_of_mem _ ht)) fun t ht => h2 t (List.mem_cons_of_mem _ ht)) rfl) fun σ H Q h => h
theorem clsV_map : ∀ ts : List String, Paired ClsV (ts.map V.ty) (ts.map Value.type)
  | [] => .nil
  | t :: ts => .cons (.ty t) (clsV_map ts)
theorem sIsin (ok : XOk X T S W) {p : Pos} {tys : List String} (h1 : glB S.sc ("isinstance" : Str) = true) (hs : notStar l = true) (hT : tys.all (TN.contains ·) = true) (hc : chkTys S tys r = true) (ha : PE X l (tE T W X.K true (ev T.P true a))) :
    PE X (.Call (.Name ("isinstance" : Str) p) [l, r] [] pos) (tE T W X.K b (ev T.P b (.isin a tys))) := by
  have hT' : ∀ t ∈ tys, t ∈ TN := fun t ht => by simpa using List.all_eq_true.mp hT t ht
  have hg := gl_of ok h1
  have hm : X.mg ("isinstance" : Str) = none := ok.bi "isinstance" (by decide)
  have hb : bootBuiltins ("isinstance" : Str) = some (.builtin "isinstance") := by decide +kernel
  unfold chkTys at hc
  cases e : vName r with
  | some t =>
    rw [e] at hc
    simp only [Bool.and_eq_true, decide_eq_true_eq] at hc
    obtain ⟨pr, rfl⟩ := vName_of e
    obtain ⟨⟨hc1, hc2⟩, hc3⟩ := hc
    match tys, hT', hc1 with
    | [n], hT', hc1 =>
      have hn : Str.ofString n = t := by simpa using hc1
      subst hn
      have hTn := hT' n List.mem_cons_self
      refine PE.conv (pe_callB call_isi hg hm hb (pa_cons ha (pa_cons (pe_ty ok hTn hc2 hc3) pa_nil rfl) (starEach_plain hs _ _)) (by decide) (by decide) (starEach_plain hs _ _) (starEach_any rfl _ _)) fun σ H Q ⟨g, ls, d, G, L, h⟩ => ⟨g, ls, d, G, L, (Post.bind h).imp fun x H1 ⟨va, g1, d1, e1, G1, r1, h1⟩ => ?_⟩
      refine ⟨x, .ty n, _, _, _, rfl, .ty n, ty_of G1 (r1.toB G1), kit_of' va hTn, ?_⟩
      have := h1.pure (x := .bl ([n].any (tyOk va))) G1 (RelX.of G1 rfl)
      simpa using this
    | [], _, hc1 => simp at hc1
    | _ :: _ :: _, _, hc1 => simp at hc1
  | none =>
    rw [e] at hc
    simp only at hc
    cases e2 : vTup r with
    | none => rw [e2] at hc; cases hc
    | some es =>
      rw [e2] at hc
      simp only [Bool.and_eq_true, decide_eq_true_eq] at hc
      obtain ⟨⟨hc1, hc2⟩, hc3⟩ := hc
      obtain ⟨k, pr, rfl⟩ := vTup_of e2
      obtain ⟨q1, q2⟩ := tysOf_names hc1
      have pt := pa_tys ok q2 hT' fun t ht => List.all_eq_true.mp hc2 t ht
      refine PE.conv (pe_callB call_isiT hg hm hb (pa_cons ha (pa_cons (pe_tup pt) pa_nil rfl) (starEach_plain hs _ _)) (by decide) (by decide) (starEach_plain hs _ _) (starEach_any rfl _ _)) fun σ H Q ⟨g, ls, d, G, L, h⟩ => ⟨g, ls, d, G, L, (Post.bind h).imp fun x H1 ⟨va, g1, d1, e1, G1, r1, h1⟩ => ?_⟩
      refine ⟨by rw [List.length_map]; exact Nat.le_trans hc3 (by decide), fun tp htp => ?_⟩
      have e2 := Ext.alloc (o := .tup (tys.map V.ty)) G1 htp
      have G2 := G1.alloc (o := .tup (tys.map V.ty)) htp
      exact ⟨x, tp, tys.map V.ty, _, tys.map Value.type, _, rfl, upd_same, clsV_map tys, ty_of G2 ((r1.toB G1).ext e2), kitAny_of va hT', (h1.ext e2).pure G2 (RelX.of G2 rfl)⟩
/-! ### join -/
theorem sJoin {ap : Pos} (hs : notStar r = true) (hn : isSuperCall l = false) (hl : (ap.endLine == pos.line) = true) (ha : PE X l (tE T W X.K true (ev T.P true a))) (hc : PE X r (tE T W X.K true (ev T.P true c))) :
    PE X (.Call (.Attribute l ("join" : Str) ap) [r] [] pos) (tE T W X.K b (ev T.P b (.join a c))) := by
  refine PE.conv (pe_join ha hc (starEach_1 hs _) (attrB hn _ _ _) hl) fun σ H Q ⟨g, ls, d, G, L, h⟩ => ⟨g, ls, d, G, L, (Post.bind h).imp fun x H1 ⟨va, g1, d1, e1, G1, r1, h1⟩ => ?_⟩
  cases va with
  | str sep =>
    refine ⟨⟨sep, (r1.toB G1).str⟩, g1, ls, d1, G1, L.ext e1, (Post.bind (R := RelX X.K true) (show Post X.K H1 g1 (RelX X.K b) (((ev T.P true c ls).bind fun y => M.lift (joinF sep y)) d1) Q _ from h1)).imp fun y H2 ⟨vb, g2, d2, e2, G2, r2, h2⟩ => ?_⟩
    obtain ⟨v, e, h2⟩ := h2.lift
    unfold joinF at e
    obtain ⟨xs, q1, e⟩ := Option.bind_eq_some_iff.mp e
    obtain ⟨ts, q2, e⟩ := Option.bind_eq_some_iff.mp e
    split at e
    · rename_i hq
      cases e
      obtain ⟨p, vs, rfl, r3, r4⟩ := seq_of q1 (r2.toB G2)
      obtain rfl := rel_strs q2 r3
      refine ⟨sep, p, ts, (r1.toB G1).str, rfl, ?_, hq, h2.pure G2 (RelX.of G2 rfl)⟩
      rcases r4 with ⟨_, r4⟩ | ⟨_, r4⟩
      · exact .inl r4
      · exact .inr r4
    · cases e
  | _ => exact h1.elim
/-! ### tests -/
def isBl (m : M PV) : Prop := ∀ d v d', m d = .ok v d' → ∃ k, v = .bl k
theorem Post.blT {K : PySem.W.Frag} {H : Hp} {g : Gh} {m : M PV} (hm : isBl m) {d : DS} {Q : Bool → Hp → Prop} {EX : Hp → Gh → Exc → Prop} (h : Post K H g RelK ((m.bind fun x => M.lift (truF x)) d) Q EX) : Post K H g (RelX K b) (m d) (fun x H' => ∃ k, x = .bl k ∧ Q k H') EX := by
  unfold M.bind at h
  cases q : m d with
  | bad => rw [q] at h; exact h
  | ex e d' => rw [q] at h; exact h
  | ok v d' =>
    obtain ⟨k, rfl⟩ := hm d v d' q
    rw [q] at h
    intro H' g' x e G r
    exact ⟨k, (r.toB G).bl, h H' g' k e G rfl⟩
theorem tT_tE {K : PySem.W.Frag} {σ : L2.St} {H : Hp} {Q : Bool → Hp → Prop} (hm : ∀ ls, isBl (ev T.P true a ls)) (h : tT T W K a σ H Q) : tE T W K true (ev T.P true a) σ H (fun x H' => ∃ k, x = .bl k ∧ Q k H') :=
  let ⟨g, ls, d, G, L, h⟩ := h; ⟨g, ls, d, G, L, h.blT (hm ls)⟩
theorem bl_cmp {P : PE'} {op : CmpOp} {b : Bool} (ls : List Slot) : isBl (ev P b (.cmp op a c) ls) := fun d v d' h => by
  obtain ⟨x, d1, _, h⟩ := M.bind_ok h
  obtain ⟨y, d2, _, h⟩ := M.bind_ok h
  obtain ⟨k, d3, _, h⟩ := M.bind_ok h
  cases h; exact ⟨k, rfl⟩
theorem bl_chain {P : PE'} {op op' : CmpOp} {e : E} {b : Bool} (ls : List Slot) : isBl (ev P b (.chain op op' a c e) ls) := fun d v d' h => by
  obtain ⟨x, d1, _, h⟩ := M.bind_ok h
  obtain ⟨y, d2, _, h⟩ := M.bind_ok h
  obtain ⟨k, d3, _, h⟩ := M.bind_ok h
  cases k with
  | true =>
    obtain ⟨z, d4, _, h⟩ := M.bind_ok (show ((ev P true e ls).bind fun z => (M.lift (cmpF op' y z)).bind fun k => M.pure (.bl k)) d3 = .ok v d' from h)
    obtain ⟨k, d5, _, h⟩ := M.bind_ok h
    cases h; exact ⟨k, rfl⟩
  | false => cases (show (Res.ok (PV.bl false) d3) = .ok v d' from h); exact ⟨false, rfl⟩
theorem stT {e : Expr} {a : E} (he : ∀ whole, isTrue e X.env whole = (do let v ← whole; standAt e.pos; holding [v] (truthy v))) (ha : PE X e (tE T W X.K true (ev T.P true a))) : PT X e (tT T W X.K a) := by
  refine PT.conv (pt_truth ha he) fun σ H Q ⟨g, ls, d, G, L, h⟩ => ⟨g, ls, d, G, L, (Post.bind (R := RelX X.K true) h).imp fun x H1 ⟨va, g1, d1, e1, G1, r1, h1⟩ => ?_⟩
  obtain ⟨k, e, h2⟩ := h1.lift
  exact ⟨k, tru_of e (r1.toB G1), h2.pure G1 rfl⟩
theorem stCmp (ok : XOk X T S W) {op : CmpOp} (hm : behindInMarks op r = false) (ha : PE X l (tE T W X.K true (ev T.P true a))) (hc : PE X r (tE T W X.K true (ev T.P true c))) : PT X (.Compare l [op] [r] pos) (tT T W X.K (.cmp op a c)) :=
  PT.conv (pt_cmpR (op_cmpF (by have := ok.un; omega) op) ha hc hm) fun σ H Q h => rdCmp (tT_tE (fun ls => bl_cmp ls) h)
theorem stChain (ok : XOk X T S W) {op op' : CmpOp} {r' : Expr} {c' : E} (hm : behindInMarks op' r' = false) (ha : PE X l (tE T W X.K true (ev T.P true a))) (hc : PE X r (tE T W X.K true (ev T.P true c))) (hc' : PE X r' (tE T W X.K true (ev T.P true c'))) :
    PT X (.Compare l [op, op'] [r, r'] pos) (tT T W X.K (.chain op op' a c c')) :=
  have hu : X.A.units + 65 < cLine := by have := ok.un; omega
  PT.conv (pt_chain (op_cmpF hu op) (op_cmpF hu op') ha hc hc' (by show lastMarks [op'] [r'] = false; exact hm)) fun σ H Q h => rdChain (tT_tE (fun ls => bl_chain ls) h)
/-- a bool's value and its truth -/
theorem Post.tru {K : PySem.W.Frag} {H : Hp} {g : Gh} {m : M PV} {d : DS} {Q : Bool → Hp → Prop} {EX : Hp → Gh → Exc → Prop} (h : Post K H g RelK (FW.evBl m d) Q EX) : Post K H g RelK ((m.bind fun x => M.lift (truF x)) d) Q EX := by
  unfold FW.evBl M.bind at h
  unfold M.bind
  cases q : m d with
  | bad => rw [q] at h; exact h
  | ex e d' => rw [q] at h; exact h
  | ok v d' =>
    rw [q] at h
    cases v with
    | bl k => exact h
    | _ => exact h.elim
theorem pure_bind {α β : Type} (a : α) (k : α → M β) : (M.pure a).bind k = k a := rfl
theorem bind_pure' {α : Type} (m : M α) : (m.bind fun x => M.pure x) = m := by
  funext d; unfold M.bind; cases m d <;> rfl
theorem stAndR {σ : L2.St} {H : Hp} {Q : Bool → Hp → Prop} {K : PySem.W.Frag} (h : tT T W K (.and a c) σ H Q) : tAnd (tT T W K a) (tT T W K c) σ H Q := by
  obtain ⟨g, ls, d, G, L, h⟩ := h
  have h : Post K H g RelK ((((evBl (ev T.P true a ls)).bind fun k => if k = true then (evBl (ev T.P true c ls)).bind fun j => M.pure (.bl j) else M.pure (.bl false)).bind fun x => M.lift (truF x)) d) Q (exW T W σ) := h
  rw [M.bind_assoc] at h
  refine ⟨g, ls, d, G, L, ((Post.bind (R := RelK) h).imp fun k H1 ⟨k', g1, d1, e1, G1, r1, h1⟩ => ?_).tru⟩
  obtain rfl : k = k' := r1
  cases k with
  | true =>
    rw [if_pos rfl] at h1 ⊢
    rw [M.bind_assoc] at h1
    have h1 : Post K H1 g1 RelK (((evBl (ev T.P true c ls)).bind fun x => M.pure x) d1) Q (exW T W σ) := h1
    rw [bind_pure'] at h1
    exact ⟨g1, ls, d1, G1, L.ext e1, h1.tru⟩
  | false => exact (show Post K H1 g1 RelK (M.pure false d1) Q (exW T W σ) from h1).pure G1 rfl
theorem stOrR {σ : L2.St} {H : Hp} {Q : Bool → Hp → Prop} {K : PySem.W.Frag} (h : tT T W K (.or a c) σ H Q) : tOr (tT T W K a) (tT T W K c) σ H Q := by
  obtain ⟨g, ls, d, G, L, h⟩ := h
  have h : Post K H g RelK ((((evBl (ev T.P true a ls)).bind fun k => if k = true then M.pure (.bl true) else (evBl (ev T.P true c ls)).bind fun j => M.pure (.bl j)).bind fun x => M.lift (truF x)) d) Q (exW T W σ) := h
  rw [M.bind_assoc] at h
  refine ⟨g, ls, d, G, L, ((Post.bind (R := RelK) h).imp fun k H1 ⟨k', g1, d1, e1, G1, r1, h1⟩ => ?_).tru⟩
  obtain rfl : k = k' := r1
  cases k with
  | false =>
    rw [if_neg Bool.false_ne_true] at h1 ⊢
    rw [M.bind_assoc] at h1
    have h1 : Post K H1 g1 RelK (((evBl (ev T.P true c ls)).bind fun x => M.pure x) d1) Q (exW T W σ) := h1
    rw [bind_pure'] at h1
    exact ⟨g1, ls, d1, G1, L.ext e1, h1.tru⟩
  | true => exact (show Post K H1 g1 RelK (M.pure true d1) Q (exW T W σ) from h1).pure G1 rfl
theorem stNotR {σ : L2.St} {H : Hp} {Q : Bool → Hp → Prop} {K : PySem.W.Frag} (h : tT T W K (.not a) σ H Q) : L2.tNot (tT T W K a) σ H Q := by
  obtain ⟨g, ls, d, G, L, h⟩ := h
  have h : Post K H g RelK ((((evBl (ev T.P true a ls)).bind fun k => M.pure (.bl (!k))).bind fun x => M.lift (truF x)) d) Q (exW T W σ) := h
  rw [M.bind_assoc] at h
  refine ⟨g, ls, d, G, L, ((Post.bind (R := RelK) h).imp fun k H1 ⟨k', g1, d1, e1, G1, r1, h1⟩ => ?_).tru⟩
  obtain rfl : k = k' := r1
  exact (show Post K H1 g1 RelK (M.pure (!k) d1) Q (exW T W σ) from h1).pure G1 rfl
/-! ### the draws -/
theorem ne4 : ¬ strK "great" = strK "rest" ∧ ¬ strK "great" = strK "cells" ∧ ¬ strK "great" = strK "turn" ∧ ¬ strK "rest" = strK "great" ∧ ¬ strK "rest" = strK "cells" ∧ ¬ strK "rest" = strK "turn" ∧ ¬ strK "cells" = strK "turn" ∧ ¬ strK "cells" = strK "great" ∧ ¬ strK "cells" = strK "rest" ∧ ¬ strK "turn" = strK "great" ∧ ¬ strK "turn" = strK "rest" ∧ ¬ strK "turn" = strK "cells" := by decide +kernel
def drL (a b c d : V) : List (Key × V) := [(strK "great", a), (strK "rest", b), (strK "cells", c), (strK "turn", d)]
theorem get_great (x y z w : V) : valV (drL x y z w) (strK "great") = some x := valV_pos rfl
theorem get_rest (x y z w : V) : valV (drL x y z w) (strK "rest") = some y := by unfold drL; rw [valV_neg ne4.1, valV_pos rfl]
theorem get_cells (x y z w : V) : valV (drL x y z w) (strK "cells") = some z := by unfold drL; rw [valV_neg ne4.2.1, valV_neg ne4.2.2.2.2.1, valV_pos rfl]
theorem get_turn (x y z w : V) : valV (drL x y z w) (strK "turn") = some w := by unfold drL; rw [valV_neg ne4.2.2.1, valV_neg ne4.2.2.2.2.2.1, valV_neg ne4.2.2.2.2.2.2.1, valV_pos rfl]
theorem drw_of {K : PySem.W.Frag} {H : Hp} {g : Gh} {d : DS} (G : GOk K H g d) {x : V} (r : RelB K H g .drw x) : ∃ (D : DrA) (q : Draw), g.dr = some D ∧ d = some q ∧ x = .ref D.a ∧ D.a ≠ D.gr ∧ D.ce ≠ D.a ∧ D.ce ≠ D.gr ∧
    H D.a = some (.dK (drL (.ref D.gr) (.int q.rest) (.ref D.ce) (.int q.turn))) ∧ H D.gr = some (.lst (q.great.map .int)) ∧ H D.ce = some (.lst (q.cells.map .int)) ∧ g.fz D.ce := by
  obtain ⟨D, h1, rfl⟩ := (show ∃ D, g.dr = some D ∧ x = .ref D.a from r)
  have z := G.dr
  rw [h1] at z
  cases d with
  | none => exact z.elim
  | some q =>
    obtain ⟨q1, q2, q3, q4, q5, q6⟩ := z
    exact ⟨D, q, h1, rfl, rfl, q1, q2, q3, q4, q5, q6, G.ceF D h1⟩
theorem relPs_ints {K : PySem.W.Frag} {H : Hp} {g : Gh} : ∀ ns : List Int, RelPs K H g (ns.map .int) (ns.map .int)
  | [] => rfl
  | n :: ns => ⟨_, _, rfl, rfl, relPs_ints ns⟩
theorem noSl {e : Expr} (h : notSlice e = true) : NoSl e := by
  intro o i
  cases e <;> first | rfl | cases h
theorem sDr (ok : XOk X T S W) {f : Nat} {k : Nat} {p2 : Pos} (ha : PE X l (tE T W X.K true (ev T.P true a))) : PE X (.Subscript l (.Constant (.str (drKey f)) k p2) pos) (tE T W X.K b (ev T.P b (.dr a f))) := by
  refine PE.conv (pe_dget (by have := ok.un; omega) ha pe_str (noSl rfl)) fun σ H Q ⟨g, ls, d, G, L, h⟩ => ⟨g, ls, d, G, L, (Post.bind h).imp fun x H1 ⟨va, g1, d1, e1, G1, r1, h1⟩ => ?_⟩
  cases va with
  | drw =>
    obtain ⟨D, q, k1, rfl, rfl, n1, n2, n3, k2, k3, k4, k5⟩ := drw_of G1 (r1.toB G1)
    have h1 : Post X.K H1 g1 (RelX X.K b) (M.pure (q.fld f) (some q)) Q (exW T W σ) := h1
    match f, h1 with
    | 0, h1 => exact ⟨D.a, .int q.rest, rfl, .inl ⟨_, strK "rest", .inl k2, rfl, (get_rest _ _ _ _).symm⟩, h1.pure G1 (RelX.of G1 rfl)⟩
    | 1, h1 => exact ⟨D.a, .int q.turn, rfl, .inl ⟨_, strK "turn", .inl k2, rfl, (get_turn _ _ _ _).symm⟩, h1.pure G1 (RelX.of G1 rfl)⟩
    | _ + 2, h1 => exact ⟨D.a, .ref D.ce, rfl, .inl ⟨_, strK "cells", .inl k2, rfl, (get_cells _ _ _ _).symm⟩, h1.pure G1 (RelX.of G1 ⟨D.ce, _, rfl, k5, k4, relPs_ints _⟩)⟩
  | _ => exact h1.elim
/-- o['great'] != [] -/
abbrev rNeD (K : PySem.W.Frag) : R2 := fun x y H Q => ∃ dx dy, Dp K H x dx ∧ Dp K H y dy ∧ SeqAt.shaped dx = true ∧ SeqAt.shaped dy = true ∧ Q (.bl (!PyData.eqv dx dy)) H
theorem okD_ints : ∀ ns : List Int, noDs (ns.map .int) = true ∧ depPVs (ns.map .int) = 0
  | [] => ⟨rfl, rfl⟩
  | n :: ns => ⟨by simp only [List.map_cons, noDs, noD, (okD_ints ns).1, Bool.and_self], by simp only [List.map_cons, depPVs, depPV, (okD_ints ns).2, Nat.max_self]⟩
theorem rdDrge {K : PySem.W.Frag} {σ : L2.St} {H : Hp} {Q : VK} (h : tE T W K b (ev T.P b (.drge a)) σ H Q) : tOp (rNeD K) (tDGet (tE T W K true (ev T.P true a)) (tC (.str ("great" : Str)))) (tLst tNil) σ H Q := by
  obtain ⟨g, ls, d, G, L, h⟩ := h
  refine ⟨g, ls, d, G, L, (Post.bind h).imp fun x H1 ⟨va, g1, d1, e1, G1, r1, h1⟩ => ?_⟩
  cases va with
  | drw =>
    obtain ⟨D, q, k1, rfl, rfl, n1, n2, n3, k2, k3, k4, k5⟩ := drw_of G1 (r1.toB G1)
    have h1 : Post K H1 g1 (RelX K b) (M.pure (.bl (!q.great.isEmpty)) (some q)) Q (exW T W σ) := h1
    refine ⟨D.a, .ref D.gr, rfl, .inl ⟨_, strK "great", .inl k2, rfl, (get_great _ _ _ _).symm⟩, Nat.zero_le _, fun p hp => ?_⟩
    have e2 := Ext.allocF (o := .lst []) G1 hp
    have G2 := G1.allocF (o := .lst []) hp
    have hgr : (upd H1 p (.lst [])) D.gr = some (.lst (q.great.map .int)) := by rw [upd_ne (ne_of_none k3 hp)]; exact k3
    obtain ⟨o1, o2⟩ := okD_ints q.great
    have n1 : noD (.lst (q.great.map .int)) = true := o1
    have s1 : SeqAt.shaped (toD (.lst (q.great.map .int))) = true := shaped_of (by unfold okD; rw [n1]; simp [depPV, o2])
    refine ⟨toD (.lst (q.great.map .int)), toD (.lst []), .lst (SqL.of hgr) (dps_of o1 (relPs_ints (g := g1.add p) _)), .lst (SqL.of upd_same) .nil, s1, shaped_of rfl, ?_⟩
    rw [eqv_of n1 rfl]
    have e3 : eqPV (.lst (q.great.map .int)) (.lst []) = q.great.isEmpty := by cases q.great <;> rfl
    rw [e3]
    exact (h1.ext e2).pure G2 (RelX.of G2 rfl)
  | _ => exact h1.elim
theorem sDrge (ok : XOk X T S W) {k : Nat} {p1 p2 p3 : Pos} (ha : PE X l (tE T W X.K true (ev T.P true a))) : PE X (.Compare (.Subscript l (.Constant (.str ("great" : Str)) k p2) p1) [.NotEq] [.List [] p3] pos) (tE T W X.K b (ev T.P b (.drge a))) :=
  PE.conv (pe_cmpR (op_neD (by have := ok.un; omega)) (pe_dget (by have := ok.un; omega) ha pe_str (noSl rfl)) (pe_lst pa_nil) rfl) fun σ H Q h => rdDrge h
theorem bl_drge {P : PE'} {b : Bool} (ls : List Slot) : isBl (ev P b (.drge a) ls) := fun d v d' h => by
  obtain ⟨x, d1, _, h⟩ := M.bind_ok h
  cases x with
  | drw =>
    cases d1 with
    | none => cases h
    | some q => cases h; exact ⟨_, rfl⟩
  | _ => cases h
theorem stDrge (ok : XOk X T S W) {k : Nat} {p1 p2 p3 : Pos} (ha : PE X l (tE T W X.K true (ev T.P true a))) : PT X (.Compare (.Subscript l (.Constant (.str ("great" : Str)) k p2) p1) [.NotEq] [.List [] p3] pos) (tT T W X.K (.drge a)) :=
  PT.conv (pt_cmpR (op_neD (by have := ok.un; omega)) (pe_dget (by have := ok.un; omega) ha pe_str (noSl rfl)) (pe_lst pa_nil) rfl) fun σ H Q h => rdDrge (tT_tE (fun ls => bl_drge ls) h)
theorem isNil_of {e : Expr} (h : isNil e = true) : ∃ p, e = .List [] p := by
  unfold isNil at h
  cases q : vLst e with
  | none => rw [q] at h; cases h
  | some l =>
    rw [q] at h
    obtain ⟨p, rfl⟩ := vLst_of q
    cases l with
    | nil => exact ⟨p, rfl⟩
    | cons _ _ => cases h
/-! ### len(set(texts)) -/
theorem small1000' {n : Nat} (h : n < 3000) : n < sizeLine := Nat.lt_of_lt_of_le h (by rw [sizeLine_eq]; decide)
theorem sLenset (ok : XOk X T S W) {p p2 q : Pos} (h1 : glB S.sc ("len" : Str) = true) (h2 : glB S.sc ("set" : Str) = true) (hs : notStar l = true) (ha : PE X l (tE T W X.K true (ev T.P true a))) :
    PE X (.Call (.Name ("len" : Str) p) [.Call (.Name ("set" : Str) p2) [l] [] q] [] pos) (tE T W X.K b (ev T.P b (.lenset a))) := by
  refine PE.conv (pe_callB call_lenT (gl_of ok h1) (ok.bi "len" (by decide)) boot_len (pa_cons (pe_callTy (call_setT ok.calm) (gl_of ok h2) (ok.bi "set" (by decide)) boot_set (pa_cons ha pa_nil (starEach_plain hs _ _)) (by decide) (by decide) (starEach_plain hs _ _) (starEach_any rfl _ _)) pa_nil rfl) (by decide) (by decide) rfl rfl) fun σ H Q ⟨g, ls, d, G, L, h⟩ => ⟨g, ls, d, G, L, (Post.bind h).imp fun x H1 ⟨va, g1, d1, e1, G1, r1, h1⟩ => ?_⟩
  obtain ⟨v, e, h1⟩ := h1.lift
  unfold lensetF at e
  obtain ⟨xs, q1, e⟩ := Option.bind_eq_some_iff.mp e
  obtain ⟨ts, q2, e⟩ := Option.bind_eq_some_iff.mp e
  by_cases hq : ts.length < 3000
  · rw [if_pos hq] at e
    cases e
    obtain ⟨p, vs, rfl, r3, r4⟩ := seq_of q1 (r1.toB G1)
    obtain rfl := rel_strs q2 r3
    refine ⟨p, ts, rfl, ?_, by unfold scanBound; omega, fun c hc => ?_⟩
    · rcases r4 with ⟨_, r4⟩ | ⟨_, r4⟩
      · exact .inl r4
      · exact .inr r4
    · have e2 := Ext.alloc (o := SetT X.w c (seenK ts ts.length) (cntS [] ts)) G1 hc
      have hz : cntS [] ts ≤ sizeLine := Nat.le_trans (cnt_le ts []) (Nat.le_of_lt (small1000' hq))
      exact ⟨c, _, _, rfl, upd_same, hz, (h1.ext e2).pure (G1.alloc hc) (RelX.of (G1.alloc hc) rfl)⟩
  · rw [if_neg hq] at e; cases e
/-! ### sorted(set(texts)) -/
theorem relPs_strs {K : PySem.W.Frag} {H : Hp} {g : Gh} : ∀ ys : List Str, RelPs K H g (ys.map .str) (ys.map .str)
  | [] => rfl
  | y :: ys => ⟨.str y, _, rfl, rfl, relPs_strs ys⟩
theorem mem_dedS : ∀ (ts : List Str) (k : Str), k ∈ dedS ts ↔ k ∈ ts
  | [], _ => Iff.rfl
  | x :: r, k => by
    unfold dedS
    cases h : r.contains x with
    | true =>
      rw [if_pos rfl, mem_dedS r k, List.mem_cons]
      have h := List.contains_iff_mem.mp h
      exact ⟨.inr, fun z => z.elim (fun e => e ▸ h) id⟩
    | false => rw [if_neg Bool.false_ne_true, List.mem_cons, List.mem_cons, mem_dedS r k]
theorem nodup_dedS : ∀ (ts : List Str), (dedS ts).Nodup
  | [] => List.nodup_nil
  | x :: r => by
    unfold dedS
    cases h : r.contains x with
    | true => rw [if_pos rfl]; exact nodup_dedS r
    | false =>
      rw [if_neg Bool.false_ne_true, List.nodup_cons]
      refine ⟨fun z => ?_, nodup_dedS r⟩
      rw [List.contains_iff_mem.mpr ((mem_dedS r x).mp z)] at h
      cases h
theorem sSortset (ok : XOk X T S W) {p p2 q : Pos} (h1 : glB S.sc ("sorted" : Str) = true) (h2 : glB S.sc ("set" : Str) = true) (hs : notStar l = true) (ha : PE X l (tE T W X.K true (ev T.P true a))) :
    PE X (.Call (.Name ("sorted" : Str) p) [.Call (.Name ("set" : Str) p2) [l] [] q] [] pos) (tE T W X.K b (ev T.P b (.sortset a))) := by
  refine PE.conv (pe_callB (call_sortTxt ok.calm) (gl_of ok h1) (ok.bi "sorted" (by decide)) boot_sorted (pa_cons (pe_callTy (call_setT ok.calm) (gl_of ok h2) (ok.bi "set" (by decide)) boot_set (pa_cons ha pa_nil (starEach_plain hs _ _)) (by decide) (by decide) (starEach_plain hs _ _) (starEach_any rfl _ _)) pa_nil rfl) (by decide) (by decide) rfl rfl) fun σ H Q ⟨g, ls, d, G, L, h⟩ => ⟨g, ls, d, G, L, (Post.bind h).imp fun x H1 ⟨va, g1, d1, e1, G1, r1, h1⟩ => ?_⟩
  obtain ⟨v, e, h1⟩ := h1.lift
  unfold sortsetF at e
  obtain ⟨xs, q1, e⟩ := Option.bind_eq_some_iff.mp e
  obtain ⟨ts, q2, e⟩ := Option.bind_eq_some_iff.mp e
  by_cases hq : ts.length < 64
  · rw [if_pos hq] at e
    cases e
    obtain ⟨p, vs, rfl, r3, r4⟩ := seq_of q1 (r1.toB G1)
    obtain rfl := rel_strs q2 r3
    refine ⟨p, ts, rfl, ?_, by unfold scanBound; omega, fun c hc => ?_⟩
    · rcases r4 with ⟨_, r4⟩ | ⟨_, r4⟩
      · exact .inl r4
      · exact .inr r4
    · have e2 := Ext.alloc (o := SetT X.w c (seenK ts ts.length) (cntS [] ts)) G1 hc
      have hz : cntS [] ts < 64 := Nat.lt_of_le_of_lt (cnt_le ts []) hq
      refine ⟨c, _, _, rfl, upd_same, hz, fun ys p2 nd mem srt hp => ?_⟩
      have pm : ys.Perm (dedS ts) := (List.perm_ext_iff_of_nodup nd (nodup_dedS ts)).mpr fun k => by
        rw [mem k, mem_dedS]
        show (ts.take ts.length).contains k = true ↔ k ∈ ts
        rw [List.take_length, List.contains_iff_mem]
      have hy : ys = srtK ltStr (dedS ts) := srt_eq sto_str pm srt
      have hz2 : srtPV ((dedS ts).map .str) = ys.map .str := by
        rw [hy, srt_of (κ := Str) (lt := ltStr) (f := PV.str) fun _ _ => rfl]
      rw [hz2] at h1
      exact (h1.ext e2).newL (G1.alloc hc) (relPs_strs ys) _ hp
  · rw [if_neg hq] at e; cases e
/-! ### list(zip(a, b, c)) -/
theorem zip3F_some {a b c v : PV} (h : zip3F a b c = some v) : ∃ xs ys zs, a = .tup xs ∧ b = .tup ys ∧ c = .tup zs ∧ (ys.length = xs.length ∧ zs.length = xs.length) ∧ v = .lst (zip3P xs ys zs) := by
  unfold zip3F at h
  split at h
  · split at h
    · cases h
      exact ⟨_, _, _, rfl, rfl, rfl, by assumption, rfl⟩
    · cases h
  · cases h
theorem sLzip3 (ok : XOk X T S W) {a c e : E} {l1 l2 l3 : Expr} {p p2 q pos : Pos} {b : Bool} (h1 : glB S.sc ("list" : Str) = true) (h2 : glB S.sc ("zip" : Str) = true) (n1 : notStar l1 = true) (n2 : notStar l2 = true) (n3 : notStar l3 = true)
    (ha : PE X l1 (tE T W X.K true (ev T.P true a))) (hc : PE X l2 (tE T W X.K true (ev T.P true c))) (he : PE X l3 (tE T W X.K true (ev T.P true e))) :
    PE X (.Call (.Name ("list" : Str) p) [.Call (.Name ("zip" : Str) p2) [l1, l2, l3] [] q] [] pos) (tE T W X.K b (ev T.P b (.lzip3 a c e))) := by
  refine PE.conv (pe_lzip3 ok.calm (gl_of ok h1) (ok.bi "list" (by decide)) (gl_of ok h2) (ok.bi "zip" (by decide)) rfl (pa_cons ha (pa_cons hc (pa_cons he pa_nil (starEach_plain n3 _ _)) (starEach_plain n2 _ _)) (starEach_plain n1 _ _)) (starEach_plain n1 _ _)
    (starEach_any (by simp [n2, n3]) _ _)) fun σ H Q ⟨g, ls, d, G, L, h⟩ => ⟨g, ls, d, G, L, (Post.bind h).imp fun x H1 ⟨va, g1, d1, e1, G1, r1, h1⟩ => ⟨g1, ls, d1, G1, L.ext e1, (Post.bind h1).imp fun y H2 ⟨vb, g2, d2, e2, G2, r2, h2⟩ =>
      ⟨g2, ls, d2, G2, (L.ext e1).ext e2, (Post.bind h2).imp fun z H3 ⟨vc, g3, d3, e3, G3, r3, h3⟩ => ?_⟩⟩⟩
  obtain ⟨v, ev, h3⟩ := h3.lift
  have r1 := ((r1.toB G1).ext e2).ext e3
  have r2 := (r2.toB G2).ext e3
  have r3 := r3.toB G3
  obtain ⟨xs, ys, zs, rfl, rfl, rfl, hl, rfl⟩ := zip3F_some ev
  obtain ⟨a1, v1, rfl, s1, q1⟩ := (show RelP _ _ _ (.tup xs) _ from r1)
  obtain ⟨a2, v2, rfl, s2, q2⟩ := (show RelP _ _ _ (.tup ys) _ from r2)
  obtain ⟨a3, v3, rfl, s3, q3⟩ := (show RelP _ _ _ (.tup zs) _ from r3)
  have l1 := q1.length
  have l2 := q2.length
  have l3 := q3.length
  refine ⟨a1, a2, a3, v1, v2, v3, rfl, s1, s2, s3, by omega, by omega, fun Ts Lx hT nd out hn hL => ?_⟩
  have zl : (z3 v1 v2 v3).length = v1.length := z3_len (by omega) (by omega)
  have mp : (Ts.zip (z3 v1 v2 v3)).map (·.1) = Ts := List.map_fst_zip (by omega)
  have nd' : ((Ts.zip (z3 v1 v2 v3)).map (·.1)).Nodup := by rw [mp]; exact nd
  obtain ⟨e4, G4⟩ := ext_layT (l := Ts.zip (z3 v1 v2 v3)) G3 (fun q hq => hn q.1 (by
    have hm : q.1 ∈ (Ts.zip (z3 v1 v2 v3)).map (·.1) := List.mem_map.mpr ⟨q, hq, rfl⟩
    rwa [mp] at hm)) nd'
  exact (h3.ext e4).newL G4 (relZ (q1.ext e4) (q2.ext e4) (q3.ext e4) (by omega) (by omega) hT fun q hq => layT_mem nd' hq) Lx (layT_none hL (by rw [mp]; exact out))
/-! ### displays of dicts, their keys texts that are written -/
def trs (T : Tab) (W : WX) (K : PySem.W.Frag) : List Str → Es → List (TE × TE)
  | k :: ks, .cons e r => (tC (.str k), tE T W K false (ev T.P false e)) :: trs T W K ks r
  | _, _ => []
def flatEs : Es → Bool
  | .nil => true
  | .cons _ r => flatEs r
  | .star _ _ => false
def lenEs : Es → Nat
  | .nil => 0
  | .cons _ r => lenEs r + 1
  | .star _ r => lenEs r
theorem flatEs_of {T : PsT} {S : NS} : ∀ {vs : Es} {l : List Expr}, l.all notStar = true → chkEs T S vs l = true → flatEs vs = true ∧ lenEs vs = l.length
  | .nil, l, _, h => by
    cases l with
    | nil => exact ⟨rfl, rfl⟩
    | cons _ _ => cases h
  | .cons e r, l, hs, h => by
    cases l with
    | nil => cases h
    | cons x xs =>
      simp only [chkEs, Bool.and_eq_true] at h
      simp only [List.all_cons, Bool.and_eq_true] at hs
      obtain ⟨a, b⟩ := flatEs_of hs.2 h.2
      exact ⟨a, by simp [lenEs, b]⟩
  | .star e r, l, hs, h => by
    cases l with
    | nil => cases h
    | cons x xs =>
      cases x <;> first | cases h | (simp [notStar] at hs)
theorem rdPairs {T : Tab} {W : WX} {K : PySem.W.Frag} : ∀ (vs : Es) (ks : List Str) {σ : L2.St} {H : Hp} {Q : List (V × V) → Hp → Prop} {g : Gh} {ls : List Slot} {d : DS}, flatEs vs = true → lenEs vs = ks.length → GOk K H g d → LRel K H g ls σ →
    Post K H g (fun H g => RelPs K H g) (evs T.P vs ls d) (fun xs H' => Q ((ks.zip xs).map fun q => (.str q.1, q.2)) H') (exW T W σ) → tPairs (trs T W K ks vs) σ H Q
  | .nil, [], σ, H, Q, g, ls, d, _, _, G, L, h => (show Post K H g (fun H g => RelPs K H g) (M.pure [] d) _ (exW T W σ) from h).pure G rfl
  | .nil, _ :: _, _, _, _, _, _, _, _, hl, _, _, _ => by cases hl
  | .cons _ _, [], _, _, _, _, _, _, _, hl, _, _, _ => by cases hl
  | .star _ _, _, _, _, _, _, _, _, hf, _, _, _, _ => by cases hf
  | .cons e r, k :: ks, σ, H, Q, g, ls, d, hf, hl, G, L, h => by
    have h : Post K H g (fun H g => RelPs K H g) (((ev T.P false e ls).bind fun x => (evs T.P r ls).bind fun xs => M.pure (x :: xs)) d) _ (exW T W σ) := h
    refine (show tE T W K false (ev T.P false e) σ H fun y H2 => tPairs (trs T W K ks r) σ H2 fun ps H3 => Q ((.str k, y) :: ps) H3 from ⟨g, ls, d, G, L, (Post.bind h).imp fun y H1 ⟨va, g1, d1, e1, G1, r1, h1⟩ => ?_⟩)
    refine rdPairs r ks (g := g1) (ls := ls) (d := d1) hf (by simpa [lenEs] using hl) G1 (L.ext e1) ?_
    refine (Post.bind (R := fun H g => RelPs K H g) h1).imp fun ys H2 ⟨ps, g2, d2, e2, G2, r2, h2⟩ => ?_
    exact (show Post K H2 g2 (fun H g => RelPs K H g) (M.pure (va :: ps) d2) _ (exW T W σ) from h2).pure G2 (RelPs.cons (RelP.ext e2 r1) r2)
theorem merge_fresh : ∀ (kvs acc : List (Key × V)), ((acc ++ kvs).map (·.1)).Nodup → kvs.foldl (fun acc kv => L2.putK acc kv.1 kv.2) acc = acc ++ kvs
  | [], acc, _ => by simp
  | q :: kvs, acc, h => by
    rw [List.foldl_cons]
    have hq : (acc.any fun kv => decide (kv.1 = q.1)) = false := by
      rw [List.any_eq_false]
      intro z hz
      simp only [decide_eq_true_eq]
      intro e
      rw [List.map_append, List.nodup_append] at h
      exact h.2.2 z.1 (List.mem_map.mpr ⟨z, hz, rfl⟩) q.1 (by simp) e
    have e : L2.putK acc q.1 q.2 = acc ++ [q] := by
      unfold L2.putK
      rw [hq, if_neg (by decide)]
    rw [e, merge_fresh kvs (acc ++ [q]) (by simpa using h)]
    simp
theorem all_some : ∀ {l : List Str} {keys : List (Option Expr)}, keysAre l keys = true → keys.all (·.isSome) = true ∧ keys.length = l.length
  | [], keys, h => by
    have : keys = [] := by simpa [keysAre] using h
    subst this
    exact ⟨rfl, rfl⟩
  | k :: l, [], h => by cases h
  | k :: l, none :: keys, h => by cases h
  | k :: l, some e :: keys, h => by
    have h : (cStr k (vConst e) && keysAre l keys) = true := h
    rw [Bool.and_eq_true] at h
    obtain ⟨a, b⟩ := all_some h.2
    exact ⟨by simpa using a, by simp [b]⟩
theorem monoAdd {H : Hp} {g : Gh} {p : Addr} : Mono H g H (g.add p) := ⟨fun _ _ h => h, fun _ _ _ h => h, fun _ h => ⟨.inl h, rfl⟩, fun _ h => h⟩
theorem sDct (ok : XOk X T S W) {ks vs : Es} {l : List Str} {keys : List (Option Expr)} {values : List Expr} {pos : Pos} {t b : Bool} (h1 : dispKs ks = some l) (h2 : keysAre l keys = true) (h3 : keys.length = values.length) (hf : flatEs vs = true) (hl : lenEs vs = l.length) (h0 : keys ≠ []) (h15 : keys.length ≤ 15)
    (hp : PPs X pos keys values (trs T W X.K l vs)) : PE X (.Dict keys values pos) (tE T W X.K b (ev T.P b (.dct t ks vs))) := by
  refine PE.conv (pe_disp hp (all_some h2).1 h3 h0 h15) fun σ H Q ⟨g, ls, d, G, L, h⟩ p hpn => ?_
  have e0 := Ext.alloc (o := .dK []) G hpn
  have G0 : GOk X.K (upd H p (.dK [])) g d := G.alloc hpn
  refine rdPairs vs l (g := g) (ls := ls) (d := d) hf hl G0 (L.ext e0) ?_
  have h : Post X.K H g (RelX X.K b) (((evs T.P vs ls).bind fun xs => M.lift (dispF t (dispKs ks) xs)) d) Q (exW T W σ) := h
  unfold M.bind at h
  cases hq : evs T.P vs ls d with
  | bad => rw [hq] at h; exact h.elim
  | ex e d' =>
    rw [hq] at h
    exact fun H' g' e' G' => h H' g' (e0.trans e') G'
  | ok xs d' =>
    rw [hq] at h
    intro H2 g2 ys e2 G2 r2
    have h : Post X.K H g (RelX X.K b) (M.lift (dispF t (dispKs ks) xs) d') Q (exW T W σ) := h
    obtain ⟨v, ev, h⟩ := h.lift
    rw [h1] at ev
    have ev : (if t = false ∧ l.length = xs.length ∧ l.Nodup ∧ l ≠ [] ∧ l.length ≤ 15 then some (PV.dct false (l.map .str) xs) else none) = some v := ev
    split at ev
    · rename_i hc
      obtain ⟨_, c2, c3, _, c5⟩ := hc
      cases ev
      have hkey : H2 p = some (.dK []) := e2.keep p _ upd_same fun z => G.trk z hpn
      have hnd : ((l.zip ys).map fun q => ((.inr q.1 : Key), q.2)).map (·.1) = l.map Sum.inr := by
        rw [List.map_map]
        have : ((fun x : Key × V => x.1) ∘ fun q : Str × V => ((.inr q.1 : Key), q.2)) = Sum.inr ∘ (·.1) := rfl
        rw [this, ← List.map_map, List.map_fst_zip (by have := r2.length; omega)]
      refine ⟨hkey, (l.zip ys).map fun q => (.inr q.1, q.2), by rw [List.map_map]; rfl, by simp; omega, ?_⟩
      have hm : mergeK [] ((l.zip ys).map fun q => ((.inr q.1 : Key), q.2)) = (l.zip ys).map fun q => ((.inr q.1 : Key), q.2) := by
        unfold mergeK
        rw [merge_fresh]
        · simp
        · rw [List.nil_append, hnd]
          exact List.Pairwise.map _ (fun a b hab he => hab (by injection he)) c3
      rw [hm]
      have nf : ¬ g2.fz p := fun z => by
        rcases e2.new p z with z | z
        · exact G.fzT p z hpn
        · rw [upd_same] at z; cases z
      have nd : ¬ g2.isD p := fun z => by
        rcases e2.drn p z with z | z
        · exact G.trk z hpn
        · rw [upd_same] at z; cases z
      have e3 : Ext H g (upd H2 p (.dK ((l.zip ys).map fun q => ((.inr q.1 : Key), q.2)))) g2 := (e0.trans e2).upd hpn nf
      have G3 : GOk X.K (upd H2 p (.dK ((l.zip ys).map fun q => ((.inr q.1 : Key), q.2)))) g2 d' := G2.upd nf nd
      have hx : Ext (upd H p (.dK [])) g H2 g2 := e2
      refine h _ (g2.add p) _ (e3.add hpn) (G3.add (by rw [upd_same]; simp) nd) (RelX.of (G3.add (by rw [upd_same]; simp) nd) ?_)
      refine ⟨p, ys, rfl, .inr rfl, ⟨_, upd_same, ?_, ?_⟩, ?_⟩
      · rw [List.map_map]
        have : ((fun p : Key × V => kPV p.1) ∘ fun q : Str × V => ((.inr q.1 : Key), q.2)) = PV.str ∘ (·.1) := rfl
        rw [this, ← List.map_map, List.map_fst_zip (by have := r2.length; omega)]
      · rw [List.map_map]
        have : ((fun x : Key × V => x.2) ∘ fun q : Str × V => ((.inr q.1 : Key), q.2)) = (·.2) := rfl
        rw [this, List.map_snd_zip (by have := r2.length; omega)]
      · exact RelPs.mono monoAdd (RelPs.mono (Mono.upd hkey (fun _ z => by cases z) (fun _ _ z => by cases z) nf) r2)
    · cases ev
end
end FW
namespace FW
open PySem PySem.Spec PyProof.Rows L2
theorem all_cons {x : Expr} {xs : List Expr} (h : (x :: xs).all notStar = true) : notStar x = true ∧ xs.all notStar = true := by simpa using h
/-- the interpreter gives it away; wanted borrowed or not -/
theorem pubE_any {X : Cx} {T : Tab} {W : WX} {e : Expr} {a : E} (p : PE X e (tE T W X.K false (ev T.P false a))) (b : Bool) : PE X e (tE T W X.K b (ev T.P false a)) :=
  PE.conv p fun σ H Q ⟨g, ls, d, G, L, h⟩ => ⟨g, ls, d, G, L, h.rel fun H' g' d' v x G' r => RelX.of G' r⟩
mutual
theorem simE : ∀ (a : E) {e : Expr} {X : Cx} {T : Tab} {S : NS} {W : WX}, XOk X T S W → ∀ b : Bool, chkE T.ps S a e = true → PE X e (tE T W X.K b (ev T.P b a))
  | .var i, e, X, T, S, W, ok, b, h => by
    simp only [chkE] at h
    cases q : vName e with
    | none => rw [q] at h; cases h
    | some x =>
      rw [q] at h
      obtain ⟨p, rfl⟩ := vName_of q
      rw [Bool.and_eq_true] at h
      exact sVar ok h.1 h.2
  | .non, e, X, T, S, W, ok, b, h => by
    simp only [chkE] at h
    obtain ⟨k, p, rfl⟩ := vConst_of (cNon_of h)
    exact sNon
  | .bl c, e, X, T, S, W, ok, b, h => by
    simp only [chkE] at h
    obtain ⟨k, p, rfl⟩ := vConst_of (cBl_of h)
    exact sBl
  | .int c, e, X, T, S, W, ok, b, h => by
    simp only [chkE] at h
    obtain ⟨k, p, rfl⟩ := vConst_of (cInt_of h)
    exact sInt
  | .str c, e, X, T, S, W, ok, b, h => by
    simp only [chkE] at h
    obtain ⟨k, p, rfl⟩ := vConst_of (cStr_of h)
    exact sStr
  | .glob x, e, X, T, S, W, ok, b, h => by
    simp only [chkE] at h
    cases q : vName e with
    | none => rw [q] at h; cases h
    | some y =>
      rw [q] at h
      obtain ⟨p, rfl⟩ := vName_of q
      simp only [Bool.and_eq_true, decide_eq_true_eq] at h
      obtain ⟨⟨h0, h1⟩, h2⟩ := h
      subst h0
      exact sGlob ok h1 h2
  | .tup es, e, X, T, S, W, ok, b, h => by
    simp only [chkE] at h
    cases q : vTup e with
    | none => rw [q] at h; cases h
    | some l =>
      rw [q] at h
      obtain ⟨k, p, rfl⟩ := vTup_of q
      exact sTup (simEs es ok h)
  | .lst es, e, X, T, S, W, ok, b, h => by
    simp only [chkE] at h
    cases q : vLst e with
    | none => rw [q] at h; cases h
    | some l =>
      rw [q] at h
      obtain ⟨p, rfl⟩ := vLst_of q
      exact sLst (simEs es ok h)
  | .bin op a c, e, X, T, S, W, ok, b, h => by
    simp only [chkE] at h
    cases q : vBin e with
    | none => rw [q] at h; cases h
    | some t =>
      obtain ⟨l, op', r⟩ := t
      rw [q] at h
      obtain ⟨p, rfl⟩ := vBin_of q
      simp only [Bool.and_eq_true, decide_eq_true_eq] at h
      obtain ⟨⟨h0, h1⟩, h2⟩ := h
      subst h0
      exact sBin (simE a ok true h1) (simE c ok true h2)
  | .neg a, e, X, T, S, W, ok, b, h => by
    simp only [chkE] at h
    cases q : vUn e with
    | none => rw [q] at h; cases h
    | some t =>
      obtain ⟨op, x⟩ := t
      rw [q] at h
      obtain ⟨p, rfl⟩ := vUn_of q
      cases op with
      | USub => exact sNeg (simE a ok true h)
      | _ => cases h
  | .cmp op a c, e, X, T, S, W, ok, b, h => by
    simp only [chkE] at h
    cases q : vCmp e with
    | none => rw [q] at h; cases h
    | some t =>
      obtain ⟨l, ops, rs⟩ := t
      rw [q] at h
      obtain ⟨p, rfl⟩ := vCmp_of q
      match ops, rs, h with
      | [op'], [r], h =>
        simp only [Bool.and_eq_true, decide_eq_true_eq, Bool.not_eq_true'] at h
        obtain ⟨⟨⟨h0, h1⟩, h2⟩, h3⟩ := h
        subst h0
        exact sCmp ok h3 (simE a ok true h1) (simE c ok true h2)
  | .chain op op2 a c d, e, X, T, S, W, ok, b, h => by
    simp only [chkE] at h
    cases q : vCmp e with
    | none => rw [q] at h; cases h
    | some t =>
      obtain ⟨l, ops, rs⟩ := t
      rw [q] at h
      obtain ⟨p, rfl⟩ := vCmp_of q
      match ops, rs, h with
      | [op', op''], [r, r'], h =>
        simp only [Bool.and_eq_true, decide_eq_true_eq, Bool.not_eq_true'] at h
        obtain ⟨⟨⟨⟨⟨h0, h0'⟩, h1⟩, h2⟩, h3⟩, h4⟩ := h
        subst h0 h0'
        exact sChain ok h4 (simE a ok true h1) (simE c ok true h2) (simE d ok true h3)
  | .and a c, e, X, T, S, W, ok, b, h => by
    simp only [chkE] at h
    cases q : vBool e with
    | none => rw [q] at h; cases h
    | some t =>
      obtain ⟨op, ls, p⟩ := t
      rw [q] at h
      obtain rfl := vBool_of q
      match op, ls, h with
      | .And, [l, r], h =>
        simp only [Bool.and_eq_true] at h
        exact sAnd (simE a ok true h.1) (pe_one (simE c ok true h.2))
      | .And, l :: r :: r' :: rs, h =>
        simp only [Bool.and_eq_true] at h
        exact sAnd (simE a ok true h.1) (simE c ok true h.2)
  | .or a c, e, X, T, S, W, ok, b, h => by
    simp only [chkE] at h
    cases q : vBool e with
    | none => rw [q] at h; cases h
    | some t =>
      obtain ⟨op, ls, p⟩ := t
      rw [q] at h
      obtain rfl := vBool_of q
      match op, ls, h with
      | .Or, [l, r], h =>
        simp only [Bool.and_eq_true] at h
        exact sOr (simE a ok true h.1) (pe_one (simE c ok true h.2))
      | .Or, l :: r :: r' :: rs, h =>
        simp only [Bool.and_eq_true] at h
        exact sOr (simE a ok true h.1) (simE c ok true h.2)
  | .not a, e, X, T, S, W, ok, b, h => by
    simp only [chkE] at h
    cases q : vUn e with
    | none => rw [q] at h; cases h
    | some t =>
      obtain ⟨op, x⟩ := t
      rw [q] at h
      obtain ⟨p, rfl⟩ := vUn_of q
      cases op with
      | Not => exact sNot (simE a ok true h)
      | _ => cases h
  | .ite t a c, e, X, T, S, W, ok, b, h => by
    simp only [chkE] at h
    cases q : vIf e with
    | none => rw [q] at h; cases h
    | some z =>
      obtain ⟨t', a', c'⟩ := z
      rw [q] at h
      obtain ⟨p, rfl⟩ := vIf_of q
      simp only [Bool.and_eq_true] at h
      obtain ⟨⟨⟨h0, h1⟩, h2⟩, h3⟩ := h
      exact sIte (simT t ok h1 h0).1 (fun b => pubE_any (simE a ok false h2) b) (fun b => pubE_any (simE c ok false h3) b)
  | .sub a i, e, X, T, S, W, ok, b, h => by
    simp only [chkE] at h
    cases q : vSub e with
    | none => rw [q] at h; cases h
    | some z =>
      obtain ⟨v, s⟩ := z
      rw [q] at h
      obtain ⟨p, rfl⟩ := vSub_of q
      simp only [Bool.and_eq_true] at h
      exact sSub ok h.2 (simE a ok true h.1.1) (simE i ok true h.1.2)
  | .slc a lo hi, e, X, T, S, W, ok, b, h => by
    simp only [chkE] at h
    cases q : vSub e with
    | none => rw [q] at h; cases h
    | some z =>
      obtain ⟨v, s⟩ := z
      rw [q] at h
      obtain ⟨p, rfl⟩ := vSub_of q
      simp only at h
      cases q2 : vSlc s with
      | none => rw [q2] at h; cases h
      | some z =>
        obtain ⟨lo', hi', st⟩ := z
        rw [q2] at h
        obtain ⟨p2, rfl⟩ := vSlc_of q2
        cases st with
        | some _ => cases h
        | none =>
          simp only [Bool.and_eq_true] at h
          exact sSlc (simE a ok true h.1.1) (simP lo ok h.1.2) (simP hi ok h.2)
  | .rev a, e, X, T, S, W, ok, b, h => by
    simp only [chkE] at h
    cases q : vSub e with
    | none => rw [q] at h; cases h
    | some z =>
      obtain ⟨v, s⟩ := z
      rw [q] at h
      obtain ⟨p, rfl⟩ := vSub_of q
      simp only at h
      cases q2 : vSlc s with
      | none => rw [q2] at h; cases h
      | some z =>
        obtain ⟨lo', hi', st⟩ := z
        rw [q2] at h
        obtain ⟨p2, rfl⟩ := vSlc_of q2
        match lo', hi', st, h with
        | none, none, some m, h =>
          simp only [Bool.and_eq_true] at h
          obtain ⟨k, p3, p4, rfl⟩ := isM1_of h.2
          exact sRev (simE a ok true h.1)
  | .call f es, e, X, T, S, W, ok, b, h => by
    simp only [chkE] at h
    cases q : vCall e with
    | none => rw [q] at h; cases h
    | some z =>
      obtain ⟨g, as⟩ := z
      rw [q] at h
      obtain ⟨p, p2, rfl⟩ := vCall_of q
      match as, h with
      | a :: as, h =>
        simp only [Bool.and_eq_true, decide_eq_true_eq] at h
        obtain ⟨⟨⟨⟨⟨h0, h1⟩, h2⟩, h3⟩, h4⟩, h5⟩ := h
        subst h0
        exact sCall ok h1 h2 h3 h4 (simEs es ok h5)
  | .bi f es, e, X, T, S, W, ok, b, h => by
    simp only [chkE] at h
    cases q : vCall e with
    | none => rw [q] at h; cases h
    | some z =>
      obtain ⟨g, as⟩ := z
      rw [q] at h
      obtain ⟨p, p2, rfl⟩ := vCall_of q
      match as, h with
      | a :: as, h =>
        simp only [Bool.and_eq_true, decide_eq_true_eq] at h
        obtain ⟨⟨⟨⟨⟨⟨h0, h1⟩, h2⟩, h3⟩, h4⟩, h5⟩, h6⟩ := h
        subst h0
        exact sBi ok h1 h2 h3 h4 h5 (simBs es ok h5 h6)
  | .join s a, e, X, T, S, W, ok, b, h => by
    simp only [chkE] at h
    cases q : vMeth e with
    | none => rw [q] at h; cases h
    | some z =>
      obtain ⟨o, m, p, as, p2⟩ := z
      rw [q] at h
      obtain rfl := vMeth_of q
      match as, h with
      | [x], h =>
        simp only [Bool.and_eq_true, decide_eq_true_eq, Bool.not_eq_true'] at h
        obtain ⟨⟨⟨⟨⟨h0, h1⟩, h2⟩, h3⟩, h4⟩, h5⟩ := h
        subst h0
        exact sJoin h3 h4 h5 (simE s ok true h1) (simE a ok true h2)
  | .isin a tys, e, X, T, S, W, ok, b, h => by
    simp only [chkE] at h
    cases q : vCall e with
    | none => rw [q] at h; cases h
    | some z =>
      obtain ⟨g, as⟩ := z
      rw [q] at h
      obtain ⟨p, p2, rfl⟩ := vCall_of q
      match as, h with
      | [x, c], h =>
        simp only [Bool.and_eq_true, decide_eq_true_eq] at h
        obtain ⟨⟨⟨⟨⟨h0, h1⟩, h2⟩, h3⟩, h4⟩, h5⟩ := h
        subst h0
        exact sIsin ok h1 h3 h4 h5 (simE a ok true h2)
  | .lc e g it c own, x, X, T, S, W, ok, b, h => by
    simp only [chkE] at h
    cases q : vLc x with
    | none => rw [q] at h; cases h
    | some z =>
      obtain ⟨elt, gs, scope⟩ := z
      rw [q] at h
      obtain ⟨p, rfl⟩ := vLc_of q
      match gs, h with
      | [⟨tg, iter, ifs, 0⟩], h =>
        simp only [Bool.and_eq_true] at h
        obtain ⟨⟨⟨⟨⟨⟨h0, h1⟩, h2⟩, h3⟩, h4⟩, h5⟩, h6⟩ := h
        exact sLc ok (simI it ok true h0) h1 h2 h4 (fun ok' => sG ok' h3) (fun ok' => simC c ok' h5) (fun ok' => simE e ok' false h6)
  | .lc2 e g it c g2 it2 c2 own own2 fr, x, X, T, S, W, ok, b, h => by
    simp only [chkE] at h
    cases q : vLc x with
    | none => rw [q] at h; cases h
    | some z =>
      obtain ⟨elt, gs, scope⟩ := z
      rw [q] at h
      obtain ⟨p, rfl⟩ := vLc_of q
      match gs, h with
      | [⟨tg, iter, ifs, 0⟩, ⟨tg2, iter2, ifs2, 0⟩], h =>
        simp only [Bool.and_eq_true] at h
        obtain ⟨⟨⟨⟨⟨⟨h0, h1⟩, h2⟩, h3⟩, h4⟩, h5⟩, ⟨⟨⟨⟨⟨⟨k0, k1⟩, k3⟩, k4⟩, k5⟩, k6⟩, h6⟩⟩ := h
        exact sLc2 ok (simI it ok true h0) h1 h2 h4 k4 k5 k1 (fun ok' => sG ok' h3) (fun ok' => simC c ok' h5) (fun ok' => simI it2 ok' false k0) (fun ok' => sG ok' k3) (fun ok' => simC c2 ok' k6) (fun ok' => simE e ok' false h6)
  | .nev, e, X, T, S, W, ok, b, h => ⟨fun pins s σ H Q I ⟨g, ls, d, G, L, h⟩ => h.elim⟩
  | .dr o f, e, X, T, S, W, ok, b, h => by
    simp only [chkE] at h
    cases q : vSub e with
    | none => rw [q] at h; cases h
    | some z =>
      obtain ⟨v, s⟩ := z
      rw [q] at h
      obtain ⟨p, rfl⟩ := vSub_of q
      simp only [Bool.and_eq_true] at h
      obtain ⟨k, p2, rfl⟩ := vConst_of (cStr_of h.2)
      exact sDr ok (simE o ok true h.1)
  | .drge o, e, X, T, S, W, ok, b, h => by
    simp only [chkE] at h
    cases q : vCmp e with
    | none => rw [q] at h; cases h
    | some t =>
      obtain ⟨l, ops, rs⟩ := t
      rw [q] at h
      obtain ⟨p, rfl⟩ := vCmp_of q
      match ops, rs, h with
      | [.NotEq], [r], h =>
        have h : (match vSub l with
          | some (v, s) => chkE T.ps S o v && cStr ("great" : Str) (vConst s) && isNil r
          | none => false) = true := h
        cases q2 : vSub l with
        | none => rw [q2] at h; cases h
        | some z =>
          obtain ⟨v, s⟩ := z
          rw [q2] at h
          obtain ⟨p2, rfl⟩ := vSub_of q2
          have h' : (chkE T.ps S o v && cStr ("great" : Str) (vConst s) && isNil r) = true := h
          rw [Bool.and_eq_true, Bool.and_eq_true] at h'
          obtain ⟨⟨h0, h1⟩, h2⟩ := h'
          obtain ⟨k, p3, rfl⟩ := vConst_of (cStr_of h1)
          obtain ⟨p4, rfl⟩ := isNil_of h2
          exact sDrge ok (simE o ok true h0)
  | .dct t ks vs, e, X, T, S, W, ok, b, h => by
    simp only [chkE] at h
    cases q : vDict e with
    | none => rw [q] at h; cases h
    | some z =>
      obtain ⟨keys, values⟩ := z
      rw [q] at h
      obtain ⟨p, rfl⟩ := vDict_of q
      cases q2 : dispKs ks with
      | none =>
        rw [q2] at h
        cases h
      | some l =>
        rw [q2] at h
        have h' : (keysAre l keys && decide (l.length ≤ 15) && !l.isEmpty && decide (values.length = keys.length) && values.all notStar && chkEs T.ps S vs values) = true := h
        simp only [Bool.and_eq_true, decide_eq_true_eq, Bool.not_eq_true'] at h'
        obtain ⟨⟨⟨⟨⟨h1, h2⟩, h3⟩, h4⟩, h5⟩, h6⟩ := h'
        obtain ⟨hf, hl⟩ := flatEs_of h5 h6
        have hk := (all_some h1).2
        refine sDct ok q2 h1 h4.symm hf (by omega) (fun z => ?_) (by omega) (simDs vs l ok h5 h1 (by omega) h6)
        subst z
        have : l = [] := List.length_eq_zero_iff.mp hk.symm
        rw [this] at h3
        cases h3
  | .callK f es ks nm perm, e, X, T, S, W, ok, b, h => by
    simp only [chkE] at h
    cases q : vCallK e with
    | none => rw [q] at h; cases h
    | some z =>
      obtain ⟨g, as, kws⟩ := z
      rw [q] at h
      obtain ⟨p, p2, rfl⟩ := vCallK_of q
      have h' : (decide (f = g) && glB S.sc f && nmOk f && kwAll kws && decide (kwNames kws = nm) && (match T.ps f with
        | some ps => permOk ps as.length nm perm
        | none => false) && as.all notStar && chkEs T.ps S es as && chkKs T.ps S ks kws) = true := h
      simp only [Bool.and_eq_true, decide_eq_true_eq] at h'
      obtain ⟨⟨⟨⟨⟨⟨⟨⟨h0, h1⟩, h2⟩, h3⟩, h4⟩, h5⟩, h6⟩, h7⟩, h8⟩ := h'
      subst h0
      cases q2 : T.ps f with
      | none => rw [q2] at h5; cases h5
      | some ps =>
        rw [q2] at h5
        refine sCallK ok h1 h2 q2 h6 h3 h4 h5 (fun z => ?_) (simEs es ok h7) (simKs ks ok h8)
        subst z
        cases es with
        | nil => rfl
        | cons _ _ => cases h7
        | star _ _ => cases h7
  | .lenset a, e, X, T, S, W, ok, b, h => by
    simp only [chkE] at h
    cases q : vCall e with
    | none => rw [q] at h; cases h
    | some z =>
      obtain ⟨g, as⟩ := z
      rw [q] at h
      obtain ⟨p, p2, rfl⟩ := vCall_of q
      match as, h with
      | [s], h =>
        have h : (match vCall s with
          | some (g2, [x]) => decide (g = ("len" : Str)) && decide (g2 = ("set" : Str)) && glB S.sc g && glB S.sc g2 && notStar x && chkE T.ps S a x
          | _ => false) = true := h
        cases q2 : vCall s with
        | none => rw [q2] at h; cases h
        | some z =>
          obtain ⟨g2, as2⟩ := z
          rw [q2] at h
          obtain ⟨p3, p4, rfl⟩ := vCall_of q2
          match as2, h with
          | [x], h =>
            have h' : (decide (g = ("len" : Str)) && decide (g2 = ("set" : Str)) && glB S.sc g && glB S.sc g2 && notStar x && chkE T.ps S a x) = true := h
            simp only [Bool.and_eq_true, decide_eq_true_eq] at h'
            obtain ⟨⟨⟨⟨⟨h0, h1⟩, h2⟩, h3⟩, h4⟩, h5⟩ := h'
            subst h0 h1
            exact sLenset ok h2 h3 h4 (simE a ok true h5)
  | .sortset a, e, X, T, S, W, ok, b, h => by
    simp only [chkE] at h
    cases q : vCall e with
    | none => rw [q] at h; cases h
    | some z =>
      obtain ⟨g, as⟩ := z
      rw [q] at h
      obtain ⟨p, p2, rfl⟩ := vCall_of q
      match as, h with
      | [s], h =>
        have h : (match vCall s with
          | some (g2, [x]) => decide (g = ("sorted" : Str)) && decide (g2 = ("set" : Str)) && glB S.sc g && glB S.sc g2 && notStar x && chkE T.ps S a x
          | _ => false) = true := h
        cases q2 : vCall s with
        | none => rw [q2] at h; cases h
        | some z =>
          obtain ⟨g2, as2⟩ := z
          rw [q2] at h
          obtain ⟨p3, p4, rfl⟩ := vCall_of q2
          match as2, h with
          | [x], h =>
            have h' : (decide (g = ("sorted" : Str)) && decide (g2 = ("set" : Str)) && glB S.sc g && glB S.sc g2 && notStar x && chkE T.ps S a x) = true := h
            simp only [Bool.and_eq_true, decide_eq_true_eq] at h'
            obtain ⟨⟨⟨⟨⟨h0, h1⟩, h2⟩, h3⟩, h4⟩, h5⟩ := h'
            subst h0 h1
            exact sSortset ok h2 h3 h4 (simE a ok true h5)
  | .lzip3 a c d, e, X, T, S, W, ok, b, h => by
    simp only [chkE] at h
    cases q : vCall e with
    | none => rw [q] at h; cases h
    | some z =>
      obtain ⟨g, as⟩ := z
      rw [q] at h
      obtain ⟨p, p2, rfl⟩ := vCall_of q
      match as, h with
      | [s], h =>
        have h : (match vCall s with
          | some (g2, [x, y, z]) => decide (g = ("list" : Str)) && decide (g2 = ("zip" : Str)) && glB S.sc g && glB S.sc g2 && notStar x && notStar y && notStar z && chkE T.ps S a x && chkE T.ps S c y && chkE T.ps S d z
          | _ => false) = true := h
        cases q2 : vCall s with
        | none => rw [q2] at h; cases h
        | some z =>
          obtain ⟨g2, as2⟩ := z
          rw [q2] at h
          obtain ⟨p3, p4, rfl⟩ := vCall_of q2
          match as2, h with
          | [x, y, z], h =>
            have h' : (decide (g = ("list" : Str)) && decide (g2 = ("zip" : Str)) && glB S.sc g && glB S.sc g2 && notStar x && notStar y && notStar z && chkE T.ps S a x && chkE T.ps S c y && chkE T.ps S d z) = true := h
            simp only [Bool.and_eq_true, decide_eq_true_eq] at h'
            obtain ⟨⟨⟨⟨⟨⟨⟨⟨⟨h0, h1⟩, h2⟩, h3⟩, n1⟩, n2⟩, n3⟩, h4⟩, h5⟩, h6⟩ := h'
            subst h0 h1
            exact sLzip3 ok h2 h3 n1 n2 n3 (simE a ok true h4) (simE c ok true h5) (simE d ok true h6)
  | .dget o k d, e, X, T, S, W, ok, b, h => by cases h
theorem simDs : ∀ (es : Es) (l : List Str) {pos : Pos} {keys : List (Option Expr)} {values : List Expr} {X : Cx} {T : Tab} {S : NS} {W : WX}, XOk X T S W → values.all notStar = true → keysAre l keys = true → values.length = l.length → chkEs T.ps S es values = true → PPs X pos keys values (trs T W X.K l es)
  | .nil, [], pos, keys, values, X, T, S, W, ok, hs, hk, hl, h => by
    have e1 : keys = [] := by simpa [keysAre] using hk
    have e2 : values = [] := List.length_eq_zero_iff.mp hl
    subst e1 e2
    exact pps_nil
  | .nil, k :: l, pos, keys, values, X, T, S, W, ok, hs, hk, hl, h => by
    cases values with
    | nil => cases hl
    | cons _ _ => cases h
  | .cons e r, [], pos, keys, values, X, T, S, W, ok, hs, hk, hl, h => by
    have e2 : values = [] := List.length_eq_zero_iff.mp hl
    subst e2
    cases h
  | .cons e r, k :: l, pos, [], values, X, T, S, W, ok, hs, hk, hl, h => by cases hk
  | .cons e r, k :: l, pos, none :: keys, values, X, T, S, W, ok, hs, hk, hl, h => by cases hk
  | .cons e r, k :: l, pos, some ke :: keys, [], X, T, S, W, ok, hs, hk, hl, h => by cases hl
  | .cons e r, k :: l, pos, some ke :: keys, v :: values, X, T, S, W, ok, hs, hk, hl, h => by
    have hk : (cStr k (vConst ke) && keysAre l keys) = true := hk
    simp only [chkEs, Bool.and_eq_true] at h
    simp only [List.all_cons, Bool.and_eq_true] at hs hk
    obtain ⟨j, p3, rfl⟩ := vConst_of (cStr_of hk.1)
    exact pps_cons pe_str (simE e ok false h.1.2) (simDs r l ok hs.2 hk.2 (by simpa using hl) h.2)
  | .star e r, l, pos, keys, values, X, T, S, W, ok, hs, hk, hl, h => by
    cases values with
    | nil => cases h
    | cons x xs =>
      cases x <;> first | cases h | (simp [notStar] at hs)
theorem simKs : ∀ (es : Es) {l : List Keyword} {X : Cx} {T : Tab} {S : NS} {W : WX}, XOk X T S W → chkKs T.ps S es l = true → PK X l (tPs T W X.K es)
  | .nil, l, X, T, S, W, ok, h => by
    cases l with
    | nil => exact sKsNil
    | cons _ _ => cases h
  | .cons e r, l, X, T, S, W, ok, h => by
    cases l with
    | nil => cases h
    | cons x xs =>
      simp only [chkKs, Bool.and_eq_true] at h
      exact sKsCons (simE e ok false h.1) (simKs r ok h.2)
  | .star e r, l, X, T, S, W, ok, h => by cases h
theorem simEs : ∀ (es : Es) {l : List Expr} {X : Cx} {T : Tab} {S : NS} {W : WX}, XOk X T S W → chkEs T.ps S es l = true → PA X l (tPs T W X.K es)
  | .nil, l, X, T, S, W, ok, h => by
    cases l with
    | nil => exact sPsNil
    | cons _ _ => cases h
  | .cons e r, l, X, T, S, W, ok, h => by
    cases l with
    | nil => cases h
    | cons x xs =>
      simp only [chkEs, Bool.and_eq_true] at h
      exact sPsCons h.1.1 (simE e ok false h.1.2) (simEs r ok h.2)
  | .star e r, l, X, T, S, W, ok, h => by
    cases l with
    | nil => cases h
    | cons x xs =>
      cases x with
      | Starred x p =>
        simp only [chkEs, Bool.and_eq_true] at h
        exact sPsStar (simE e ok true h.1) (simEs r ok h.2)
      | _ => cases h
theorem simBs : ∀ (es : Es) {l : List Expr} {X : Cx} {T : Tab} {S : NS} {W : WX}, XOk X T S W → l.all notStar = true → chkEs T.ps S es l = true → PA X l (tBs T W X.K es)
  | .nil, l, X, T, S, W, ok, hs, h => by
    cases l with
    | nil => exact sBsNil
    | cons _ _ => cases h
  | .cons e r, l, X, T, S, W, ok, hs, h => by
    cases l with
    | nil => cases h
    | cons x xs =>
      simp only [chkEs, Bool.and_eq_true] at h
      exact sBsCons h.1.1 (simE e ok true h.1.2) (simBs r ok (all_cons hs).2 h.2)
  | .star e r, l, X, T, S, W, ok, hs, h => by
    cases l with
    | nil => cases h
    | cons x xs =>
      cases x with
      | Starred x p => cases (all_cons hs).1
      | _ => cases h
theorem simI : ∀ (it : I) {tg e : Expr} {X : Cx} {T : Tab} {S : NS} {W : WX}, XOk X T S W → ∀ b : Bool, chkI T.ps S tg it e = true → PI X tg e (tI T W X.K b it)
  | .seq a, tg, e, X, T, S, W, ok, b, h => sISeq (simE a ok b h)
  | .rng1 a, tg, e, X, T, S, W, ok, b, h => by
    simp only [chkI] at h
    cases q : vCall e with
    | none => rw [q] at h; cases h
    | some z =>
      obtain ⟨g, as⟩ := z
      rw [q] at h
      obtain ⟨p, p2, rfl⟩ := vCall_of q
      match as, h with
      | [x], h =>
        simp only [Bool.and_eq_true, decide_eq_true_eq] at h
        obtain ⟨⟨⟨h0, h1⟩, h2⟩, h3⟩ := h
        subst h0
        exact sIRng1 ok h1 h3 (simE a ok true h2)
  | .rng2 a c, tg, e, X, T, S, W, ok, b, h => by
    simp only [chkI] at h
    cases q : vCall e with
    | none => rw [q] at h; cases h
    | some z =>
      obtain ⟨g, as⟩ := z
      rw [q] at h
      obtain ⟨p, p2, rfl⟩ := vCall_of q
      match as, h with
      | [x, y], h =>
        simp only [Bool.and_eq_true, decide_eq_true_eq] at h
        obtain ⟨⟨⟨⟨⟨h0, h1⟩, h2⟩, h3⟩, h4⟩, h5⟩ := h
        subst h0
        exact sIRng2 ok h1 h3 h5 (simE a ok true h2) (simE c ok true h4)
  | .enum a, tg, e, X, T, S, W, ok, b, h => by
    simp only [chkI] at h
    cases q : vCall e with
    | none => rw [q] at h; cases h
    | some z =>
      obtain ⟨g, as⟩ := z
      rw [q] at h
      obtain ⟨p, p2, rfl⟩ := vCall_of q
      match as, h with
      | [x], h =>
        simp only [Bool.and_eq_true, decide_eq_true_eq] at h
        obtain ⟨⟨⟨⟨h0, h1⟩, h2⟩, h3⟩, h4⟩ := h
        subst h0
        cases tg with
        | Tuple es k tp => exact sIEnum ok h1 h3 (simE a ok b h2)
        | _ => cases h4
  | .zip2 a c, tg, e, X, T, S, W, ok, b, h => by
    simp only [chkI] at h
    cases q : vCall e with
    | none => rw [q] at h; cases h
    | some z =>
      obtain ⟨g, as⟩ := z
      rw [q] at h
      obtain ⟨p, p2, rfl⟩ := vCall_of q
      match as, h with
      | [x, y], h =>
        simp only [Bool.and_eq_true, decide_eq_true_eq] at h
        obtain ⟨⟨⟨⟨⟨⟨h0, h1⟩, h2⟩, h3⟩, h4⟩, h5⟩, h6⟩ := h
        subst h0
        cases tg with
        | Tuple es k tp => exact sIZip ok h1 h3 h5 (simE a ok b h2) (simE c ok b h4)
        | _ => cases h6
  | .items a, tg, e, X, T, S, W, ok, b, h => by cases h
  | .vals a, tg, e, X, T, S, W, ok, b, h => by cases h
theorem simC : ∀ (c : C) {l : List Expr} {X : Cx} {T : Tab} {S : NS} {W : WX}, XOk X T S W → chkC T.ps S c l = true → PTs X l (tT' T W X.K c)
  | .no, l, X, T, S, W, ok, h => by
    cases l with
    | nil => exact PTs.conv pts_nil fun σ H Q ⟨g, ls, d, G, L, h⟩ => (show Post X.K H g RelK (M.pure true d) Q _ from h).pure G rfl
    | cons _ _ => cases h
  | .yes a, l, X, T, S, W, ok, h => by
    match l, h with
    | [x], h =>
      simp only [chkC, Bool.and_eq_true] at h
      exact pts_one (simT a ok h.2 h.1).1
theorem simP : ∀ (c : C) {o : Option Expr} {X : Cx} {T : Tab} {S : NS} {W : WX}, XOk X T S W → chkP T.ps S c o = true → PO X o (tPt T W X.K c)
  | .no, o, X, T, S, W, ok, h => by
    cases o with
    | none => exact sPNo
    | some _ => cases h
  | .yes a, o, X, T, S, W, ok, h => by
    cases o with
    | none => cases h
    | some x => exact sPYes (simE a ok true h)
theorem simT : ∀ (a : E) {e : Expr} {X : Cx} {T : Tab} {S : NS} {W : WX}, XOk X T S W → tOkE a = true → chkE T.ps S a e = true → PT X e (tT T W X.K a) ∧ ((∃ op rs p, e = .BoolOp op rs p) → PW X e (tT T W X.K a))
  | .var i, e, X, T, S, W, ok, ht, h => by
    have pe := simE (.var i) ok true h
    simp only [chkE] at h
    cases q : vName e with
    | none => rw [q] at h; cases h
    | some x =>
      obtain ⟨p, rfl⟩ := vName_of q
      exact ⟨stT (fun _ => rfl) pe, fun ⟨_, _, _, z⟩ => nomatch z⟩
  | .call f es, e, X, T, S, W, ok, ht, h => by
    have pe := simE (.call f es) ok true h
    simp only [chkE] at h
    cases q : vCall e with
    | none => rw [q] at h; cases h
    | some z =>
      obtain ⟨g, as⟩ := z
      obtain ⟨p, p2, rfl⟩ := vCall_of q
      exact ⟨stT (fun _ => rfl) pe, fun ⟨_, _, _, z⟩ => nomatch z⟩
  | .bi f es, e, X, T, S, W, ok, ht, h => by
    have pe := simE (.bi f es) ok true h
    simp only [chkE] at h
    cases q : vCall e with
    | none => rw [q] at h; cases h
    | some z =>
      obtain ⟨g, as⟩ := z
      obtain ⟨p, p2, rfl⟩ := vCall_of q
      exact ⟨stT (fun _ => rfl) pe, fun ⟨_, _, _, z⟩ => nomatch z⟩
  | .isin a tys, e, X, T, S, W, ok, ht, h => by
    have pe := simE (.isin a tys) ok true h
    simp only [chkE] at h
    cases q : vCall e with
    | none => rw [q] at h; cases h
    | some z =>
      obtain ⟨g, as⟩ := z
      obtain ⟨p, p2, rfl⟩ := vCall_of q
      exact ⟨stT (fun _ => rfl) pe, fun ⟨_, _, _, z⟩ => nomatch z⟩
  | .sub a i, e, X, T, S, W, ok, ht, h => by
    have pe := simE (.sub a i) ok true h
    simp only [chkE] at h
    cases q : vSub e with
    | none => rw [q] at h; cases h
    | some z =>
      obtain ⟨g, as⟩ := z
      obtain ⟨p, rfl⟩ := vSub_of q
      exact ⟨stT (fun _ => rfl) pe, fun ⟨_, _, _, z⟩ => nomatch z⟩
  | .cmp op a c, e, X, T, S, W, ok, ht, h => by
    simp only [chkE] at h
    cases q : vCmp e with
    | none => rw [q] at h; cases h
    | some t =>
      obtain ⟨l, ops, rs⟩ := t
      rw [q] at h
      obtain ⟨p, rfl⟩ := vCmp_of q
      match ops, rs, h with
      | [op'], [r], h =>
        simp only [Bool.and_eq_true, decide_eq_true_eq, Bool.not_eq_true'] at h
        obtain ⟨⟨⟨h0, h1⟩, h2⟩, h3⟩ := h
        subst h0
        exact ⟨stCmp ok h3 (simE a ok true h1) (simE c ok true h2), fun ⟨_, _, _, z⟩ => nomatch z⟩
  | .chain op op2 a c d, e, X, T, S, W, ok, ht, h => by
    simp only [chkE] at h
    cases q : vCmp e with
    | none => rw [q] at h; cases h
    | some t =>
      obtain ⟨l, ops, rs⟩ := t
      rw [q] at h
      obtain ⟨p, rfl⟩ := vCmp_of q
      match ops, rs, h with
      | [op', op''], [r, r'], h =>
        simp only [Bool.and_eq_true, decide_eq_true_eq, Bool.not_eq_true'] at h
        obtain ⟨⟨⟨⟨⟨h0, h0'⟩, h1⟩, h2⟩, h3⟩, h4⟩ := h
        subst h0 h0'
        exact ⟨stChain ok h4 (simE a ok true h1) (simE c ok true h2) (simE d ok true h3), fun ⟨_, _, _, z⟩ => nomatch z⟩
  | .and a c, e, X, T, S, W, ok, ht, h => by
    simp only [tOkE, Bool.and_eq_true] at ht
    simp only [chkE] at h
    cases q : vBool e with
    | none => rw [q] at h; cases h
    | some t =>
      obtain ⟨op, ls, p⟩ := t
      rw [q] at h
      obtain rfl := vBool_of q
      match op, ls, h with
      | .And, [l, r], h =>
        simp only [Bool.and_eq_true] at h
        have := PW.conv (pw_and (pos := p) (simT a ok ht.1 h.1).1 (pw_and1 (pos := p) (simT c ok ht.2 h.2).1)) fun σ H Q h => stAndR h
        exact ⟨this.pt, fun _ => this⟩
      | .And, l :: r :: r' :: rs, h =>
        simp only [Bool.and_eq_true] at h
        have := PW.conv (pw_and (pos := p) (simT a ok ht.1 h.1).1 ((simT c ok ht.2 h.2).2 ⟨_, _, _, rfl⟩)) fun σ H Q h => stAndR h
        exact ⟨this.pt, fun _ => this⟩
  | .or a c, e, X, T, S, W, ok, ht, h => by
    simp only [tOkE, Bool.and_eq_true] at ht
    simp only [chkE] at h
    cases q : vBool e with
    | none => rw [q] at h; cases h
    | some t =>
      obtain ⟨op, ls, p⟩ := t
      rw [q] at h
      obtain rfl := vBool_of q
      match op, ls, h with
      | .Or, [l, r], h =>
        simp only [Bool.and_eq_true] at h
        have := PW.conv (pw_or (pos := p) (simT a ok ht.1 h.1).1 (pw_or1 (pos := p) (simT c ok ht.2 h.2).1)) fun σ H Q h => stOrR h
        exact ⟨this.pt, fun _ => this⟩
      | .Or, l :: r :: r' :: rs, h =>
        simp only [Bool.and_eq_true] at h
        have := PW.conv (pw_or (pos := p) (simT a ok ht.1 h.1).1 ((simT c ok ht.2 h.2).2 ⟨_, _, _, rfl⟩)) fun σ H Q h => stOrR h
        exact ⟨this.pt, fun _ => this⟩
  | .not a, e, X, T, S, W, ok, ht, h => by
    simp only [tOkE] at ht
    simp only [chkE] at h
    cases q : vUn e with
    | none => rw [q] at h; cases h
    | some t =>
      obtain ⟨op, x⟩ := t
      rw [q] at h
      obtain ⟨p, rfl⟩ := vUn_of q
      cases op with
      | Not => exact ⟨PT.conv (pt_not (simT a ok ht h).1) fun σ H Q h => stNotR h, fun ⟨_, _, _, z⟩ => nomatch z⟩
      | _ => cases h
  | .nev, e, X, T, S, W, ok, ht, h => by cases ht
  | .dr _ _, e, X, T, S, W, ok, ht, h => by cases ht
  | .drge o, e, X, T, S, W, ok, ht, h => by
    simp only [chkE] at h
    cases q : vCmp e with
    | none => rw [q] at h; cases h
    | some t =>
      obtain ⟨l, ops, rs⟩ := t
      rw [q] at h
      obtain ⟨p, rfl⟩ := vCmp_of q
      match ops, rs, h with
      | [.NotEq], [r], h =>
        have h : (match vSub l with
          | some (v, s) => chkE T.ps S o v && cStr ("great" : Str) (vConst s) && isNil r
          | none => false) = true := h
        cases q2 : vSub l with
        | none => rw [q2] at h; cases h
        | some z =>
          obtain ⟨v, s⟩ := z
          rw [q2] at h
          obtain ⟨p2, rfl⟩ := vSub_of q2
          have h' : (chkE T.ps S o v && cStr ("great" : Str) (vConst s) && isNil r) = true := h
          rw [Bool.and_eq_true, Bool.and_eq_true] at h'
          obtain ⟨⟨h0, h1⟩, h2⟩ := h'
          obtain ⟨k, p3, rfl⟩ := vConst_of (cStr_of h1)
          obtain ⟨p4, rfl⟩ := isNil_of h2
          exact ⟨stDrge ok (simE o ok true h0), fun ⟨_, _, _, z⟩ => nomatch z⟩
  | .non, e, X, T, S, W, ok, ht, h => by cases ht
  | .bl _, e, X, T, S, W, ok, ht, h => by cases ht
  | .int _, e, X, T, S, W, ok, ht, h => by cases ht
  | .str _, e, X, T, S, W, ok, ht, h => by cases ht
  | .glob _, e, X, T, S, W, ok, ht, h => by cases ht
  | .tup _, e, X, T, S, W, ok, ht, h => by cases ht
  | .lst _, e, X, T, S, W, ok, ht, h => by cases ht
  | .dct _ _ _, e, X, T, S, W, ok, ht, h => by cases ht
  | .bin _ _ _, e, X, T, S, W, ok, ht, h => by cases ht
  | .neg _, e, X, T, S, W, ok, ht, h => by cases ht
  | .ite _ _ _, e, X, T, S, W, ok, ht, h => by cases ht
  | .slc _ _ _, e, X, T, S, W, ok, ht, h => by cases ht
  | .rev _, e, X, T, S, W, ok, ht, h => by cases ht
  | .callK _ _ _ _ _, e, X, T, S, W, ok, ht, h => by cases ht
  | .lenset _, e, X, T, S, W, ok, ht, h => by cases ht
  | .sortset _, e, X, T, S, W, ok, ht, h => by cases ht
  | .lzip3 _ _ _, e, X, T, S, W, ok, ht, h => by cases ht
  | .dget _ _ _, e, X, T, S, W, ok, ht, h => by cases ht
  | .join _ _, e, X, T, S, W, ok, ht, h => by cases ht
  | .lc _ _ _ _ _, e, X, T, S, W, ok, ht, h => by cases ht
  | .lc2 _ _ _ _ _ _ _ _ _ _, e, X, T, S, W, ok, ht, h => by cases ht
end
end FW
namespace FW
open PySem PySem.Spec PyProof.Rows L2
/-- the state of a def that was entered at H0, g0 -/
structure SI (K : PySem.W.Frag) (H0 : Hp) (g0 : Gh) (H : Hp) (g : Gh) (d : DS) (ls : List Slot) (σ : L2.St) : Prop where
  ext : Ext H0 g0 H g
  gok : GOk K H g d
  rel : LRel K H g ls σ
  new : ∀ (i : Nat) p a, ls[i]? = some (some (true, p)) → σ[i]? = some (some (.ref a)) → H0 a = none
def PostS (K : PySem.W.Frag) (H0 : Hp) (g0 : Gh) (H : Hp) (g : Gh) (r : Res Fl) (D : Ends) (EX : L2.St → Hp → Gh → Exc → Prop) : Prop :=
  match r with
  | .bad => False
  | .ok (.nx ls') d' => ∀ σ' H' g', SI K H0 g0 H' g' d' ls' σ' → Mono H g H' g' → D.nx σ' H'
  | .ok (.rt v) d' => ∀ x H' g', Ext H0 g0 H' g' → GOk K H' g' d' → RelP K H' g' v x → D.rt x H'
  | .ok (.bk ls') d' => ∀ σ' H' g', SI K H0 g0 H' g' d' ls' σ' → Mono H g H' g' → D.bk σ' H'
  | .ok (.ct ls') d' => ∀ σ' H' g', SI K H0 g0 H' g' d' ls' σ' → Mono H g H' g' → D.ct σ' H'
  | .ex e d' => ∀ σ' H' g', Ext H0 g0 H' g' → GOk K H' g' d' → EX σ' H' g' e
def tS (T : Tab) (W : WX) (K : PySem.W.Frag) (m : List Slot → M Fl) : TS := fun D σ H => ∃ H0 g0 g ls d, SI K H0 g0 H g d ls σ ∧ PostS K H0 g0 H g (m ls d) D (exW T W)
section
variable {K : PySem.W.Frag} {H0 H H' : Hp} {g0 g g' : Gh} {d d' : DS} {ls ls' : List Slot} {σ : L2.St} {D D' : Ends} {EX : L2.St → Hp → Gh → Exc → Prop}
theorem SI.step (h : SI K H0 g0 H g d ls σ) (e : Ext H g H' g') (G : GOk K H' g' d') : SI K H0 g0 H' g' d' ls σ := ⟨h.ext.trans e, G, h.rel.ext e, h.new⟩
theorem PostS.to {r : Res Fl} (h : PostS K H0 g0 H g r D EX) (m : Mono H g H' g') : PostS K H0 g0 H' g' r D EX := by
  cases r with
  | bad => exact h
  | ok f d =>
    cases f with
    | nx ls => exact fun σ' H2 g2 I m2 => h σ' H2 g2 I (m.trans m2)
    | rt v => exact h
    | bk ls => exact fun σ' H2 g2 I m2 => h σ' H2 g2 I (m.trans m2)
    | ct ls => exact fun σ' H2 g2 I m2 => h σ' H2 g2 I (m.trans m2)
  | ex e d => exact h
/-- behind an expression -/
theorem PostS.bind {α β : Type} {R : Hp → Gh → α → β → Prop} {m : M α} {k : α → M Fl} (I : SI K H0 g0 H g d ls σ) (h : PostS K H0 g0 H g ((m.bind k) d) D EX) :
    Post K H g R (m d) (fun x H1 => ∃ a g1 d1, Ext H g H1 g1 ∧ SI K H0 g0 H1 g1 d1 ls σ ∧ R H1 g1 a x ∧ PostS K H0 g0 H1 g1 (k a d1) D EX) (EX σ) := by
  unfold M.bind at h
  cases q : m d with
  | bad => rw [q] at h; exact h
  | ok a d' =>
    rw [q] at h
    exact fun H1 g1 x e G r => ⟨a, g1, d', e, I.step e G, r, h.to e.mono⟩
  | ex e d' => rw [q] at h; exact fun H' g' e' G => h σ H' g' (I.ext.trans e') G
/-- in Post's own terms: the start of what a new list is told against -/
theorem PostS.liftB {α' : Type} {o : Option α'} {k : α' → M Fl} (h : PostS K H0 g0 H g (((M.lift o).bind k) d) D EX) : ∃ v, o = some v ∧ PostS K H0 g0 H g (k v d) D EX := by
  cases o with
  | none => exact h.elim
  | some v => exact ⟨v, rfl, h⟩
theorem PostS.ite {c : Prop} [Decidable c] {m : M Fl} (h : PostS K H0 g0 H g ((if c then m else M.bad) d) D EX) : c ∧ PostS K H0 g0 H g (m d) D EX := by
  by_cases q : c
  · rw [if_pos q] at h; exact ⟨q, h⟩
  · rw [if_neg q] at h; exact h.elim
/-- the ends behind a statement, k going on -/
def DK (K : PySem.W.Frag) (H0 : Hp) (g0 : Gh) (H : Hp) (g : Gh) (k : Fl → M Fl) (D : Ends) (EX : L2.St → Hp → Gh → Exc → Prop) : Ends where
  nx := fun σ' H' => ∃ g' ls' d', SI K H0 g0 H' g' d' ls' σ' ∧ Mono H g H' g' ∧ PostS K H0 g0 H' g' (k (.nx ls') d') D EX
  rt := fun x H' => ∃ v g' d', Ext H0 g0 H' g' ∧ GOk K H' g' d' ∧ RelP K H' g' v x ∧ PostS K H0 g0 H' g' (k (.rt v) d') D EX
  bk := fun σ' H' => ∃ g' ls' d', SI K H0 g0 H' g' d' ls' σ' ∧ Mono H g H' g' ∧ PostS K H0 g0 H' g' (k (.bk ls') d') D EX
  ct := fun σ' H' => ∃ g' ls' d', SI K H0 g0 H' g' d' ls' σ' ∧ Mono H g H' g' ∧ PostS K H0 g0 H' g' (k (.ct ls') d') D EX
theorem PostS.seq {m : M Fl} {k : Fl → M Fl} (hrt : ∀ v, k (.rt v) = M.pure (.rt v)) (h : PostS K H0 g0 H g ((m.bind k) d) D EX) : PostS K H0 g0 H g (m d) (DK K H0 g0 H g k D EX) EX := by
  unfold M.bind at h
  cases q : m d with
  | bad => rw [q] at h; exact h
  | ok f d' =>
    rw [q] at h
    cases f with
    | nx ls => exact fun σ' H' g' I m => ⟨g', ls, d', I, m, PostS.to h m⟩
    | rt v =>
      have h : PostS K H0 g0 H g (k (.rt v) d') D EX := h
      rw [hrt] at h
      exact fun x H' g' e G r => ⟨v, g', d', e, G, r, by rw [hrt]; exact h⟩
    | bk ls => exact fun σ' H' g' I m => ⟨g', ls, d', I, m, PostS.to h m⟩
    | ct ls => exact fun σ' H' g' I m => ⟨g', ls, d', I, m, PostS.to h m⟩
  | ex e d' => rw [q] at h; exact h
theorem PostS.ends {r : Res Fl} (h : PostS K H0 g0 H g r D EX) (nx : ∀ σ H, D.nx σ H → D'.nx σ H) (rt : ∀ x H, D.rt x H → D'.rt x H) (bk : ∀ σ H, D.bk σ H → D'.bk σ H) (ct : ∀ σ H, D.ct σ H → D'.ct σ H) : PostS K H0 g0 H g r D' EX := by
  cases r with
  | bad => exact h
  | ok f d =>
    cases f with
    | nx ls => exact fun σ' H2 g2 I m2 => nx _ _ (h σ' H2 g2 I m2)
    | rt v => exact fun x H2 g2 e G r => rt _ _ (h x H2 g2 e G r)
    | bk ls => exact fun σ' H2 g2 I m2 => bk _ _ (h σ' H2 g2 I m2)
    | ct ls => exact fun σ' H2 g2 I m2 => ct _ _ (h σ' H2 g2 I m2)
  | ex e d => exact h
theorem PostS.nx (I : SI K H0 g0 H g d ls σ) (h : PostS K H0 g0 H g (M.pure (.nx ls) d) D EX) : D.nx σ H := h σ H g I Mono.refl
/-! ### given away -/
def Frz (ls ls' : List Slot) : Prop := ls'.length = ls.length ∧ ∀ i : Nat, ls'[i]? = ls[i]? ∨ ls'[i]? = (ls[i]?).map frz1
theorem frz1_1 (s : Slot) : frz1 (frz1 s) = frz1 s := by
  cases s with
  | none => rfl
  | some p => rfl
theorem Frz.refl (ls : List Slot) : Frz ls ls := ⟨rfl, fun _ => .inl rfl⟩
theorem Frz.trans {a b c : List Slot} (h : Frz a b) (h' : Frz b c) : Frz a c := by
  refine ⟨h'.1.trans h.1, fun i => ?_⟩
  rcases h'.2 i with e | e
  · rw [e]; exact h.2 i
  · rw [e]
    rcases h.2 i with e2 | e2
    · rw [e2]; exact .inr rfl
    · rw [e2, Option.map_map]
      refine .inr ?_
      congr 1
      funext s; exact frz1_1 s
theorem Frz.modify (ls : List Slot) (i : Nat) : Frz ls (ls.modify i frz1) := by
  refine ⟨List.length_modify .., fun j => ?_⟩
  rw [List.getElem?_modify]
  by_cases e : i = j
  · right; cases ls[j]? <;> simp [e]
  · left; cases ls[j]? <;> simp [e]
theorem Frz.at' : ∀ (is : List Nat) (ls : List Slot), Frz ls (frzAt ls is)
  | [], ls => Frz.refl ls
  | i :: is, ls => (Frz.modify ls i).trans (Frz.at' is (ls.modify i frz1))
theorem Frz.all (ls : List Slot) : Frz ls (ls.map frz1) := ⟨List.length_map .., fun i => by right; rw [List.getElem?_map]⟩
theorem RelO'.pub {H : Hp} {g : Gh} {a : Addr} {p : PV} (m : Mono H g H g') (f : g'.fz a) (h : RelO' K H g a p) : RelP K H g' p (.ref a) := by
  cases p with
  | lst xs => obtain ⟨h1, h2, vs, h3, h4⟩ := h; exact ⟨a, vs, rfl, f, h3, RelPs.mono m h4⟩
  | dct t ks vs => obtain ⟨h1, h2, ws, h3, h4⟩ := h; exact ⟨a, ws, rfl, f, h3, RelPs.mono m h4⟩
  | _ => exact h.elim
theorem RelO'.ghost {H : Hp} {g : Gh} {a : Addr} {p : PV} (m : Mono H g H g') (f : ¬ g'.fz a) (hd : g'.dr = g.dr) (h : RelO' K H g a p) : RelO' K H g' a p := by
  have hD : g'.isD a ↔ g.isD a := by unfold Gh.isD; rw [hd]
  cases p with
  | lst xs => obtain ⟨h1, h2, vs, h3, h4⟩ := h; exact ⟨f, fun z => h2 (hD.mp z), vs, h3, RelPs.mono m h4⟩
  | dct t ks vs => obtain ⟨h1, h2, ws, h3, h4⟩ := h; exact ⟨f, fun z => h2 (hD.mp z), ws, h3, RelPs.mono m h4⟩
  | _ => exact h.elim
theorem RelO'.nD {H : Hp} {g : Gh} {a : Addr} {p : PV} (h : RelO' K H g a p) : ¬ g.isD a ∧ ¬ g.fz a := by
  cases p with
  | lst xs => exact ⟨h.2.1, h.1⟩
  | dct t ks vs => exact ⟨h.2.1, h.1⟩
  | _ => exact h.elim
theorem SI.frz (I : SI K H0 g0 H g d ls σ) (f : Frz ls ls') : ∃ g', SI K H0 g0 H g' d ls' σ ∧ Mono H g H g' := by
  let F : Addr → Prop := fun a => ∃ (i : Nat) (p : PV), ls[i]? = some (some (true, p)) ∧ ls'[i]? = some (some (false, p)) ∧ σ[i]? = some (some (.ref a))
  have fo : ∀ a, F a → H a ≠ none ∧ ¬ g.isD a ∧ H0 a = none := fun a ⟨i, p, h1, h2, h3⟩ => by
    obtain ⟨b, q1, q2⟩ := I.rel.own i p h1
    rw [h3] at q1; cases q1
    exact ⟨q2.there, q2.nD.1, I.new i p a h1 h3⟩
  let g' : Gh := { g with fz := fun a => g.fz a ∨ F a }
  have m : Mono H g H g' := ⟨fun _ _ h => h, fun _ _ _ h => h, fun _ h => ⟨.inl h, rfl⟩, fun _ h => h⟩
  refine ⟨g', ⟨⟨I.ext.keep, I.ext.tups, I.ext.frzs, I.ext.there, fun a h => ⟨.inl (I.ext.fz a h).1, (I.ext.fz a h).2⟩, fun a h => ?_, I.ext.dr, I.ext.drn⟩, ⟨fun a h => ?_, fun a h => ?_, fun E h => .inl (I.gok.ceF E h), I.gok.dr⟩, ⟨f.1.trans I.rel.len, fun i p h => ?_, fun i p h => ?_, fun i j p q a h1 h2 => ?_⟩, fun i p a h => ?_⟩, m⟩
  · rcases h with h | h
    · exact I.ext.new a h
    · exact .inr (fo a h).2.2
  · rcases h with h | h
    · exact I.gok.fzD a h
    · exact (fo a h).2.1
  · rcases h with h | h
    · exact I.gok.fzT a h
    · exact (fo a h).1
  · rcases f.2 i with e | e
    · rw [e] at h
      obtain ⟨x, q1, q2⟩ := I.rel.val i p h
      exact ⟨x, q1, RelP.mono m q2⟩
    · have h' := h
      rw [e] at h'
      obtain ⟨s, h1, h2⟩ := Option.map_eq_some_iff.mp h'
      cases s with
      | none => cases h2
      | some s =>
        obtain ⟨b, q⟩ := s
        cases h2
        cases b with
        | false =>
          obtain ⟨x, q1, q2⟩ := I.rel.val i p h1
          exact ⟨x, q1, RelP.mono m q2⟩
        | true =>
          obtain ⟨a, q1, q2⟩ := I.rel.own i p h1
          exact ⟨.ref a, q1, q2.pub m (.inr ⟨i, p, h1, h, q1⟩)⟩
  · have h1 : ls[i]? = some (some (true, p)) := by
      rcases f.2 i with e | e
      · rw [← e]; exact h
      · rw [e] at h
        obtain ⟨s, h1, h2⟩ := Option.map_eq_some_iff.mp h
        cases s with
        | none => cases h2
        | some s => cases h2
    obtain ⟨a, q1, q2⟩ := I.rel.own i p h1
    refine ⟨a, q1, q2.ghost m (fun z => ?_) rfl⟩
    rcases z with z | ⟨j, q, z1, z2, z3⟩
    · exact q2.nD.2 z
    · obtain rfl := I.rel.dis i j p q a h1 z1 q1 z3
      rw [h] at z2; cases z2
  · have hh : ∀ {i : Nat} {p}, ls'[i]? = some (some (true, p)) → ls[i]? = some (some (true, p)) := fun {i p} h => by
      rcases f.2 i with e | e
      · rw [← e]; exact h
      · rw [e] at h
        obtain ⟨s, h1, h2⟩ := Option.map_eq_some_iff.mp h
        cases s with
        | none => cases h2
        | some s => cases h2
    exact I.rel.dis i j p q a (hh h1) (hh h2)
  · have h1 : ls[i]? = some (some (true, p)) := by
      rcases f.2 i with e | e
      · rw [← e]; exact h
      · rw [e] at h
        obtain ⟨s, h1, h2⟩ := Option.map_eq_some_iff.mp h
        cases s with
        | none => cases h2
        | some s => cases h2
    exact I.new i p a h1
/-- a slot's value told anew -/
theorem SI.set (I : SI K H0 g0 H g d ls σ) (i : Nat) {p : PV} {x : V} (r : RelP K H g p x) : SI K H0 g0 H g d (ls.set i (some (false, p))) (σ.set i (some x)) := by
  refine ⟨I.ext, I.gok, I.rel.set i r, fun j q a h h' => ?_⟩
  by_cases e : i = j
  · subst e
    by_cases hi : i < ls.length
    · rw [List.getElem?_set_self hi] at h; cases h
    · rw [List.getElem?_eq_none (by rw [List.length_set]; omega)] at h; cases h
  · rw [List.getElem?_set_ne e] at h h'
    exact I.new j q a h h'
/-- a slot gets a thing of its own -/
theorem SI.setO (I : SI K H0 g0 H g d ls σ) (i : Nat) {p : PV} {a : Addr} (r : RelO' K H g a p) (h0 : H0 a = none) (ne : ∀ (j : Nat) q, j ≠ i → ls[j]? = some (some (true, q)) → σ[j]? ≠ some (some (.ref a))) :
    SI K H0 g0 H g d (ls.set i (some (true, p))) (σ.set i (some (.ref a))) := by
  have L := I.rel
  have lt : ∀ {s : Slot}, (ls.set i s)[i]? ≠ none → i < ls.length := fun {s} h => by
    by_cases hi : i < ls.length
    · exact hi
    · exact absurd (List.getElem?_eq_none (by rw [List.length_set]; omega)) h
  refine ⟨I.ext, I.gok, ⟨by rw [List.length_set, List.length_set, L.len], fun j q h => ?_, fun j q h => ?_, fun j k q q2 b h1 h2 h3 h4 => ?_⟩, fun j q b h h' => ?_⟩
  · by_cases e : i = j
    · subst e
      have hi := lt (by rw [h]; simp)
      rw [List.getElem?_set_self hi] at h; cases h
    · rw [List.getElem?_set_ne e] at h
      obtain ⟨y, h1, h2⟩ := L.val j q h
      exact ⟨y, by rw [List.getElem?_set_ne e]; exact h1, h2⟩
  · by_cases e : i = j
    · subst e
      have hi := lt (by rw [h]; simp)
      rw [List.getElem?_set_self hi] at h; cases h
      exact ⟨a, by rw [List.getElem?_set_self (by rw [← L.len]; exact hi)], r⟩
    · rw [List.getElem?_set_ne e] at h
      obtain ⟨y, h1, h2⟩ := L.own j q h
      exact ⟨y, by rw [List.getElem?_set_ne e]; exact h1, h2⟩
  · by_cases e : i = j
    · by_cases e' : i = k
      · exact e.symm.trans e'
      · subst e
        have hi := lt (by rw [h1]; simp)
        rw [List.getElem?_set_self (by rw [← L.len]; exact hi)] at h3
        cases h3
        rw [List.getElem?_set_ne e'] at h2 h4
        exact absurd h4 (ne k q2 (Ne.symm e') h2)
    · by_cases e' : i = k
      · subst e'
        have hi := lt (by rw [h2]; simp)
        rw [List.getElem?_set_self (by rw [← L.len]; exact hi)] at h4
        cases h4
        rw [List.getElem?_set_ne e] at h1 h3
        exact absurd h3 (ne j q (Ne.symm e) h1)
      · rw [List.getElem?_set_ne e] at h1 h3
        rw [List.getElem?_set_ne e'] at h2 h4
        exact L.dis j k q q2 b h1 h2 h3 h4
  · by_cases e : i = j
    · subst e
      have hi := lt (by rw [h]; simp)
      rw [List.getElem?_set_self (by rw [← L.len]; exact hi)] at h'
      cases h'
      exact h0
    · rw [List.getElem?_set_ne e] at h h'
      exact I.new j q b h h'
/-- the thing that slot i owns is changed in place -/
theorem SI.upd (I : SI K H0 g0 H g d ls σ) {i : Nat} {p p' : PV} {a : Addr} {o : HO} (hi : ls[i]? = some (some (true, p))) (ha : σ[i]? = some (some (.ref a))) (hl : ∃ vs, H a = some (.lst vs)) (r : Mono H g (upd H a o) g → RelO' K (upd H a o) g a p') :
    SI K H0 g0 (upd H a o) g d (ls.set i (some (true, p'))) σ ∧ Mono H g (upd H a o) g := by
  obtain ⟨a', q1, q2⟩ := I.rel.own i p hi
  rw [ha] at q1; cases q1
  obtain ⟨nD, nF⟩ := q2.nD
  obtain ⟨vs, hl⟩ := hl
  have m : Mono H g (L2.upd H a o) g := Mono.upd hl (fun _ z => by cases z) (fun _ _ z => by cases z) nF
  have h0 := I.new i p a hi ha
  have hlen : i < ls.length := by
    by_cases h : i < ls.length
    · exact h
    · rw [List.getElem?_eq_none (by omega)] at hi; cases hi
  have J : SI K H0 g0 (L2.upd H a o) g d (ls.set i none) σ := by
    refine ⟨I.ext.upd h0 nF, I.gok.upd nF nD, ⟨by rw [List.length_set]; exact I.rel.len, fun j q h => ?_, fun j q h => ?_, fun j k q q2 b h1 h2 h3 h4 => ?_⟩, fun j q b h h' => ?_⟩
    · by_cases e : i = j
      · subst e; rw [List.getElem?_set_self hlen] at h; cases h
      · rw [List.getElem?_set_ne e] at h
        obtain ⟨y, h1, h2⟩ := I.rel.val j q h
        exact ⟨y, h1, RelP.mono m h2⟩
    · by_cases e : i = j
      · subst e; rw [List.getElem?_set_self hlen] at h; cases h
      · rw [List.getElem?_set_ne e] at h
        obtain ⟨y, h1, h2⟩ := I.rel.own j q h
        exact ⟨y, h1, RelO'.upd m (fun z => by subst z; exact e (I.rel.dis i j p q y hi h ha h1)) h2⟩
    · by_cases e : i = j
      · subst e; rw [List.getElem?_set_self hlen] at h1; cases h1
      · by_cases e' : i = k
        · subst e'; rw [List.getElem?_set_self hlen] at h2; cases h2
        · rw [List.getElem?_set_ne e] at h1
          rw [List.getElem?_set_ne e'] at h2
          exact I.rel.dis j k q q2 b h1 h2 h3 h4
    · by_cases e : i = j
      · subst e; rw [List.getElem?_set_self hlen] at h; cases h
      · rw [List.getElem?_set_ne e] at h
        exact I.new j q b h h'
  have z := J.setO i (r m) h0 fun j q hj h h' => by
    rw [List.getElem?_set_ne (Ne.symm hj)] at h
    exact hj (I.rel.dis j i q p a h hi h' ha)
  rw [List.set_set] at z
  have e : σ.set i (some (.ref a)) = σ := by
    apply List.ext_getElem?
    intro j
    by_cases e : i = j
    · subst e; rw [List.getElem?_set_self (by rw [← I.rel.len]; exact hlen)]; exact ha.symm
    · rw [List.getElem?_set_ne e]
  rw [e] at z
  exact ⟨z, m⟩
end
end FW
namespace FW
open PySem PySem.Spec PyProof.Rows L2
/-! ### what a statement is -/
def vAsg : Stmt → Option (Expr × Expr × Pos)
  | .Assign [t] v p => some (t, v, p)
  | _ => none
theorem vAsg_of {st : Stmt} {t v : Expr} {p : Pos} (h : vAsg st = some (t, v, p)) : st = .Assign [t] v p := by
  cases st with
  | Assign ts v' p' =>
    match ts, h with
    | [t'], h => cases h; rfl
  | _ => cases h
def vExS : Stmt → Option (Expr × Pos)
  | .Expr v p => some (v, p)
  | _ => none
theorem vExS_of {st : Stmt} {v : Expr} {p : Pos} (h : vExS st = some (v, p)) : st = .Expr v p := by cases st <;> first | (cases h; rfl) | cases h
def vRet : Stmt → Option (Option Expr)
  | .Return v _ => some v
  | _ => none
theorem vRet_of {st : Stmt} {v : Option Expr} (h : vRet st = some v) : ∃ p, st = .Return v p := by cases st <;> first | (cases h; exact ⟨_, rfl⟩) | cases h
def vIfS : Stmt → Option (Expr × List Stmt × List Stmt)
  | .If t a b _ => some (t, a, b)
  | _ => none
theorem vIfS_of {st : Stmt} {t : Expr} {a b : List Stmt} (h : vIfS st = some (t, a, b)) : ∃ p, st = .If t a b p := by cases st <;> first | (cases h; exact ⟨_, rfl⟩) | cases h
def vFor : Stmt → Option (Expr × Expr × List Stmt × List Stmt)
  | .For t i a b _ => some (t, i, a, b)
  | _ => none
theorem vFor_of {st : Stmt} {t i : Expr} {a b : List Stmt} (h : vFor st = some (t, i, a, b)) : ∃ p, st = .For t i a b p := by cases st <;> first | (cases h; exact ⟨_, rfl⟩) | cases h
def vWhl : Stmt → Option (Expr × List Stmt × List Stmt)
  | .While t a b _ => some (t, a, b)
  | _ => none
theorem vWhl_of {st : Stmt} {t : Expr} {a b : List Stmt} (h : vWhl st = some (t, a, b)) : ∃ p, st = .While t a b p := by cases st <;> first | (cases h; exact ⟨_, rfl⟩) | cases h
def vAug : Stmt → Option (Expr × Operator × Expr)
  | .AugAssign t op v _ => some (t, op, v)
  | _ => none
theorem vAug_of {st : Stmt} {t v : Expr} {op : Operator} (h : vAug st = some (t, op, v)) : ∃ p, st = .AugAssign t op v p := by cases st <;> first | (cases h; exact ⟨_, rfl⟩) | cases h
def isPass : Stmt → Bool
  | .Pass _ => true
  | _ => false
theorem isPass_of {st : Stmt} (h : isPass st = true) : ∃ p, st = .Pass p := by cases st <;> first | exact ⟨_, rfl⟩ | cases h
def isBrk : Stmt → Bool
  | .Break _ => true
  | _ => false
theorem isBrk_of {st : Stmt} (h : isBrk st = true) : ∃ p, st = .Break p := by cases st <;> first | exact ⟨_, rfl⟩ | cases h
def isCnt : Stmt → Bool
  | .Continue _ => true
  | _ => false
theorem isCnt_of {st : Stmt} (h : isCnt st = true) : ∃ p, st = .Continue p := by cases st <;> first | exact ⟨_, rfl⟩ | cases h
/-! ### the order of stores -/
def notComp : Expr → Bool
  | .ListComp _ _ _ _ => false
  | .SetComp _ _ _ _ => false
  | .DictComp _ _ _ _ _ => false
  | _ => true
theorem swOff {e : Expr} (h : notComp e = true) (t : Option Expr) (line : Nat) (env : Env) : swapsWith e t line env = pure false := by
  cases e <;> first | rfl | cases h
theorem swTup {es : List Expr} {k : Nat} {p : Pos} {e : Expr} (line : Nat) (env : Env) : swapsWith e (some (.Tuple es k p)) line env = pure false := by cases e <;> rfl
theorem swNone1 {x : Str} {p : Pos} {e : Expr} {env : Env} : swappedStores [.Name x p] e env = pure none := by cases e <;> rfl
theorem swNone2 {es : List Expr} {k : Nat} {p : Pos} {e : Expr} {env : Env} (h : isTpl e = false) : swappedStores [.Tuple es k p] e env = pure none := by cases e <;> first | rfl | cases h
def isStar : Expr → Bool
  | .Starred _ _ => true
  | _ => false
def bkOf (sc : Scope) : ScopeKind := if sc.kind.isAnnotationScope then .function else sc.kind
def swNames (sc : Scope) (ts : List Expr) : List Str := ts.filterMap fun
  | .Name id pos => if sc.names.lookup id == some .local && pos.line == (ts.head?.map (·.pos.line)).getD 0 then some id else none
  | _ => none
/-- which names are stored from the right; none: that is not covered -/
def swC (sc : Scope) (ts vs : List Expr) : Option (Option (List Str)) :=
  if !(ts.length == 2 || ts.length == 3) || vs.length != ts.length || bkOf sc != .function then some none else
  if vs.any isStar then some none else
  if (swNames sc ts).length != ts.length || (swNames sc ts).eraseDups.length != (swNames sc ts).length then some none else
  if vs.all (foldedForSure 8) then some none else
  if vs.all (constantsAlone 8) then none else some (some (swNames sc ts))
theorem swC_of {ts vs : List Expr} {k k2 : Nat} {p p2 : Pos} {env : Env} {r : Option (List Str)} (h : swC env.scope ts vs = some r) : swappedStores [.Tuple ts k p] (.Tuple vs k2 p2) env = pure r := by
  have e : swappedStores [.Tuple ts k p] (.Tuple vs k2 p2) env = (
      if !(ts.length == 2 || ts.length == 3) || vs.length != ts.length || bkOf env.scope != .function then pure none else
      if vs.any isStar then pure none else
      if (swNames env.scope ts).length != ts.length || (swNames env.scope ts).eraseDups.length != (swNames env.scope ts).length then pure none else
      if vs.all (foldedForSure 8) then pure none else
      if vs.all (constantsAlone 8) then (do let _ ← (unsupported "assign.tuple-of-constant-expressions:order-of-the-stores" : Sem Unit); pure (some (swNames env.scope ts))) else pure (some (swNames env.scope ts))) := rfl
  rw [e]
  unfold swC at h
  repeat' split at h
  all_goals first
    | (cases h; done)
    | (cases h; simp_all; done)
    | skip
  rename_i h1 h2 h3 h4 h5
  cases h
  rw [if_neg h1, if_neg h2, if_neg h3, if_neg h4, if_neg h5]
section
variable {X : Cx} {T : Tab} {S : NS} {W : WX} {e l r tg : Expr} {a c : E} {pos : Pos} {wf : Nat}
/-! ### stores -/
theorem setAll_own {v : PV} : ∀ (is : List Nat) (ps : List PV) {ls : List Slot} {i : Nat} {p : PV}, ps.length = is.length → is.all (· < ls.length) = true → ((is.zip ps).foldl (fun l p => l.set p.1 (some (false, p.2))) ls)[i]? = some (some (true, p)) → ls[i]? = some (some (true, p)) ∧ i ∉ is
  | [], _, ls, i, p, _, _, h => ⟨h, by simp⟩
  | j :: is, [], ls, i, p, hl, _, h => by simp at hl
  | j :: is, q :: ps, ls, i, p, hl, ha, h => by
    simp only [List.all_cons, Bool.and_eq_true, decide_eq_true_eq] at ha
    obtain ⟨h1, h2⟩ := setAll_own (v := v) is ps (ls := ls.set j (some (false, q))) (by simpa using hl) (by rw [List.length_set]; exact ha.2) h
    by_cases e : j = i
    · subst e
      rw [List.getElem?_set_self ha.1] at h1; cases h1
    · rw [List.getElem?_set_ne e] at h1
      exact ⟨h1, by simp only [List.mem_cons, not_or]; exact ⟨fun z => e z.symm, h2⟩⟩
theorem storeG_own {t : G} {v : PV} {ls ls' : List Slot} (h : storeG t v ls = some ls') {i : Nat} {p : PV} (q : ls'[i]? = some (some (true, p))) : ls[i]? = some (some (true, p)) ∧ i ∉ slotsG t := by
  cases t with
  | nm j =>
    have e1 : (if j < ls.length then some (ls.set j (some (false, v))) else none) = some ls' := h
    split at e1
    · rename_i hj
      cases e1
      by_cases e : j = i
      · subst e
        rw [List.getElem?_set_self hj] at q; cases q
      · rw [List.getElem?_set_ne e] at q
        exact ⟨q, by simp only [slotsG, List.mem_singleton]; exact fun z => e z.symm⟩
    · cases e1
  | tp is =>
    have e1 : (match seqOf v with
      | some xs => if xs.length = is.length ∧ is.all (· < ls.length) then some ((is.zip xs).foldl (fun l p => l.set p.1 (some (false, p.2))) ls) else none
      | none => none) = some ls' := h
    cases e2 : seqOf v with
    | none => rw [e2] at e1; cases e1
    | some xs =>
      rw [e2] at e1
      simp only at e1
      split at e1
      · rename_i hc
        cases e1
        exact setAll_own (v := v) is xs hc.1 hc.2 q
      · cases e1
theorem SI.store {K : PySem.W.Frag} {H0 H : Hp} {g0 g : Gh} {d : DS} {ls ls' : List Slot} {σ σ' : L2.St} {t : G} {v : PV} (I : SI K H0 g0 H g d ls σ) (h : storeG t v ls = some ls') (L : LRel K H g ls' σ') (hw : ∀ vs : List Nat, (∀ i ∈ slotsG t, i ∈ vs) → wipe σ' vs = wipe σ vs) : SI K H0 g0 H g d ls' σ' := by
  refine ⟨I.ext, I.gok, L, fun i p a q1 q2 => ?_⟩
  obtain ⟨q3, q4⟩ := storeG_own h q1
  have e : σ'[i]? = σ[i]? := by
    have := congrArg (fun (z : L2.St) => z[i]?) (hw (slotsG t) fun _ z => z)
    have this : (wipe σ' (slotsG t))[i]? = (wipe σ (slotsG t))[i]? := this
    rw [wipe_out q4, wipe_out q4] at this
    exact this
  exact I.new i p a q3 (by rw [← e]; exact q2)
theorem sSet {g : G} (ha : PE X e (tE T W X.K false (ev T.P false a))) (hg : PG X tg (tG X.K g)) (hs : swapsWithSole [tg] e pos.line X.env = pure false) (hw : swappedStores [tg] e X.env = pure none) (h1 : (assignEach [tg] X.env).map (·.2) = [assign tg X.env]) :
    PS X (.Assign [tg] e pos) (tS T W X.K (ex T.P wf (.set g a))) := by
  refine PS.conv (ps_asg ha hg hs hw h1) fun D σ H ⟨H0, g0, gh, ls, d, I, h⟩ => ?_
  obtain ⟨g', I', m⟩ := I.frz (Frz.at' (pubE false a) ls)
  refine ⟨g', _, d, I'.gok, I'.rel, (PostS.bind (R := RelX X.K false) I' (h.to m)).imp fun x H1 ⟨v, g1, d1, e1, I1, r1, h1⟩ => ?_⟩
  cases q : storeG g v (frzAt ls (pubE false a)) with
  | none => rw [q] at h1; exact h1.elim
  | some ls2 =>
    rw [q] at h1
    exact ⟨g1, _, ls2, v, d1, I1.gok, I1.rel, r1, q, fun σ' L' hw => PostS.nx (I1.store q L' hw) h1⟩
/-- name = [..] -/
theorem psName {i : Nat} {x : Str} {p : Pos} {te : TE} (ok : XOk X T S W) (h : chkG1 S i (.Name x p) = true) (hn : notComp e = true) (he : PE X e te) : PS X (.Assign [.Name x p] e pos) (tAsg te (gName i)) := by
  obtain ⟨y, p', q, h1, h2⟩ := chkG1_of h
  cases q
  obtain ⟨h3, h4⟩ := storeOk ok h2
  exact ps_set ok.nd' (by rw [ok.hN]; exact h1) h3 he (swOff hn _ _ _) h4
theorem psLc {i : Nat} {x : Str} {p lp : Pos} (ok : XOk X T S W) (h : chkG1 S i (.Name x p) = true) {g : G} {it : I} {cc : C} {own : List Nat} {a : E} {iter elt : Expr} {ifs : List Expr} {scope : Scope}
    (hi : PI X tg iter (tI T W X.K true it)) (hns : notSet iter = true) (hb : chkBlk S scope own = true)
    (hg : ∀ {X' : Cx}, XOk X' T (S.blk scope) W0 → PG X' tg (tG X'.K g)) (ht : ∀ {X' : Cx}, XOk X' T (S.blk scope) W0 → PTs X' ifs (tT' T W0 X'.K cc)) (he : ∀ {X' : Cx}, XOk X' T (S.blk scope) W0 → PE X' elt (tE T W0 X'.K false (ev T.P false a))) :
    PS X (.Assign [.Name x p] (.ListComp elt [⟨tg, iter, ifs, 0⟩] scope lp) pos) (tAsg (tLc (tI T W X.K true it) (tG X.K g) (tT' T W0 X.K cc) (tE T W0 X.K false (ev T.P false a)) own) (gName i)) := by
  obtain ⟨y, p', q, h1, h2⟩ := chkG1_of h
  cases q
  obtain ⟨h3, h4⟩ := storeOk ok h2
  have h1' : X.N[i]? = some x := by rw [ok.hN]; exact h1
  generalize hsb : (X.env.blockKind == .function && X.env.kindOf x == some .local && p.line == lp.line && !(scope.names.any fun (n, k) => n == x && (k == .local || k == .cell))) = sb
  have hs : swapsWith (.ListComp elt [⟨tg, iter, ifs, 0⟩] scope lp) (some (.Name x p)) pos.line X.env = pure sb := by rw [← hsb]; rfl
  cases sb with
  | false => exact ps_set ok.nd' h1' h3 (peLc ok hi hns hb hg ht he) hs h4
  | true =>
    simp only [Bool.and_eq_true] at hsb
    have hl : X.env.scope.names.lookup x = some .local := eq_of_beq hsb.1.1.2
    obtain ⟨hB, hO⟩ := blk_of ok hb
    have main := ps_setLc (py := p) (pos := lp) (g := tG X.K g) (tt := tT' T W0 X.K cc) (te := tE T W0 X.K false (ev T.P false a)) (elt := elt) ok.calm ok.nd' h1' hl hs hi hB (fun s H C cl fp => hg (ok.blk scope s H C cl fp)) (fun s H C cl fp => ht (ok.blk scope s H C cl fp)) (fun s H C cl fp => he (ok.blk scope s H C cl fp)) (fun x => fse hns _ x)
    rw [hO] at main
    exact main
theorem psLc2 {i : Nat} {x : Str} {p lp : Pos} (ok : XOk X T S W) (h : chkG1 S i (.Name x p) = true) {g g2 : G} {it it2 : I} {cc cc2 : C} {own own2 : List Nat} {a : E} {iter tg2 iter2 elt : Expr} {ifs ifs2 : List Expr} {scope : Scope}
    (hi : PI X tg iter (tI T W X.K true it)) (hns : notSet iter = true) (hb : chkBlk S scope own = true) (hoo : own2.all (own.contains ·) = true) (hns2 : notSet iter2 = true)
    (hg : ∀ {X' : Cx}, XOk X' T (S.blk scope) W0 → PG X' tg (tG X'.K g)) (ht : ∀ {X' : Cx}, XOk X' T (S.blk scope) W0 → PTs X' ifs (tT' T W0 X'.K cc))
    (hi2 : ∀ {X' : Cx}, XOk X' T (S.blk scope) W0 → PI X' tg2 iter2 (tI T W0 X'.K false it2))
    (hg2 : ∀ {X' : Cx}, XOk X' T (S.blk scope) W0 → PG X' tg2 (tG X'.K g2)) (ht2 : ∀ {X' : Cx}, XOk X' T (S.blk scope) W0 → PTs X' ifs2 (tT' T W0 X'.K cc2)) (he : ∀ {X' : Cx}, XOk X' T (S.blk scope) W0 → PE X' elt (tE T W0 X'.K false (ev T.P false a))) :
    PS X (.Assign [.Name x p] (.ListComp elt [⟨tg, iter, ifs, 0⟩, ⟨tg2, iter2, ifs2, 0⟩] scope lp) pos) (tAsg (tLc2 (tI T W X.K true it) (tG X.K g) (tT' T W0 X.K cc) (tI T W0 X.K false it2) (tG X.K g2) (tT' T W0 X.K cc2) (tE T W0 X.K false (ev T.P false a)) own own2) (gName i)) := by
  obtain ⟨y, p', q, h1, h2⟩ := chkG1_of h
  cases q
  obtain ⟨h3, h4⟩ := storeOk ok h2
  have h1' : X.N[i]? = some x := by rw [ok.hN]; exact h1
  generalize hsb : (X.env.blockKind == .function && X.env.kindOf x == some .local && p.line == lp.line && !(scope.names.any fun (n, k) => n == x && (k == .local || k == .cell))) = sb
  have hs : swapsWith (.ListComp elt [⟨tg, iter, ifs, 0⟩, ⟨tg2, iter2, ifs2, 0⟩] scope lp) (some (.Name x p)) pos.line X.env = pure sb := by rw [← hsb]; rfl
  cases sb with
  | false => exact ps_set ok.nd' h1' h3 (peLc2 ok hi hns hb hoo hns2 hg ht hi2 hg2 ht2 he) hs h4
  | true =>
    simp only [Bool.and_eq_true] at hsb
    have hl : X.env.scope.names.lookup x = some .local := eq_of_beq hsb.1.1.2
    obtain ⟨hB, hO⟩ := blk_of ok hb
    have hoo' : ∀ i ∈ own2, i ∈ (ownP S.N own).map (·.2) := fun i hm => by rw [hO]; simpa using List.all_eq_true.mp hoo i hm
    have main := ps_setLc2 (py := p) (pos := lp) (g := tG X.K g) (tt := tT' T W0 X.K cc) (g1 := tG X.K g2) (tt1 := tT' T W0 X.K cc2) (wi1 := tI T W0 X.K false it2) (te := tE T W0 X.K false (ev T.P false a)) (elt := elt) (vs1 := own2) ok.calm ok.nd' h1' hl hs hi hB hoo' (fun s H C cl fp => hg (ok.blk scope s H C cl fp)) (fun s H C cl fp => ht (ok.blk scope s H C cl fp))
      (fun s H C cl fp => hi2 (ok.blk scope s H C cl fp)) (fun s H C cl fp => hg2 (ok.blk scope s H C cl fp)) (fun s H C cl fp => ht2 (ok.blk scope s H C cl fp)) (fun s H C cl fp => he (ok.blk scope s H C cl fp)) (fun x => fse hns _ x) (fun env x => fse hns2 _ x)
    rw [hO] at main
    exact main
/-- a value's store at a name, given away -/
theorem rdSet {i : Nat} {te : TE} {K : PySem.W.Frag} (f : ∀ σ H Q, tE T W K false (ev T.P false a) σ H Q → te σ H Q) {D : Ends} {σ : L2.St} {H : Hp} (h : tS T W K (ex T.P wf (.set (.nm i) a)) D σ H) : tAsg te (gName i) D σ H := by
  obtain ⟨H0, g0, gh, ls, d, I, h⟩ := h
  obtain ⟨g', I', m⟩ := I.frz (Frz.at' (pubE false a) ls)
  refine f _ _ _ ⟨g', _, d, I'.gok, I'.rel, (PostS.bind (R := RelX K false) I' (h.to m)).imp fun x H1 ⟨v, g1, d1, e1, I1, r1, h1⟩ => ?_⟩
  by_cases hi : i < (frzAt ls (pubE false a)).length
  · have q : storeG (.nm i) v (frzAt ls (pubE false a)) = some ((frzAt ls (pubE false a)).set i (some (false, v))) := if_pos hi
    rw [q] at h1
    exact PostS.nx (I1.set i r1) h1
  · have q : storeG (.nm i) v (frzAt ls (pubE false a)) = none := if_neg hi
    rw [q] at h1
    exact h1.elim
/-- a new thing of one's own at a name -/
theorem rdOwn {i : Nat} {te : TE} {K : PySem.W.Frag} (f : ∀ σ H Q, tF T W K (ev T.P false a) σ H Q → te σ H Q) {D : Ends} {σ : L2.St} {H : Hp} (h : tS T W K (ex T.P wf (.own i a)) D σ H) : tAsg te (gName i) D σ H := by
  obtain ⟨H0, g0, gh, ls, d, I, h⟩ := h
  obtain ⟨g', I', m⟩ := I.frz (Frz.at' (pubE false a) ls)
  refine f _ _ _ ⟨g', _, d, I'.gok, I'.rel, (PostS.bind (R := RelF K H) I' (h.to m)).imp fun x H1 ⟨v, g1, d1, e1, I1, ⟨b, rx, r1, r2⟩, h1⟩ => ?_⟩
  subst rx
  cases v with
  | lst xs =>
    obtain ⟨hc, h1⟩ := (show PostS K H0 g0 H1 g1 ((if i < (frzAt ls (pubE false a)).length ∧ isFresh a = true then M.pure (.nx ((frzAt ls (pubE false a)).set i (some (true, .lst xs)))) else M.bad) d1) D (exW T W) from h1).ite
    refine PostS.nx (I1.setO i r2 (Classical.byContradiction fun n => I'.ext.there b n r1) fun j q hj hq hz => ?_) h1
    obtain ⟨b', q1, q2⟩ := I'.rel.own j q hq
    rw [hz] at q1; cases q1
    exact q2.there r1
  | _ => exact h1.elim
/-- a new list, its maker's own -/
theorem peLstF {es : Es} {rs : List Expr} (h : PA X rs (tPs T W X.K es)) : PE X (.List rs pos) (tF T W X.K (ev T.P false (.lst es))) := by
  refine PE.conv (pe_lst h) fun σ H Q ⟨g, ls, d, G, L, h⟩ => ⟨g, ls, d, G, L, (Post.bind (R := fun H g => RelPs X.K H g) h).imp fun xs H1 ⟨ps, g1, d1, e1, G1, r1, h1⟩ => ?_⟩
  obtain ⟨hl, h1⟩ := h1.ite
  refine ⟨by rw [← RelPs.length r1, ← LIM_eq]; exact hl, fun q hq => ?_⟩
  have e := Ext.alloc (o := .lst xs) G1 hq
  exact h1 _ g1 _ e (G1.alloc hq) ⟨q, rfl, Classical.byContradiction fun n => e1.there q n hq, fun z => G1.fzT _ z hq, fun z => G1.trk z hq, xs, upd_same, r1.ext e⟩
end
end FW
namespace FW
open PySem PySem.Spec PyProof.Rows L2
section
variable {X : Cx} {T : Tab} {S : NS} {W : WX} {e l r tg : Expr} {a c : E} {pos : Pos} {wf : Nat}
theorem ownL_of {ls : List Slot} {i : Nat} {xs : List PV} (h : ownL ls i = some xs) : ls[i]? = some (some (true, .lst xs)) := by
  unfold ownL at h
  split at h
  · cases h; assumption
  · cases h
/-! ### side by side -/
def RelMd (K : PySem.W.Frag) (Hs : Hp) (f : Bool) (H : Hp) (g : Gh) (p : PV) (x : V) : Prop := if f = true then RelF K Hs H g p x else RelP K H g p x
def tMd (T : Tab) (W : WX) (K : PySem.W.Frag) (f : Bool) (m : List Slot → M PV) : TE := fun σ H Q => ∃ g ls d, GOk K H g d ∧ LRel K H g ls σ ∧ Post K H g (RelMd K H f) (m ls d) Q (exW T W σ)
theorem md_t {m : List Slot → M PV} (h : PE X e (tF T W X.K m)) : PE X e (tMd T W X.K true m) := PE.conv h fun σ H Q h => h
theorem md_f {m : List Slot → M PV} (h : PE X e (tE T W X.K false m)) : PE X e (tMd T W X.K false m) := PE.conv h fun σ H Q h => h
theorem SI.mode {K : PySem.W.Frag} {H0 H Hs : Hp} {g0 g gs : Gh} {d : DS} {ls : List Slot} {σ : L2.St} {f : Bool} {p : PV} {x : V} (I : SI K H0 g0 H g d ls σ) (es : Ext H0 g0 Hs gs) (hs : ∀ (j : Nat) q b, ls[j]? = some (some (true, q)) → σ[j]? = some (some (.ref b)) → Hs b ≠ none)
    (r : RelMd K Hs f H g p x) (i : Nat) : SI K H0 g0 H g d (ls.set i (some (f, p))) (σ.set i (some x)) := by
  cases f with
  | false => exact I.set i r
  | true =>
    obtain ⟨b, rfl, r1, r2⟩ := (show RelF K Hs H g p x from r)
    exact I.setO i r2 (Classical.byContradiction fun n => es.there b n r1) fun j q hj hq hz => hs j q b hq hz r1
theorem SI.has {K : PySem.W.Frag} {H0 H : Hp} {g0 g : Gh} {d : DS} {ls : List Slot} {σ : L2.St} (I : SI K H0 g0 H g d ls σ) (j : Nat) (q : PV) (b : Addr) (h : ls[j]? = some (some (true, q))) (h' : σ[j]? = some (some (.ref b))) : H b ≠ none := by
  obtain ⟨b', q1, q2⟩ := I.rel.own j q h
  rw [h'] at q1; cases q1
  exact q2.there
theorem evs2 {P : PE'} {ls : List Slot} : evs P (.cons a (.cons c .nil)) ls = (ev P false a ls).bind fun x => (ev P false c ls).bind fun y => M.pure [x, y] := by
  show (ev P false a ls).bind (fun x => ((ev P false c ls).bind fun y => (M.pure []).bind fun xs => M.pure (y :: xs)).bind fun xs => M.pure (x :: xs)) = _
  congr 1
  funext x
  rw [M.bind_assoc]
  rfl
theorem evs3 {P : PE'} {ls : List Slot} {c2 : E} : evs P (.cons a (.cons c (.cons c2 .nil))) ls = (ev P false a ls).bind fun x => (ev P false c ls).bind fun y => (ev P false c2 ls).bind fun z => M.pure [x, y, z] := by
  show (ev P false a ls).bind (fun x => (evs P (.cons c (.cons c2 .nil)) ls).bind fun xs => M.pure (x :: xs)) = _
  congr 1
  funext x
  rw [evs2, M.bind_assoc]
  congr 1
  funext y
  rw [M.bind_assoc]
  rfl
theorem sPar2 {i j : Nat} {x y : Str} {f1 f2 : Bool} {px py pt pt2 : Pos} {kt k2 : Nat} (ok : XOk X T S W) (hi : S.N[i]? = some x) (hj : S.N[j]? = some y) (hij : i ≠ j) (hx : S.sc.names.lookup x = some .local) (hy : S.sc.names.lookup y = some .local)
    (hl : notStar l = true) (hr : notStar r = true) (h1 : PE X l (tMd T W X.K f1 (ev T.P false a))) (h2 : PE X r (tMd T W X.K f2 (ev T.P false c)))
    (hw : swC S.sc [.Name x px, .Name y py] [l, r] = some (some [x, y])) :
    PS X (.Assign [.Tuple [.Name x px, .Name y py] kt pt] (.Tuple [l, r] k2 pt2) pos) (tS T W X.K (ex T.P wf (.par [i, j] [f1, f2] (.cons a (.cons c .nil))))) := by
  have hN := ok.hN
  refine PS.conv (ps_par ok.calm ok.nd' (by rw [hN]; exact hi) (by rw [hN]; exact hj) hij (by rw [ok.hsc]; exact hx) (by rw [ok.hsc]; exact hy) (pa_cons h1 (pa_cons h2 pa_nil (starEach_plain hr _ _)) (starEach_plain hl _ _)) (swC_of (by rw [ok.hsc]; exact hw))) fun D σ H ⟨H0, g0, gh, ls, d, I, h⟩ => ?_
  obtain ⟨g', I', m⟩ := I.frz (Frz.at' (pubEs (.cons a (.cons c .nil))) ls)
  have h := h.to m
  generalize hls : frzAt ls (pubEs (.cons a (.cons c .nil))) = ls' at I'
  have h : PostS X.K H0 g0 H g' (((evs T.P (.cons a (.cons c .nil)) ls').bind fun vs => if vs.length = [i, j].length ∧ [i, j].all (· < ls'.length) ∧ frs (.cons a (.cons c .nil)) [f1, f2] = true then
      M.pure (.nx (([i, j].zip ([f1, f2].zip vs)).foldl (fun l p => l.set p.1 (some p.2)) ls')) else M.bad) d) D (exW T W) := by rw [← hls]; exact h
  rw [evs2, M.bind_assoc] at h
  refine ⟨g', ls', d, I'.gok, I'.rel, (PostS.bind (R := RelMd X.K H f1) I' h).imp fun u H1 ⟨v, g1, d1, e1, I1, r1, h1⟩ => ?_⟩
  rw [M.bind_assoc] at h1
  have J1 := I1.mode I'.ext (fun j q b hq hz => I'.has j q b hq hz) r1 i
  refine ⟨g1, ls', d1, I1.gok, I1.rel, (PostS.bind (R := RelMd X.K H1 f2) I1 h1).imp fun u2 H2 ⟨v2, g2, d2, e2, I2, r2, h2⟩ => ?_⟩
  obtain ⟨_, h2⟩ := (show PostS X.K H0 g0 H2 g2 ((if [v, v2].length = [i, j].length ∧ [i, j].all (· < ls'.length) ∧ frs (.cons a (.cons c .nil)) [f1, f2] = true then
      M.pure (.nx (([i, j].zip ([f1, f2].zip [v, v2])).foldl (fun l p => l.set p.1 (some p.2)) ls')) else M.bad) d2) D (exW T W) from h2).ite
  exact ⟨u, u2, rfl, PostS.nx ((J1.step e2 I2.gok).mode I1.ext (fun j q b hq hz => J1.has j q b hq hz) r2 j) h2⟩
theorem sPar3 {i j k : Nat} {x y z : Str} {f1 f2 f3 : Bool} {px py pz pt pt2 : Pos} {kt k2 : Nat} {r2 : Expr} {c2 : E} (ok : XOk X T S W) (hi : S.N[i]? = some x) (hj : S.N[j]? = some y) (hk : S.N[k]? = some z) (hij : i ≠ j) (hik : i ≠ k) (hjk : j ≠ k) (hx : S.sc.names.lookup x = some .local) (hy : S.sc.names.lookup y = some .local) (hz : S.sc.names.lookup z = some .local)
    (hl : notStar l = true) (hr : notStar r = true) (hr2 : notStar r2 = true) (h1 : PE X l (tMd T W X.K f1 (ev T.P false a))) (h2 : PE X r (tMd T W X.K f2 (ev T.P false c))) (h3 : PE X r2 (tMd T W X.K f3 (ev T.P false c2)))
    (hw : swC S.sc [.Name x px, .Name y py, .Name z pz] [l, r, r2] = some (some [x, y, z])) :
    PS X (.Assign [.Tuple [.Name x px, .Name y py, .Name z pz] kt pt] (.Tuple [l, r, r2] k2 pt2) pos) (tS T W X.K (ex T.P wf (.par [i, j, k] [f1, f2, f3] (.cons a (.cons c (.cons c2 .nil)))))) := by
  have hN := ok.hN
  refine PS.conv (ps_par3 ok.calm ok.nd' (by rw [hN]; exact hi) (by rw [hN]; exact hj) (by rw [hN]; exact hk) hij hik hjk (by rw [ok.hsc]; exact hx) (by rw [ok.hsc]; exact hy) (by rw [ok.hsc]; exact hz) (pa_cons h1 (pa_cons h2 (pa_cons h3 pa_nil (starEach_plain hr2 _ _)) (starEach_plain hr _ _)) (starEach_plain hl _ _)) (swC_of (by rw [ok.hsc]; exact hw))) fun D σ H ⟨H0, g0, gh, ls, d, I, h⟩ => ?_
  obtain ⟨g', I', m⟩ := I.frz (Frz.at' (pubEs (.cons a (.cons c (.cons c2 .nil)))) ls)
  have h := h.to m
  generalize hls : frzAt ls (pubEs (.cons a (.cons c (.cons c2 .nil)))) = ls' at I'
  have h : PostS X.K H0 g0 H g' (((evs T.P (.cons a (.cons c (.cons c2 .nil))) ls').bind fun vs => if vs.length = [i, j, k].length ∧ [i, j, k].all (· < ls'.length) ∧ frs (.cons a (.cons c (.cons c2 .nil))) [f1, f2, f3] = true then
      M.pure (.nx (([i, j, k].zip ([f1, f2, f3].zip vs)).foldl (fun l p => l.set p.1 (some p.2)) ls')) else M.bad) d) D (exW T W) := by rw [← hls]; exact h
  rw [evs3, M.bind_assoc] at h
  refine ⟨g', ls', d, I'.gok, I'.rel, (PostS.bind (R := RelMd X.K H f1) I' h).imp fun u H1 ⟨v, g1, d1, e1, I1, r1, h1⟩ => ?_⟩
  rw [M.bind_assoc] at h1
  have J1 := I1.mode I'.ext (fun j q b hq hz => I'.has j q b hq hz) r1 i
  refine ⟨g1, ls', d1, I1.gok, I1.rel, (PostS.bind (R := RelMd X.K H1 f2) I1 h1).imp fun u2 H2 ⟨v2, g2, d2, e2, I2, r2, h2⟩ => ?_⟩
  rw [M.bind_assoc] at h2
  have J2 := (J1.step e2 I2.gok).mode I1.ext (fun j q b hq hz => J1.has j q b hq hz) r2 j
  refine ⟨g2, ls', d2, I2.gok, I2.rel, (PostS.bind (R := RelMd X.K H2 f3) I2 h2).imp fun u3 H3 ⟨v3, g3, d3, e3, I3, r3, h3⟩ => ?_⟩
  obtain ⟨_, h3⟩ := (show PostS X.K H0 g0 H3 g3 ((if [v, v2, v3].length = [i, j, k].length ∧ [i, j, k].all (· < ls'.length) ∧ frs (.cons a (.cons c (.cons c2 .nil))) [f1, f2, f3] = true then
      M.pure (.nx (([i, j, k].zip ([f1, f2, f3].zip [v, v2, v3])).foldl (fun l p => l.set p.1 (some p.2)) ls')) else M.bad) d3) D (exW T W) from h3).ite
  exact ⟨u, u2, u3, rfl, PostS.nx ((J2.step e3 I3.gok).mode I2.ext (fun j q b hq hz => J2.has j q b hq hz) r3 k) h3⟩
/-- the same through a tuple, stored from the left -/
theorem sParC2 {i j : Nat} {f1 f2 : Bool} {t1 t2 : Expr} {pt pt2 : Pos} {kt k2 : Nat} (ok : XOk X T S W) (hg : chkGs S [i, j] [t1, t2] = true)
    (hl : notStar l = true) (hr : notStar r = true) (h1 : PE X l (tMd T W X.K f1 (ev T.P false a))) (h2 : PE X r (tMd T W X.K f2 (ev T.P false c)))
    (hw : swC S.sc [t1, t2] [l, r] = some none) :
    PS X (.Assign [.Tuple [t1, t2] kt pt] (.Tuple [l, r] k2 pt2) pos) (tS T W X.K (ex T.P wf (.par [i, j] [f1, f2] (.cons a (.cons c .nil))))) := by
  obtain ⟨q1, q2⟩ := chkGs_plain hg
  refine PS.conv (ps_asg (pe_tup (pa_cons h1 (pa_cons h2 pa_nil (starEach_plain hr _ _)) (starEach_plain hl _ _))) (pg_tup ok.calm (pgs ok hg) (q2 X.env).1 (q2 X.env).2) rfl (swC_of (by rw [ok.hsc]; exact hw)) rfl) fun D σ H ⟨H0, g0, gh, ls, d, I, h⟩ => ?_
  obtain ⟨g', I', m⟩ := I.frz (Frz.at' (pubEs (.cons a (.cons c .nil))) ls)
  have h := h.to m
  generalize hls : frzAt ls (pubEs (.cons a (.cons c .nil))) = ls' at I'
  have h : PostS X.K H0 g0 H g' (((evs T.P (.cons a (.cons c .nil)) ls').bind fun vs => if vs.length = [i, j].length ∧ [i, j].all (· < ls'.length) ∧ frs (.cons a (.cons c .nil)) [f1, f2] = true then
      M.pure (.nx (([i, j].zip ([f1, f2].zip vs)).foldl (fun l p => l.set p.1 (some p.2)) ls')) else M.bad) d) D (exW T W) := by rw [← hls]; exact h
  rw [evs2, M.bind_assoc] at h
  refine ⟨g', ls', d, I'.gok, I'.rel, (PostS.bind (R := RelMd X.K H f1) I' h).imp fun u H1 ⟨v, g1, d1, e1, I1, r1, h1⟩ => ?_⟩
  rw [M.bind_assoc] at h1
  have J1 := I1.mode I'.ext (fun j q b hq hz => I'.has j q b hq hz) r1 i
  refine ⟨g1, ls', d1, I1.gok, I1.rel, (PostS.bind (R := RelMd X.K H1 f2) I1 h1).imp fun u2 H2 ⟨v2, g2, d2, e2, I2, r2, h2⟩ => ?_⟩
  obtain ⟨_, h2⟩ := (show PostS X.K H0 g0 H2 g2 ((if [v, v2].length = [i, j].length ∧ [i, j].all (· < ls'.length) ∧ frs (.cons a (.cons c .nil)) [f1, f2] = true then
      M.pure (.nx (([i, j].zip ([f1, f2].zip [v, v2])).foldl (fun l p => l.set p.1 (some p.2)) ls')) else M.bad) d2) D (exW T W) from h2).ite
  have J2 := (J1.step e2 I2.gok).mode I1.ext (fun j q b hq hz => J1.has j q b hq hz) r2 j
  refine ⟨by show 2 ≤ sizeLine; decide, fun p hp => ⟨p, [u, u2], rfl, .inl (.inl upd_same), q1.symm ▸ rfl, rfl, ?_⟩⟩
  have e3 := Ext.alloc (o := .tup [u, u2]) I2.gok hp
  exact PostS.nx (J2.step e3 (I2.gok.alloc hp)) (h2.to e3.mono)
theorem sParC3 {i j k : Nat} {f1 f2 f3 : Bool} {t1 t2 t3 r2 : Expr} {pt pt2 : Pos} {kt k2 : Nat} {c2 : E} (ok : XOk X T S W) (hg : chkGs S [i, j, k] [t1, t2, t3] = true)
    (hl : notStar l = true) (hr : notStar r = true) (hr2 : notStar r2 = true) (h1 : PE X l (tMd T W X.K f1 (ev T.P false a))) (h2 : PE X r (tMd T W X.K f2 (ev T.P false c))) (h3 : PE X r2 (tMd T W X.K f3 (ev T.P false c2)))
    (hw : swC S.sc [t1, t2, t3] [l, r, r2] = some none) :
    PS X (.Assign [.Tuple [t1, t2, t3] kt pt] (.Tuple [l, r, r2] k2 pt2) pos) (tS T W X.K (ex T.P wf (.par [i, j, k] [f1, f2, f3] (.cons a (.cons c (.cons c2 .nil)))))) := by
  obtain ⟨q1, q2⟩ := chkGs_plain hg
  refine PS.conv (ps_asg (pe_tup (pa_cons h1 (pa_cons h2 (pa_cons h3 pa_nil (starEach_plain hr2 _ _)) (starEach_plain hr _ _)) (starEach_plain hl _ _))) (pg_tup ok.calm (pgs ok hg) (q2 X.env).1 (q2 X.env).2) rfl (swC_of (by rw [ok.hsc]; exact hw)) rfl) fun D σ H ⟨H0, g0, gh, ls, d, I, h⟩ => ?_
  obtain ⟨g', I', m⟩ := I.frz (Frz.at' (pubEs (.cons a (.cons c (.cons c2 .nil)))) ls)
  have h := h.to m
  generalize hls : frzAt ls (pubEs (.cons a (.cons c (.cons c2 .nil)))) = ls' at I'
  have h : PostS X.K H0 g0 H g' (((evs T.P (.cons a (.cons c (.cons c2 .nil))) ls').bind fun vs => if vs.length = [i, j, k].length ∧ [i, j, k].all (· < ls'.length) ∧ frs (.cons a (.cons c (.cons c2 .nil))) [f1, f2, f3] = true then
      M.pure (.nx (([i, j, k].zip ([f1, f2, f3].zip vs)).foldl (fun l p => l.set p.1 (some p.2)) ls')) else M.bad) d) D (exW T W) := by rw [← hls]; exact h
  rw [evs3, M.bind_assoc] at h
  refine ⟨g', ls', d, I'.gok, I'.rel, (PostS.bind (R := RelMd X.K H f1) I' h).imp fun u H1 ⟨v, g1, d1, e1, I1, r1, h1⟩ => ?_⟩
  rw [M.bind_assoc] at h1
  have J1 := I1.mode I'.ext (fun j q b hq hz => I'.has j q b hq hz) r1 i
  refine ⟨g1, ls', d1, I1.gok, I1.rel, (PostS.bind (R := RelMd X.K H1 f2) I1 h1).imp fun u2 H2 ⟨v2, g2, d2, e2, I2, r2, h2⟩ => ?_⟩
  rw [M.bind_assoc] at h2
  have J2 := (J1.step e2 I2.gok).mode I1.ext (fun j q b hq hz => J1.has j q b hq hz) r2 j
  refine ⟨g2, ls', d2, I2.gok, I2.rel, (PostS.bind (R := RelMd X.K H2 f3) I2 h2).imp fun u3 H3 ⟨v3, g3, d3, e3, I3, r3, h3⟩ => ?_⟩
  obtain ⟨_, h3⟩ := (show PostS X.K H0 g0 H3 g3 ((if [v, v2, v3].length = [i, j, k].length ∧ [i, j, k].all (· < ls'.length) ∧ frs (.cons a (.cons c (.cons c2 .nil))) [f1, f2, f3] = true then
      M.pure (.nx (([i, j, k].zip ([f1, f2, f3].zip [v, v2, v3])).foldl (fun l p => l.set p.1 (some p.2)) ls')) else M.bad) d3) D (exW T W) from h3).ite
  have J3 := (J2.step e3 I3.gok).mode I2.ext (fun j q b hq hz => J2.has j q b hq hz) r3 k
  refine ⟨by show 3 ≤ sizeLine; decide, fun p hp => ⟨p, [u, u2, u3], rfl, .inl (.inl upd_same), q1.symm ▸ rfl, rfl, ?_⟩⟩
  have e4 := Ext.alloc (o := .tup [u, u2, u3]) I3.gok hp
  exact PostS.nx (J3.step e4 (I3.gok.alloc hp)) (h3.to e4.mono)
/-! ### lists changed in place -/
theorem few1 {cpos : Pos} {env : Env} (h : notStar e = true) : ((backTo cpos (starEach [e] env)).all (fun x => !x.1) && (backToKw cpos (keywordEach [] env)).all (fun x => x.1.isSome)
      && decide (([e] : List Expr).length + ([] : List Keyword).length + (if ([] : List Keyword).isEmpty then 0 else 1) < 30)) = true := by
  rw [starEach_1 h]; rfl
theorem sApp {i : Nat} {x : Str} {p ap cp : Pos} (ok : XOk X T S W) (h1 : chkNm S i x = true) (h2 : visB S.sc x = true) (hs : notStar e = true) (hl : (ap.endLine == cp.line) = true) (ha : PE X e (tE T W X.K false (ev T.P false a))) :
    PS X (.Expr (.Call (.Attribute (.Name x p) ("append" : Str) ap) [e] [] cp) pos) (tS T W X.K (ex T.P wf (.app i a))) := by
  unfold chkNm at h1
  simp only [Bool.and_eq_true, decide_eq_true_eq] at h1
  obtain ⟨n1, n2, _⟩ := nmOk_of h1.2
  have pv := pe_var (pos := p) (i := i) (by rw [ok.hN]; exact h1.1) (by rw [ok.hsc]; exact vis_of h2) n1 n2
  refine PS.conv (ps_expr (pe_bm PySem.F.plainAttrs_list PySem.F.slot_list_append PySem.F.type_list_append mt_append pv (pa_cons ha pa_nil (starEach_plain hs _ _)) rfl (few1 hs) hl (starEach_plain hs _ _) (starEach_any rfl _ _))) fun D σ H ⟨H0, g0, gh, ls, d, I, h⟩ => ?_
  obtain ⟨g', I', m⟩ := I.frz (Frz.at' (pubE false a) ls)
  obtain ⟨xs, q, h⟩ := (h.to m).liftB
  obtain ⟨b, q1, q2⟩ := I'.rel.own i _ (ownL_of q)
  obtain ⟨_, _, vs, q3, _⟩ := id q2
  refine ⟨_, q1, .inl ⟨rfl, vs, SqL.of q3⟩, g', _, d, I'.gok, I'.rel, (PostS.bind (R := RelX X.K false) I' h).imp fun y H2 ⟨v, g2, d2, e2, I2, r2, h2⟩ => ?_⟩
  obtain ⟨hlen, h2⟩ := h2.ite
  obtain ⟨b', k1, k2⟩ := I2.rel.own i _ (ownL_of q)
  rw [q1] at k1; cases k1
  obtain ⟨k3, k4, ws, k5, k6⟩ := id k2
  refine ⟨b, ws, y, rfl, rfl, k5, by rw [← k6.length, ← LIM_eq]; exact hlen, ?_⟩
  obtain ⟨I3, m3⟩ := I2.upd (p' := .lst (xs ++ [v])) (o := .lst (ws ++ [y])) (ownL_of q) q1 ⟨ws, k5⟩ fun m => ⟨k3, k4, _, upd_same, RelPs.append (RelPs.mono m k6) (RelPs.one (RelP.mono m r2))⟩
  exact PostS.nx I3 (h2.to m3)
theorem RelPs.last {K : PySem.W.Frag} {H : Hp} {g : Gh} {ps : List PV} {xs : List V} {p : PV} (r : RelPs K H g ps xs) (h : ps.getLast? = some p) : ∃ x, xs[xs.length - 1]? = some x ∧ RelP K H g p x := by
  rw [List.getLast?_eq_getElem?, r.length] at h
  exact r.get h
theorem RelPs.dropLast {K : PySem.W.Frag} {H : Hp} {g : Gh} {ps : List PV} {xs : List V} (r : RelPs K H g ps xs) : RelPs K H g ps.dropLast xs.dropLast := by
  rw [List.dropLast_eq_take, List.dropLast_eq_take, r.length]
  exact r.take _
theorem RelPs.erase {K : PySem.W.Frag} {H : Hp} {g : Gh} : ∀ (k : Nat) {ps : List PV} {xs : List V}, RelPs K H g ps xs → RelPs K H g (ps.eraseIdx k) (xs.eraseIdx k)
  | _, [], _, h => by cases h; exact rfl
  | 0, _ :: _, _, h => by obtain ⟨y, r, rfl, h2, h3⟩ := h; exact h3
  | k + 1, _ :: _, _, h => by
    obtain ⟨y, r, rfl, h2, h3⟩ := h
    exact ⟨y, _, rfl, h2, RelPs.erase k h3⟩
theorem sSetPop {i j : Nat} {x y : Str} {p p2 ap cp : Pos} (ok : XOk X T S W) (h0 : chkG1 S i (.Name x p) = true) (h1 : chkNm S j y = true) (h2 : visB S.sc y = true) (hl : (ap.endLine == cp.line) = true) :
    PS X (.Assign [.Name x p] (.Call (.Attribute (.Name y p2) ("pop" : Str) ap) [] [] cp) pos) (tS T W X.K (ex T.P wf (.setPop i j))) := by
  unfold chkNm at h1
  simp only [Bool.and_eq_true, decide_eq_true_eq] at h1
  obtain ⟨n1, n2, _⟩ := nmOk_of h1.2
  have pv := pe_var (pos := p2) (i := j) (by rw [ok.hN]; exact h1.1) (by rw [ok.hsc]; exact vis_of h2) n1 n2
  refine PS.conv (psName ok h0 rfl (pe_bm0 PySem.F.plainAttrs_list PySem.F.slot_list_pop PySem.F.type_list_pop mt_pop pv rfl hl)) fun D σ H ⟨H0, g0, gh, ls, d, I, h⟩ => ?_
  obtain ⟨ys, q, h⟩ := h.liftB
  obtain ⟨u, hu, h⟩ := h.liftB
  obtain ⟨hc, h⟩ := h.ite
  obtain ⟨b, q1, q2⟩ := I.rel.own j _ (ownL_of q)
  obtain ⟨k3, k4, vs, q3, q4⟩ := id q2
  obtain ⟨z, z1, z2⟩ := q4.last hu
  obtain ⟨I3, m3⟩ := I.upd (p' := .lst ys.dropLast) (o := .lst vs.dropLast) (ownL_of q) q1 ⟨vs, q3⟩ fun m => ⟨k3, k4, _, upd_same, RelPs.mono m q4.dropLast⟩
  exact ⟨_, q1, .inl ⟨rfl, vs, SqL.of q3⟩, b, vs, z, rfl, rfl, q3, z1, PostS.nx (I3.set i (RelP.mono m3 z2)) (h.to m3)⟩
theorem sAppPop {i j : Nat} {x y : Str} {p p2 ap cp ap2 cp2 : Pos} (ok : XOk X T S W) (h1 : chkNm S i x = true) (h2 : visB S.sc x = true) (h3 : chkNm S j y = true) (h4 : visB S.sc y = true) (hs : notStar e = true) (hl : (ap.endLine == cp.line) = true) (hl2 : (ap2.endLine == cp2.line) = true)
    (ha : PE X e (tE T W X.K true (ev T.P true a))) :
    PS X (.Expr (.Call (.Attribute (.Name x p) ("append" : Str) ap) [.Call (.Attribute (.Name y p2) ("pop" : Str) ap2) [e] [] cp2] [] cp) pos) (tS T W X.K (ex T.P wf (.appPop i j a))) := by
  unfold chkNm at h1 h3
  simp only [Bool.and_eq_true, decide_eq_true_eq] at h1 h3
  obtain ⟨n1, n2, _⟩ := nmOk_of h1.2
  obtain ⟨n3, n4, _⟩ := nmOk_of h3.2
  have pv := pe_var (pos := p) (i := i) (by rw [ok.hN]; exact h1.1) (by rw [ok.hsc]; exact vis_of h2) n1 n2
  have pv2 := pe_var (pos := p2) (i := j) (by rw [ok.hN]; exact h3.1) (by rw [ok.hsc]; exact vis_of h4) n3 n4
  have inner := pe_bm (cpos := cp2) PySem.F.plainAttrs_list PySem.F.slot_list_pop PySem.F.type_list_pop mt_popAt pv2 (pa_cons ha pa_nil (starEach_plain hs _ _)) rfl (few1 hs) hl2 (starEach_plain hs _ _) (starEach_any rfl _ _)
  refine PS.conv (ps_expr (pe_bm PySem.F.plainAttrs_list PySem.F.slot_list_append PySem.F.type_list_append mt_append pv (pa_cons inner pa_nil rfl) rfl rfl hl rfl rfl)) fun D σ H ⟨H0, g0, gh, ls, d, I, h⟩ => ?_
  obtain ⟨xs, q, h⟩ := h.liftB
  obtain ⟨ys, q', h⟩ := h.liftB
  obtain ⟨b, q1, q2⟩ := I.rel.own i _ (ownL_of q)
  obtain ⟨b', q1', q2'⟩ := I.rel.own j _ (ownL_of q')
  obtain ⟨_, _, vs, q3, _⟩ := id q2
  obtain ⟨_, _, vs', q3', _⟩ := id q2'
  refine ⟨_, q1, .inl ⟨rfl, vs, SqL.of q3⟩, _, q1', .inl ⟨rfl, vs', SqL.of q3'⟩, gh, ls, d, I.gok, I.rel, (PostS.bind (R := RelX X.K true) I h).imp fun kv H2 ⟨v, g2, d2, e2, I2, r2, h2⟩ => ?_⟩
  obtain ⟨rr, hr, h2⟩ := h2.liftB
  obtain ⟨⟨hlen, hij⟩, h2⟩ := h2.ite
  cases v with
  | int k =>
    have hr : (if 0 ≤ k ∧ k < 2 ^ 62 then (ys[k.toNat]?).map fun y => (y, ys.eraseIdx k.toNat) else none) = some rr := hr
    by_cases hk : 0 ≤ k ∧ k < 2 ^ 62
    · rw [if_pos hk] at hr
      obtain ⟨hk1, hk2⟩ := hk
      obtain ⟨u, hu, rfl⟩ := Option.map_eq_some_iff.mp hr
      obtain ⟨c1, k1, k2⟩ := I2.rel.own j _ (ownL_of q')
      rw [q1'] at k1; cases k1
      obtain ⟨k3, k4, ws, k5, k6⟩ := id k2
      obtain ⟨z, z1, z2⟩ := k6.get hu
      obtain ⟨I3, m3⟩ := I2.upd (p' := .lst (ys.eraseIdx k.toNat)) (o := .lst (ws.eraseIdx k.toNat)) (ownL_of q') q1' ⟨ws, k5⟩ fun m => ⟨k3, k4, _, upd_same, RelPs.mono m (k6.erase _)⟩
      have hx' : (ls.set j (some (true, .lst (ys.eraseIdx k.toNat))))[i]? = some (some (true, .lst xs)) := by rw [List.getElem?_set_ne (Ne.symm hij)]; exact ownL_of q
      obtain ⟨c2, l1, l2⟩ := I3.rel.own i _ hx'
      rw [q1] at l1; cases l1
      obtain ⟨l3, l4, us, l5, l6⟩ := id l2
      obtain ⟨I4, m4⟩ := I3.upd (p' := .lst (xs ++ [u])) (o := .lst (us ++ [z])) hx' q1 ⟨us, l5⟩ fun m => ⟨l3, l4, _, upd_same, RelPs.append (RelPs.mono m l6) (RelPs.one (RelP.mono m (RelP.mono m3 z2)))⟩
      have hkl : k.toNat < ws.length := (List.getElem?_eq_some_iff.mp z1).1
      refine ⟨b', ws, k, k.toNat, z, rfl, ?_, k5, (by omega), (by omega), ?_, z1, b, us, z, rfl, rfl, l5, by rw [← l6.length, ← LIM_eq]; exact hlen, PostS.nx I4 (h2.to (m3.trans m4))⟩
      · rw [(r2.toB I2.gok).int]
      · unfold seqIndex?
        have hneg : ¬ k < 0 := by omega
        have e1 : 0 ≤ k := hk1
        have e2 : k < (ws.length : Int) := by omega
        simp [hneg, e1, e2]
    · rw [if_neg hk] at hr; cases hr
  | _ => cases hr
end
end FW
namespace FW
open PySem PySem.Spec PyProof.Rows L2
section
variable {X : Cx} {T : Tab} {S : NS} {W : WX} {e l r tg : Expr} {a c : E} {pos : Pos} {wf : Nat}
theorem sExpr (hn : notComp e = true) (ha : PE X e (tE T W X.K false (ev T.P false a))) : PS X (.Expr e pos) (tS T W X.K (ex T.P wf (.expr a))) := by
  refine PS.conv (ps_expr ha (swOff hn _ _ _)) fun D σ H ⟨H0, g0, gh, ls, d, I, h⟩ => ?_
  obtain ⟨g', I', m⟩ := I.frz (Frz.at' (pubE false a) ls)
  exact ⟨g', _, d, I'.gok, I'.rel, (PostS.bind (R := RelX X.K false) I' (h.to m)).imp fun x H1 ⟨v, g1, d1, e1, I1, r1, h1⟩ => PostS.nx I1 h1⟩
theorem sRet (ha : PE X e (tE T W X.K false (ev T.P false a))) : PS X (.Return (some e) pos) (tS T W X.K (ex T.P wf (.ret a))) := by
  refine PS.conv (ps_ret ha) fun D σ H ⟨H0, g0, gh, ls, d, I, h⟩ => ?_
  obtain ⟨g', I', m⟩ := I.frz (Frz.all ls)
  exact ⟨g', _, d, I'.gok, I'.rel, (PostS.bind (R := RelX X.K false) I' (h.to m)).imp fun x H1 ⟨v, g1, d1, e1, I1, r1, h1⟩ => h1 x H1 g1 I1.ext I1.gok r1⟩
theorem sRetN : PS X (.Return none pos) (tS T W X.K (ex T.P wf .retN)) :=
  PS.conv ps_retN fun D σ H ⟨H0, g0, gh, ls, d, I, h⟩ => h .non H gh I.ext I.gok rfl
theorem sPass : PS X (.Pass pos) (tS T W X.K (ex T.P wf .pass)) := PS.conv ps_pass fun D σ H ⟨H0, g0, gh, ls, d, I, h⟩ => PostS.nx I h
theorem sDoc {x : Str} {j : Nat} {p : Pos} : PS X (.Expr (.Constant (.str x) j p) pos) (tS T W X.K (ex T.P wf .pass)) := PS.conv ps_doc fun D σ H ⟨H0, g0, gh, ls, d, I, h⟩ => PostS.nx I h
theorem sBrk : PS X (.Break pos) (tS T W X.K (ex T.P wf .brk)) := PS.conv ps_break fun D σ H ⟨H0, g0, gh, ls, d, I, h⟩ => h σ H gh I Mono.refl
theorem sCnt : PS X (.Continue pos) (tS T W X.K (ex T.P wf .cnt)) := PS.conv ps_continue fun D σ H ⟨H0, g0, gh, ls, d, I, h⟩ => h σ H gh I Mono.refl
theorem sIf {A B : Ss} {xs ys : List Stmt} (ht : PT X e (tT T W X.K a)) (hA : PSs X xs (tS T W X.K (exs T.P wf A))) (hB : PSs X ys (tS T W X.K (exs T.P wf B))) : PS X (.If e xs ys pos) (tS T W X.K (ex T.P wf (.ife a A B))) := by
  refine PS.conv (ps_if ht hA hB) fun D σ H ⟨H0, g0, gh, ls, d, I, h⟩ => ?_
  obtain ⟨g', I', m⟩ := I.frz (Frz.at' (pubE true a) ls)
  have h := h.to m
  have h : PostS X.K H0 g0 H g' ((((ev T.P true a (frzAt ls (pubE true a))).bind fun x => M.lift (truF x)).bind fun k => if k = true then exs T.P wf A (frzAt ls (pubE true a)) else exs T.P wf B (frzAt ls (pubE true a))) d) D (exW T W) := by
    rw [M.bind_assoc]; exact h
  refine ⟨g', _, d, I'.gok, I'.rel, (PostS.bind (R := RelK) I' h).imp fun k H1 ⟨k', g1, d1, e1, I1, r1, h1⟩ => ?_⟩
  obtain rfl : k = k' := r1
  cases k with
  | true => exact ⟨H0, g0, g1, _, d1, I1, h1⟩
  | false => exact ⟨H0, g0, g1, _, d1, I1, h1⟩
theorem sFor {g : G} {it : I} {B : Ss} {ys : List Stmt} (hp : PassesOwn (model X.prog X.w) X.A X.env X.xe) (hc : X.calm = true) (hi : PI X tg e (tI T W X.K false it)) (hns : notSet e = true) (hg : PG X tg (tG X.K g)) (hB : PSs X ys (tS T W X.K (exs T.P wf B))) :
    PS X (.For tg e ys [] pos) (tS T W X.K (ex T.P wf (.for_ g it B))) := by
  refine PS.conv (ps_for hp hc hi hg hB (fun x => fse hns _ x)) fun D σ H ⟨H0, g0, gh, ls, d, I, h⟩ => ?_
  obtain ⟨g', I', m⟩ := I.frz (Frz.at' (pubI false it) ls)
  have h := h.to m
  generalize hls : frzAt ls (pubI false it) = ls' at I'
  generalize hf : (fun (x : PV) (ls : List Slot) => match storeG g x ls with
    | some ls' => exs T.P wf B ls'
    | none => M.bad) = f
  have h : PostS X.K H0 g0 H g' (((evI T.P false it ls').bind fun xs => forM' f xs ls') d) D (exW T W) := by rw [← hls, ← hf]; exact h
  refine ⟨g', ls', d, I'.gok, I'.rel, (PostS.bind (R := RelJ X.K false) I' h).imp fun J H1 ⟨ps, g1, d1, e1, I1, rJ, h1⟩ => ?_⟩
  refine ⟨fun i m σ' H' => m = ps.length - i ∧ i ≤ ps.length ∧ ∃ g2 ls2 d2, SI X.K H0 g0 H' g2 d2 ls2 σ' ∧ Mono H1 g1 H' g2 ∧ PostS X.K H0 g0 H' g2 (forM' f (ps.drop i) ls2 d2) D (exW T W), ⟨_, rfl, Nat.zero_le _, g1, ls', d1, I1, Mono.refl, h1⟩, ?_⟩
  rintro i m2 σ2 H2 ⟨rfl, hi, g2, ls2, d2, I2, mo, h2⟩
  obtain ⟨go, stop⟩ := rJ H2 g2 d2 (by rw [if_neg Bool.false_ne_true]; exact mo) I2.gok
  by_cases hlt : i < ps.length
  · have hp : ps[i]? = some ps[i] := List.getElem?_eq_getElem hlt
    obtain ⟨gg, y1⟩ := go i _ hp
    rw [drop_at hp] at h2
    refine .inr ⟨gg, fun σ' H' => ∃ g2 ls2 d2, SI X.K H0 g0 H' g2 d2 ls2 σ' ∧ Mono H1 g1 H' g2 ∧ PostS X.K H0 g0 H' g2 (forM' f (ps.drop (i + 1)) ls2 d2) D (exW T W), fun σ' H' h' => ⟨_, by omega, rfl, hlt, h'⟩, fun x H3 hy => ?_⟩
    obtain ⟨g3, e3, G3, r3⟩ := y1 x H3 hy
    have I3 := I2.step e3 G3
    have hs := PostS.seq (m := f ps[i] ls2) (k := fun fl => match fl with
      | .nx ls' => forM' f (ps.drop (i + 1)) ls'
      | .ct ls' => forM' f (ps.drop (i + 1)) ls'
      | .bk ls' => M.pure (.nx ls')
      | .rt v => M.pure (.rt v)) (fun v => rfl) (h2.to e3.mono)
    rw [← hf] at hs
    cases q : storeG g ps[i] ls2 with
    | none => simp only [q] at hs; exact hs.elim
    | some ls3 =>
      simp only [q] at hs
      rw [hf] at hs
      refine ⟨g3, ls2, ls3, _, d2, G3, I3.rel, r3, q, fun σ' L' hw => ⟨H0, g0, g3, ls3, d2, I3.store q L' hw, ?_⟩⟩
      refine hs.ends (fun σ4 H4 ⟨g4, ls4, d4, I4, m4, h4⟩ => ⟨g4, ls4, d4, I4, (mo.trans e3.mono).trans m4, h4⟩) (fun x H4 ⟨v, g4, d4, k1, k2, k3, k4⟩ => k4 x H4 g4 k1 k2 k3) (fun σ4 H4 ⟨g4, ls4, d4, I4, m4, h4⟩ => PostS.nx I4 h4) (fun σ4 H4 ⟨g4, ls4, d4, I4, m4, h4⟩ => ⟨g4, ls4, d4, I4, (mo.trans e3.mono).trans m4, h4⟩)
  · have hi' : i = ps.length := by omega
    subst hi'
    rw [List.drop_length] at h2
    exact .inl ⟨stop _ (Nat.le_refl _), PostS.nx I2 h2⟩
theorem sWhl {B : Ss} {ys : List Stmt} (hp : PassesOwn (model X.prog X.w) X.A X.env X.xe) (ht : PT X e (tT T W X.K a)) (hB : PSs X ys (tS T W X.K (exs T.P wf B))) : PS X (.While e ys [] pos) (tS T W X.K (ex T.P wf (.whl a B))) := by
  refine PS.conv (ps_while hp ht hB) fun D σ H ⟨H0, g0, gh, ls, d, I, h⟩ => ?_
  obtain ⟨_, h⟩ := (show PostS X.K H0 g0 H gh ((if pubE true a = [] then whileM (fun ls => (ev T.P true a ls).bind fun x => M.lift (truF x)) (fun ls => exs T.P wf B ls) wf ls else M.bad) d) D (exW T W) from h).ite
  generalize hb : whileM (fun ls => (ev T.P true a ls).bind fun x => M.lift (truF x)) (fun ls => exs T.P wf B ls) = w at h
  refine ⟨fun m σ H => ∃ g ls d, SI X.K H0 g0 H g d ls σ ∧ PostS X.K H0 g0 H g (w m ls d) D (exW T W), ⟨wf, gh, ls, d, I, h⟩, ?_⟩
  rintro m σ1 H1 ⟨g1, ls1, d1, I1, h1⟩
  cases m with
  | zero => rw [← hb] at h1; exact h1.elim
  | succ n =>
    rw [← hb] at h1
    have h1 : PostS X.K H0 g0 H1 g1 ((((ev T.P true a ls1).bind fun x => M.lift (truF x)).bind fun k => if k = true then (exs T.P wf B ls1).bind fun
      | .nx ls' => w n ls'
      | .ct ls' => w n ls'
      | .bk ls' => M.pure (.nx ls')
      | .rt v => M.pure (.rt v)
    else M.pure (.nx ls1)) d1) D (exW T W) := by rw [← hb]; exact h1
    refine ⟨g1, ls1, d1, I1.gok, I1.rel, (PostS.bind (R := RelK) I1 h1).imp fun k H2 ⟨k', g2, d2, e2, I2, r2, h2⟩ => ?_⟩
    obtain rfl : k = k' := r2
    cases k with
    | false => exact PostS.nx I2 h2
    | true =>
      rw [if_pos rfl] at h2 ⊢
      refine ⟨fun σ H => ∃ g ls d, SI X.K H0 g0 H g d ls σ ∧ PostS X.K H0 g0 H g (w n ls d) D (exW T W), fun σ' H' h' => ⟨n, Nat.lt_succ_self _, h'⟩, H0, g0, g2, ls1, d2, I2, ?_⟩
      have hs := PostS.seq (k := fun fl => match fl with
        | .nx ls' => w n ls'
        | .ct ls' => w n ls'
        | .bk ls' => M.pure (.nx ls')
        | .rt v => M.pure (.rt v)) (fun v => rfl) h2
      exact hs.ends (fun σ4 H4 ⟨g4, ls4, d4, I4, m4, h4⟩ => ⟨g4, ls4, d4, I4, h4⟩) (fun x H4 ⟨v, g4, d4, k1, k2, k3, k4⟩ => k4 x H4 g4 k1 k2 k3) (fun σ4 H4 ⟨g4, ls4, d4, I4, m4, h4⟩ => PostS.nx I4 h4) (fun σ4 H4 ⟨g4, ls4, d4, I4, m4, h4⟩ => ⟨g4, ls4, d4, I4, h4⟩)
theorem ssNil : PSs X [] (tS T W X.K (exs T.P wf .nil)) := PSs.conv pss_nil fun D σ H ⟨H0, g0, gh, ls, d, I, h⟩ => PostS.nx I h
theorem ssCons {s : FW.S} {rs : Ss} {st : Stmt} {sts : List Stmt} (h1 : PS X st (tS T W X.K (ex T.P wf s))) (h2 : PSs X sts (tS T W X.K (exs T.P wf rs))) : PSs X (st :: sts) (tS T W X.K (exs T.P wf (.cons s rs))) := by
  refine PSs.conv (pss_cons h1 h2) fun D σ H ⟨H0, g0, gh, ls, d, I, h⟩ => ⟨H0, g0, gh, ls, d, I, ?_⟩
  have hs := PostS.seq (k := fun fl => match fl with
    | .nx ls' => exs T.P wf rs ls'
    | f => M.pure f) (fun v => rfl) h
  exact hs.ends (fun σ4 H4 ⟨g4, ls4, d4, I4, m4, h4⟩ => ⟨H0, g0, g4, ls4, d4, I4, h4⟩) (fun x H4 ⟨v, g4, d4, k1, k2, k3, k4⟩ => k4 x H4 g4 k1 k2 k3) (fun σ4 H4 ⟨g4, ls4, d4, I4, m4, h4⟩ => h4 σ4 H4 g4 I4 Mono.refl) (fun σ4 H4 ⟨g4, ls4, d4, I4, m4, h4⟩ => h4 σ4 H4 g4 I4 Mono.refl)
/-! ### new things of one's own -/
theorem lc_parts {g : G} {it : I} {cc : C} {own : List Nat} {x : Expr} (h : chkE T.ps S (.lc a g it cc own) x = true) : ∃ elt tg iter ifs scope p, x = .ListComp elt [⟨tg, iter, ifs, 0⟩] scope p ∧ chkI T.ps S tg it iter = true ∧ notSet iter = true ∧ chkBlk S scope own = true ∧ chkG (S.blk scope) g tg = true ∧ (slotsG g).all (own.contains ·) = true ∧ chkC T.ps (S.blk scope) cc ifs = true ∧ chkE T.ps (S.blk scope) a elt = true := by
  simp only [chkE] at h
  cases q : vLc x with
  | none => rw [q] at h; cases h
  | some z =>
    obtain ⟨elt, gs, scope⟩ := z
    rw [q] at h
    obtain ⟨p, rfl⟩ := vLc_of q
    match gs, h with
    | [⟨tg, iter, ifs, 0⟩], h =>
      simp only [Bool.and_eq_true] at h
      obtain ⟨⟨⟨⟨⟨⟨h0, h1⟩, h2⟩, h3⟩, h4⟩, h5⟩, h6⟩ := h
      exact ⟨elt, tg, iter, ifs, scope, p, rfl, h0, h1, h2, h3, h4, h5, h6⟩
theorem lc2_parts {g g2 : G} {it it2 : I} {cc c2 : C} {own own2 fr : List Nat} {x : Expr} (h : chkE T.ps S (.lc2 a g it cc g2 it2 c2 own own2 fr) x = true) : ∃ elt tg iter ifs tg2 iter2 ifs2 scope p, x = .ListComp elt [⟨tg, iter, ifs, 0⟩, ⟨tg2, iter2, ifs2, 0⟩] scope p ∧
    (chkI T.ps S tg it iter = true ∧ notSet iter = true ∧ chkBlk S scope own = true ∧ chkG (S.blk scope) g tg = true ∧ (slotsG g).all (own.contains ·) = true ∧ chkC T.ps (S.blk scope) cc ifs = true) ∧
    chkI T.ps (S.blk scope) tg2 it2 iter2 = true ∧ notSet iter2 = true ∧ chkG (S.blk scope) g2 tg2 = true ∧ (slotsG g2).all (own2.contains ·) = true ∧ own2.all (own.contains ·) = true ∧ chkC T.ps (S.blk scope) c2 ifs2 = true ∧ chkE T.ps (S.blk scope) a elt = true := by
  simp only [chkE] at h
  cases q : vLc x with
  | none => rw [q] at h; cases h
  | some z =>
    obtain ⟨elt, gs, scope⟩ := z
    rw [q] at h
    obtain ⟨p, rfl⟩ := vLc_of q
    match gs, h with
    | [⟨tg, iter, ifs, 0⟩, ⟨tg2, iter2, ifs2, 0⟩], h =>
      simp only [Bool.and_eq_true] at h
      obtain ⟨⟨⟨⟨⟨⟨h0, h1⟩, h2⟩, h3⟩, h4⟩, h5⟩, ⟨⟨⟨⟨⟨⟨k0, k1⟩, k3⟩, k4⟩, k5⟩, k6⟩, h6⟩⟩ := h
      exact ⟨elt, tg, iter, ifs, tg2, iter2, ifs2, scope, p, rfl, ⟨h0, h1, h2, h3, h4, h5⟩, k0, k1, k3, k4, k5, k6, h6⟩
/-- list(x), its maker's own -/
def rB1F (K : PySem.W.Frag) (f : PV → Option PV) : List V → Hp → VK → Prop := fun xs H Q => ∃ Hs g d EX p x w, xs = [x] ∧ GOk K H g d ∧ (∀ a, H a = none → Hs a = none) ∧ RelB K H g p x ∧ f p = some w ∧ Post K H g (RelF K Hs) (M.pure w d) Q EX
theorem Post.newF {K : PySem.W.Frag} {Hs H : Hp} {g : Gh} {d : DS} {Q : V → Hp → Prop} {EX : Hp → Gh → Exc → Prop} {ps : List PV} {vs : List V} (h : Post K H g (RelF K Hs) (M.pure (.lst ps) d) Q EX) (G : GOk K H g d) (hs : ∀ a, H a = none → Hs a = none) (r : RelPs K H g ps vs) (q : Addr) (hq : H q = none) : Q (.ref q) (upd H q (.lst vs)) := by
  have e := Ext.alloc (o := .lst vs) G hq
  exact h _ g _ e (G.alloc hq) ⟨q, rfl, hs q hq, fun z => G.fzT _ z hq, fun z => G.trk z hq, vs, upd_same, r.ext e⟩
theorem call_listFF : CallR X (.type "list") (rB1F X.K (bi1 "list")) := by
  intro pins s σ H xs us Q I r h
  obtain ⟨Hs, g, d, EX, p, x, w, rfl, G, hs, r1, e, h⟩ := h
  obtain ⟨ps, e1, rfl⟩ := Option.map_eq_some_iff.mp (show (seqOf p).map .lst = some w from e)
  obtain ⟨a, vs, rfl, h2, h3⟩ := seq_of e1 r1
  refine call_list_of pins s σ H _ us Q I r ⟨a, vs, rfl, ?_, fun p hp => h.newF G hs h2 p hp⟩
  rcases h3 with ⟨_, h3⟩ | ⟨_, h3⟩
  · exact .inl h3
  · exact .inr h3
theorem peListF (ok : XOk X T S W) {es : Es} {p : Pos} {rs : List Expr} (h1 : glB S.sc (Str.ofString "list") = true) (h4 : (e :: rs).all notStar = true) (ha : PA X (e :: rs) (tBs T W X.K es)) : PE X (.Call (.Name (Str.ofString "list") p) (e :: rs) [] pos) (tF T W X.K (ev T.P false (.bi "list" es))) := by
  have h4' := h4
  simp only [List.all_cons, Bool.and_eq_true] at h4'
  refine PE.conv (pe_callTy call_listFF (gl_of ok h1) (ok.bi "list" (by decide)) PyProof.Rows.boot_list ha (by decide) (by decide) (starEach_plain h4'.1 _ _) (starEach_any h4'.2 _ _)) fun σ H Q ⟨g, ls, d, G, L, h⟩ => ⟨g, ls, d, G, L, (Post.bind (R := fun H g => RelBs X.K H g) h).imp fun xs H1 ⟨vs, g1, d1, e1, G1, r1, h1⟩ => ?_⟩
  obtain ⟨w, e2, h2⟩ := h1.lift
  cases vs with
  | nil => cases e2
  | cons v1 vs =>
    obtain ⟨y, t, rfl, r2, r3⟩ := r1
    cases vs with
    | nil =>
      cases r3
      exact ⟨H, g1, d1, _, v1, y, w, rfl, G1, fun a hn => Classical.byContradiction fun n => e1.there a n hn, r2, e2, h2⟩
    | cons v2 vs =>
      cases vs with
      | nil => exact absurd (show (none : Option PV) = some w from e2) (by simp)
      | cons _ _ => cases e2
def isFr : E → Bool
  | .lst _ => true
  | .lc _ _ _ _ _ => true
  | .lc2 _ _ _ _ _ _ _ _ _ _ => true
  | .bi b _ => b == "list"
  | _ => false
theorem simF (ok : XOk X T S W) (hf : isFr a = true) (h : chkE T.ps S a e = true) : PE X e (tF T W X.K (ev T.P false a)) := by
  cases a with
  | lst es =>
    simp only [chkE] at h
    cases q : vLst e with
    | none => rw [q] at h; cases h
    | some l =>
      rw [q] at h
      obtain ⟨p, rfl⟩ := vLst_of q
      exact peLstF (simEs es ok h)
  | lc a g it cc own =>
    obtain ⟨elt, tg, iter, ifs, scope, p, rfl, h0, h1, h2, h3, h4, h5, h6⟩ := lc_parts h
    exact PE.conv (peLc ok (simI it ok true h0) h1 h2 (fun ok' => sG ok' h3) (fun ok' => simC cc ok' h5) (fun ok' => simE a ok' false h6)) fun σ H Q h => rdLcO h4 h
  | lc2 a g it cc g2 it2 c2 own own2 fr =>
    obtain ⟨elt, tg, iter, ifs, tg2, iter2, ifs2, scope, p, rfl, ⟨h0, h1, h2, h3, h4, h5⟩, k0, k1, k3, k4, k5, k6, h6⟩ := lc2_parts h
    exact PE.conv (peLc2 ok (simI it ok true h0) h1 h2 k5 k1 (fun ok' => sG ok' h3) (fun ok' => simC cc ok' h5) (fun ok' => simI it2 ok' false k0) (fun ok' => sG ok' k3) (fun ok' => simC c2 ok' k6) (fun ok' => simE a ok' false h6)) fun σ H Q h => rdLc2O h4 k4 h
  | bi f es =>
    have hf : f = "list" := eq_of_beq hf
    subst hf
    simp only [chkE] at h
    cases q : vCall e with
    | none => rw [q] at h; cases h
    | some z =>
      obtain ⟨g, as⟩ := z
      rw [q] at h
      obtain ⟨p, p2, rfl⟩ := vCall_of q
      match as, h with
      | a :: as, h =>
        simp only [Bool.and_eq_true, decide_eq_true_eq] at h
        obtain ⟨⟨⟨⟨⟨⟨h0, h1⟩, h2⟩, h3⟩, h4⟩, h5⟩, h6⟩ := h
        subst h0
        exact peListF ok h1 h5 (simBs es ok h5 h6)
  | _ => cases hf
theorem simMd (ok : XOk X T S W) {f : Bool} (hf : (!f || isFr a) = true) (h : chkE T.ps S a e = true) : PE X e (tMd T W X.K f (ev T.P false a)) := by
  cases f with
  | false => exact md_f (simE a ok false h)
  | true => exact md_t (simF ok (by simpa using hf) h)
end
end FW
namespace FW
open PySem PySem.Spec PyProof.Rows L2
section
variable {K : PySem.W.Frag} {H0 H : Hp} {g0 g : Gh} {d d' : DS} {ls : List Slot} {σ : L2.St}
/-- the draws' own objects change -/
theorem siDr (I : SI K H0 g0 H g d ls σ) {a : Addr} {o o' : HO} (ha : g.isD a) (h : H a = some o) (ht : ∀ xs, o ≠ .tup xs) (hf : ∀ b u, o ≠ .frz b u) (hd : DrOk K (L2.upd H a o') g.dr d') :
    SI K H0 g0 (L2.upd H a o') g d' ls σ ∧ Mono H g (L2.upd H a o') g := by
  have nF : ¬ g.fz a := fun z => I.gok.fzD a z ha
  have m : Mono H g (L2.upd H a o') g := Mono.upd h ht hf nF
  have old : ∀ b, H0 b ≠ none → ¬ g0.isD b → b ≠ a := fun b hb n e => by
    subst e
    rcases I.ext.drn _ ha with z | z
    · exact n z
    · exact hb z
  refine ⟨⟨⟨fun b u q n => ?_, fun b xs q => m.tups b xs (I.ext.tups b xs q), fun b c u q => m.frzs b c u (I.ext.frzs b c u q), fun b q => ?_, fun b q => ⟨(I.ext.fz b q).1, (m.fz b (I.ext.fz b q).1).2.trans (I.ext.fz b q).2⟩, I.ext.new, I.ext.dr, I.ext.drn⟩,
    ⟨I.gok.fzD, fun b q => by rw [upd_ne (fun z => by subst z; exact nF q)]; exact I.gok.fzT b q, I.gok.ceF, hd⟩,
    I.rel.mono m fun i p b q1 q2 r => RelO'.upd m (fun z => by subst z; exact r.nD.1 ha) r, I.new⟩, m⟩
  · rw [upd_ne (old b (by rw [q]; simp) n)]; exact I.ext.keep b u q n
  · by_cases e : b = a
    · subst e; rw [upd_same]; simp
    · rw [upd_ne e]; exact I.ext.there b q
theorem put_rest (x y z w v : V) : L2.putK (drL x y z w) (strK "rest") v = drL x v z w := by
  unfold L2.putK drL
  simp only [List.any_cons, List.any_nil, List.map_cons, List.map_nil, ne4.1, ne4.2.2.2.2.2.2.2.2.1, ne4.2.2.2.2.2.2.2.2.2.2.1, decide_true, decide_false, Bool.or_true, Bool.true_or, Bool.false_or, if_true, if_false]
theorem put_turn (x y z w v : V) : L2.putK (drL x y z w) (strK "turn") v = drL x y z v := by
  unfold L2.putK drL
  simp only [List.any_cons, List.any_nil, List.map_cons, List.map_nil, ne4.2.2.1, ne4.2.2.2.2.2.1, ne4.2.2.2.2.2.2.1, decide_true, decide_false, Bool.or_true, Bool.true_or, Bool.false_or, if_true, if_false]
theorem merge4 (x y z w : V) : mergeK [] (drL x y z w) = drL x y z w := by
  unfold mergeK drL
  simp only [List.foldl_cons, List.foldl_nil]
  unfold L2.putK
  simp only [List.any_cons, List.any_nil, List.map_cons, List.map_nil, List.append_nil, List.nil_append, List.cons_append, ne4.1, ne4.2.1, ne4.2.2.1, ne4.2.2.2.2.1, ne4.2.2.2.2.2.1, ne4.2.2.2.2.2.2.1, decide_true, decide_false, Bool.or_true, Bool.true_or, Bool.false_or, Bool.or_false, Bool.false_eq_true, if_true, if_false]
/-- a slot out of sight -/
theorem LRel.hide (L : LRel K H g ls σ) (i : Nat) : LRel K H g (ls.set i Option.none) σ := by
  have hne : ∀ {j : Nat} {s : Bool × PV}, (ls.set i Option.none)[j]? = some (some s) → ls[j]? = some (some s) := fun {j s} h => by
    by_cases e : i = j
    · subst e
      by_cases hi : i < ls.length
      · rw [List.getElem?_set_self hi] at h; cases h
      · rw [List.getElem?_eq_none (by rw [List.length_set]; omega)] at h; cases h
    · rw [List.getElem?_set_ne e] at h; exact h
  exact ⟨by rw [List.length_set]; exact L.len, fun j p h => L.val j p (hne h), fun j p h => L.own j p (hne h), fun j k p q a h1 h2 => L.dis j k p q a (hne h1) (hne h2)⟩
end
section
variable {X : Cx} {T : Tab} {S : NS} {W : WX} {e l r tg : Expr} {a c : E} {pos : Pos} {wf : Nat}
theorem sNev {st : Stmt} : PS X st (tS T W X.K (ex T.P wf .nev)) := PS.conv ps_never fun D σ H ⟨H0, g0, gh, ls, d, I, h⟩ => h
theorem setF_rest (q : Draw) (k : Int) : q.setF k 0 = { q with rest := k } := rfl
theorem rd_of {ls : List Slot} {i : Nat} {p : PV} (h : rd true i ls = some p) : ∃ b, ls[i]? = some (some (b, p)) := by
  unfold rd at h
  split at h
  · rename_i own v q
    simp at h
    subst h
    exact ⟨own, q⟩
  · cases h
theorem sDrset {i f : Nat} {x : Str} {p p1 p2 : Pos} {k : Nat} (ok : XOk X T S W) (h1 : chkNm S i x = true) (h2 : visB S.sc x = true) (hf : f < 2) (hn : notComp e = true) (ha : PE X e (tE T W X.K true (ev T.P true a))) :
    PS X (.Assign [.Subscript (.Name x p) (.Constant (.str (drKey f)) k p2) p1] e pos) (tS T W X.K (ex T.P wf (.drset i f a))) := by
  unfold chkNm at h1
  simp only [Bool.and_eq_true, decide_eq_true_eq] at h1
  obtain ⟨n1, n2, _⟩ := nmOk_of h1.2
  have pv := pe_var (pos := p) (i := i) (by rw [ok.hN]; exact h1.1) (by rw [ok.hsc]; exact vis_of h2) n1 n2
  refine PS.conv (ps_dput (by have := ok.un; omega) pv pe_str ha (swOff hn _ _ _)) fun D σ H ⟨H0, g0, gh, ls, d, I, h⟩ => ?_
  refine ⟨gh, ls, d, I.gok, I.rel, (PostS.bind (R := RelX X.K true) I h).imp fun y H1 ⟨v, g1, d1, e1, I1, r1, h1⟩ => ?_⟩
  obtain ⟨xv, hx, h1⟩ := h1.liftB
  obtain ⟨bb, hx⟩ := rd_of hx
  obtain ⟨z, z1, z2⟩ := I1.rel.b I1.gok hx
  cases xv with
  | drw =>
    obtain ⟨E, q, k1, rfl, rfl, m1, m2, m3, k2, k3, k4, k5⟩ := drw_of I1.gok z2
    cases v with
    | int n =>
      have h1 : PostS X.K H0 g0 H1 g1 (M.pure (.nx ls) (some (q.setF n f))) D (exW T W) := h1
      refine ⟨_, z1, E.a, upd H1 E.a (.dK (L2.putK (drL (.ref E.gr) (.int q.rest) (.ref E.ce) (.int q.turn)) (.inr (drKey f)) y)), rfl, .inl ⟨_, .inr (drKey f), k2, rfl, by show 4 < sizeLine; decide, rfl⟩, ?_⟩
      rw [(r1.toB I1.gok).int]
      have hdr : DrOk X.K (L2.upd H1 E.a (.dK (L2.putK (drL (.ref E.gr) (.int q.rest) (.ref E.ce) (.int q.turn)) (.inr (drKey f)) (.int n)))) g1.dr (some (q.setF n f)) := by
        rw [k1]
        match f, hf with
        | 0, _ => exact ⟨m1, m2, m3, by rw [upd_same]; exact congrArg (fun z => some (HO.dK z)) (put_rest _ _ _ _ _), by rw [upd_ne m1.symm]; exact k3, by rw [upd_ne m2]; exact k4⟩
        | 1, _ => exact ⟨m1, m2, m3, by rw [upd_same]; exact congrArg (fun z => some (HO.dK z)) (put_turn _ _ _ _ _), by rw [upd_ne m1.symm]; exact k3, by rw [upd_ne m2]; exact k4⟩
      obtain ⟨I2, mo⟩ := siDr I1 ⟨E, k1, .inl rfl⟩ k2 (fun _ z => by cases z) (fun _ _ z => by cases z) hdr
      exact PostS.nx I2 (h1.to mo)
    | _ => exact h1.elim
  | _ => exact h1.elim
theorem sDrpop {i : Nat} {x : Str} {p p0 p1 p2 p3 p4 p5 ap cp : Pos} {k k2 k3 : Nat} (ok : XOk X T S W) (h1 : chkNm S i x = true) (h2 : visB S.sc x = true) (hl : (ap.endLine == cp.line) = true) :
    PS X (.Assign [.Subscript (.Name x p) (.Constant (.str ("rest" : Str)) k p2) p1] (.Call (.Attribute (.Subscript (.Name x p0) (.Constant (.str ("great" : Str)) k2 p3) p4) ("pop" : Str) ap) [.Constant (.int 0) k3 p5] [] cp) pos) (tS T W X.K (ex T.P wf (.drpop i))) := by
  unfold chkNm at h1
  simp only [Bool.and_eq_true, decide_eq_true_eq] at h1
  obtain ⟨n1, n2, _⟩ := nmOk_of h1.2
  have pv := pe_var (pos := p) (i := i) (by rw [ok.hN]; exact h1.1) (by rw [ok.hsc]; exact vis_of h2) n1 n2
  have pv2 := pe_var (pos := p0) (i := i) (by rw [ok.hN]; exact h1.1) (by rw [ok.hsc]; exact vis_of h2) n1 n2
  have hu : X.A.units + 1 < cLine := by have := ok.un; omega
  refine PS.conv (ps_dput hu pv pe_str (pe_bm (cpos := cp) PySem.F.plainAttrs_list PySem.F.slot_list_pop PySem.F.type_list_pop mt_popAt (pe_dget hu pv2 pe_str (noSl rfl)) (pa_cons pe_int pa_nil rfl) rfl (few1 rfl) hl rfl rfl) rfl) fun D σ H ⟨H0, g0, gh, ls, d, I, h⟩ => ?_
  obtain ⟨xv, hx, h⟩ := h.liftB
  obtain ⟨bb, hx⟩ := rd_of hx
  obtain ⟨z, z1, z2⟩ := I.rel.b I.gok hx
  cases xv with
  | drw =>
    obtain ⟨E, q, k1, rfl, rfl, m1, m2, m3, k2', k3', k4, k5⟩ := drw_of I.gok z2
    cases hg : q.great with
    | nil =>
      exfalso
      have e : drPop .drw (some q) = .bad := by unfold drPop; simp only [hg]
      unfold M.bind at h
      rw [e] at h
      exact h
    | cons n gs =>
      have e : drPop .drw (some q) = .ok () (some { q with great := gs, rest := n }) := by unfold drPop; simp only [hg]
      unfold M.bind at h
      rw [e] at h
      have h : PostS X.K H0 g0 H gh (M.pure (.nx ls) (some { q with great := gs, rest := n })) D (exW T W) := h
      rw [hg] at k3'
      have hsi : seqIndex? 0 (V.int n :: gs.map V.int).length = some 0 := by unfold seqIndex?; simp
      have k3'' : H E.gr = some (.lst (V.int n :: gs.map V.int)) := k3'
      refine ⟨_, z1, E.a, .ref E.gr, rfl, .inl ⟨_, strK "great", .inl k2', rfl, (get_great _ _ _ _).symm⟩, .inl ⟨rfl, _, SqL.of k3''⟩, E.gr, _, 0, 0, .int n, rfl, rfl, k3'', by decide, by decide, hsi, rfl, ?_⟩
      have hne : E.a ≠ E.gr := m1
      have k6 : (L2.upd H E.gr (.lst (gs.map V.int))) E.a = some (.dK (drL (.ref E.gr) (.int q.rest) (.ref E.ce) (.int q.turn))) := by rw [upd_ne hne]; exact k2'
      refine ⟨_, z1, E.a, _, rfl, .inl ⟨_, strK "rest", k6, rfl, by show 4 < sizeLine; decide, rfl⟩, ?_⟩
      have hd1 : DrOk X.K (L2.upd H E.gr (.lst (gs.map V.int))) gh.dr (some { q with great := gs }) := by
        rw [k1]
        exact ⟨m1, m2, m3, k6, upd_same, by rw [upd_ne m3]; exact k4⟩
      obtain ⟨I2, mo⟩ := siDr I ⟨E, k1, .inr rfl⟩ k3'' (fun _ z => by cases z) (fun _ _ z => by cases z) hd1
      have hd2 : DrOk X.K (L2.upd (L2.upd H E.gr (.lst (gs.map V.int))) E.a (.dK (L2.putK (drL (.ref E.gr) (.int q.rest) (.ref E.ce) (.int q.turn)) (strK "rest") (.int n)))) gh.dr (some { q with great := gs, rest := n }) := by
        rw [k1]
        refine ⟨m1, m2, m3, ?_, ?_, ?_⟩
        · rw [upd_same]; exact congrArg (fun z => some (HO.dK z)) (put_rest _ _ _ _ _)
        · rw [upd_ne m1.symm]; exact upd_same
        · rw [upd_ne m2, upd_ne m3]; exact k4
      obtain ⟨I3, mo2⟩ := siDr I2 ⟨E, k1, .inl rfl⟩ k6 (fun _ z => by cases z) (fun _ _ z => by cases z) hd2
      exact PostS.nx I3 (h.to (mo.trans mo2))
  | _ => exact h.elim
theorem ints_of : ∀ {ps : List PV} {ns : List Int}, intPV ps = some ns → ps = ns.map .int
  | [], ns, h => by cases h; rfl
  | .int k :: ps, ns, h => by
    obtain ⟨ms, h1, rfl⟩ := Option.map_eq_some_iff.mp (show (intPV ps).map (k :: ·) = some ns from h)
    rw [ints_of h1]; rfl
  | .non :: _, _, h => by cases h
  | .bl _ :: _, _, h => by cases h
  | .str _ :: _, _, h => by cases h
  | .tup _ :: _, _, h => by cases h
  | .lst _ :: _, _, h => by cases h
  | .dct _ _ _ :: _, _, h => by cases h
  | .drw :: _, _, h => by cases h
  | .scr _ :: _, _, h => by cases h
theorem drNew_ok {gs : List PV} {v : PV} {d : DS} (h : drNew gs v d ≠ .bad) : ∃ cs ns ms, v = .lst cs ∧ d = none ∧ intPV gs = some ns ∧ intPV cs = some ms ∧ drNew gs v d = .ok () (some ⟨ns, 0, ms, 0⟩) := by
  unfold drNew at h ⊢
  cases v with
  | lst cs =>
    cases d with
    | some q => exact absurd rfl h
    | none =>
      cases hn : intPV gs with
      | none => exact absurd (by simp only [hn]) h
      | some ns =>
        cases hm : intPV cs with
        | none => exact absurd (by simp only [hn, hm]) h
        | some ms => exact ⟨cs, ns, ms, rfl, rfl, rfl, hm, by simp only [hn, hm]⟩
  | _ => exact absurd rfl h
theorem sDrnew {i : Nat} {x : Str} {p q1 q2 q3 q4 q5 q6 dp : Pos} {k1 k2 k3 k4 k5 k6 : Nat} (ok : XOk X T S W) (h1 : chkNm S i x = true) (h2 : visB S.sc x = true) (ha : PE X e (tE T W X.K false (ev T.P false a))) :
    PS X (.Return (some (.Dict [some (.Constant (.str ("great" : Str)) k1 q1), some (.Constant (.str ("rest" : Str)) k2 q2), some (.Constant (.str ("cells" : Str)) k3 q3), some (.Constant (.str ("turn" : Str)) k4 q4)]
      [.Name x p, .Constant (.int 0) k5 q5, e, .Constant (.int 0) k6 q6] dp)) pos) (tS T W X.K (ex T.P wf (.drnew i a))) := by
  unfold chkNm at h1
  simp only [Bool.and_eq_true, decide_eq_true_eq] at h1
  obtain ⟨n1, n2, _⟩ := nmOk_of h1.2
  have pv := pe_var (pos := p) (i := i) (by rw [ok.hN]; exact h1.1) (by rw [ok.hsc]; exact vis_of h2) n1 n2
  refine PS.conv (ps_ret (pe_disp (pps_cons pe_str pv (pps_cons pe_str pe_int (pps_cons pe_str ha (pps_cons pe_str pe_int pps_nil)))) rfl rfl (by simp) (by show 4 ≤ 15; decide))) fun D σ H ⟨H0, g0, gh, ls, d, I, h⟩ => ?_
  obtain ⟨gs, hgs, h⟩ := h.liftB
  obtain ⟨b, z1, z2⟩ := I.rel.own i _ (ownL_of hgs)
  have hb0 := I.new i _ b (ownL_of hgs) z1
  intro p hp
  have e0 := Ext.alloc (o := .dK []) I.gok hp
  have G0 := I.gok.alloc (o := .dK []) hp
  have nfp : ¬ gh.fz p := fun z => I.gok.fzT _ z hp
  have ndp : ¬ gh.isD p := fun z => I.gok.trk z hp
  have hp0 : H0 p = none := Classical.byContradiction fun n => I.ext.there p n hp
  have J : SI X.K H0 g0 (L2.upd H p (.dK [])) gh d (ls.set i none) σ := by
    refine ⟨I.ext.trans e0, G0, (I.rel.ext e0).hide i, fun j q a' h h' => ?_⟩
    by_cases e : i = j
    · subst e
      by_cases hi : i < ls.length
      · rw [List.getElem?_set_self hi] at h; cases h
      · rw [List.getElem?_eq_none (by rw [List.length_set]; omega)] at h; cases h
    · rw [List.getElem?_set_ne e] at h
      exact I.new j q a' h h'
  refine ⟨_, z1, gh, ls.set i none, d, J.gok, J.rel, (PostS.bind (R := RelX X.K false) J (h.to e0.mono)).imp fun y H1 ⟨v, g1, d1, e1, I1, r1, h1⟩ => ?_⟩
  have z3 := (z2.ext e0).ext e1
  obtain ⟨f1, f2, vs, f3, f4⟩ := z3
  have hpp : (L2.upd H p (.dK [])) p = some (.dK []) := upd_same
  have hp1 : H1 p = some (.dK []) := e1.keep p _ hpp ndp
  refine ⟨hp1, ?_⟩
  unfold M.bind at h1
  obtain ⟨cs, ns, ms, rfl, rfl, hn, hm, e⟩ := drNew_ok (gs := gs) (v := v) (d := d1) (fun z => by rw [z] at h1; exact h1)
  rw [e] at h1
  have h1 : PostS X.K H0 g0 H1 g1 (M.pure (.rt .drw) (some ⟨ns, 0, ms, 0⟩)) D (exW T W) := h1
  have hdn : g1.dr = none := by
    have z := I1.gok.dr
    cases hh : g1.dr with
    | none => rfl
    | some D => rw [hh] at z; exact z.elim
  obtain ⟨ce, ws, rfl, c1, c2, c3⟩ := r1
  obtain rfl := ints_of hn
  obtain rfl := ints_of hm
  have hw := rel_ints hm c3
  have hvs := rel_ints hn f4
  subst hw hvs
  have npb : p ≠ b := fun z => by subst z; exact z2.there hp
  have nfp1 : ¬ g1.fz p := fun z => by
    rcases e1.new p z with z | z
    · exact nfp z
    · rw [hpp] at z; cases z
  have npc : p ≠ ce := fun z => nfp1 (by rw [z]; exact c1)
  have nbc : b ≠ ce := fun z => f1 (by rw [z]; exact c1)
  refine ⟨drL (.ref b) (.int 0) (.ref ce) (.int 0), rfl, by show 4 ≤ 15; decide, ?_⟩
  rw [merge4]
  let g' : Gh := { g1 with dr := some ⟨p, b, ce⟩ }
  have E3 : Ext H0 g0 (L2.upd H1 p (.dK (drL (.ref b) (.int 0) (.ref ce) (.int 0)))) g1 := I1.ext.upd hp0 nfp1
  refine h1 (.ref p) _ g' ⟨E3.keep, E3.tups, E3.frzs, E3.there, E3.fz, E3.new, fun D hD => ?_, fun a' hD => ?_⟩ ⟨fun a' hf hD => ?_, fun a' hf => ?_, fun E hE => ?_, ?_⟩ ⟨⟨p, b, ce⟩, rfl, rfl⟩
  · have := E3.dr D hD
    rw [hdn] at this; cases this
  · obtain ⟨D, hD, hh⟩ := hD
    cases hD
    rcases hh with hh | hh
    · exact .inr (by rw [hh]; exact hp0)
    · exact .inr (by rw [hh]; exact hb0)
  · obtain ⟨D, hD, hh⟩ := hD
    cases hD
    rcases hh with hh | hh
    · exact nfp1 (by rw [← (show a' = p from hh)]; exact hf)
    · exact f1 (by rw [← (show a' = b from hh)]; exact hf)
  · rw [upd_ne (fun z => nfp1 (by rw [← z]; exact hf))]
    exact I1.gok.fzT a' hf
  · cases hE; exact c1
  · exact ⟨npb, npc.symm, nbc.symm, upd_same, by rw [upd_ne npb.symm]; exact f3, by rw [upd_ne npc.symm]; exact c2⟩
end
end FW
namespace FW
open PySem PySem.Spec PyProof.Rows L2
def isLcA : E → Bool
  | .lc _ _ _ _ _ => true
  | .lc2 _ _ _ _ _ _ _ _ _ _ => true
  | _ => false
def okSet (S : NS) (a : E) (t v : Expr) : Bool := match vTup t with
  | some ts => match vTup v with
    | some vs => decide (swC S.sc ts vs = some none)
    | none => true
  | none => notComp v || isLcA a
def isLoc (S : NS) (x : Str) : Bool := S.sc.names.lookup x == some .local
def chkMeth (S : NS) (i : Nat) (m : Str) (e : Expr) : Option (List Expr) := match vMeth e with
  | some (o, m', ap, as, cp) => match vName o with
    | some x => if decide (m' = m) && chkNm S i x && visB S.sc x && ap.endLine == cp.line then some as else none
    | none => none
  | none => none
def swapOk (S : NS) (ts vs : List Expr) (xs : List Str) : Bool := xs.all (isLoc S) && decide (swC S.sc ts vs = some (some xs))
def chkPar2 (T : PsT) (S : NS) (i j : Nat) (f1 f2 : Bool) (a c : E) (t1 t2 v1 v2 : Expr) : Bool := match vName t1, vName t2 with
  | some x, some y => chkGs S [i, j] [t1, t2] && decide (S.N[i]? = some x) && decide (S.N[j]? = some y) && decide (i ≠ j) && notStar v1 && notStar v2 && (!f1 || isFr a) && (!f2 || isFr c) && chkE T S a v1 && chkE T S c v2 &&
      (swapOk S [t1, t2] [v1, v2] [x, y] || decide (swC S.sc [t1, t2] [v1, v2] = some none))
  | _, _ => false
def chkPar3 (T : PsT) (S : NS) (i j k : Nat) (f1 f2 f3 : Bool) (a c c2 : E) (t1 t2 t3 v1 v2 v3 : Expr) : Bool := match vName t1, vName t2, vName t3 with
  | some x, some y, some z => chkGs S [i, j, k] [t1, t2, t3] && decide (S.N[i]? = some x) && decide (S.N[j]? = some y) && decide (S.N[k]? = some z) && decide (i ≠ j) && decide (i ≠ k) && decide (j ≠ k) && notStar v1 && notStar v2 && notStar v3 &&
      (!f1 || isFr a) && (!f2 || isFr c) && (!f3 || isFr c2) && chkE T S a v1 && chkE T S c v2 && chkE T S c2 v3 &&
      (swapOk S [t1, t2, t3] [v1, v2, v3] [x, y, z] || decide (swC S.sc [t1, t2, t3] [v1, v2, v3] = some none))
  | _, _, _ => false
def chkPar (T : PsT) (S : NS) : List Nat → List Bool → Es → List Expr → List Expr → Bool
  | [i, j], [f1, f2], .cons a (.cons c .nil), [t1, t2], [v1, v2] => chkPar2 T S i j f1 f2 a c t1 t2 v1 v2
  | [i, j, k], [f1, f2, f3], .cons a (.cons c (.cons c2 .nil)), [t1, t2, t3], [v1, v2, v3] => chkPar3 T S i j k f1 f2 f3 a c c2 t1 t2 t3 v1 v2 v3
  | _, _, _, _, _ => false
def isDoc (st : Stmt) : Bool := match vExS st with
  | some (v, _) => (match vConst v with
    | some (.str _) => true
    | _ => false)
  | none => false
def chkDrT (S : NS) (i : Nat) (f : Str) (t : Expr) : Bool := match vSub t with
  | some (o, k) => (match vName o with
    | some x => chkNm S i x && visB S.sc x && cStr f (vConst k)
    | none => false)
  | none => false
theorem chkDrT_of {S : NS} {i : Nat} {f : Str} {t : Expr} (h : chkDrT S i f t = true) : ∃ x p k p2 p1, t = .Subscript (.Name x p) (.Constant (.str f) k p2) p1 ∧ chkNm S i x = true ∧ visB S.sc x = true := by
  unfold chkDrT at h
  cases q : vSub t with
  | none => rw [q] at h; cases h
  | some z =>
    obtain ⟨o, k⟩ := z
    rw [q] at h
    obtain ⟨p1, rfl⟩ := vSub_of q
    simp only at h
    cases q2 : vName o with
    | none => rw [q2] at h; cases h
    | some x =>
      rw [q2] at h
      obtain ⟨p, rfl⟩ := vName_of q2
      simp only [Bool.and_eq_true] at h
      obtain ⟨kk, p2, rfl⟩ := vConst_of (cStr_of h.2)
      exact ⟨x, p, kk, p2, p1, rfl, h.1.1, h.1.2⟩
def vDict4 : Expr → Option ((Expr × Expr × Expr × Expr) × Expr × Expr × Expr × Expr)
  | .Dict [some a, some b, some c, some d] [x, y, z, w] _ => some ((a, b, c, d), x, y, z, w)
  | _ => none
theorem vDict4_of {e a b c d x y z w : Expr} (h : vDict4 e = some ((a, b, c, d), x, y, z, w)) : ∃ p, e = .Dict [some a, some b, some c, some d] [x, y, z, w] p := by
  cases e with
  | Dict ks vs p =>
    unfold vDict4 at h
    split at h
    · rename_i q; cases h; cases q; exact ⟨_, rfl⟩
    · cases h
  | _ => cases h
def chkDrNew (T : PsT) (S : NS) (i : Nat) (a : E) (e : Expr) : Bool := match vDict4 e with
  | some ((k1, k2, k3, k4), x, y, z, w) => cStr ("great" : Str) (vConst k1) && cStr ("rest" : Str) (vConst k2) && cStr ("cells" : Str) (vConst k3) && cStr ("turn" : Str) (vConst k4) && cInt 0 (vConst y) && cInt 0 (vConst w) && chkE T S a z &&
      (match vName x with
      | some n => chkNm S i n && visB S.sc n
      | none => false)
  | none => false
mutual
def chkS (T : PsT) (S : NS) : FW.S → Stmt → Bool
  | .set g a, st => match vAsg st with
    | some (t, v, _) => chkG S g t && chkE T S a v && okSet S a t v
    | none => false
  | .own i a, st => match vAsg st with
    | some (t, v, _) => chkG1 S i t && chkE T S a v && isFr a && (notComp v || isLcA a)
    | none => false
  | .par is fl es, st => match vAsg st with
    | some (t, v, _) => match vTup t, vTup v with
      | some ts, some vs => chkPar T S is fl es ts vs
      | _, _ => false
    | none => false
  | .app i a, st => match vExS st with
    | some (v, _) => match chkMeth S i ("append" : Str) v with
      | some [e] => notStar e && chkE T S a e
      | _ => false
    | none => false
  | .appPop i j a, st => match vExS st with
    | some (v, _) => match chkMeth S i ("append" : Str) v with
      | some [e] => (match chkMeth S j ("pop" : Str) e with
        | some [k] => notStar k && chkE T S a k
        | _ => false)
      | _ => false
    | none => false
  | .setPop i j, st => match vAsg st with
    | some (t, v, _) => chkG1 S i t && (match chkMeth S j ("pop" : Str) v with
      | some [] => true
      | _ => false)
    | none => false
  | .expr a, st => match vExS st with
    | some (v, _) => notComp v && chkE T S a v
    | none => false
  | .ret a, st => match vRet st with
    | some (some v) => chkE T S a v
    | _ => false
  | .retN, st => match vRet st with
    | some none => true
    | _ => false
  | .ife t A B, st => match vIfS st with
    | some (e, xs, ys) => chkE T S t e && tOkE t && chkSs T S A xs && chkSs T S B ys
    | none => false
  | .for_ g it B, st => match vFor st with
    | some (t, i, ys, []) => chkI T S t it i && notSet i && chkG S g t && chkSs T S B ys
    | _ => false
  | .whl t B, st => match vWhl st with
    | some (e, ys, []) => chkE T S t e && tOkE t && chkSs T S B ys
    | _ => false
  | .brk, st => isBrk st
  | .cnt, st => isCnt st
  | .pass, st => isPass st || isDoc st
  | .nev, _ => true
  | .drset i f a, st => match vAsg st with
    | some (t, v, _) => chkDrT S i (drKey f) t && decide (f < 2) && notComp v && chkE T S a v
    | none => false
  | .drpop i, st => match vAsg st with
    | some (t, v, _) => chkDrT S i ("rest" : Str) t && (match vMeth v with
      | some (o, m, ap, [z], cp) => decide (m = ("pop" : Str)) && chkDrT S i ("great" : Str) o && cInt 0 (vConst z) && ap.endLine == cp.line
      | _ => false)
    | none => false
  | .drnew i a, st => match vRet st with
    | some (some e) => chkDrNew T S i a e
    | _ => false
  | _, _ => false
def chkSs (T : PsT) (S : NS) : Ss → List Stmt → Bool
  | .nil, l => l.isEmpty
  | .cons s r, l => match l with
    | x :: xs => chkS T S s x && chkSs T S r xs
    | [] => false
end
section
variable {X : Cx} {T : Tab} {S : NS} {W : WX} {wf : Nat}
theorem chkMeth_of {i : Nat} {m : Str} {e : Expr} {as : List Expr} (h : chkMeth S i m e = some as) : ∃ x p ap cp, e = .Call (.Attribute (.Name x p) m ap) as [] cp ∧ chkNm S i x = true ∧ visB S.sc x = true ∧ (ap.endLine == cp.line) = true := by
  unfold chkMeth at h
  cases q : vMeth e with
  | none => rw [q] at h; cases h
  | some z =>
    obtain ⟨o, m', ap, as', cp⟩ := z
    rw [q] at h
    obtain rfl := vMeth_of q
    simp only at h
    cases q2 : vName o with
    | none => rw [q2] at h; cases h
    | some x =>
      rw [q2] at h
      obtain ⟨p, rfl⟩ := vName_of q2
      simp only at h
      split at h
      · rename_i hc
        cases h
        simp only [Bool.and_eq_true, decide_eq_true_eq] at hc
        obtain ⟨⟨⟨h0, h1⟩, h2⟩, h3⟩ := hc
        subst h0
        exact ⟨x, p, ap, cp, rfl, h1, h2, h3⟩
      · cases h
theorem isLoc_of {x : Str} (h : isLoc S x = true) : S.sc.names.lookup x = some .local := eq_of_beq h
theorem simPar (ok : XOk X T S W) {is : List Nat} {fl : List Bool} {es : Es} {ts vs : List Expr} {k k2 : Nat} {p p2 pos : Pos} (h : chkPar T.ps S is fl es ts vs = true) : PS X (.Assign [.Tuple ts k p] (.Tuple vs k2 p2) pos) (tS T W X.K (ex T.P wf (.par is fl es))) := by
  unfold chkPar at h
  split at h
  · rename_i i j f1 f2 a c t1 t2 v1 v2
    unfold chkPar2 at h
    split at h
    · rename_i x y q1 q2
      obtain ⟨p1, rfl⟩ := vName_of q1
      obtain ⟨p3, rfl⟩ := vName_of q2
      obtain ⟨h, hs⟩ := Bool.and_eq_true_iff.mp h
      simp only [Bool.and_eq_true, decide_eq_true_eq] at h
      obtain ⟨⟨⟨⟨⟨⟨⟨⟨⟨h0, h1⟩, h2⟩, h3⟩, h6⟩, h7⟩, h8⟩, h9⟩, h10⟩, h11⟩ := h
      rcases Bool.or_eq_true_iff.mp hs with hs | hs
      · unfold swapOk at hs
        simp only [List.all_cons, List.all_nil, Bool.and_true, Bool.and_eq_true, decide_eq_true_eq] at hs
        exact sPar2 ok h1 h2 h3 (isLoc_of hs.1.1) (isLoc_of hs.1.2) h6 h7 (simMd ok h8 h10) (simMd ok h9 h11) hs.2
      · exact sParC2 ok h0 h6 h7 (simMd ok h8 h10) (simMd ok h9 h11) (of_decide_eq_true hs)
    · cases h
  · rename_i i j l f1 f2 f3 a c c2 t1 t2 t3 v1 v2 v3
    unfold chkPar3 at h
    split at h
    · rename_i x y z q1 q2 q3
      obtain ⟨p1, rfl⟩ := vName_of q1
      obtain ⟨p3, rfl⟩ := vName_of q2
      obtain ⟨p4, rfl⟩ := vName_of q3
      obtain ⟨h, hs⟩ := Bool.and_eq_true_iff.mp h
      simp only [Bool.and_eq_true, decide_eq_true_eq] at h
      obtain ⟨⟨⟨⟨⟨⟨⟨⟨⟨⟨⟨⟨⟨⟨⟨h0, h1⟩, h2⟩, h3⟩, h4⟩, h5⟩, h6⟩, h10⟩, h11⟩, h12⟩, h13⟩, h14⟩, h15⟩, h16⟩, h17⟩, h18⟩ := h
      rcases Bool.or_eq_true_iff.mp hs with hs | hs
      · unfold swapOk at hs
        simp only [List.all_cons, List.all_nil, Bool.and_true, Bool.and_eq_true, decide_eq_true_eq] at hs
        exact sPar3 ok h1 h2 h3 h4 h5 h6 (isLoc_of hs.1.1) (isLoc_of hs.1.2.1) (isLoc_of hs.1.2.2) h10 h11 h12 (simMd ok h13 h16) (simMd ok h14 h17) (simMd ok h15 h18) hs.2
      · exact sParC3 ok h0 h10 h11 h12 (simMd ok h13 h16) (simMd ok h14 h17) (simMd ok h15 h18) (of_decide_eq_true hs)
    · cases h
  · cases h
theorem chkG_plain {g : G} {t : Expr} (h : chkG S g t = true) : notStar t = true := by
  cases g with
  | nm i => obtain ⟨x, p, rfl, _⟩ := chkG1_of h; rfl
  | tp is => cases t <;> first | rfl | cases h
theorem chkG_form {g : G} {t : Expr} (h : chkG S g t = true) : (∃ i x p, g = .nm i ∧ t = .Name x p) ∨ ∃ is es k p, g = .tp is ∧ t = .Tuple es k p := by
  cases g with
  | nm i => obtain ⟨x, p, rfl, _⟩ := chkG1_of h; exact .inl ⟨i, x, p, rfl, rfl⟩
  | tp is => cases t <;> first | exact .inr ⟨_, _, _, _, rfl, rfl⟩ | cases h
theorem simSet (ok : XOk X T S W) {g : G} {a : E} {t v : Expr} {pos : Pos} (h1 : chkG S g t = true) (h2 : chkE T.ps S a v = true) (h3 : okSet S a t v = true) : PS X (.Assign [t] v pos) (tS T W X.K (ex T.P wf (.set g a))) := by
  have hp := chkG_plain h1
  have hA : (assignEach [t] X.env).map (·.2) = [assign t X.env] := by rw [assignEach_plain hp]; rfl
  rcases chkG_form h1 with ⟨i, x, p, rfl, rfl⟩ | ⟨is, es, k, p, rfl, rfl⟩
  · have h3 : (notComp v || isLcA a) = true := h3
    by_cases hn : notComp v = true
    · exact sSet (simE a ok false h2) (sG ok h1) (swOff hn (some (.Name x p)) pos.line X.env) swNone1 hA
    · have h4 : isLcA a = true := by
        cases hn' : notComp v with
        | true => exact absurd hn' hn
        | false => rw [hn'] at h3; simpa using h3
      cases a with
      | lc a g it cc own =>
        obtain ⟨elt, tg, iter, ifs, scope, p2, rfl, h0, h1', h2', h3', h4', h5, h6⟩ := lc_parts h2
        exact PS.conv (psLc ok h1 (simI it ok true h0) h1' h2' (fun ok' => sG ok' h3') (fun ok' => simC cc ok' h5) (fun ok' => simE a ok' false h6)) fun D σ H h => rdSet (fun σ H Q h => rdLc h4' h) h
      | lc2 a g it cc g2 it2 c2 own own2 fr =>
        obtain ⟨elt, tg, iter, ifs, tg2, iter2, ifs2, scope, p2, rfl, ⟨h0, h1', h2', h3', h4', h5⟩, k0, k1, k3, k4, k5, k6, h6⟩ := lc2_parts h2
        exact PS.conv (psLc2 ok h1 (simI it ok true h0) h1' h2' k5 k1 (fun ok' => sG ok' h3') (fun ok' => simC cc ok' h5) (fun ok' => simI it2 ok' false k0) (fun ok' => sG ok' k3) (fun ok' => simC c2 ok' k6) (fun ok' => simE a ok' false h6)) fun D σ H h => rdSet (fun σ H Q h => rdLc2 h4' k4 h) h
      | _ => cases h4
  · refine sSet (simE a ok false h2) (sG ok h1) (swTup (es := es) (k := k) (p := p) pos.line X.env) ?_ hA
    have h3 : (match vTup v with
      | some vs => decide (swC S.sc es vs = some none)
      | none => true) = true := h3
    cases q : vTup v with
    | none => exact swNone2 (by cases v <;> first | rfl | cases q)
    | some vs =>
      rw [q] at h3
      obtain ⟨k2, p2, rfl⟩ := vTup_of q
      exact swC_of (by rw [ok.hsc]; exact of_decide_eq_true h3)
theorem simOwn (ok : XOk X T S W) {i : Nat} {a : E} {t v : Expr} {pos : Pos} (h1 : chkG1 S i t = true) (h2 : chkE T.ps S a v = true) (h3 : isFr a = true) (h4 : (notComp v || isLcA a) = true) : PS X (.Assign [t] v pos) (tS T W X.K (ex T.P wf (.own i a))) := by
  obtain ⟨x, p, rfl, _⟩ := chkG1_of h1
  by_cases hn : notComp v = true
  · exact PS.conv (psName ok h1 hn (simF ok h3 h2)) fun D σ H h => rdOwn (fun σ H Q h => h) h
  · have h4 : isLcA a = true := by
      cases hn' : notComp v with
      | true => exact absurd hn' hn
      | false => rw [hn'] at h4; simpa using h4
    cases a with
    | lc a g it cc own =>
      obtain ⟨elt, tg, iter, ifs, scope, p2, rfl, h0, h1', h2', h3', h4', h5, h6⟩ := lc_parts h2
      exact PS.conv (psLc ok h1 (simI it ok true h0) h1' h2' (fun ok' => sG ok' h3') (fun ok' => simC cc ok' h5) (fun ok' => simE a ok' false h6)) fun D σ H h => rdOwn (fun σ H Q h => rdLcO h4' h) h
    | lc2 a g it cc g2 it2 c2 own own2 fr =>
      obtain ⟨elt, tg, iter, ifs, tg2, iter2, ifs2, scope, p2, rfl, ⟨h0, h1', h2', h3', h4', h5⟩, k0, k1, k3, k4, k5, k6, h6⟩ := lc2_parts h2
      exact PS.conv (psLc2 ok h1 (simI it ok true h0) h1' h2' k5 k1 (fun ok' => sG ok' h3') (fun ok' => simC cc ok' h5) (fun ok' => simI it2 ok' false k0) (fun ok' => sG ok' k3) (fun ok' => simC c2 ok' k6) (fun ok' => simE a ok' false h6)) fun D σ H h => rdOwn (fun σ H Q h => rdLc2O h4' k4 h) h
    | _ => cases h4
end
mutual
theorem simS : ∀ (s : FW.S) {st : Stmt} {X : Cx} {T : Tab} {S : NS} {W : WX} {wf : Nat}, XOk X T S W → PassesOwn (model X.prog X.w) X.A X.env X.xe → chkS T.ps S s st = true → PS X st (tS T W X.K (ex T.P wf s))
  | .set g a, st, X, T, S, W, wf, ok, hp, h => by
    simp only [chkS] at h
    cases q : vAsg st with
    | none => rw [q] at h; cases h
    | some z =>
      obtain ⟨t, v, p⟩ := z
      rw [q] at h
      obtain rfl := vAsg_of q
      simp only [Bool.and_eq_true] at h
      exact simSet ok h.1.1 h.1.2 h.2
  | .own i a, st, X, T, S, W, wf, ok, hp, h => by
    simp only [chkS] at h
    cases q : vAsg st with
    | none => rw [q] at h; cases h
    | some z =>
      obtain ⟨t, v, p⟩ := z
      rw [q] at h
      obtain rfl := vAsg_of q
      simp only [Bool.and_eq_true] at h
      exact simOwn ok h.1.1.1 h.1.1.2 h.1.2 h.2
  | .par is fl es, st, X, T, S, W, wf, ok, hp, h => by
    simp only [chkS] at h
    cases q : vAsg st with
    | none => rw [q] at h; cases h
    | some z =>
      obtain ⟨t, v, p⟩ := z
      rw [q] at h
      obtain rfl := vAsg_of q
      simp only at h
      cases q1 : vTup t with
      | none => rw [q1] at h; cases h
      | some ts =>
        cases q2 : vTup v with
        | none => rw [q1, q2] at h; cases h
        | some vs =>
          rw [q1, q2] at h
          obtain ⟨k, p1, rfl⟩ := vTup_of q1
          obtain ⟨k2, p2, rfl⟩ := vTup_of q2
          exact simPar ok h
  | .app i a, st, X, T, S, W, wf, ok, hp, h => by
    simp only [chkS] at h
    cases q : vExS st with
    | none => rw [q] at h; cases h
    | some z =>
      obtain ⟨v, p⟩ := z
      rw [q] at h
      obtain rfl := vExS_of q
      simp only at h
      cases q1 : chkMeth S i ("append" : Str) v with
      | none => rw [q1] at h; cases h
      | some as =>
        rw [q1] at h
        obtain ⟨x, p1, ap, cp, rfl, h1, h2, h3⟩ := chkMeth_of q1
        match as, h with
        | [e], h =>
          simp only [Bool.and_eq_true] at h
          exact sApp ok h1 h2 h.1 h3 (simE a ok false h.2)
  | .appPop i j a, st, X, T, S, W, wf, ok, hp, h => by
    simp only [chkS] at h
    cases q : vExS st with
    | none => rw [q] at h; cases h
    | some z =>
      obtain ⟨v, p⟩ := z
      rw [q] at h
      obtain rfl := vExS_of q
      simp only at h
      cases q1 : chkMeth S i ("append" : Str) v with
      | none => rw [q1] at h; cases h
      | some as =>
        rw [q1] at h
        obtain ⟨x, p1, ap, cp, rfl, h1, h2, h3⟩ := chkMeth_of q1
        match as, h with
        | [e], h =>
          simp only at h
          cases q2 : chkMeth S j ("pop" : Str) e with
          | none => rw [q2] at h; cases h
          | some as =>
            rw [q2] at h
            obtain ⟨y, p2, ap2, cp2, rfl, k1, k2, k3⟩ := chkMeth_of q2
            match as, h with
            | [k], h =>
              simp only [Bool.and_eq_true] at h
              exact sAppPop ok h1 h2 k1 k2 h.1 h3 k3 (simE a ok true h.2)
  | .setPop i j, st, X, T, S, W, wf, ok, hp, h => by
    simp only [chkS] at h
    cases q : vAsg st with
    | none => rw [q] at h; cases h
    | some z =>
      obtain ⟨t, v, p⟩ := z
      rw [q] at h
      obtain rfl := vAsg_of q
      simp only [Bool.and_eq_true] at h
      obtain ⟨h0, h⟩ := h
      cases q1 : chkMeth S j ("pop" : Str) v with
      | none => rw [q1] at h; cases h
      | some as =>
        rw [q1] at h
        obtain ⟨x, p1, ap, cp, rfl, h1, h2, h3⟩ := chkMeth_of q1
        match as, h with
        | [], h =>
          obtain ⟨x0, p0, rfl, _⟩ := chkG1_of h0
          exact sSetPop ok h0 h1 h2 h3
  | .expr a, st, X, T, S, W, wf, ok, hp, h => by
    simp only [chkS] at h
    cases q : vExS st with
    | none => rw [q] at h; cases h
    | some z =>
      obtain ⟨v, p⟩ := z
      rw [q] at h
      obtain rfl := vExS_of q
      simp only [Bool.and_eq_true] at h
      exact sExpr h.1 (simE a ok false h.2)
  | .ret a, st, X, T, S, W, wf, ok, hp, h => by
    simp only [chkS] at h
    cases q : vRet st with
    | none => rw [q] at h; cases h
    | some z =>
      obtain ⟨p, rfl⟩ := vRet_of q
      rw [q] at h
      cases z with
      | none => cases h
      | some v => exact sRet (simE a ok false h)
  | .retN, st, X, T, S, W, wf, ok, hp, h => by
    simp only [chkS] at h
    cases q : vRet st with
    | none => rw [q] at h; cases h
    | some z =>
      obtain ⟨p, rfl⟩ := vRet_of q
      rw [q] at h
      cases z with
      | none => exact sRetN
      | some v => cases h
  | .ife t A B, st, X, T, S, W, wf, ok, hp, h => by
    simp only [chkS] at h
    cases q : vIfS st with
    | none => rw [q] at h; cases h
    | some z =>
      obtain ⟨e, xs, ys⟩ := z
      rw [q] at h
      obtain ⟨p, rfl⟩ := vIfS_of q
      simp only [Bool.and_eq_true] at h
      obtain ⟨⟨⟨h0, h1⟩, h2⟩, h3⟩ := h
      exact sIf (simT t ok h1 h0).1 (simSs A ok hp h2) (simSs B ok hp h3)
  | .for_ g it B, st, X, T, S, W, wf, ok, hp, h => by
    simp only [chkS] at h
    cases q : vFor st with
    | none => rw [q] at h; cases h
    | some z =>
      obtain ⟨t, i, ys, zs⟩ := z
      rw [q] at h
      obtain ⟨p, rfl⟩ := vFor_of q
      cases zs with
      | cons _ _ => cases h
      | nil =>
        simp only [Bool.and_eq_true] at h
        obtain ⟨⟨⟨h0, h1⟩, h2⟩, h3⟩ := h
        exact sFor hp ok.calm (simI it ok false h0) h1 (sG ok h2) (simSs B ok hp h3)
  | .whl t B, st, X, T, S, W, wf, ok, hp, h => by
    simp only [chkS] at h
    cases q : vWhl st with
    | none => rw [q] at h; cases h
    | some z =>
      obtain ⟨e, ys, zs⟩ := z
      rw [q] at h
      obtain ⟨p, rfl⟩ := vWhl_of q
      cases zs with
      | cons _ _ => cases h
      | nil =>
        simp only [Bool.and_eq_true] at h
        obtain ⟨⟨h0, h1⟩, h2⟩ := h
        exact sWhl hp (simT t ok h1 h0).1 (simSs B ok hp h2)
  | .brk, st, X, T, S, W, wf, ok, hp, h => by
    obtain ⟨p, rfl⟩ := isBrk_of h
    exact sBrk
  | .cnt, st, X, T, S, W, wf, ok, hp, h => by
    obtain ⟨p, rfl⟩ := isCnt_of h
    exact sCnt
  | .pass, st, X, T, S, W, wf, ok, hp, h => by
    simp only [chkS, Bool.or_eq_true] at h
    rcases h with h | h
    · obtain ⟨p, rfl⟩ := isPass_of h
      exact sPass
    · unfold isDoc at h
      cases q : vExS st with
      | none => rw [q] at h; cases h
      | some z =>
        obtain ⟨v, p⟩ := z
        rw [q] at h
        obtain rfl := vExS_of q
        simp only at h
        cases q2 : vConst v with
        | none => rw [q2] at h; cases h
        | some c =>
          obtain ⟨k, p2, rfl⟩ := vConst_of q2
          cases c with
          | str x => exact sDoc
          | _ => cases h
  | .nev, st, X, T, S, W, wf, ok, hp, h => sNev
  | .drset i f a, st, X, T, S, W, wf, ok, hp, h => by
    simp only [chkS] at h
    cases q : vAsg st with
    | none => rw [q] at h; cases h
    | some z =>
      obtain ⟨t, v, p⟩ := z
      rw [q] at h
      obtain rfl := vAsg_of q
      simp only [Bool.and_eq_true, decide_eq_true_eq] at h
      obtain ⟨⟨⟨h0, h1⟩, h2⟩, h3⟩ := h
      obtain ⟨x, p1, k, p2, p3, rfl, k1, k2⟩ := chkDrT_of h0
      exact sDrset ok k1 k2 h1 h2 (simE a ok true h3)
  | .drpop i, st, X, T, S, W, wf, ok, hp, h => by
    simp only [chkS] at h
    cases q : vAsg st with
    | none => rw [q] at h; cases h
    | some z =>
      obtain ⟨t, v, p⟩ := z
      rw [q] at h
      obtain rfl := vAsg_of q
      simp only [Bool.and_eq_true] at h
      obtain ⟨h0, h1⟩ := h
      obtain ⟨x, p1, k, p2, p3, rfl, k1, k2⟩ := chkDrT_of h0
      cases q2 : vMeth v with
      | none => rw [q2] at h1; cases h1
      | some z =>
        obtain ⟨o, m, ap, as, cp⟩ := z
        rw [q2] at h1
        obtain rfl := vMeth_of q2
        match as, h1 with
        | [z], h1 =>
          simp only [Bool.and_eq_true, decide_eq_true_eq] at h1
          obtain ⟨⟨⟨m0, m1⟩, m2⟩, m3⟩ := h1
          subst m0
          obtain ⟨y, p4, k', p5, p6, rfl, l1, l2⟩ := chkDrT_of m1
          obtain ⟨k3, p7, rfl⟩ := vConst_of (cInt_of m2)
          have e : x = y := by
            unfold chkNm at k1 l1
            simp only [Bool.and_eq_true, decide_eq_true_eq] at k1 l1
            exact Option.some.inj (k1.1.symm.trans l1.1)
          subst e
          exact sDrpop ok k1 k2 m3
  | .drnew i a, st, X, T, S, W, wf, ok, hp, h => by
    simp only [chkS] at h
    cases q : vRet st with
    | none => rw [q] at h; cases h
    | some z =>
      obtain ⟨p, rfl⟩ := vRet_of q
      rw [q] at h
      cases z with
      | none => cases h
      | some e =>
        have h : chkDrNew T.ps S i a e = true := h
        unfold chkDrNew at h
        cases q2 : vDict4 e with
        | none => rw [q2] at h; cases h
        | some z =>
          obtain ⟨⟨k1, k2, k3, k4⟩, x, y, z, w⟩ := z
          rw [q2] at h
          obtain ⟨p2, rfl⟩ := vDict4_of q2
          have h := (Bool.and_eq_true_iff.mp h)
          obtain ⟨h, h8⟩ := h
          simp only [Bool.and_eq_true] at h
          obtain ⟨⟨⟨⟨⟨⟨h1, h2⟩, h3⟩, h4⟩, h5⟩, h6⟩, h7⟩ := h
          obtain ⟨_, _, rfl⟩ := vConst_of (cStr_of h1)
          obtain ⟨_, _, rfl⟩ := vConst_of (cStr_of h2)
          obtain ⟨_, _, rfl⟩ := vConst_of (cStr_of h3)
          obtain ⟨_, _, rfl⟩ := vConst_of (cStr_of h4)
          obtain ⟨_, _, rfl⟩ := vConst_of (cInt_of h5)
          obtain ⟨_, _, rfl⟩ := vConst_of (cInt_of h6)
          cases q3 : vName x with
          | none => rw [q3] at h8; cases h8
          | some n =>
            rw [q3] at h8
            obtain ⟨p3, rfl⟩ := vName_of q3
            simp only [Bool.and_eq_true] at h8
            exact sDrnew ok h8.1 h8.2 (simE a ok false h7)
  | .clear i, st, X, T, S, W, wf, ok, hp, h => by cases h
  | .put i k e, st, X, T, S, W, wf, ok, hp, h => by cases h
  | .raise c e, st, X, T, S, W, wf, ok, hp, h => by cases h
  | .aug i op e, st, X, T, S, W, wf, ok, hp, h => by cases h
theorem simSs : ∀ (s : Ss) {st : List Stmt} {X : Cx} {T : Tab} {S : NS} {W : WX} {wf : Nat}, XOk X T S W → PassesOwn (model X.prog X.w) X.A X.env X.xe → chkSs T.ps S s st = true → PSs X st (tS T W X.K (exs T.P wf s))
  | .nil, st, X, T, S, W, wf, ok, hp, h => by
    cases st with
    | nil => exact ssNil
    | cons _ _ => cases h
  | .cons s r, st, X, T, S, W, wf, ok, hp, h => by
    cases st with
    | nil => cases h
    | cons x xs =>
      simp only [chkSs, Bool.and_eq_true] at h
      exact ssCons (simS s ok hp h.1) (simSs r ok hp h.2)
end
end FW
namespace FW
open PySem PySem.Spec PyProof.Rows L2
/-- a def of the text: its parameters, its names by slot, its term -/
structure DefI where
  name : Str
  st : Stmt
  ps : List Str
  N : List Str
  fd : FnD
def DefI.S (e : DefI) : NS := ⟨e.N, defScope e.st, fun _ => true⟩
def psOf (tbl : List DefI) : PsT := fun f => (tbl.find? fun e => decide (e.name = f)).map (·.ps)
def progOf (tbl : List DefI) (gls : List (Str × PV)) : Prog := ⟨fun f => (tbl.find? fun e => decide (e.name = f)).map (·.fd), fun x => gls.lookup x⟩
def tabOf (tbl : List DefI) (gls : List (Str × PV)) (wf n : Nat) : Tab := ⟨⟨fun x => gls.lookup x, callF (progOf tbl gls) wf n⟩, psOf tbl, fun _ _ _ _ _ => False⟩
def isFunK : ScopeKind → Bool
  | .function => true
  | _ => false
def plainArgs (a : Arguments) (ps : List Str) : Bool := a.posonlyargs.isEmpty && a.vararg.isNone && a.kwonlyargs.isEmpty && a.kwarg.isNone && decide (a.args.map (·.arg) = ps)
def chkScope (N ps : List Str) (sc : Scope) : Bool := isFunK sc.kind && !sc.isCoroutine && !sc.isGenerator && decide N.Nodup && decide (N.take ps.length = ps) &&
  (ps.all fun x => sc.names.lookup x == some .local || sc.names.lookup x == some .cell) && (sc.names.all fun y => !(y.2 == .free))
def chkFn (T : PsT) (e : DefI) : Bool := chkScope e.N e.ps (defScope e.st) && plainArgs (defArgs e.st) e.ps && decide (e.fd.np = e.ps.length) && decide (e.fd.nv = e.N.length) && chkSs T e.S e.fd.body (defBody e.st)
theorem zip_has : ∀ {ps : List Str} {us : List Value}, us.length = ps.length → ∀ n ∈ ps, ((ps.zip us).lookup n).isNone = false
  | [], _, _, n, h => by cases h
  | p :: ps, [], h, n, _ => by cases h
  | p :: ps, u :: us, h, n, hn => by
    rw [List.zip_cons_cons, List.lookup_cons]
    cases e : n == p with
    | true => rfl
    | false =>
      rcases List.mem_cons.mp hn with z | z
      · subst z; simp at e
      · exact zip_has (by simpa using h) n z
theorem fm_congr {α β : Type} {f g : α → Option β} : ∀ {l : List α}, (∀ n ∈ l, f n = g n) → l.filterMap f = l.filterMap g
  | [], _ => rfl
  | a :: l, h => by
    rw [List.filterMap_cons, List.filterMap_cons, h a List.mem_cons_self, fm_congr fun n hn => h n (List.mem_cons_of_mem _ hn)]
theorem zip_map : ∀ {ps : List Str} {us : List Value}, us.length = ps.length → ps.Nodup → ps.filterMap (fun n => ((ps.zip us).lookup n).map fun v => (n, v)) = ps.zip us
  | [], us, _, _ => by simp
  | p :: ps, [], h, _ => by cases h
  | p :: ps, u :: us, h, nd => by
    obtain ⟨n1, n2⟩ := List.nodup_cons.mp nd
    have hh : ((p :: ps).zip (u :: us)).lookup p = some u := by rw [List.zip_cons_cons, List.lookup_cons]; simp
    rw [List.filterMap_cons, hh]
    show (p, u) :: List.filterMap _ ps = (p, u) :: ps.zip us
    congr 1
    refine Eq.trans (fm_congr fun n hn => ?_) (zip_map (by simpa using h) n2)
    have e : (n == p) = false := by
      apply beq_eq_false_iff_ne.mpr
      intro z
      subst z
      exact n1 hn
    rw [List.zip_cons_cons, List.lookup_cons, e]
theorem bind_plain {x qual : Str} {as : List Arg} {kd : List (Option Expr)} {dfl : List Expr} {body : List Stmt} {sc : Scope} {kV doc pm cdv ct : Value} {an : Option Addr} {us : List Value} (hl : us.length = as.length) (nd : (as.map (·.arg)).Nodup) :
    bindArgs (PySem.W.fnOf x qual ⟨[], as, none, [], kd, none, dfl⟩ body sc .none kV doc pm an cdv ct) ⟨us, []⟩ = pure ((as.map (·.arg)).zip us) := by
  have h1 : (List.filter (fun n => (((as.map (·.arg)).zip us).lookup n).isNone) (as.map (·.arg))) = [] := by
    rw [List.filter_eq_nil_iff]
    intro n hn
    rw [zip_has (by rw [List.length_map]; exact hl) n hn]; simp
  have e0 : notAStandIn Value.none = pure () := rfl
  have h2 : List.take as.length (as.map (·.arg)) = as.map (·.arg) := by rw [List.take_of_length_le (by simp)]
  have h3 := zip_map (us := us) (by rw [List.length_map]; exact hl) nd
  rw [List.filterMap_map] at h3
  unfold bindArgs
  simp [hl, seqItems?, e0, h2, h1]
  exact congrArg pure h3
theorem scope_of {N ps : List Str} {sc : Scope} (h : chkScope N ps sc = true) : FnScope N ps sc := by
  unfold chkScope at h
  simp only [Bool.and_eq_true, decide_eq_true_eq, Bool.not_eq_true', List.all_eq_true, Bool.or_eq_true, beq_iff_eq] at h
  obtain ⟨⟨⟨⟨⟨⟨h1, h2⟩, h3⟩, h4⟩, h5⟩, h6⟩, h7⟩ := h
  exact ⟨by cases q : sc.kind <;> first | rfl | (rw [q] at h1; cases h1), h2, h3, h4, h5, h6, fun y hy z => by have := h7 y hy; rw [z] at this; cases this⟩
theorem nodup_take {α : Type} {l : List α} (h : l.Nodup) (n : Nat) : (l.take n).Nodup := (List.take_sublist n l).nodup h
theorem binds_of {K : PySem.W.Frag} {x qual : Str} {a : Arguments} {body : List Stmt} {sc : Scope} {f : Addr} {FD : FuncData} {ps : List Str} (F : FunD K x qual a body sc [] [] f FD) (h : plainArgs a ps = true) (nd : ps.Nodup) : Binds K FD ps [] := by
  unfold plainArgs at h
  simp only [Bool.and_eq_true, decide_eq_true_eq, List.isEmpty_iff, Option.isNone_iff_eq_none] at h
  obtain ⟨⟨⟨⟨h1, h2⟩, h3⟩, h4⟩, h5⟩ := h
  obtain ⟨a1, a2, a3, a4, a5, a6, a7⟩ := a
  simp only at h1 h2 h3 h4 h5
  subst h1 h2 h3 h4 h5
  exact F.bindsN fun kV doc pm an cdv ct us hl => bind_plain (by rw [hl, List.length_map]) nd
theorem kb_of {K : PySem.W.Frag} {x qual : Str} {a : Arguments} {body : List Stmt} {sc : Scope} {f : Addr} {FD : FuncData} {ps : List Str} (F : FunD K x qual a body sc [] [] f FD) (h : plainArgs a ps = true) (nd : ps.Nodup) : KB K FD ps := by
  unfold plainArgs at h
  simp only [Bool.and_eq_true, decide_eq_true_eq, List.isEmpty_iff, Option.isNone_iff_eq_none] at h
  obtain ⟨⟨⟨⟨h1, h2⟩, h3⟩, h4⟩, h5⟩ := h
  obtain ⟨a1, a2, a3, a4, a5, a6, a7⟩ := a
  simp only at h1 h2 h3 h4 h5
  subst h1 h2 h3 h4 h5
  intro n nm perm hp
  obtain ⟨oc, od, dV, kV, doc, pm, an, cdv, ct, osl, rfl, lk, hcd, hD, hK⟩ := F.ex
  rcases hD with ⟨_, rfl⟩ | ⟨e, _⟩
  · exact ⟨fun s us ws X l1 l2 => .of_eq (bind_kw nd hp l1 l2), fun r1 r2 => vals_pk r1 r2⟩
  · exact absurd rfl e
structure Facts (P : Program) (w : World) (K : PySem.W.Frag) (mg : Str → Option Value) (base : Heap) (tbl : List DefI) (gls : List (Str × PV)) : Prop where
  fns : ∀ e ∈ tbl, ∃ fa FD, mg e.name = some (.ref fa) ∧ FunD K e.name e.name (defArgs e.st) (defBody e.st) (defScope e.st) [] [] fa FD
  bi : ∀ b ∈ BN, mg (Str.ofString b) = none
  gl : ∀ x p, gls.lookup x = some p → ∃ u v, mg x = some u ∧ RelV v u ∧ ∀ H g, RelP K H g p v
section
variable {P : Program} {w : World} {K : PySem.W.Frag} {mg : Str → Option Value} {base : Heap} {tbl : List DefI} {gls : List (Str × PV)} {wf : Nat}
theorem start_rel {H : Hp} {g : Gh} {xs : List PV} {vs : List V} (r : RelPs K H g xs vs) (N : List Str) {nv : Nat} (hn : nv = N.length) (hl : xs.length ≤ nv) : LRel K H g (start' nv xs) (L2.start N vs) := by
  have hlen := r.length
  have noO : ∀ (i : Nat) p, (start' nv xs)[i]? ≠ some (some (true, p)) := fun i p h => by
    unfold start' at h
    by_cases hi : i < xs.length
    · rw [List.getElem?_append_left (by rw [List.length_map]; exact hi), List.getElem?_map] at h
      obtain ⟨q, _, h2⟩ := Option.map_eq_some_iff.mp h
      cases h2
    · rw [List.getElem?_append_right (by rw [List.length_map]; omega)] at h
      have := List.mem_of_getElem? h
      rw [List.mem_replicate] at this
      cases this.2
  refine ⟨?_, fun i p h => ?_, fun i p h => absurd h (noO i p), fun i j p q a h => absurd h (noO i p)⟩
  · unfold start' L2.start
    rw [List.length_append, List.length_append, List.length_map, List.length_map, List.length_replicate, List.length_replicate]
    omega
  · unfold start' at h
    by_cases hi : i < xs.length
    · rw [List.getElem?_append_left (by rw [List.length_map]; exact hi), List.getElem?_map] at h
      obtain ⟨q, h1, h2⟩ := Option.map_eq_some_iff.mp h
      cases h2
      obtain ⟨x, k1, k2⟩ := r.get h1
      refine ⟨x, ?_, k2⟩
      unfold L2.start
      rw [List.getElem?_append_left (by rw [List.length_map]; omega), List.getElem?_map, k1]
      rfl
    · rw [List.getElem?_append_right (by rw [List.length_map]; omega)] at h
      have := List.mem_of_getElem? h
      rw [List.mem_replicate] at this
      cases this.2
theorem find_of {f : Str} {e : DefI} (h : (tbl.find? fun e => decide (e.name = f)) = some e) : e ∈ tbl ∧ e.name = f := ⟨List.mem_of_find?_eq_some h, by simpa using List.find?_some h⟩
/-- all the defs keep what the interpreter says, by calls at most n deep -/
theorem fn_ok (Fc : Facts P w K mg base tbl gls) (hc : ∀ e ∈ tbl, chkFn (psOf tbl) e = true) : ∀ (n : Nat) (f : Str) (e : DefI), (tbl.find? fun e => decide (e.name = f)) = some e → ∀ fa FD, FunD K e.name e.name (defArgs e.st) (defBody e.st) (defScope e.st) [] [] fa FD →
    Binds K FD e.ps [] ∧ KB K FD e.ps ∧ FnG P w K mg base (L2.CX P w) n fa FD e.ps (spF (tabOf tbl gls wf n) K f) := by
  intro n
  induction n with
  | zero =>
    intro f e q fa FD F
    obtain ⟨hm, rfl⟩ := find_of q
    have hk := hc e hm
    unfold chkFn at hk
    simp only [Bool.and_eq_true] at hk
    have S := scope_of hk.1.1.1.1
    have bad : ∀ {vs : List V} {H : Hp} {Q : VK} {E : XK}, spF (tabOf tbl gls wf 0) K e.name vs H Q E → False := fun ⟨g, d, xs, _, _, z⟩ => z
    exact ⟨binds_of F hk.1.1.1.2 (S.pre ▸ nodup_take S.nd _), kb_of F hk.1.1.1.2 (S.pre ▸ nodup_take S.nd _), fun _ _ _ _ z => (bad z).elim, fun _ _ _ _ _ _ _ _ _ _ _ _ _ z => (bad z).elim⟩
  | succ n ih =>
    intro f e q fa FD F
    obtain ⟨hm, rfl⟩ := find_of q
    have hk := hc e hm
    unfold chkFn at hk
    simp only [Bool.and_eq_true, decide_eq_true_eq] at hk
    obtain ⟨⟨⟨⟨c1, c2⟩, c3⟩, c4⟩, c5⟩ := hk
    have S := scope_of c1
    have hpl : e.ps.length ≤ e.N.length := by have := congrArg List.length S.pre; rw [List.length_take] at this; omega
    have hfn : (progOf tbl gls).fn e.name = some e.fd := by
      show (tbl.find? fun e' => decide (e'.name = e.name)).map (·.fd) = some e.fd
      rw [q]; rfl
    -- what the interpreter does at a call
    have hcall : ∀ xs d, callF (progOf tbl gls) wf (n + 1) e.name xs d = (if xs.length = e.fd.np then (exs (tabOf tbl gls wf n).P wf e.fd.body (start' e.fd.nv xs)).bind fun
        | .rt v => M.pure v
        | .nx _ => M.pure .non
        | _ => M.bad
      else M.bad) d := fun xs d => by
      show (match (progOf tbl gls).fn e.name with
        | some fd => if xs.length = fd.np then (exs (tabOf tbl gls wf n).P wf fd.body (start' fd.nv xs)).bind fun
            | .rt v => M.pure v
            | .nx _ => M.pure .non
            | _ => M.bad
          else M.bad
        | none => M.bad) d = _
      rw [hfn]
    refine ⟨binds_of F c2 (S.pre ▸ nodup_take S.nd _), kb_of F c2 (S.pre ▸ nodup_take S.nd _), bodyG F S (fun vs H Q E hsp => ?_) fun cdv A outer s H vs Q E hgd hr hsp => ?_⟩
    · obtain ⟨g, d, xs, G, r, hp⟩ := hsp
      have hp : Post K H g (RelP K) (callF (progOf tbl gls) wf (n + 1) e.name xs d) Q _ := hp
      rw [hcall] at hp
      obtain ⟨hx, _⟩ := hp.ite
      rw [← r.length, hx, c3]
    · obtain ⟨g, d, xs, G, r, hp⟩ := hsp
      have hp : Post K H g (RelP K) (callF (progOf tbl gls) wf (n + 1) e.name xs d) Q _ := hp
      rw [hcall] at hp
      obtain ⟨hx, hp⟩ := hp.ite
      have ok : XOk (cxOf (L2.CX P w) P w K mg base e.N e.name (defScope e.st) fa cdv A outer s H E) (tabOf tbl gls wf n) e.S (fun cls dd _ H => E cls dd H) := {
        hN := rfl
        nd := S.nd
        hsc := rfl
        hfn := rfl
        calm := rfl
        un := by have := hr.un; show (A.deeper _).units + 100 < cLine; omega
        gd := hgd
        bi := Fc.bi
        gl := Fc.gl
        fns := ⟨n, hr, fun f ps hf => by
          obtain ⟨e', q', rfl⟩ := Option.map_eq_some_iff.mp hf
          obtain ⟨hm', hn'⟩ := find_of q'
          obtain ⟨fa', FD', h1', F'⟩ := Fc.fns e' hm'
          obtain ⟨b1, b3, b2⟩ := ih f e' q' fa' FD' F'
          exact ⟨fa', FD', by rw [← hn']; exact h1', F'.kp, b1, b3, b2⟩⟩
        tk := takes_of rfl rfl rfl rfl }
      refine ⟨_, simSs (wf := wf) e.fd.body ok (passes_of rfl) c5, H, g, g, _, d, ⟨Ext.refl H g, G, start_rel r e.N c4 (by rw [hx, c3, c4]; exact hpl), fun i p a h => ?_⟩, ?_⟩
      · exfalso
        exact (start_rel r e.N c4 (by rw [hx, c3, c4]; exact hpl)).own i p h |>.elim fun a' z => by
          unfold start' at h
          by_cases hi : i < xs.length
          · rw [List.getElem?_append_left (by rw [List.length_map]; exact hi), List.getElem?_map] at h
            obtain ⟨q, _, h2⟩ := Option.map_eq_some_iff.mp h
            cases h2
          · rw [List.getElem?_append_right (by rw [List.length_map]; omega)] at h
            have := List.mem_of_getElem? h
            rw [List.mem_replicate] at this
            cases this.2
      · unfold M.bind at hp
        show PostS K H g H g (exs (tabOf tbl gls wf n).P wf e.fd.body (start' e.fd.nv xs) d) _ _
        cases q2 : exs (tabOf tbl gls wf n).P wf e.fd.body (start' e.fd.nv xs) d with
        | bad => rw [q2] at hp; exact hp.elim
        | ex x d' => rw [q2] at hp; exact fun σ' H' g' e' G' => hp H' g' e' G'
        | ok fl d' =>
          rw [q2] at hp
          cases fl with
          | nx ls => exact fun σ' H' g' I m => hp H' g' .non I.ext I.gok rfl
          | rt v => exact fun x H' g' e' G' r' => hp H' g' x e' G' r'
          | bk ls => exact hp.elim
          | ct ls => exact hp.elim
end
end FW
namespace FW
open PySem PySem.Spec PyProof.Rows L2
def defD (e : DefI) : He.DefD := ⟨(e.name, none), e.name, e.name, defArgs e.st, defBody e.st, defScope e.st, [], []⟩
def faOf (p : Str × PV) : He.Fa := match p.2 with
  | .int i => .int p.1 i
  | .str z => .str p.1 z
  | _ => .free p.1
def fasOf (tbl : List DefI) (gls : List (Str × PV)) : List He.Fa := BN.map (fun b => .free (Str.ofString b)) ++ (tbl.map (fun e => .glo e.name) ++ gls.map faOf)
def glsOk (gls : List (Str × PV)) : Bool := gls.all fun p => match p.2 with
  | .int _ => true
  | .str _ => true
  | _ => false
theorem mem_of_lookup' {α : Type} : ∀ {l : List (Str × α)} {x : Str} {p : α}, l.lookup x = some p → (x, p) ∈ l
  | [], _, _, h => by cases h
  | (y, q) :: l, x, p, h => by
    rw [List.lookup_cons] at h
    cases e : x == y with
    | true =>
      rw [e] at h
      cases h
      rw [eq_of_beq e]
      exact List.mem_cons_self
    | false =>
      rw [e] at h
      exact List.mem_cons_of_mem _ (mem_of_lookup' h)
section
variable {P : Program} {w : World} {K : PySem.W.Frag} {mg : Str → Option Value} {base h : Heap} {tbl : List DefI} {gls : List (Str × PV)} {n : Nat}
theorem facts_of (X : K.In h) (G : h.Ns mainGlobals mg) (c : He.SaysD (fasOf tbl gls) (tbl.map defD) K) (hg : glsOk gls = true) : Facts P w K mg base tbl gls where
  fns := fun e he => by
    obtain ⟨fd, F⟩ := c.defs (List.mem_map.mpr ⟨e, he, rfl⟩)
    exact ⟨_, fd, He.glo_ok X G (c.facts (f := .glo e.name) (List.mem_append_right _ (List.mem_append_left _ (List.mem_map.mpr ⟨e, he, rfl⟩)))), F⟩
  bi := fun b hb => He.free_ok X G (c.facts (f := .free (Str.ofString b)) (List.mem_append_left _ (List.mem_map.mpr ⟨b, hb, rfl⟩)))
  gl := fun x p hp => by
    have hm := mem_of_lookup' hp
    have hf := c.facts (f := faOf (x, p)) (List.mem_append_right _ (List.mem_append_right _ (List.mem_map.mpr ⟨(x, p), hm, rfl⟩)))
    have ho := List.all_eq_true.mp hg _ hm
    cases p with
    | int i =>
      obtain ⟨t, e⟩ := He.int_ok X G hf
      exact ⟨_, .int i, e, ⟨t, rfl⟩, fun _ _ => rfl⟩
    | str z =>
      obtain ⟨t, e⟩ := He.str_ok X G hf
      exact ⟨_, .str z, e, ⟨t, rfl⟩, fun _ _ => rfl⟩
    | _ => cases ho
/-- nothing is let out -/
theorem FnG.to0 {f : Addr} {fd : FuncData} {ps : List Str} {k : Nat} {sp : XK → List V → Hp → VK → Prop} (F : FnG P w K mg base (L2.CX P w) k f fd ps (fun vs H Q E => sp E vs H Q)) : FnG P w K mg base CX0 k f fd ps (fun vs H Q _ => sp E0 vs H Q) := by
  refine ⟨fun vs H Q _ z => F.size vs H Q E0 z, fun A outer s H args us vs Q _ hr e0 hb r hsp => codeAny_mono (F.go A outer s H args us vs Q E0 hr e0 hb r hsp) fun res s' hq => ?_⟩
  cases res with
  | ok fl => cases fl <;> exact hq
  | error e =>
    obtain ⟨_, _, _, _, _, _, _, _, _, _, _, _, z⟩ := hq
    exact z.elim
def spLaw (tbl : List DefI) (gls : List (Str × PV)) (n : Nat) (K : PySem.W.Frag) : Sp := fun vs H Q _ => ∃ wf, spF (tabOf tbl gls wf n) K "law" vs H Q E0
theorem law_F {x : Str} {e : DefI} {f : Addr} (X : K.In h) (G : h.Ns mainGlobals mg) (hfa : mg ("law" : Str) = some (.ref f)) (c : He.SaysD (fasOf tbl gls) (tbl.map defD) K) (hg : glsOk gls = true) (hc : ∀ e ∈ tbl, chkFn (psOf tbl) e = true)
    (he : (tbl.find? fun e => decide (e.name = ("law" : Str))) = some e) (hps : e.ps = [x])
    (hlaw : ∀ ns : List Int, ns.length ≤ 63 → ∃ wf d', callF (progOf tbl gls) wf n "law" [.scr ns] none = .ok (.bl true) d') :
    ∃ (fd : FuncData) (sp : Sp), (∀ (s : Shared) (u : Value), BindsTo s fd ⟨[u], []⟩ [(x, u)]) ∧
      (∀ (H : Hp) (a : Addr) (ns : List Int), ns.length ≤ 63 → Only H → SqL K H a (ns.map V.int) → sp [.ref a] H (fun v _ => v = .bl true) fun _ _ _ => False) ∧
      ∀ base : Heap, K.In base → base.Ns mainGlobals mg → FnG P w K mg base CX0 n f fd [x] sp := by
  have F0 : Facts P w K mg h tbl gls := facts_of X G c hg
  obtain ⟨hm, hn⟩ := find_of he
  obtain ⟨fa, FD, h1, F⟩ := F0.fns e hm
  rw [hn] at h1
  have ef := hfa.symm.trans h1
  cases ef
  refine ⟨FD, spLaw tbl gls n K, ?_, fun H a ns hl hO hS => ?_, fun base Xb Gb => ?_⟩
  · intro s u
    have hk := hc e hm
    unfold chkFn at hk
    simp only [Bool.and_eq_true] at hk
    have hp := hk.1.1.1.2
    unfold plainArgs at hp
    simp only [Bool.and_eq_true, decide_eq_true_eq, List.isEmpty_iff, Option.isNone_iff_eq_none] at hp
    obtain ⟨⟨⟨⟨k1, k2⟩, k3⟩, k4⟩, k5⟩ := hp
    rw [hps] at k5
    generalize ha : defArgs e.st = A at k1 k2 k3 k4 k5 F
    obtain ⟨a1, a2, a3, a4, a5, a6, a7⟩ := A
    simp only at k1 k2 k3 k4 k5
    subst k1 k2 k3 k4
    have := F.bindsA (ps := [x]) (fun kV doc pm an cdv ct us hl => by rw [← k5]; exact bind_plain (by have := congrArg List.length k5; rw [List.length_map] at this; omega) (by rw [k5]; simp)) s [u] rfl
    exact this
  · obtain ⟨wf, d', hr⟩ := hlaw ns hl
    refine ⟨wf, ⟨fun _ => False, none⟩, none, [.scr ns], ⟨fun _ z => z.elim, fun _ z => z.elim, (fun E z => by cases z), trivial⟩, ⟨_, _, rfl, ⟨a, rfl, ?_⟩, rfl⟩, ?_⟩
    · rcases hS with (hS | hS) | hS
      · rcases hO a with z | ⟨o, xs, z⟩
        · rw [z] at hS; cases hS
        · rw [z] at hS; cases hS
      · exact .inl hS
      · exact .inr hS
    · show Post K H _ (RelP K) (callF (progOf tbl gls) wf n "law" [.scr ns] none) _ _
      rw [hr]
      exact fun H' g' x e G r => r
  · have Fb : Facts P w K mg base tbl gls := facts_of Xb Gb c hg
    have hw : ∀ wf, FnG P w K mg base CX0 n f FD [x] (fun vs H Q _ => spF (tabOf tbl gls wf n) K "law" vs H Q E0) := fun wf => by
      have z := (fn_ok (wf := wf) Fb hc n "law" e he f FD F).2.2
      rw [hps] at z
      exact FnG.to0 (F := z) (sp := fun E vs H Q => spF (tabOf tbl gls wf n) K "law" vs H Q E)
    refine ⟨fun vs H Q E ⟨wf, z⟩ => (hw wf).size vs H Q E z, fun A outer s H args us vs Q E hr e0 hb r ⟨wf, z⟩ => (hw wf).go A outer s H args us vs Q E hr e0 hb r z⟩
end
end FW
namespace FL
open FW
open PySem L2
/-- a row proved by computing, but not taken for a computing row by simp -/
theorem nrfl {α : Type} {a b : α} (h : a = b) : a = b := h
@[simp] theorem M.pure_bind {α β : Type} (a : α) (k : α → M β) : (M.pure a).bind k = k a := nrfl rfl
@[simp] theorem M.bind_bind {α β γ : Type} (m : M α) (f : α → M β) (k : β → M γ) : (m.bind f).bind k = m.bind fun x => (f x).bind k := M.bind_assoc m f k
@[simp] theorem M.lift_some {α : Type} (a : α) : M.lift (some a) = M.pure a := nrfl rfl
@[simp] theorem M.bind_pure {α : Type} (m : M α) : (m.bind fun x => M.pure x) = m := by
  funext d
  unfold M.bind
  cases m d <;> rfl
@[simp] theorem M.nox_pure {α : Type} (a : α) : M.nox (M.pure a) = M.pure a := nrfl rfl
@[simp] theorem M.ite_bind {α β : Type} (c : Prop) [Decidable c] (m n : M α) (k : α → M β) : (if c then m else n).bind k = if c then m.bind k else n.bind k := by
  by_cases h : c <;> simp only [h, if_true, if_false]
/-- from draws to draws, a value with the property -/
def T {α : Type} (m : M α) (P : α → Prop) : Prop := ∀ q : Draw, ∃ a q', m (some q) = .ok a (some q') ∧ P a
theorem T.pure {α : Type} {a : α} {P : α → Prop} (h : P a) : T (M.pure a) P := fun q => ⟨a, q, rfl, h⟩
theorem T.bind {α β : Type} {m : M α} {k : α → M β} {P : α → Prop} {Q : β → Prop} (h : T m P) (hk : ∀ a, P a → T (k a) Q) : T (m.bind k) Q := fun q => by
  obtain ⟨a, q', e, p⟩ := h q
  obtain ⟨b, q'', e', p'⟩ := hk a p q'
  exact ⟨b, q'', by unfold M.bind; rw [e]; exact e', p'⟩
theorem T.mono {α : Type} {m : M α} {P Q : α → Prop} (h : T m P) (hk : ∀ a, P a → Q a) : T m Q := fun q => by
  obtain ⟨a, q', e, p⟩ := h q
  exact ⟨a, q', e, hk a p⟩
theorem T.nox {α : Type} {m : M α} {P : α → Prop} (h : T m P) : T (M.nox m) P := fun q => by
  obtain ⟨a, q', e, p⟩ := h q
  exact ⟨a, q', by unfold M.nox; rw [e], p⟩
theorem T.ite {α : Type} {c : Prop} [Decidable c] {m n : M α} {P : α → Prop} (h1 : c → T m P) (h2 : ¬c → T n P) : T (if c then m else n) P := by
  by_cases h : c
  · rw [if_pos h]; exact h1 h
  · rw [if_neg h]; exact h2 h
/-- the end's property, out of simp's sight -/
theorem T.out {α : Type} {m : M α} {P : α → Prop} (h : ∀ P' : α → Prop, (∀ a, P a → P' a) → T m P') : T m P := h P fun _ z => z
theorem T.thru {α β : Type} {m : M α} {k : α → M β} {Q : β → Prop} (P : α → Prop) (h : ∀ P' : α → Prop, (∀ a, P a → P' a) → T m P') (hk : ∀ a, P a → T (k a) Q) : T (m.bind k) Q := (h P fun _ z => z).bind hk
/-- what a turn ends with -/
def turnQ (J : List Slot → Prop) (R : Fl → Prop) : Fl → Prop
  | .nx ls' => J ls'
  | .ct ls' => J ls'
  | .bk ls' => R (.nx ls')
  | .rt v => R (.rt v)
theorem T.nx {J : List Slot → Prop} {R : Fl → Prop} {ls : List Slot} (h : J ls) : T (M.pure (.nx ls)) (turnQ J R) := T.pure h
theorem T.ct {J : List Slot → Prop} {R : Fl → Prop} {ls : List Slot} (h : J ls) : T (M.pure (.ct ls)) (turnQ J R) := T.pure h
theorem T.bk {J : List Slot → Prop} {R : Fl → Prop} {ls : List Slot} (h : R (.nx ls)) : T (M.pure (.bk ls)) (turnQ J R) := T.pure h
theorem T.rt {J : List Slot → Prop} {R : Fl → Prop} {v : PV} (h : R (.rt v)) : T (M.pure (.rt v)) (turnQ J R) := T.pure h
/-- a loop of turns -/
theorem T.for_ {f : PV → List Slot → M Fl} {I : List PV → List Slot → Prop} {R : Fl → Prop} : ∀ {xs : List PV} {ls : List Slot}, I xs ls →
    (∀ x r ls, x ∈ xs → I (x :: r) ls → T (f x ls) (turnQ (I r) R)) → (∀ ls, I [] ls → R (.nx ls)) → T (forM' f xs ls) R
  | [], ls, h0, _, he => T.pure (he ls h0)
  | x :: xs, ls, h0, h, he => by
    unfold forM'
    refine (h x xs ls List.mem_cons_self h0).bind ?_
    rintro (ls' | v | ls' | ls') hi
    · exact T.for_ hi (fun y r l hy => h y r l (List.mem_cons_of_mem _ hy)) he
    · exact T.pure hi
    · exact T.pure hi
    · exact T.for_ hi (fun y r l hy => h y r l (List.mem_cons_of_mem _ hy)) he
theorem T.for {f : PV → List Slot → M Fl} (I : List PV → List Slot → Prop) {R : Fl → Prop} {xs : List PV} {ls : List Slot} (h0 : I xs ls)
    (h : ∀ (J : List PV → List Slot → Prop) (R' : Fl → Prop), (∀ r ls, I r ls → J r ls) → (∀ fl, R fl → R' fl) → ∀ x r ls, x ∈ xs → I (x :: r) ls → T (f x ls) (turnQ (J r) R')) (he : ∀ ls, I [] ls → R (.nx ls)) : T (forM' f xs ls) R :=
  T.for_ h0 (h I R (fun _ _ z => z) fun _ z => z) he
/-- a loop of pure turns -/
theorem for_inv {α : Type} {f : PV → List Slot → M Fl} (i : α → PV) (I : List α → List Slot → Prop) : ∀ {xs : List α} {ls : List Slot}, I xs ls →
    (∀ x r ls, x ∈ xs → I (x :: r) ls → ∃ ls', f (i x) ls = M.pure (.nx ls') ∧ I r ls') → ∃ ls', forM' f (xs.map i) ls = M.pure (.nx ls') ∧ I [] ls'
  | [], ls, h0, _ => ⟨ls, rfl, h0⟩
  | x :: xs, ls, h0, h => by
    obtain ⟨l1, e1, h1⟩ := h x xs ls List.mem_cons_self h0
    obtain ⟨l2, e2, h2⟩ := for_inv i I h1 fun y r l hy => h y r l (List.mem_cons_of_mem _ hy)
    refine ⟨l2, ?_, h2⟩
    simp only [List.map_cons]
    unfold forM'
    rw [e1, M.pure_bind]
    exact e2
theorem for_then {α β : Type} {f : PV → List Slot → M Fl} {i : α → PV} (I : List α → List Slot → Prop) {xs : List α} {ls : List Slot} {k : Fl → M β} {r : M β} (h0 : I xs ls)
    (h : ∀ x r ls, x ∈ xs → I (x :: r) ls → ∃ ls', f (i x) ls = M.pure (.nx ls') ∧ I r ls') (hk : ∀ ls', I [] ls' → k (.nx ls') = r) : (forM' f (xs.map i) ls).bind k = r := by
  obtain ⟨ls', e, h'⟩ := for_inv i I h0 h
  rw [e, M.pure_bind, hk ls' h']
/-- a comprehension without a test, its items' properties -/
theorem T.comp {f : PV → M (Option PV)} {R : PV → Prop} : ∀ {xs acc : List PV}, (∀ x ∈ xs, T (f x) fun o => ∃ y, o = some y ∧ R y) → acc.length + xs.length ≤ LIM →
    T (compM f xs acc) fun ys => ∃ zs, ys = acc ++ zs ∧ zs.length = xs.length ∧ ∀ z ∈ zs, R z
  | [], acc, _, _ => T.pure ⟨[], by simp⟩
  | x :: xs, acc, h, hl => by
    unfold compM
    refine (h x List.mem_cons_self).bind ?_
    rintro o ⟨y, rfl, hy⟩
    simp only [List.length_cons] at hl
    simp only
    rw [if_pos (by omega)]
    refine (T.comp (acc := acc ++ [y]) (fun z hz => h z (List.mem_cons_of_mem _ hz)) (by simp; omega)).mono ?_
    rintro ys ⟨zs, rfl, e, hz⟩
    refine ⟨y :: zs, by simp, by simp [e], ?_⟩
    intro z hz'
    rcases List.mem_cons.mp hz' with rfl | hz'
    · exact hy
    · exact hz z hz'
/-- a pure comprehension -/
theorem comp_pure {f : PV → M (Option PV)} (g : PV → Option PV) : ∀ {xs acc : List PV}, (∀ x ∈ xs, f x = M.pure (g x)) → acc.length + xs.length ≤ LIM → compM f xs acc = M.pure (acc ++ xs.filterMap g)
  | [], acc, _, _ => by simp [compM]
  | x :: xs, acc, h, hl => by
    unfold compM
    rw [h x List.mem_cons_self, M.pure_bind]
    simp only [List.length_cons] at hl
    cases e : g x with
    | none =>
      simp only [List.filterMap_cons, e]
      exact comp_pure g (fun z hz => h z (List.mem_cons_of_mem _ hz)) (by omega)
    | some y =>
      simp only [List.filterMap_cons, e]
      rw [if_pos (by omega), comp_pure g (fun z hz => h z (List.mem_cons_of_mem _ hz)) (by simp; omega)]
      simp
/-- a loop's turn -/
def turnF (P : PE') (wf : Nat) (g : G) (body : Ss) (x : PV) (ls : List Slot) : M Fl := match storeG g x ls with
  | some ls' => exs P wf body ls'
  | none => M.bad
theorem turnF_of {P : PE'} {wf : Nat} {g : G} {body : Ss} {x : PV} {ls ls' : List Slot} (h : storeG g x ls = some ls') : turnF P wf g body x ls = exs P wf body ls' := by
  unfold turnF
  rw [h]
/-- how a row goes on -/
def contF (P : PE') (wf : Nat) (r : Ss) : Fl → M Fl
  | .nx ls' => exs P wf r ls'
  | f => M.pure f
def nxO : Option (List Slot) → M Fl
  | some ls' => M.pure (.nx ls')
  | none => M.bad
@[simp] theorem nxO_some (ls : List Slot) : nxO (some ls) = M.pure (.nx ls) := nrfl rfl
def ownM (i : Nat) (k : Bool) (ls : List Slot) : PV → M Fl
  | .lst xs => if i < ls.length ∧ k = true then M.pure (.nx (ls.set i (some (true, .lst xs)))) else M.bad
  | _ => M.bad
@[simp] theorem ownM_lst (i : Nat) (k : Bool) (ls : List Slot) (xs : List PV) : ownM i k ls (.lst xs) = if i < ls.length ∧ k = true then M.pure (.nx (ls.set i (some (true, .lst xs)))) else M.bad := nrfl rfl
def rngM : PV → M (List PV)
  | .int n => if n < 2 ^ 62 ∧ -(2 ^ 62) ≤ n then M.pure (rangeP 0 n.toNat) else M.bad
  | _ => M.bad
theorem rngM_int {n : Int} (h : n < 2 ^ 62 ∧ -(2 ^ 62) ≤ n) : rngM (.int n) = M.pure (rangeP 0 n.toNat) := if_pos h
def intM : PV → M (Option Int)
  | .int i => M.pure (some i)
  | _ => M.bad
@[simp] theorem intM_int (i : Int) : intM (.int i) = M.pure (some i) := nrfl rfl
def joinM (m : M PV) : PV → M PV
  | .str sep => m.bind fun y => M.lift (joinF sep y)
  | _ => M.bad
@[simp] theorem joinM_str (m : M PV) (s : Str) : joinM m (.str s) = m.bind fun y => M.lift (joinF s y) := nrfl rfl
def starM (m : M (List PV)) : Option (List PV) → M (List PV)
  | some ys => m.bind fun xs => M.pure (ys ++ xs)
  | none => M.bad
@[simp] theorem starM_some (m : M (List PV)) (ys : List PV) : starM m (some ys) = m.bind fun xs => M.pure (ys ++ xs) := nrfl rfl
@[simp] theorem seqOf_lst (xs : List PV) : seqOf (.lst xs) = some xs := nrfl rfl
@[simp] theorem seqOf_tup (xs : List PV) : seqOf (.tup xs) = some xs := nrfl rfl
@[simp] theorem itemsF_lst (xs : List PV) : itemsF (.lst xs) = some xs := nrfl rfl
@[simp] theorem itemsF_tup (xs : List PV) : itemsF (.tup xs) = some xs := nrfl rfl
section
variable (P : PE') (b : Bool) (ls : List Slot) (wf : Nat)
@[simp] theorem ev_var (i : Nat) : ev P b (.var i) ls = M.lift (rd b i ls) := nrfl rfl
@[simp] theorem ev_non : ev P b .non ls = M.pure .non := nrfl rfl
@[simp] theorem ev_bl (c : Bool) : ev P b (.bl c) ls = M.pure (.bl c) := nrfl rfl
@[simp] theorem ev_int (i : Int) : ev P b (.int i) ls = M.pure (.int i) := nrfl rfl
@[simp] theorem ev_str (s : Str) : ev P b (.str s) ls = M.pure (.str s) := nrfl rfl
@[simp] theorem ev_glob (x : Str) : ev P b (.glob x) ls = M.lift (P.gl x) := nrfl rfl
@[simp] theorem ev_tup (es : Es) : ev P b (.tup es) ls = (evs P es ls).bind fun xs => if xs.length ≤ LIM then M.pure (.tup xs) else M.bad := nrfl rfl
@[simp] theorem ev_lst (es : Es) : ev P b (.lst es) ls = (evs P es ls).bind fun xs => if xs.length ≤ LIM then M.pure (.lst xs) else M.bad := nrfl rfl
@[simp] theorem ev_bin (op : Operator) (a c : E) : ev P b (.bin op a c) ls = (ev P true a ls).bind fun x => (ev P true c ls).bind fun y => M.lift (binF op x y) := nrfl rfl
@[simp] theorem ev_cmp (op : CmpOp) (a c : E) : ev P b (.cmp op a c) ls = (ev P true a ls).bind fun x => (ev P true c ls).bind fun y => (M.lift (cmpF op x y)).bind fun k => M.pure (.bl k) := nrfl rfl
@[simp] theorem ev_chain (op op' : CmpOp) (a c e : E) : ev P b (.chain op op' a c e) ls = (ev P true a ls).bind fun x => (ev P true c ls).bind fun y => (M.lift (cmpF op x y)).bind fun k =>
    if k = true then (ev P true e ls).bind fun z => (M.lift (cmpF op' y z)).bind fun k => M.pure (.bl k) else M.pure (.bl false) := nrfl rfl
@[simp] theorem ev_and (a c : E) : ev P b (.and a c) ls = (evBl (ev P true a ls)).bind fun k => if k = true then (evBl (ev P true c ls)).bind fun j => M.pure (.bl j) else M.pure (.bl false) := nrfl rfl
@[simp] theorem ev_or (a c : E) : ev P b (.or a c) ls = (evBl (ev P true a ls)).bind fun k => if k = true then M.pure (.bl true) else (evBl (ev P true c ls)).bind fun j => M.pure (.bl j) := nrfl rfl
@[simp] theorem ev_not (a : E) : ev P b (.not a) ls = (evBl (ev P true a ls)).bind fun k => M.pure (.bl (!k)) := nrfl rfl
@[simp] theorem ev_ite (t a c : E) : ev P b (.ite t a c) ls = (ev P true t ls).bind fun x => (M.lift (truF x)).bind fun k => if k = true then ev P false a ls else ev P false c ls := nrfl rfl
@[simp] theorem ev_sub (a i : E) : ev P b (.sub a i) ls = (ev P true a ls).bind fun x => (ev P true i ls).bind fun y => M.lift (subF x y) := nrfl rfl
@[simp] theorem ev_slc (a : E) (lo hi : C) : ev P b (.slc a lo hi) ls = (ev P true a ls).bind fun x => (evP P lo ls).bind fun l => (evP P hi ls).bind fun h => M.lift (slcV l h x) := nrfl rfl
@[simp] theorem ev_call (f : Str) (es : Es) : ev P b (.call f es) ls = (evs P es ls).bind fun xs => P.cf f xs := nrfl rfl
@[simp] theorem ev_bi (n : String) (es : Es) : ev P b (.bi n es) ls = (evsB P es ls).bind fun xs => M.lift (biF n xs) := nrfl rfl
@[simp] theorem ev_sortset (a : E) : ev P b (.sortset a) ls = (ev P true a ls).bind fun x => M.lift (sortsetF x) := nrfl rfl
@[simp] theorem ev_lenset (a : E) : ev P b (.lenset a) ls = (ev P true a ls).bind fun x => M.lift (lensetF x) := nrfl rfl
@[simp] theorem ev_isin (a : E) (tys : List String) : ev P b (.isin a tys) ls = (ev P true a ls).bind fun x => M.pure (.bl (tys.any (tyOk x))) := nrfl rfl
@[simp] theorem ev_dr (o : E) (f : Nat) : ev P b (.dr o f) ls = (ev P true o ls).bind fun x => drGet f x := nrfl rfl
@[simp] theorem ev_drge (o : E) : ev P b (.drge o) ls = (ev P true o ls).bind fun x => drGe x := nrfl rfl
@[simp] theorem ev_lc (e : E) (g : G) (it : I) (c : C) (own : List Nat) : ev P b (.lc e g it c own) ls = (evI P true it ls).bind fun xs => M.nox ((compM (fun x => stepF (storeG g x (wipeP ls own)) (evC P c) (ev P false e)) xs []).bind fun ys => M.pure (.lst ys)) := nrfl rfl
@[simp] theorem evs_nil : evs P .nil ls = M.pure [] := nrfl rfl
@[simp] theorem evs_cons (e : E) (r : Es) : evs P (.cons e r) ls = (ev P false e ls).bind fun x => (evs P r ls).bind fun xs => M.pure (x :: xs) := nrfl rfl
@[simp] theorem evsB_nil : evsB P .nil ls = M.pure [] := nrfl rfl
@[simp] theorem evsB_cons (e : E) (r : Es) : evsB P (.cons e r) ls = (ev P true e ls).bind fun x => (evsB P r ls).bind fun xs => M.pure (x :: xs) := nrfl rfl
@[simp] theorem evI_seq (e : E) : evI P b (.seq e) ls = (ev P b e ls).bind fun x => M.lift (itemsF x) := nrfl rfl
@[simp] theorem evC_no : evC P .no ls = M.pure true := nrfl rfl
@[simp] theorem evC_yes (e : E) : evC P (.yes e) ls = (ev P true e ls).bind fun x => M.lift (truF x) := nrfl rfl
@[simp] theorem evP_no : evP P .no ls = M.pure none := nrfl rfl
@[simp] theorem exs_nil : exs P wf .nil ls = M.pure (.nx ls) := nrfl rfl
@[simp] theorem exs_cons (s : S) (r : Ss) : exs P wf (.cons s r) ls = (ex P wf s ls).bind (contF P wf r) := nrfl rfl
@[simp] theorem contF_nx (r : Ss) (ls : List Slot) : contF P wf r (.nx ls) = exs P wf r ls := nrfl rfl
@[simp] theorem contF_rt (r : Ss) (v : PV) : contF P wf r (.rt v) = M.pure (.rt v) := nrfl rfl
@[simp] theorem contF_bk (r : Ss) (ls : List Slot) : contF P wf r (.bk ls) = M.pure (.bk ls) := nrfl rfl
@[simp] theorem contF_ct (r : Ss) (ls : List Slot) : contF P wf r (.ct ls) = M.pure (.ct ls) := nrfl rfl
@[simp] theorem evI_rng1 (a : E) : evI P b (.rng1 a) ls = (ev P true a ls).bind rngM := nrfl rfl
@[simp] theorem evP_yes (e : E) : evP P (.yes e) ls = (ev P true e ls).bind intM := nrfl rfl
@[simp] theorem ev_join (s a : E) : ev P b (.join s a) ls = (ev P true s ls).bind (joinM (ev P true a ls)) := nrfl rfl
@[simp] theorem evs_star (e : E) (r : Es) : evs P (.star e r) ls = (ev P true e ls).bind fun x => starM (evs P r ls) (seqOf x) := nrfl rfl
@[simp] theorem ev_lzip3 (a c e : E) : ev P b (.lzip3 a c e) ls = (ev P true a ls).bind fun x => (ev P true c ls).bind fun y => (ev P true e ls).bind fun z => M.lift (zip3F x y z) := nrfl rfl
@[simp] theorem ex_set (g : G) (e : E) : ex P wf (.set g e) ls = (ev P false e (frzAt ls (pubE false e))).bind fun v => nxO (storeG g v (frzAt ls (pubE false e))) := nrfl rfl
@[simp] theorem ex_own (i : Nat) (e : E) : ex P wf (.own i e) ls = (ev P false e (frzAt ls (pubE false e))).bind (ownM i (isFresh e) (frzAt ls (pubE false e))) := nrfl rfl
@[simp] theorem ex_par (is : List Nat) (fl : List Bool) (es : Es) : ex P wf (.par is fl es) ls = (evs P es (frzAt ls (pubEs es))).bind fun vs => if vs.length = is.length ∧ is.all (· < (frzAt ls (pubEs es)).length) ∧ frs es fl = true then
      M.pure (.nx ((is.zip (fl.zip vs)).foldl (fun l p => l.set p.1 (some p.2)) (frzAt ls (pubEs es)))) else M.bad := nrfl rfl
@[simp] theorem ex_app (i : Nat) (e : E) : ex P wf (.app i e) ls = (M.lift (ownL (frzAt ls (pubE false e)) i)).bind fun xs => (ev P false e (frzAt ls (pubE false e))).bind fun v => if xs.length < LIM then M.pure (.nx ((frzAt ls (pubE false e)).set i (some (true, .lst (xs ++ [v]))))) else M.bad := nrfl rfl
@[simp] theorem ex_appPop (i j : Nat) (e : E) : ex P wf (.appPop i j e) ls = (M.lift (ownL ls i)).bind fun xs => (M.lift (ownL ls j)).bind fun ys => (ev P true e ls).bind fun v => (M.lift (popF v ys)).bind fun r =>
      if xs.length < LIM ∧ i ≠ j then M.pure (.nx ((ls.set j (some (true, .lst r.2))).set i (some (true, .lst (xs ++ [r.1]))))) else M.bad := nrfl rfl
@[simp] theorem ex_expr (e : E) : ex P wf (.expr e) ls = (ev P false e (frzAt ls (pubE false e))).bind fun _ => M.pure (.nx (frzAt ls (pubE false e))) := nrfl rfl
@[simp] theorem ex_ret (e : E) : ex P wf (.ret e) ls = (ev P false e (ls.map frz1)).bind fun v => M.pure (.rt v) := nrfl rfl
@[simp] theorem ex_retN : ex P wf .retN ls = M.pure (.rt .non) := nrfl rfl
@[simp] theorem ex_ife (t : E) (a c : Ss) : ex P wf (.ife t a c) ls = (ev P true t (frzAt ls (pubE true t))).bind fun x => (M.lift (truF x)).bind fun k => if k = true then exs P wf a (frzAt ls (pubE true t)) else exs P wf c (frzAt ls (pubE true t)) := nrfl rfl
@[simp] theorem ex_for (g : G) (it : I) (body : Ss) : ex P wf (.for_ g it body) ls = (evI P false it (frzAt ls (pubI false it))).bind fun xs => forM' (turnF P wf g body) xs (frzAt ls (pubI false it)) := nrfl rfl
@[simp] theorem ex_drset (i f : Nat) (e : E) : ex P wf (.drset i f e) ls = (ev P true e ls).bind fun v => (M.lift (rd true i ls)).bind fun x => (drSet f x v).bind fun _ => M.pure (.nx ls) := nrfl rfl
@[simp] theorem ex_drpop (i : Nat) : ex P wf (.drpop i) ls = (M.lift (rd true i ls)).bind fun x => (drPop x).bind fun _ => M.pure (.nx ls) := nrfl rfl
@[simp] theorem ex_cnt : ex P wf .cnt ls = M.pure (.ct ls) := nrfl rfl
@[simp] theorem ex_brk : ex P wf .brk ls = M.pure (.bk ls) := nrfl rfl
@[simp] theorem ex_pass : ex P wf .pass ls = M.pure (.nx ls) := nrfl rfl
end
/-! a short loop, turn by turn -/
def nextF (f : PV → List Slot → M Fl) (xs : List PV) : Fl → M Fl
  | .nx ls' => forM' f xs ls'
  | .ct ls' => forM' f xs ls'
  | .bk ls' => M.pure (.nx ls')
  | .rt v => M.pure (.rt v)
theorem forM'_nil (f : PV → List Slot → M Fl) (ls : List Slot) : forM' f [] ls = M.pure (.nx ls) := nrfl rfl
theorem forM'_cons (f : PV → List Slot → M Fl) (x : PV) (xs : List PV) (ls : List Slot) : forM' f (x :: xs) ls = (f x ls).bind (nextF f xs) := nrfl rfl
@[simp] theorem nextF_nx (f : PV → List Slot → M Fl) (xs : List PV) (ls : List Slot) : nextF f xs (.nx ls) = forM' f xs ls := nrfl rfl
@[simp] theorem nextF_ct (f : PV → List Slot → M Fl) (xs : List PV) (ls : List Slot) : nextF f xs (.ct ls) = forM' f xs ls := nrfl rfl
@[simp] theorem nextF_bk (f : PV → List Slot → M Fl) (xs : List PV) (ls : List Slot) : nextF f xs (.bk ls) = M.pure (.nx ls) := nrfl rfl
@[simp] theorem nextF_rt (f : PV → List Slot → M Fl) (xs : List PV) (v : PV) : nextF f xs (.rt v) = M.pure (.rt v) := nrfl rfl
def optS (f : List Slot → M Fl) : Option (List Slot) → M Fl
  | some ls => f ls
  | none => M.bad
@[simp] theorem optS_some (f : List Slot → M Fl) (ls : List Slot) : optS f (some ls) = f ls := nrfl rfl
theorem turnF_eq (P : PE') (wf : Nat) (g : G) (body : Ss) (x : PV) (ls : List Slot) : turnF P wf g body x ls = optS (exs P wf body) (storeG g x ls) := by
  unfold turnF optS
  cases storeG g x ls <;> rfl
/-! what is concrete runs -/
@[simp] theorem frzAt_nil (ls : List Slot) : frzAt ls [] = ls := nrfl rfl
@[simp] theorem frzAt_cons (ls : List Slot) (i : Nat) (r : List Nat) : frzAt ls (i :: r) = frzAt (ls.modify i frz1) r := nrfl rfl
@[simp] theorem frz1_some (b : Bool) (v : PV) : frz1 (some (b, v)) = some (false, v) := nrfl rfl
@[simp] theorem frz1_none : frz1 none = none := nrfl rfl
@[simp] theorem frz1_frz1 (x : Slot) : frz1 (frz1 x) = frz1 x := by
  rcases x with _ | ⟨_, _⟩ <;> rfl
@[simp] theorem rd_zero (b : Bool) (ls : List Slot) (v : PV) : rd b 0 (some (false, v) :: ls) = some v := nrfl rfl
@[simp] theorem rd_zero_t (ls : List Slot) (o : Bool) (v : PV) : rd true 0 (some (o, v) :: ls) = some v := by
  cases o <;> rfl
@[simp] theorem rd_succ (b : Bool) (i : Nat) (x : Slot) (ls : List Slot) : rd b (i + 1) (x :: ls) = rd b i ls := by
  unfold rd
  rw [List.getElem?_cons_succ]
@[simp] theorem modify_zero (f : Slot → Slot) (x : Slot) (ls : List Slot) : List.modify (x :: ls) 0 f = f x :: ls := nrfl rfl
@[simp] theorem modify_succ (f : Slot → Slot) (i : Nat) (x : Slot) (ls : List Slot) : List.modify (x :: ls) (i + 1) f = x :: List.modify ls i f := by
  simp [List.modify]
/-! the names given away: closed terms run -/
section
variable (b : Bool)
@[simp] theorem pubE_var (i : Nat) : pubE b (.var i) = if b then [] else [i] := nrfl rfl
@[simp] theorem pubE_non : pubE b .non = [] := nrfl rfl
@[simp] theorem pubE_bl (c : Bool) : pubE b (.bl c) = [] := nrfl rfl
@[simp] theorem pubE_int (c : Int) : pubE b (.int c) = [] := nrfl rfl
@[simp] theorem pubE_str (c : Str) : pubE b (.str c) = [] := nrfl rfl
@[simp] theorem pubE_glob (c : Str) : pubE b (.glob c) = [] := nrfl rfl
@[simp] theorem pubE_nev : pubE b .nev = [] := nrfl rfl
@[simp] theorem pubE_tup (es : Es) : pubE b (.tup es) = pubEs es := nrfl rfl
@[simp] theorem pubE_lst (es : Es) : pubE b (.lst es) = pubEs es := nrfl rfl
@[simp] theorem pubE_bin (o : Operator) (x y : E) : pubE b (.bin o x y) = pubE true x ++ pubE true y := nrfl rfl
@[simp] theorem pubE_neg (x : E) : pubE b (.neg x) = pubE true x := nrfl rfl
@[simp] theorem pubE_cmp (o : CmpOp) (x y : E) : pubE b (.cmp o x y) = pubE true x ++ pubE true y := nrfl rfl
@[simp] theorem pubE_chain (o o' : CmpOp) (x y z : E) : pubE b (.chain o o' x y z) = pubE true x ++ pubE true y ++ pubE true z := nrfl rfl
@[simp] theorem pubE_and (x y : E) : pubE b (.and x y) = pubE true x ++ pubE true y := nrfl rfl
@[simp] theorem pubE_or (x y : E) : pubE b (.or x y) = pubE true x ++ pubE true y := nrfl rfl
@[simp] theorem pubE_not (x : E) : pubE b (.not x) = pubE true x := nrfl rfl
@[simp] theorem pubE_ite (x y z : E) : pubE b (.ite x y z) = pubE true x ++ pubE false y ++ pubE false z := nrfl rfl
@[simp] theorem pubE_sub (x y : E) : pubE b (.sub x y) = pubE true x ++ pubE true y := nrfl rfl
@[simp] theorem pubE_slc (x : E) (l h : C) : pubE b (.slc x l h) = pubE true x ++ pubC l ++ pubC h := nrfl rfl
@[simp] theorem pubE_rev (x : E) : pubE b (.rev x) = pubE true x := nrfl rfl
@[simp] theorem pubE_call (f : Str) (es : Es) : pubE b (.call f es) = pubEs es := nrfl rfl
@[simp] theorem pubE_bi (f : String) (es : Es) : pubE b (.bi f es) = pubBs es := nrfl rfl
@[simp] theorem pubE_lenset (x : E) : pubE b (.lenset x) = pubE true x := nrfl rfl
@[simp] theorem pubE_sortset (x : E) : pubE b (.sortset x) = pubE true x := nrfl rfl
@[simp] theorem pubE_lzip3 (x y z : E) : pubE b (.lzip3 x y z) = pubE true x ++ pubE true y ++ pubE true z := nrfl rfl
@[simp] theorem pubE_join (x y : E) : pubE b (.join x y) = pubE true x ++ pubE true y := nrfl rfl
@[simp] theorem pubE_isin (x : E) (t : List String) : pubE b (.isin x t) = pubE true x := nrfl rfl
@[simp] theorem pubE_dr (x : E) (f : Nat) : pubE b (.dr x f) = pubE true x := nrfl rfl
@[simp] theorem pubE_drge (x : E) : pubE b (.drge x) = pubE true x := nrfl rfl
@[simp] theorem pubE_lc (e : E) (g : G) (it : I) (c : C) (own : List Nat) : pubE b (.lc e g it c own) = pubI true it ++ ((pubC c ++ pubE false e).filter fun i => !own.contains i) := nrfl rfl
@[simp] theorem pubE_lc2 (e : E) (g : G) (it : I) (c : C) (g2 : G) (it2 : I) (c2 : C) (own own2 fr : List Nat) : pubE b (.lc2 e g it c g2 it2 c2 own own2 fr) = pubI true it ++ fr := nrfl rfl
@[simp] theorem pubEs_nil : pubEs .nil = [] := nrfl rfl
@[simp] theorem pubEs_cons (e : E) (r : Es) : pubEs (.cons e r) = pubE false e ++ pubEs r := nrfl rfl
@[simp] theorem pubEs_star (e : E) (r : Es) : pubEs (.star e r) = pubE true e ++ pubEs r := nrfl rfl
@[simp] theorem pubBs_nil : pubBs .nil = [] := nrfl rfl
@[simp] theorem pubBs_cons (e : E) (r : Es) : pubBs (.cons e r) = pubE true e ++ pubBs r := nrfl rfl
@[simp] theorem pubI_seq (e : E) : pubI b (.seq e) = pubE b e := nrfl rfl
@[simp] theorem pubI_rng1 (e : E) : pubI b (.rng1 e) = pubE true e := nrfl rfl
@[simp] theorem pubI_rng2 (e f : E) : pubI b (.rng2 e f) = pubE true e ++ pubE true f := nrfl rfl
@[simp] theorem pubI_enum (e : E) : pubI b (.enum e) = pubE b e := nrfl rfl
@[simp] theorem pubI_zip2 (e f : E) : pubI b (.zip2 e f) = pubE b e ++ pubE b f := nrfl rfl
@[simp] theorem pubC_no : pubC .no = [] := nrfl rfl
@[simp] theorem pubC_yes (e : E) : pubC (.yes e) = pubE true e := nrfl rfl
end
@[simp] theorem evBl_eq (m : M PV) : evBl m = m.bind fun x => M.lift (blF x) := nrfl rfl
@[simp] theorem blF_bl (k : Bool) : blF (.bl k) = some k := nrfl rfl
@[simp] theorem truF_bl (k : Bool) : truF (.bl k) = some k := nrfl rfl
@[simp] theorem storeG_nm (i : Nat) (v : PV) (ls : List Slot) : storeG (.nm i) v ls = if i < ls.length then some (ls.set i (some (false, v))) else none := nrfl rfl
@[simp] theorem wipeP_nil (ls : List Slot) : wipeP ls [] = ls := nrfl rfl
@[simp] theorem wipeP_cons (ls : List Slot) (i : Nat) (r : List Nat) : wipeP ls (i :: r) = (wipeP ls r).set i none := nrfl rfl
@[simp] theorem stepF_some (ls : List Slot) (c : List Slot → M Bool) (e : List Slot → M PV) : stepF (some ls) c e = (c ls).bind fun k => if k = true then (e ls).bind fun y => M.pure (some y) else M.pure none := nrfl rfl
@[simp] theorem ownL_zero (xs : List PV) (ls : List Slot) : ownL (some (true, .lst xs) :: ls) 0 = some xs := nrfl rfl
@[simp] theorem ownL_succ (x : Slot) (i : Nat) (ls : List Slot) : ownL (x :: ls) (i + 1) = ownL ls i := by
  unfold ownL
  rw [List.getElem?_cons_succ]
@[simp] theorem frs_nil : frs .nil [] = true := nrfl rfl
@[simp] theorem frs_cons (e : E) (r : Es) (f : Bool) (fs : List Bool) : frs (.cons e r) (f :: fs) = ((!f || isFresh e) && frs r fs) := nrfl rfl
@[simp] theorem isFresh_lst (es : Es) : isFresh (.lst es) = true := nrfl rfl
@[simp] theorem isFresh_lc (e : E) (g : G) (it : I) (c : C) (own : List Nat) : isFresh (.lc e g it c own) = true := nrfl rfl
@[simp] theorem isFresh_lc2 (e : E) (g : G) (it : I) (c : C) (g2 : G) (it2 : I) (c2 : C) (own own2 fr : List Nat) : isFresh (.lc2 e g it c g2 it2 c2 own own2 fr) = true := nrfl rfl
@[simp] theorem isFresh_list (es : Es) : isFresh (.bi "list" es) = true := nrfl rfl
@[simp] theorem isFresh_sorted (es : Es) : isFresh (.bi "sorted" es) = true := nrfl rfl
@[simp] theorem storeG_tp_l (is : List Nat) (xs : List PV) (ls : List Slot) : storeG (.tp is) (.lst xs) ls = if xs.length = is.length ∧ is.all (· < ls.length) then some ((is.zip xs).foldl (fun l p => l.set p.1 (some (false, p.2))) ls) else none := nrfl rfl
@[simp] theorem storeG_tp_t (is : List Nat) (xs : List PV) (ls : List Slot) : storeG (.tp is) (.tup xs) ls = if xs.length = is.length ∧ is.all (· < ls.length) then some ((is.zip xs).foldl (fun l p => l.set p.1 (some (false, p.2))) ls) else none := nrfl rfl
@[simp] theorem ex_whl (P : PE') (wf : Nat) (ls : List Slot) (t : E) (body : Ss) : ex P wf (.whl t body) ls = if pubE true t = [] then whileM (fun ls => (ev P true t ls).bind fun x => M.lift (truF x)) (fun ls => exs P wf body ls) wf ls else M.bad := nrfl rfl
/-- a counted while loop -/
theorem T.while_ {t : List Slot → M Bool} {f : List Slot → M Fl} {R : Fl → Prop} {I : Nat → List Slot → Prop} (ht : ∀ k ls, I (k + 1) ls → t ls = M.pure true ∧ T (f ls) (turnQ (I k) R))
    (h0 : ∀ ls, I 0 ls → t ls = M.pure false ∧ R (.nx ls)) : ∀ {k wf : Nat} {ls : List Slot}, I k ls → k < wf → T (whileM t f wf ls) R
  | 0, wf + 1, ls, hi, _ => by
    unfold whileM
    rw [(h0 ls hi).1, M.pure_bind, if_neg (by decide)]
    exact T.pure (h0 ls hi).2
  | k + 1, wf + 1, ls, hi, hk => by
    obtain ⟨e, b⟩ := ht k ls hi
    unfold whileM
    rw [e, M.pure_bind, if_pos rfl]
    refine b.bind ?_
    rintro (ls' | v | ls' | ls') h
    · exact T.while_ ht h0 h (by omega)
    · exact T.pure h
    · exact T.pure h
    · exact T.while_ ht h0 h (by omega)
theorem T.while {t : List Slot → M Bool} {f : List Slot → M Fl} {R : Fl → Prop} (I : Nat → List Slot → Prop) {k wf : Nat} {ls : List Slot} (hi : I k ls) (hk : k < wf)
    (ht : ∀ (J : Nat → List Slot → Prop) (R' : Fl → Prop), (∀ k ls, I k ls → J k ls) → (∀ fl, R fl → R' fl) → ∀ k ls, I (k + 1) ls → t ls = M.pure true ∧ T (f ls) (turnQ (J k) R'))
    (h0 : ∀ ls, I 0 ls → t ls = M.pure false ∧ R (.nx ls)) : T (whileM t f wf ls) R := T.while_ (ht I R (fun _ _ z => z) fun _ z => z) h0 hi hk
/-- what a call gives of its end -/
def finF : Fl → M PV
  | .rt v => M.pure v
  | .nx _ => M.pure .non
  | _ => M.bad
@[simp] theorem finF_rt (v : PV) : finF (.rt v) = M.pure v := nrfl rfl
@[simp] theorem finF_nx (ls : List Slot) : finF (.nx ls) = M.pure .non := nrfl rfl
theorem callF_of {P : Prog} {wf n : Nat} {f : Str} {xs : List PV} {fd : FnD} (hf : P.fn f = some fd) (hl : xs.length = fd.np) :
    callF P wf (n + 1) f xs = (exs ⟨P.gl, callF P wf n⟩ wf fd.body (start' fd.nv xs)).bind finF := by
  show (match P.fn f with
    | some fd => _
    | none => M.bad) = _
  rw [hf]
  simp only
  rw [if_pos hl]
  rfl
end FL
namespace FL
open FW
open PySem L2
/-- is_list: thing -/
def d_is_list : FnD := ⟨1, 1,
 (Ss.cons (S.ret (E.isin (E.var 0) ["list", "tuple"]))
 Ss.nil)⟩
/-- is_name: thing, sign -/
def d_is_name : FnD := ⟨1, 2,
 (Ss.cons (S.ife (E.or (E.not (E.isin (E.var 0) ["str"])) (E.not (E.chain .LtE .LtE (E.int 1) (E.bi "len" (Es.cons (E.var 0) Es.nil)) (E.glob (Str.ofString "MOST_LETTERS")))))
 (Ss.cons (S.ret (E.bl false))
 Ss.nil)
 Ss.nil)
 (Ss.cons (S.ret (E.bi "all" (Es.cons (E.lc (E.cmp .In (E.var 1) (E.glob (Str.ofString "LETTERS"))) (G.nm 1) (I.seq (E.var 0)) C.no [1]) Es.nil)))
 Ss.nil))⟩
/-- is_places: thing, name -/
def d_is_places : FnD := ⟨1, 2,
 (Ss.cons (S.ife (E.or (E.not (E.call (Str.ofString "is_list") (Es.cons (E.var 0) Es.nil))) (E.not (E.chain .LtE .LtE (E.glob (Str.ofString "LEAST_PLACES")) (E.bi "len" (Es.cons (E.var 0) Es.nil)) (E.glob (Str.ofString "MOST_PLACES")))))
 (Ss.cons (S.ret (E.bl false))
 Ss.nil)
 Ss.nil)
 (Ss.cons (S.ret (E.and (E.bi "all" (Es.cons (E.lc (E.call (Str.ofString "is_name") (Es.cons (E.var 1) Es.nil)) (G.nm 1) (I.seq (E.var 0)) C.no [1]) Es.nil)) (E.cmp .Eq (E.lenset (E.var 0)) (E.bi "len" (Es.cons (E.var 0) Es.nil)))))
 Ss.nil))⟩
/-- ordered: places -/
def d_ordered : FnD := ⟨1, 1,
 (Ss.cons (S.ret (E.bi "tuple" (Es.cons (E.bi "sorted" (Es.cons (E.var 0) Es.nil)) Es.nil)))
 Ss.nil)⟩
/-- need_places: places -/
def d_need_places : FnD := ⟨1, 1,
 (Ss.cons (S.ife (E.not (E.call (Str.ofString "is_places") (Es.cons (E.var 0) Es.nil)))
 (Ss.cons S.nev
 Ss.nil)
 Ss.nil)
 (Ss.cons (S.ret (E.call (Str.ofString "ordered") (Es.cons (E.var 0) Es.nil)))
 Ss.nil))⟩
/-- is_point_of: names, thing, point -/
def d_is_point_of : FnD := ⟨2, 3,
 (Ss.cons (S.ife (E.isin (E.var 1) ["str"])
 (Ss.cons (S.ret (E.cmp .In (E.var 1) (E.var 0)))
 Ss.nil)
 Ss.nil)
 (Ss.cons (S.ife (E.or (E.not (E.isin (E.var 1) ["tuple"])) (E.or (E.cmp .NotEq (E.bi "len" (Es.cons (E.var 1) Es.nil)) (E.int 4)) (E.or (E.not (E.isin (E.sub (E.var 1) (E.int 0)) ["str"])) (E.cmp .NotEq (E.sub (E.var 1) (E.int 0)) (E.glob (Str.ofString "FORK"))))))
 (Ss.cons (S.ret (E.bl false))
 Ss.nil)
 Ss.nil)
 (Ss.cons (S.ret (E.bi "all" (Es.cons (E.lc (E.call (Str.ofString "is_point_of") (Es.cons (E.var 0) (Es.cons (E.var 2) Es.nil))) (G.nm 2) (I.seq (E.slc (E.var 1) (C.yes (E.int 1)) C.no)) C.no [2]) Es.nil)))
 Ss.nil)))⟩
/-- need_point: names, point -/
def d_need_point : FnD := ⟨2, 2,
 (Ss.cons (S.ife (E.not (E.call (Str.ofString "is_point_of") (Es.cons (E.var 0) (Es.cons (E.var 1) Es.nil))))
 (Ss.cons S.nev
 Ss.nil)
 Ss.nil)
 Ss.nil)⟩
/-- lots_of: names, found, name, lot -/
def d_lots_of : FnD := ⟨1, 4,
 (Ss.cons (S.set (G.nm 1) (E.lst (Es.cons (E.tup Es.nil) Es.nil)))
 (Ss.cons (S.for_ (G.nm 2) (I.seq (E.var 0))
 (Ss.cons (S.set (G.nm 1) (E.bin .Add (E.var 1) (E.lc (E.tup (Es.star (E.var 3) (Es.cons (E.var 2) Es.nil))) (G.nm 3) (I.seq (E.var 1)) C.no [3])))
 Ss.nil))
 (Ss.cons (S.ret (E.var 1))
 Ss.nil)))⟩
/-- partings_of: names, lot -/
def d_partings_of : FnD := ⟨1, 2,
 (Ss.cons (S.ret (E.bi "sorted" (Es.cons (E.lc (E.var 1) (G.nm 1) (I.seq (E.call (Str.ofString "lots_of") (Es.cons (E.slc (E.var 0) (C.yes (E.int 1)) C.no) Es.nil))) (C.yes (E.cmp .NotEq (E.var 1) (E.tup Es.nil))) [1]) Es.nil)))
 Ss.nil)⟩
/-- is_side: parting, point, other -/
def d_is_side : FnD := ⟨2, 3,
 (Ss.cons (S.ife (E.isin (E.var 1) ["str"])
 (Ss.cons (S.ret (E.cmp .In (E.var 1) (E.var 0)))
 Ss.nil)
 Ss.nil)
 (Ss.cons (S.ret (E.cmp .Gt (E.bi "sum" (Es.cons (E.lc (E.bi "int" (Es.cons (E.call (Str.ofString "is_side") (Es.cons (E.var 0) (Es.cons (E.var 2) Es.nil))) Es.nil)) (G.nm 2) (I.seq (E.slc (E.var 1) (C.yes (E.int 1)) C.no)) C.no [2]) Es.nil)) (E.int 1)))
 Ss.nil))⟩
/-- sides_of: names, point, parting -/
def d_sides_of : FnD := ⟨2, 3,
 (Ss.cons (S.ret (E.bi "tuple" (Es.cons (E.lc (E.call (Str.ofString "is_side") (Es.cons (E.var 2) (Es.cons (E.var 1) Es.nil))) (G.nm 2) (I.seq (E.call (Str.ofString "partings_of") (Es.cons (E.var 0) Es.nil))) C.no [2]) Es.nil)))
 Ss.nil)⟩
/-- one_spot: places, one, other, names -/
def d_one_spot : FnD := ⟨3, 4,
 (Ss.cons (S.set (G.nm 3) (E.call (Str.ofString "need_places") (Es.cons (E.var 0) Es.nil)))
 (Ss.cons (S.expr (E.call (Str.ofString "need_point") (Es.cons (E.var 3) (Es.cons (E.var 1) Es.nil))))
 (Ss.cons (S.expr (E.call (Str.ofString "need_point") (Es.cons (E.var 3) (Es.cons (E.var 2) Es.nil))))
 (Ss.cons (S.ret (E.cmp .Eq (E.call (Str.ofString "sides_of") (Es.cons (E.var 3) (Es.cons (E.var 1) Es.nil))) (E.call (Str.ofString "sides_of") (Es.cons (E.var 3) (Es.cons (E.var 2) Es.nil)))))
 Ss.nil))))⟩
/-- on_ways: places, one, other, third, names, sides, first, second, last -/
def d_on_ways : FnD := ⟨4, 9,
 (Ss.cons (S.set (G.nm 4) (E.call (Str.ofString "need_places") (Es.cons (E.var 0) Es.nil)))
 (Ss.cons (S.expr (E.call (Str.ofString "need_point") (Es.cons (E.var 4) (Es.cons (E.var 1) Es.nil))))
 (Ss.cons (S.expr (E.call (Str.ofString "need_point") (Es.cons (E.var 4) (Es.cons (E.var 2) Es.nil))))
 (Ss.cons (S.expr (E.call (Str.ofString "need_point") (Es.cons (E.var 4) (Es.cons (E.var 3) Es.nil))))
 (Ss.cons (S.set (G.nm 5) (E.lzip3 (E.call (Str.ofString "sides_of") (Es.cons (E.var 4) (Es.cons (E.var 1) Es.nil))) (E.call (Str.ofString "sides_of") (Es.cons (E.var 4) (Es.cons (E.var 2) Es.nil))) (E.call (Str.ofString "sides_of") (Es.cons (E.var 4) (Es.cons (E.var 3) Es.nil)))))
 (Ss.cons (S.ret (E.not (E.bi "any" (Es.cons (E.lc (E.and (E.cmp .Eq (E.var 6) (E.var 7)) (E.cmp .NotEq (E.var 8) (E.var 6))) (G.tp [6, 7, 8]) (I.seq (E.var 5)) C.no [6, 7, 8]) Es.nil))))
 Ss.nil))))))⟩
/-- _law_begin: _law_script, _law_great, _law_cell -/
def d_law_begin : FnD := ⟨1, 3,
 (Ss.cons (S.own 1 (E.lc (E.bin .Sub (E.bi "abs" (Es.cons (E.var 2) Es.nil)) (E.bin .Pow (E.int 10) (E.int 18))) (G.nm 2) (I.seq (E.var 0)) (C.yes (E.cmp .GtE (E.bi "abs" (Es.cons (E.var 2) Es.nil)) (E.bin .Pow (E.int 10) (E.int 18)))) [2]))
 (Ss.cons (S.drnew 1 (E.lc (E.bi "abs" (Es.cons (E.var 2) Es.nil)) (G.nm 2) (I.seq (E.var 0)) C.no [2]))
 Ss.nil))⟩
/-- _law_blend: _law_draw, _law_turn, _law_found, _law_prime, _law_blend_here, _law_cell -/
def d_law_blend : FnD := ⟨1, 6,
 (Ss.cons (S.set (G.nm 1) (E.bin .Add (E.dr (E.var 0) 1) (E.int 1)))
 (Ss.cons (S.drset 0 1 (E.var 1))
 (Ss.cons (S.set (G.nm 2) (E.int 0))
 (Ss.cons (S.for_ (G.nm 3) (I.seq (E.lst (Es.cons (E.int 2147483629) (Es.cons (E.int 2147483587) (Es.cons (E.int 2147483579) (Es.cons (E.int 2147483563) Es.nil))))))
 (Ss.cons (S.set (G.nm 4) (E.bin .Mod (E.bi "int" (Es.cons (E.bin .Add (E.bin .Mult (E.var 1) (E.int 69621)) (E.bin .FloorDiv (E.var 3) (E.int 7))) Es.nil)) (E.var 3)))
 (Ss.cons (S.for_ (G.nm 5) (I.seq (E.dr (E.var 0) 2))
 (Ss.cons (S.set (G.nm 4) (E.bin .Mod (E.bi "int" (Es.cons (E.bin .Add (E.bin .Mult (E.var 4) (E.int 48271)) (E.var 5)) Es.nil)) (E.var 3)))
 Ss.nil))
 (Ss.cons (S.set (G.nm 2) (E.bin .Add (E.bin .Mult (E.var 2) (E.int 2147483647)) (E.bin .Mod (E.bi "int" (Es.cons (E.bin .Pow (E.var 4) (E.int 5)) Es.nil)) (E.var 3))))
 Ss.nil))))
 (Ss.cons (S.ret (E.var 2))
 Ss.nil)))))⟩
/-- _law_take: _law_draw, _law_many, _law_found -/
def d_law_take : FnD := ⟨2, 3,
 (Ss.cons (S.ife (E.and (E.cmp .Eq (E.dr (E.var 0) 0) (E.int 0)) (E.drge (E.var 0)))
 (Ss.cons (S.drpop 0)
 Ss.nil)
 Ss.nil)
 (Ss.cons (S.ife (E.cmp .Eq (E.dr (E.var 0) 0) (E.int 0))
 (Ss.cons (S.drset 0 0 (E.call (Str.ofString "_law_blend") (Es.cons (E.var 0) Es.nil)))
 Ss.nil)
 Ss.nil)
 (Ss.cons (S.set (G.nm 2) (E.bin .Mod (E.bi "int" (Es.cons (E.dr (E.var 0) 0) Es.nil)) (E.var 1)))
 (Ss.cons (S.drset 0 0 (E.bin .FloorDiv (E.dr (E.var 0) 0) (E.var 1)))
 (Ss.cons (S.ret (E.var 2))
 Ss.nil)))))⟩
/-- _law_pick: _law_draw, _law_some -/
def d_law_pick : FnD := ⟨2, 2,
 (Ss.cons (S.ret (E.sub (E.var 1) (E.call (Str.ofString "_law_take") (Es.cons (E.var 0) (Es.cons (E.bi "len" (Es.cons (E.var 1) Es.nil)) Es.nil)))))
 Ss.nil)⟩
/-- _law_mixed: _law_draw, _law_some, _law_left, _law_found -/
def d_law_mixed : FnD := ⟨2, 4,
 (Ss.cons (S.par [2, 3] [true, true] (Es.cons (E.bi "list" (Es.cons (E.var 1) Es.nil)) (Es.cons (E.lst Es.nil) Es.nil)))
 (Ss.cons (S.whl (E.cmp .NotEq (E.var 2) (E.lst Es.nil))
 (Ss.cons (S.appPop 3 2 (E.call (Str.ofString "_law_take") (Es.cons (E.var 0) (Es.cons (E.bi "len" (Es.cons (E.var 2) Es.nil)) Es.nil))))
 Ss.nil))
 (Ss.cons (S.ret (E.var 3))
 Ss.nil)))⟩
/-- _law_words: _law_draw, _law_count, _law_letters, _law_found, _law_some, _law_k, _law_word, _law_span, _law_near, _law_letter, _law_j, _law_uno -/
def d_law_words : FnD := ⟨2, 12,
 (Ss.cons (S.par [2, 3] [false, true] (Es.cons (E.str (Str.ofString "abcdefghijklmnopqrstuvwxyz")) (Es.cons (E.lst Es.nil) Es.nil)))
 (Ss.cons (S.set (G.nm 4) (E.lst (Es.cons (E.str (Str.ofString "a")) (Es.cons (E.str (Str.ofString "b")) (Es.cons (E.str (Str.ofString "fork")) (Es.cons (E.str (Str.ofString "forks")) (Es.cons (E.str (Str.ofString "f")) (Es.cons (E.str (Str.ofString "most")) (Es.cons (E.str (Str.ofString "tell")) (Es.cons (E.str (Str.ofString "none")) (Es.cons (E.str (Str.ofString "places")) (Es.cons (E.str (Str.ofString "zzzzzzzz")) Es.nil))))))))))))
 (Ss.cons (S.for_ (G.nm 5) (I.rng1 (E.var 1))
 (Ss.cons (S.set (G.nm 6) (E.call (Str.ofString "_law_pick") (Es.cons (E.var 0) (Es.cons (E.var 4) Es.nil))))
 (Ss.cons (S.ife (E.cmp .Gt (E.call (Str.ofString "_law_take") (Es.cons (E.var 0) (Es.cons (E.int 3) Es.nil))) (E.int 0))
 (Ss.cons (S.set (G.nm 7) (E.bin .Add (E.int 1) (E.call (Str.ofString "_law_take") (Es.cons (E.var 0) (Es.cons (E.call (Str.ofString "_law_pick") (Es.cons (E.var 0) (Es.cons (E.lst (Es.cons (E.int 1) (Es.cons (E.int 2) (Es.cons (E.int 8) Es.nil)))) Es.nil))) Es.nil)))))
 (Ss.cons (S.set (G.nm 6) (E.join (E.str (Str.ofString "")) (E.lc (E.call (Str.ofString "_law_pick") (Es.cons (E.var 0) (Es.cons (E.var 2) Es.nil))) (G.nm 10) (I.rng1 (E.var 7)) C.no [10])))
 Ss.nil))
 Ss.nil)
 (Ss.cons (S.set (G.nm 8) (E.bin .Add (E.lst (Es.cons (E.var 6) Es.nil)) (E.lc (E.bin .Add (E.slc (E.var 6) C.no (C.yes (E.int 7))) (E.var 9)) (G.nm 9) (I.seq (E.var 2)) C.no [9])))
 (Ss.cons (S.app 3 (E.sub (E.lc (E.var 11) (G.nm 11) (I.seq (E.var 8)) (C.yes (E.cmp .NotIn (E.var 11) (E.var 3))) [11]) (E.int 0)))
 Ss.nil)))))
 (Ss.cons (S.ret (E.var 3))
 Ss.nil))))⟩
/-- _law_towns: _law_draw, _law_most -/
def d_law_towns : FnD := ⟨2, 2,
 (Ss.cons (S.ret (E.call (Str.ofString "_law_words") (Es.cons (E.var 0) (Es.cons (E.bin .Add (E.int 2) (E.call (Str.ofString "_law_take") (Es.cons (E.var 0) (Es.cons (E.bin .Sub (E.var 1) (E.int 1)) Es.nil)))) Es.nil))))
 Ss.nil)⟩
/-- _law_point: _law_draw, _law_names, _law_deep, _law_k -/
def d_law_point : FnD := ⟨3, 4,
 (Ss.cons (S.ife (E.or (E.cmp .Eq (E.var 2) (E.int 0)) (E.cmp .Eq (E.call (Str.ofString "_law_take") (Es.cons (E.var 0) (Es.cons (E.int 3) Es.nil))) (E.int 0)))
 (Ss.cons (S.ret (E.call (Str.ofString "_law_pick") (Es.cons (E.var 0) (Es.cons (E.var 1) Es.nil))))
 Ss.nil)
 Ss.nil)
 (Ss.cons (S.ret (E.bin .Add (E.tup (Es.cons (E.str (Str.ofString "fork")) Es.nil)) (E.bi "tuple" (Es.cons (E.lc (E.call (Str.ofString "_law_point") (Es.cons (E.var 0) (Es.cons (E.var 1) (Es.cons (E.bin .Sub (E.var 2) (E.int 1)) Es.nil)))) (G.nm 3) (I.rng1 (E.int 3)) C.no [3]) Es.nil))))
 Ss.nil))⟩
/-- _law_put: _law_uno, _law_duo, _law_tres -/
def d_law_put : FnD := ⟨3, 3,
 (Ss.cons (S.ret (E.tup (Es.cons (E.str (Str.ofString "fork")) (Es.cons (E.var 0) (Es.cons (E.var 1) (Es.cons (E.var 2) Es.nil))))))
 Ss.nil)⟩
end FL
namespace FL
open FW
open PySem L2
def LET : Str := Str.ofString "abcdefghijklmnopqrstuvwxyz"
def FRK : Str := Str.ofString "fork"
/-- the table has these defs and these names -/
structure Has (P : Prog) : Prop where
  is_list : P.fn (Str.ofString "is_list") = some d_is_list
  is_name : P.fn (Str.ofString "is_name") = some d_is_name
  is_places : P.fn (Str.ofString "is_places") = some d_is_places
  ordered : P.fn (Str.ofString "ordered") = some d_ordered
  need_places : P.fn (Str.ofString "need_places") = some d_need_places
  is_point_of : P.fn (Str.ofString "is_point_of") = some d_is_point_of
  need_point : P.fn (Str.ofString "need_point") = some d_need_point
  letters : P.gl (Str.ofString "LETTERS") = some (.str LET)
  most_letters : P.gl (Str.ofString "MOST_LETTERS") = some (.int 8)
  least_places : P.gl (Str.ofString "LEAST_PLACES") = some (.int 2)
  most_places : P.gl (Str.ofString "MOST_PLACES") = some (.int 6)
  fork : P.gl (Str.ofString "FORK") = some (.str FRK)
variable {P : Prog} {wf n : Nat}
theorem blPV_map {α : Type} (f : α → Bool) : ∀ xs : List α, blPV (xs.map fun x => .bl (f x)) = some (xs.map f)
  | [] => rfl
  | x :: xs => by simp [blPV, blPV_map f xs]
theorem all_map {α : Type} (f : α → Bool) (xs : List α) : biF "all" [.lst (xs.map fun x => .bl (f x))] = some (.bl (xs.all f)) := by
  simp [biF, bi1, blPV_map, Function.comp_def]
theorem any_map {α : Type} (f : α → Bool) (xs : List α) : biF "any" [.lst (xs.map fun x => .bl (f x))] = some (.bl (xs.any f)) := by
  simp [biF, bi1, blPV_map, Function.comp_def]
/-- a comprehension that keeps all: over images -/
theorem comp_map {α : Type} {f : PV → M (Option PV)} (i : α → PV) (g : α → PV) {xs : List α} (h : ∀ x ∈ xs, f (i x) = M.pure (some (g x))) (hl : xs.length ≤ LIM) : compM f (xs.map i) [] = M.pure (xs.map g) := by
  have key : ∀ (xs : List α) (acc : List PV), (∀ x ∈ xs, f (i x) = M.pure (some (g x))) → acc.length + xs.length ≤ LIM → compM f (xs.map i) acc = M.pure (acc ++ xs.map g) := by
    intro xs
    induction xs with
    | nil => intro acc _ _; simp [compM]
    | cons x xs ih =>
      intro acc h hl
      simp only [List.map_cons]
      unfold compM
      simp only [List.length_cons] at hl
      rw [h x List.mem_cons_self, M.pure_bind]
      simp only
      rw [if_pos (by omega), ih _ (fun z hz => h z (List.mem_cons_of_mem _ hz)) (by simp; omega)]
      simp
  simpa using key xs [] h (by simpa using hl)
theorem is_list_of (h : Has P) (x : PV) : callF P wf (n + 1) (Str.ofString "is_list") [x] = M.pure (.bl (["list", "tuple"].any (tyOk x))) := by
  rw [callF_of h.is_list rfl]
  simp [d_is_list, start']
/-- a name's text -/
def nameT (t : Str) : Bool := decide (1 ≤ t.length) && decide (t.length ≤ 8) && t.cps.toList.all (LET.cps.toList.contains ·)
theorem is_name_str (h : Has P) (t : Str) (ht : t.length ≤ LIM) : callF P wf (n + 1) (Str.ofString "is_name") [.str t] = M.pure (.bl (nameT t)) := by
  have e1 : tyOk (.str t) "str" = true := by simp [tyOk, tyN]
  have e2 : biF "len" [.str t] = some (.int t.length) := by simp [biF, bi1, lenF, ht]
  rw [callF_of h.is_name rfl]
  simp [d_is_name, start', h.letters, h.most_letters, e1, e2, cmpF, leF]
  by_cases h1 : (1 : Int) ≤ t.length
  · by_cases h2 : (t.length : Int) ≤ 8
    · have e3 : itemsF (.str t) = some (t.cps.toList.map fun c => .str ⟨#[c]⟩) := by simp [itemsF, ht]
      rw [if_pos h1, if_neg (by omega), e3, M.lift_some, M.pure_bind, comp_map (g := fun c => .bl (LET.cps.toList.contains c))]
      · simp only [M.pure_bind, M.nox_pure, all_map, M.lift_some]
        have a1 : 1 ≤ t.length := by omega
        have a2 : t.length ≤ 8 := by omega
        simp [nameT, a1, a2]
      · intro c _
        simp [inF, inStr, Str.length]
      · simpa [Str.length] using ht
    · rw [if_pos h1, if_pos (by omega)]
      have a2 : ¬ t.length ≤ 8 := by omega
      simp [nameT, a2]
  · rw [if_neg h1]
    have a2 : ¬ 1 ≤ t.length := by omega
    simp [nameT, a2]
/-! ### sorting, generic -/
def insBy {α : Type} (lt : α → α → Bool) (x : α) : List α → List α
  | [] => [x]
  | y :: r => if lt y x then y :: insBy lt x r else x :: y :: r
def srtBy {α : Type} (lt : α → α → Bool) : List α → List α
  | [] => []
  | x :: r => insBy lt x (srtBy lt r)
theorem insPV_map {α : Type} (f : α → PV) (x : α) : ∀ xs : List α, insPV (f x) (xs.map f) = (insBy (fun a b => ltPV (f a) (f b)) x xs).map f
  | [] => rfl
  | y :: r => by
    simp only [List.map_cons, insPV, insBy]
    split
    · rw [List.map_cons, insPV_map f x r]
    · rfl
theorem srtPV_map {α : Type} (f : α → PV) : ∀ xs : List α, srtPV (xs.map f) = (srtBy (fun a b => ltPV (f a) (f b)) xs).map f
  | [] => rfl
  | x :: r => by
    simp only [List.map_cons, srtPV, srtBy]
    rw [srtPV_map f r, insPV_map]
theorem insBy_perm {α : Type} (lt : α → α → Bool) (x : α) : ∀ xs : List α, (insBy lt x xs).Perm (x :: xs)
  | [] => .refl _
  | y :: r => by
    unfold insBy
    split
    · exact ((insBy_perm lt x r).cons y).trans (.swap x y r)
    · exact .refl _
theorem srtBy_perm {α : Type} (lt : α → α → Bool) : ∀ xs : List α, (srtBy lt xs).Perm xs
  | [] => .refl _
  | x :: r => by
    unfold srtBy
    exact (insBy_perm lt x _).trans ((srtBy_perm lt r).cons x)
/-! ### places -/
def ltS (a b : Str) : Bool := ltPV (.str a) (.str b)
def ordS (ts : List Str) : List Str := srtBy ltS ts
theorem ordS_perm (ts : List Str) : (ordS ts).Perm ts := srtBy_perm ltS ts
structure Names (ts : List Str) : Prop where
  lo : 2 ≤ ts.length
  hi : ts.length ≤ 6
  nm : ∀ t ∈ ts, nameT t = true
  nd : ts.Nodup
theorem nameT_le {t : Str} (h : nameT t = true) : t.length ≤ 8 := by
  unfold nameT at h
  simp only [Bool.and_eq_true, decide_eq_true_eq] at h
  exact h.1.2
theorem nameT_lim {t : Str} (h : nameT t = true) : t.length ≤ LIM := Nat.le_trans (nameT_le h) (by decide)
theorem strPV_map : ∀ ts : List Str, strPV (ts.map .str) = some ts
  | [] => rfl
  | t :: ts => by simp [strPV, strPV_map ts]
theorem cntS_nodup : ∀ (ts seen : List Str), ts.Nodup → (∀ t ∈ ts, t ∉ seen) → cntS seen ts = ts.length
  | [], _, _, _ => rfl
  | t :: ts, seen, h, hs => by
    have h1 := List.nodup_cons.mp h
    unfold cntS
    have : seen.contains t = false := by
      simpa using hs t List.mem_cons_self
    rw [this, cntS_nodup ts (seen ++ [t]) h1.2 (fun x hx hm => by
      rcases List.mem_append.mp hm with z | z
      · exact hs x (List.mem_cons_of_mem _ hx) z
      · exact h1.1 (List.mem_singleton.mp z ▸ hx))]
    simp
    omega
def strL (ts : List Str) : List PV := ts.map .str
theorem is_places_ok (h : Has P) {ts : List Str} (hn : Names ts) {x : PV} (hx : x = .lst (strL ts) ∨ x = .tup (strL ts)) : callF P wf (n + 1 + 1) (Str.ofString "is_places") [x] = M.pure (.bl true) := by
  have e1 : biF "len" [x] = some (.int ts.length) := by rcases hx with rfl | rfl <;> simp [biF, bi1, lenF, strL]
  have e2 : ["list", "tuple"].any (tyOk x) = true := by rcases hx with rfl | rfl <;> simp [tyOk, tyN]
  have e3 : itemsF x = some (ts.map .str) := by rcases hx with rfl | rfl <;> simp [itemsF, strL]
  have e4 : lensetF x = some (.int ts.length) := by
    have a1 := hn.hi
    rcases hx with rfl | rfl <;> simp [lensetF, seqOf, strL, strPV_map, cntS_nodup ts [] hn.nd] <;> omega
  have a1 := hn.lo
  have a2 := hn.hi
  rw [callF_of h.is_places rfl]
  simp [d_is_places, start', h.least_places, h.most_places, is_list_of h, e1, e2, e3, e4, cmpF, leF]
  rw [if_pos (by omega), if_neg (by omega), comp_map (g := fun t => .bl (nameT t))]
  · simp [all_map]
    rw [if_pos hn.nm]
    simp [eqF, cmpOk, scalP, eqPV]
  · intro t ht
    rw [is_name_str h t (nameT_lim (hn.nm t ht))]
    rfl
  · exact Nat.le_trans a2 (by decide)
theorem ordered_ok (h : Has P) {ts : List Str} {x : PV} (hx : x = .lst (strL ts) ∨ x = .tup (strL ts)) : callF P wf (n + 1) (Str.ofString "ordered") [x] = M.pure (.tup (strL (ordS ts))) := by
  have e1 : biF "sorted" [x] = some (.lst (strL (ordS ts))) := by
    have hs : sortable (strL ts) = true := by
      unfold sortable strL
      simp [isStrP]
    have he : srtPV (strL ts) = strL (ordS ts) := srtPV_map .str ts
    rcases hx with rfl | rfl <;> simp [biF, bi1, seqOf, hs, he]
  rw [callF_of h.ordered rfl]
  have e2 : ∀ l, biF "tuple" [.lst l] = some (.tup l) := fun l => rfl
  simp [d_ordered, start', e1, e2]
theorem need_places_ok (h : Has P) {ts : List Str} (hn : Names ts) {x : PV} (hx : x = .lst (strL ts) ∨ x = .tup (strL ts)) : callF P wf (n + 1 + 1 + 1) (Str.ofString "need_places") [x] = M.pure (.tup (strL (ordS ts))) := by
  rw [callF_of h.need_places rfl]
  simp [d_need_places, start', is_places_ok h hn hx, ordered_ok h hx]
/-! ### points -/
inductive Pt where
  | nm (t : Str) | fk (a b c : Pt)
def Pt.pv : Pt → PV
  | .nm t => .str t
  | .fk a b c => .tup [.str FRK, a.pv, b.pv, c.pv]
def Pt.dep : Pt → Nat
  | .nm _ => 0
  | .fk a b c => max a.dep (max b.dep c.dep) + 1
def Pt.In (ts : List Str) : Pt → Prop
  | .nm t => t ∈ ts
  | .fk a b c => a.In ts ∧ b.In ts ∧ c.In ts
theorem eqPV_str (a b : Str) : eqPV (.str a) (.str b) = (a == b) := rfl
theorem in_strs (t : Str) (ts : List Str) {x : PV} (hx : x = .lst (strL ts) ∨ x = .tup (strL ts)) : inF (.str t) x = some (ts.contains t) := by
  have h1 : inOk (.str t) (strL ts) = true := by simp [inOk, flatP, strL]
  have h2 : (strL ts).any (fun z => eqPV z (.str t)) = ts.contains t := by
    unfold strL
    rw [List.any_map]
    simp only [Function.comp_def, eqPV_str]
    rw [List.contains_eq_any_beq]
    congr 1
    funext z
    exact Bool.beq_comm
  rcases hx with rfl | rfl <;> simp [inF, h1, h2]
theorem is_point_ok (h : Has P) {ts : List Str} : ∀ {p : Pt} {n : Nat}, p.In ts → p.dep ≤ n → callF P wf (n + 1) (Str.ofString "is_point_of") [.tup (strL ts), p.pv] = M.pure (.bl true)
  | .nm t, n, hp, _ => by
    have e1 : tyOk (.str t) "str" = true := by simp [tyOk, tyN]
    rw [callF_of h.is_point_of rfl]
    simp [d_is_point_of, start', Pt.pv, e1, cmpF, in_strs t ts (.inr rfl), show t ∈ ts from hp]
  | .fk a b c, n, hp, hn => by
    obtain ⟨ha, hb, hc⟩ := hp
    unfold Pt.dep at hn
    obtain ⟨m, rfl⟩ : ∃ m, n = m + 1 := ⟨n - 1, by omega⟩
    have e1 : tyOk (.tup [.str FRK, a.pv, b.pv, c.pv]) "str" = false := by simp [tyOk, tyN]
    have e2 : tyOk (.tup [.str FRK, a.pv, b.pv, c.pv]) "tuple" = true := by simp [tyOk, tyN]
    have e3 : tyOk (.str FRK) "str" = true := by simp [tyOk, tyN]
    have e4 : subF (.tup [.str FRK, a.pv, b.pv, c.pv]) (.int 0) = some (.str FRK) := by simp [subF, isDct, subI, atI, ixN]
    have e5 : slcV (some 1) none (.tup [.str FRK, a.pv, b.pv, c.pv]) = some (.tup [a.pv, b.pv, c.pv]) := rfl
    have e6 : biF "len" [.tup [.str FRK, a.pv, b.pv, c.pv]] = some (.int 4) := rfl
    have e7 : ∀ l, itemsF (.tup l) = some l := fun l => rfl
    have q : ∀ p ∈ [a, b, c], callF P wf (m + 1) (Str.ofString "is_point_of") [.tup (strL ts), p.pv] = M.pure (.bl true) := by
      intro p hp
      simp only [List.mem_cons, List.not_mem_nil, or_false] at hp
      rcases hp with rfl | rfl | rfl
      · exact is_point_ok h ha (by omega)
      · exact is_point_ok h hb (by omega)
      · exact is_point_ok h hc (by omega)
    rw [callF_of h.is_point_of rfl]
    simp [d_is_point_of, start', Pt.pv, h.fork, e1, e2, e3, e4, e5, e6, e7, cmpF, eqF, cmpOk, scalP, eqPV]
    rw [show [a.pv, b.pv, c.pv] = [a, b, c].map Pt.pv from rfl, comp_map (g := fun _ => .bl true)]
    · rfl
    · intro p hp
      rw [q p hp]
      rfl
    · simp [LIM]
theorem need_point_ok (h : Has P) {ts : List Str} {p : Pt} {n : Nat} (hp : p.In ts) (hn : p.dep ≤ n) : callF P wf (n + 1 + 1) (Str.ofString "need_point") [.tup (strL ts), p.pv] = M.pure .non := by
  rw [callF_of h.need_point rfl]
  simp [d_need_point, start', is_point_ok h hp hn]
end FL
namespace FL
open FW
open PySem L2
structure Has2 (P : Prog) : Prop where
  lots_of : P.fn (Str.ofString "lots_of") = some d_lots_of
  partings_of : P.fn (Str.ofString "partings_of") = some d_partings_of
  is_side : P.fn (Str.ofString "is_side") = some d_is_side
variable {P : Prog} {wf n : Nat}
def maj (x y z : Bool) : Bool := x && y || x && z || y && z
def Pt.sd (pt : List Str) : Pt → Bool
  | .nm t => pt.contains t
  | .fk a b c => maj (a.sd pt) (b.sd pt) (c.sd pt)
def tupL (ts : List Str) : PV := .tup (strL ts)
theorem is_side_ok (h : P.fn (Str.ofString "is_side") = some d_is_side) {pt : List Str} : ∀ {p : Pt} {n : Nat}, p.dep ≤ n → callF P wf (n + 1) (Str.ofString "is_side") [tupL pt, p.pv] = M.pure (.bl (p.sd pt))
  | .nm t, n, _ => by
    have e1 : tyOk (.str t) "str" = true := by simp [tyOk, tyN]
    rw [callF_of h rfl]
    simp [d_is_side, start', Pt.pv, e1, cmpF, in_strs t pt (.inr rfl), tupL, Pt.sd]
  | .fk a b c, n, hn => by
    unfold Pt.dep at hn
    obtain ⟨m, rfl⟩ : ∃ m, n = m + 1 := ⟨n - 1, by omega⟩
    have e1 : tyOk (.tup [.str FRK, a.pv, b.pv, c.pv]) "str" = false := by simp [tyOk, tyN]
    have e5 : slcV (some 1) none (.tup [.str FRK, a.pv, b.pv, c.pv]) = some (.tup [a.pv, b.pv, c.pv]) := rfl
    have e7 : ∀ l, itemsF (.tup l) = some l := fun l => rfl
    have e8 : ∀ x, biF "int" [.bl x] = some (.int (if x then 1 else 0)) := fun x => rfl
    have e9 : ∀ x y z, biF "sum" [.lst [.int x, .int y, .int z]] = some (.int (x + (y + (z + 0)))) := fun x y z => rfl
    have q : ∀ p ∈ [a, b, c], callF P wf (m + 1) (Str.ofString "is_side") [tupL pt, p.pv] = M.pure (.bl (p.sd pt)) := by
      intro p hp
      simp only [List.mem_cons, List.not_mem_nil, or_false] at hp
      rcases hp with rfl | rfl | rfl
      · exact is_side_ok h (by omega)
      · exact is_side_ok h (by omega)
      · exact is_side_ok h (by omega)
    rw [callF_of h rfl]
    simp [d_is_side, start', Pt.pv, e1, e5, e7, tupL]
    rw [show [a.pv, b.pv, c.pv] = [a, b, c].map Pt.pv from rfl, comp_map (g := fun p => .int (if p.sd pt then 1 else 0))]
    · simp only [M.pure_bind, M.nox_pure, List.map_cons, List.map_nil, e9, M.lift_some, cmpF, gtF, Pt.sd, maj]
      cases a.sd pt <;> cases b.sd pt <;> cases c.sd pt <;> rfl
    · intro p hp
      rw [show (PV.tup (strL pt)) = tupL pt from rfl, q p hp]
      simp [e8]
    · simp [LIM]
/-! ### lots -/
def lots (ns : List Str) : List (List Str) := ns.foldl (fun f t => f ++ f.map (· ++ [t])) [[]]
theorem lots_len : ∀ (ns : List Str) (f : List (List Str)), (ns.foldl (fun f t => f ++ f.map (· ++ [t])) f).length = f.length * 2 ^ ns.length
  | [], f => by simp
  | t :: ns, f => by
    rw [List.foldl_cons, lots_len ns]
    simp [Nat.pow_succ]
    rw [← Nat.mul_two, Nat.mul_assoc, Nat.mul_comm 2]
theorem lots_of_ok (h : P.fn (Str.ofString "lots_of") = some d_lots_of) {ns : List Str} {x : PV} (hx : x = .lst (strL ns) ∨ x = tupL ns) (hl : ns.length ≤ 6) :
    callF P wf (n + 1) (Str.ofString "lots_of") [x] = M.pure (.lst ((lots ns).map tupL)) := by
  have e3 : itemsF x = some (ns.map .str) := by rcases hx with rfl | rfl <;> rfl
  rw [callF_of h rfl]
  simp [d_lots_of, start', e3, LIM]
  refine for_then (i := .str) (xs := ns) (fun r ls => ∃ (F : List (List Str)) (x2 x3 : Slot), ls = [some (false, x), some (false, .lst (F.map tupL)), x2, x3] ∧ F.length * 2 ^ r.length ≤ 64 ∧ (∀ l ∈ F, l.length + r.length ≤ 6) ∧ r.foldl (fun f t => f ++ f.map (· ++ [t])) F = lots ns)
    ⟨[[]], none, none, rfl, by simpa using Nat.pow_le_pow_right (show 0 < 2 by decide) hl, by simpa using hl, rfl⟩ ?_ ?_
  · rintro t r ls ht ⟨F, x2, x3, rfl, hn, hm, hF⟩
    have e7 : ∀ l, itemsF (.lst l) = some l := fun l => rfl
    rw [List.length_cons, Nat.pow_succ] at hn
    have hF6 : F.length * 2 ≤ 64 := by
      refine Nat.le_trans (Nat.mul_le_mul_left _ ?_) hn
      have := Nat.pow_pos (n := r.length) (show 0 < 2 by decide)
      omega
    refine ⟨[some (false, x), some (false, .lst ((F ++ F.map (· ++ [t])).map tupL)), some (false, .str t), x3], ?_, _, _, _, rfl, ?_, ?_, hF⟩
    · simp only [turnF, storeG_nm, List.length_cons, List.length_nil]
      simp [e7]
      rw [comp_map (g := fun l => tupL (l ++ [t]))]
      · have e8 : binF Operator.Add (.lst (F.map tupL)) (.lst (F.map fun l => tupL (l ++ [t]))) = some (.lst ((F ++ F.map (· ++ [t])).map tupL)) := by
          simp [binF, addF, LIM]
          omega
        simp [e8]
      · intro l hl
        have h6 := hm l hl
        simp [tupL, seqOf, strL]
        intro hx
        exfalso
        unfold LIM at hx
        simp at h6
        omega
      · simp [LIM]; omega
    · rw [List.length_append, List.length_map, ← Nat.mul_two, Nat.mul_assoc, Nat.mul_comm 2]
      exact hn
    · intro l hl
      rcases List.mem_append.mp hl with hl | hl
      · have := hm l hl
        simp at this
        omega
      · obtain ⟨l', hl', rfl⟩ := List.mem_map.mp hl
        have := hm l' hl'
        simp at this ⊢
        omega
  · rintro ls' ⟨F, x2, x3, rfl, _, _, hF⟩
    simp [← hF]
/-! ### partings -/
theorem lots_mem : ∀ {ns : List Str} {F : List (List Str)} {l : List Str}, l ∈ ns.foldl (fun f t => f ++ f.map (· ++ [t])) F → ∃ m ∈ F, ∃ k, l = m ++ k ∧ ∀ t ∈ k, t ∈ ns
  | [], F, l, h => ⟨l, h, [], by simp, by simp⟩
  | n :: ns, F, l, h => by
    obtain ⟨m, hm, k, rfl, hk⟩ := lots_mem (ns := ns) h
    rcases List.mem_append.mp hm with hm | hm
    · exact ⟨m, hm, k, rfl, fun t ht => List.mem_cons_of_mem _ (hk t ht)⟩
    · obtain ⟨m', hm', rfl⟩ := List.mem_map.mp hm
      refine ⟨m', hm', n :: k, by simp, fun t ht => ?_⟩
      rcases List.mem_cons.mp ht with rfl | ht
      · exact List.mem_cons_self
      · exact List.mem_cons_of_mem _ (hk t ht)
theorem lots_sub {ns l : List Str} (h : l ∈ lots ns) : ∀ t ∈ l, t ∈ ns := by
  obtain ⟨m, hm, k, rfl, hk⟩ := lots_mem h
  simp at hm
  subst hm
  simpa using hk
def ltL (a b : List Str) : Bool := ltPV (tupL a) (tupL b)
/-- partings: all lots of the names but the first one, not the empty one, ascending -/
def parts (ns : List Str) : List (List Str) := srtBy ltL ((lots ns.tail).filter (· != []))
theorem parts_mem {ns l : List Str} : l ∈ parts ns ↔ l ∈ lots ns.tail ∧ l ≠ [] := by
  unfold parts
  rw [(srtBy_perm ltL _).mem_iff, List.mem_filter]
  simp
theorem parts_len (ns : List Str) : (parts ns).length ≤ 2 ^ (ns.length - 1) := by
  unfold parts
  rw [(srtBy_perm ltL _).length_eq]
  refine Nat.le_trans (List.length_filter_le ..) ?_
  unfold lots
  rw [lots_len]
  simp
theorem nameT_noD {t : Str} (h : nameT t = true) : noD (.str t) = true := by
  unfold nameT at h
  simp only [Bool.and_eq_true, List.all_eq_true] at h
  unfold noD
  rw [Array.all_eq_true_iff_forall_mem]
  intro c hc
  have := h.2 c (by simpa using hc)
  have hl : LET.cps.toList.all (· < 0x110000) = true := by decide
  simp only [List.all_eq_true] at hl
  exact hl c (by simpa using this)
theorem noDs_strL : ∀ {ts : List Str}, (∀ t ∈ ts, noD (.str t) = true) → noDs (strL ts) = true
  | [], _ => rfl
  | t :: ts, h => by
    show (noD (.str t) && noDs (strL ts)) = true
    rw [h t List.mem_cons_self, noDs_strL fun x hx => h x (List.mem_cons_of_mem _ hx)]
    rfl
theorem depPVs_strL : ∀ (ts : List Str), depPVs (strL ts) = 0
  | [] => rfl
  | t :: ts => by
    show max (depPV (.str t)) (depPVs (strL ts)) = 0
    rw [depPVs_strL ts]
    rfl
theorem okD_tupL {ts : List Str} (h : ∀ t ∈ ts, noD (.str t) = true) : okD (tupL ts) = true := by
  unfold okD tupL
  simp only [noD, depPV, noDs_strL h, depPVs_strL]
  decide
theorem comp_filter {α : Type} {f : PV → M (Option PV)} (i : α → PV) (c : α → Bool) (g : α → PV) {xs : List α} (h : ∀ x ∈ xs, f (i x) = M.pure (if c x then some (g x) else none)) (hl : xs.length ≤ LIM) : compM f (xs.map i) [] = M.pure ((xs.filter c).map g) := by
  have key : ∀ (xs : List α) (acc : List PV), (∀ x ∈ xs, f (i x) = M.pure (if c x then some (g x) else none)) → acc.length + xs.length ≤ LIM → compM f (xs.map i) acc = M.pure (acc ++ (xs.filter c).map g) := by
    intro xs
    induction xs with
    | nil => intro acc _ _; simp [compM]
    | cons x xs ih =>
      intro acc h hl
      simp only [List.map_cons]
      unfold compM
      simp only [List.length_cons] at hl
      rw [h x List.mem_cons_self, M.pure_bind]
      cases e : c x with
      | true =>
        simp only [if_true, List.filter_cons, e]
        rw [if_pos (by omega), ih _ (fun z hz => h z (List.mem_cons_of_mem _ hz)) (by simp; omega)]
        simp
      | false =>
        simp only [List.filter_cons, e, Bool.false_eq_true, if_false]
        rw [ih _ (fun z hz => h z (List.mem_cons_of_mem _ hz)) (by omega)]
  simpa using key xs [] h (by simpa using hl)
theorem eqPVs_strL : ∀ (a b : List Str), eqPVs (strL a) (strL b) = (a == b)
  | [], [] => rfl
  | [], _ :: _ => rfl
  | _ :: _, [] => rfl
  | x :: a, y :: b => by
    show (eqPV (.str x) (.str y) && eqPVs (strL a) (strL b)) = _
    rw [eqPVs_strL a b]
    rfl
theorem eqPV_tupL (a b : List Str) : eqPV (tupL a) (tupL b) = (a == b) := eqPVs_strL a b
theorem partings_of_ok (h : P.fn (Str.ofString "lots_of") = some d_lots_of) (h2 : P.fn (Str.ofString "partings_of") = some d_partings_of) {ns : List Str} (hl : ns.length ≤ 6) (hn : ∀ t ∈ ns, nameT t = true) :
    callF P wf (n + 1 + 1) (Str.ofString "partings_of") [tupL ns] = M.pure (.lst ((parts ns).map tupL)) := by
  have e1 : slcV (some 1) none (tupL ns) = some (tupL ns.tail) := by
    cases ns with
    | nil => rfl
    | cons t ts =>
      simp [slcV, tupL, strL, cutP, HT.sIx]
      exact List.take_of_length_le (by simp)
  have e7 : ∀ l, itemsF (.lst l) = some l := fun l => rfl
  have hd : ns.tail.length ≤ 6 := by rw [List.length_tail]; omega
  rw [callF_of h2 rfl]
  simp [d_partings_of, start', e1]
  rw [lots_of_ok h (.inr rfl) hd]
  simp [e7]
  have ll : (lots ns.tail).length ≤ LIM := by
    unfold lots
    rw [lots_len]
    have := Nat.pow_le_pow_right (show 0 < 2 by decide) hd
    simp [LIM] at this ⊢
    omega
  rw [comp_filter (c := fun l => l != []) (g := tupL)]
  · have hs : sortable (((lots ns.tail).filter (· != [])).map tupL) = true := by
      unfold sortable
      simp only [Bool.or_eq_true]
      right
      rw [List.all_map, List.all_eq_true]
      intro l hl
      have := (List.mem_filter.mp hl).2
      cases l with
      | nil => cases this
      | cons t ts => simp [isTup1, tupL, strL, isStrP]
    have e9 : biF "sorted" [.lst (((lots ns.tail).filter (· != [])).map tupL)] = some (.lst ((parts ns).map tupL)) := by
      simp only [biF, bi1, seqOf, Option.bind_some, hs, if_true]
      rw [srtPV_map]
      rfl
    simp [e9]
  · intro l hl
    have o1 : okD (tupL l) = true := okD_tupL fun t ht => nameT_noD (hn t (List.mem_of_mem_tail (lots_sub hl t ht)))
    have o2 : okD (.tup []) = true := by decide
    have o3 : eqPV (tupL l) (.tup []) = (l == []) := eqPV_tupL l []
    simp [cmpF, eqF, cmpOk, o1, o2, o3]
    cases hq : l with
    | nil => simp
    | cons t ts => simp
  · exact ll
/-! ### sides -/
theorem sides_of_ok (h : Has2 P) (h3 : P.fn (Str.ofString "sides_of") = some d_sides_of) {ns : List Str} (hl : ns.length ≤ 6) (hn : ∀ t ∈ ns, nameT t = true) {p : Pt} (hp : p.dep ≤ n + 1) :
    callF P wf (n + 1 + 1 + 1) (Str.ofString "sides_of") [tupL ns, p.pv] = M.pure (.tup ((parts ns).map fun pt => .bl (p.sd pt))) := by
  have e7 : ∀ l, itemsF (.lst l) = some l := fun l => rfl
  have e8 : ∀ l, biF "tuple" [.lst l] = some (.tup l) := fun l => rfl
  rw [callF_of h3 rfl]
  simp [d_sides_of, start', partings_of_ok h.lots_of h.partings_of hl hn, e7]
  rw [comp_map (g := fun pt => .bl (p.sd pt))]
  · simp [e8]
  · intro pt _
    rw [is_side_ok h.is_side hp]
    rfl
  · have := parts_len ns
    have h2 : 2 ^ (ns.length - 1) ≤ 2 ^ 6 := Nat.pow_le_pow_right (by decide) (by omega)
    simp [LIM] at this h2 ⊢
    omega
theorem noDs_bl {α : Type} (f : α → Bool) : ∀ xs : List α, noDs (xs.map fun x => .bl (f x)) = true
  | [] => rfl
  | x :: xs => by
    show (noD (.bl (f x)) && noDs _) = true
    rw [noDs_bl f xs]
    rfl
theorem depPVs_bl {α : Type} (f : α → Bool) : ∀ xs : List α, depPVs (xs.map fun x => .bl (f x)) = 0
  | [] => rfl
  | x :: xs => by
    show max (depPV (.bl (f x))) (depPVs _) = 0
    rw [depPVs_bl f xs]
    rfl
theorem eqPVs_bl {α : Type} (f g : α → Bool) : ∀ xs : List α, eqPVs (xs.map fun x => .bl (f x)) (xs.map fun x => .bl (g x)) = xs.all fun x => f x == g x
  | [] => rfl
  | x :: xs => by
    show (eqPV (.bl (f x)) (.bl (g x)) && eqPVs _ _) = _
    rw [eqPVs_bl f g xs]
    rfl
theorem eqF_bls {α : Type} (f g : α → Bool) (xs : List α) : eqF (.tup (xs.map fun x => .bl (f x))) (.tup (xs.map fun x => .bl (g x))) = some (xs.all fun x => f x == g x) := by
  have o : ∀ f : α → Bool, okD (.tup (xs.map fun x => .bl (f x))) = true := fun f => by
    unfold okD
    simp only [noD, depPV, noDs_bl, depPVs_bl]
    decide
  have e : eqPV (.tup (xs.map fun x => .bl (f x))) (.tup (xs.map fun x => .bl (g x))) = xs.all fun x => f x == g x := eqPVs_bl f g xs
  simp [eqF, cmpOk, o, e]
/-- at one spot; on the way -/
def spotB (ns : List Str) (p q : Pt) : Bool := (parts (ordS ns)).all fun pt => p.sd pt == q.sd pt
def wayB (ns : List Str) (p q r : Pt) : Bool := !(parts (ordS ns)).any fun pt => p.sd pt == q.sd pt && r.sd pt != p.sd pt
theorem Names.ord {ns : List Str} (hn : Names ns) : (ordS ns).length ≤ 6 ∧ (∀ t ∈ ordS ns, nameT t = true) := ⟨(ordS_perm ns).length_eq ▸ hn.hi, fun t ht => hn.nm t ((ordS_perm ns).mem_iff.mp ht)⟩
theorem Pt.In.mono {ts us : List Str} (h : ∀ t ∈ ts, t ∈ us) : ∀ {p : Pt}, p.In ts → p.In us
  | .nm _, hp => h _ hp
  | .fk _ _ _, ⟨a, b, c⟩ => ⟨a.mono h, b.mono h, c.mono h⟩
theorem one_spot_ok (h0 : Has P) (h : Has2 P) (h3 : P.fn (Str.ofString "sides_of") = some d_sides_of) (h4 : P.fn (Str.ofString "one_spot") = some d_one_spot) {ns : List Str} (hn : Names ns) {x : PV} (hx : x = .lst (strL ns) ∨ x = tupL ns) {p q : Pt}
    (hp : p.In ns) (hq : q.In ns) (dp : p.dep ≤ n + 1) (dq : q.dep ≤ n + 1) : callF P wf (n + 1 + 1 + 1 + 1) (Str.ofString "one_spot") [x, p.pv, q.pv] = M.pure (.bl (spotB ns p q)) := by
  have mo : ∀ t ∈ ns, t ∈ ordS ns := fun t ht => (ordS_perm ns).mem_iff.mpr ht
  obtain ⟨l6, nm⟩ := hn.ord
  have e1 : ∀ {p : Pt}, p.In ns → p.dep ≤ n + 1 → callF P wf (n + 1 + 1 + 1) (Str.ofString "need_point") [.tup (strL (ordS ns)), p.pv] = M.pure .non := fun hp dp => need_point_ok h0 (hp.mono mo) dp
  have e2 : ∀ {p : Pt}, p.dep ≤ n + 1 → callF P wf (n + 1 + 1 + 1) (Str.ofString "sides_of") [.tup (strL (ordS ns)), p.pv] = M.pure (.tup ((parts (ordS ns)).map fun pt => .bl (p.sd pt))) := fun dp => sides_of_ok h h3 l6 nm dp
  rw [callF_of h4 rfl]
  simp [d_one_spot, start', need_places_ok h0 hn hx]
  rw [e1 hp dp]
  simp
  rw [e1 hq dq]
  simp
  rw [e2 dp]
  simp
  rw [e2 dq]
  simp [cmpF, eqF_bls, spotB]
theorem zip3_map {α : Type} (f g h : α → PV) : ∀ xs : List α, zip3P (xs.map f) (xs.map g) (xs.map h) = xs.map fun x => .tup [f x, g x, h x]
  | [] => rfl
  | x :: xs => by simp [zip3P, zip3_map f g h xs]
theorem on_ways_ok (h0 : Has P) (h : Has2 P) (h3 : P.fn (Str.ofString "sides_of") = some d_sides_of) (h4 : P.fn (Str.ofString "on_ways") = some d_on_ways) {ns : List Str} (hn : Names ns) {x : PV} (hx : x = .lst (strL ns) ∨ x = tupL ns) {p q r : Pt}
    (hp : p.In ns) (hq : q.In ns) (hr : r.In ns) (dp : p.dep ≤ n + 1) (dq : q.dep ≤ n + 1) (dr : r.dep ≤ n + 1) : callF P wf (n + 1 + 1 + 1 + 1) (Str.ofString "on_ways") [x, p.pv, q.pv, r.pv] = M.pure (.bl (wayB ns p q r)) := by
  have mo : ∀ t ∈ ns, t ∈ ordS ns := fun t ht => (ordS_perm ns).mem_iff.mpr ht
  obtain ⟨l6, nm⟩ := hn.ord
  have e1 : ∀ {p : Pt}, p.In ns → p.dep ≤ n + 1 → callF P wf (n + 1 + 1 + 1) (Str.ofString "need_point") [.tup (strL (ordS ns)), p.pv] = M.pure .non := fun hp dp => need_point_ok h0 (hp.mono mo) dp
  have e2 : ∀ {p : Pt}, p.dep ≤ n + 1 → callF P wf (n + 1 + 1 + 1) (Str.ofString "sides_of") [.tup (strL (ordS ns)), p.pv] = M.pure (.tup ((parts (ordS ns)).map fun pt => .bl (p.sd pt))) := fun dp => sides_of_ok h h3 l6 nm dp
  have e7 : ∀ l, itemsF (.lst l) = some l := fun l => rfl
  have ll : (parts (ordS ns)).length ≤ LIM := by
    have := parts_len (ordS ns)
    have h2 : 2 ^ ((ordS ns).length - 1) ≤ 2 ^ 6 := Nat.pow_le_pow_right (by decide) (by omega)
    simp [LIM] at this h2 ⊢
    omega
  rw [callF_of h4 rfl]
  simp [d_on_ways, start', need_places_ok h0 hn hx]
  rw [e1 hp dp]
  simp
  rw [e1 hq dq]
  simp
  rw [e1 hr dr]
  simp
  rw [e2 dp]
  simp
  rw [e2 dq]
  simp
  rw [e2 dr]
  have e9 : ∀ xs ys zs, ys.length = xs.length → zs.length = xs.length → zip3F (.tup xs) (.tup ys) (.tup zs) = some (.lst (zip3P xs ys zs)) := fun xs ys zs h1 h2 => if_pos ⟨h1, h2⟩
  rw [M.pure_bind, e9 _ _ _ (by simp) (by simp)]
  simp [zip3_map, e7]
  rw [comp_map (g := fun pt => .bl (p.sd pt == q.sd pt && r.sd pt != p.sd pt))]
  · simp [any_map, wayB]
  · intro pt _
    simp [storeG, seqOf, cmpF, eqF, cmpOk, scalP, eqPV]
    cases p.sd pt <;> cases q.sd pt <;> cases r.sd pt <;> rfl
  · exact ll
end FL
namespace FL
open FW
open PySem L2
structure HasD (P : Prog) : Prop where
  pick : P.fn (Str.ofString "_law_pick") = some d_law_pick
  begin_ : P.fn (Str.ofString "_law_begin") = some d_law_begin
  blend : P.fn (Str.ofString "_law_blend") = some d_law_blend
  take : P.fn (Str.ofString "_law_take") = some d_law_take
variable {P : Prog} {wf n : Nat}
/-! draws, from a state -/
theorem T.ge {α : Type} {K K' : M α} {Q : α → Prop} (h1 : T K Q) (h2 : T K' Q) : T ((drGe .drw).bind fun x => (M.lift (blF x)).bind fun x => if x = true then (drPop .drw).bind fun _ => K else K') Q := fun q => by
  cases hq : q.great with
  | nil =>
    obtain ⟨a, q', e, p⟩ := h2 q
    refine ⟨a, q', ?_, p⟩
    rw [← e]
    simp [M.bind, drGe, hq, M.pure]
  | cons g r =>
    obtain ⟨a, q', e, p⟩ := h1 { q with great := r, rest := g }
    refine ⟨a, q', ?_, p⟩
    rw [← e]
    simp [M.bind, drGe, drPop, hq, M.pure]
theorem T.get0 {α : Type} {K : PV → M α} {Q : α → Prop} (h : ∀ i : Int, T (K (.int i)) Q) : T ((drGet 0 .drw).bind K) Q := T.bind (P := fun v => ∃ i : Int, v = .int i) (fun q => ⟨_, q, rfl, _, rfl⟩) fun a ⟨i, e⟩ => e ▸ h i
theorem T.get1 {α : Type} {K : PV → M α} {Q : α → Prop} (h : ∀ i : Int, T (K (.int i)) Q) : T ((drGet 1 .drw).bind K) Q := T.bind (P := fun v => ∃ i : Int, v = .int i) (fun q => ⟨_, q, rfl, _, rfl⟩) fun a ⟨i, e⟩ => e ▸ h i
theorem T.get2 {α : Type} {K : PV → M α} {Q : α → Prop} (h : ∀ l : List Int, T (K (.lst (l.map .int))) Q) : T ((drGet 2 .drw).bind K) Q := T.bind (P := fun v => ∃ l : List Int, v = .lst (l.map .int)) (fun q => ⟨_, q, rfl, _, rfl⟩) fun a ⟨i, e⟩ => e ▸ h i
theorem T.put {α : Type} {f : Nat} {i : Int} {K : Unit → M α} {Q : α → Prop} (h : T (K ()) Q) : T ((drSet f .drw (.int i)).bind K) Q := T.bind (P := fun _ => True) (fun q => ⟨(), _, rfl, trivial⟩) fun _ _ => h
theorem T.eq {α : Type} {m m' : M α} {Q : α → Prop} (e : m = m') (h : T m' Q) : T m Q := e ▸ h
@[simp] theorem bi_int (i : Int) : biF "int" [.int i] = some (.int i) := nrfl rfl
@[simp] theorem bi_int_bl (b : Bool) : biF "int" [.bl b] = some (.int (if b then 1 else 0)) := nrfl rfl
@[simp] theorem bi_abs (i : Int) : biF "abs" [.int i] = some (.int (if i < 0 then -i else i)) := nrfl rfl
@[simp] theorem bi_tuple (l : List PV) : biF "tuple" [.lst l] = some (.tup l) := nrfl rfl
@[simp] theorem bi_list (l : List PV) : biF "list" [.lst l] = some (.lst l) := nrfl rfl
@[simp] theorem bi_list_t (l : List PV) : biF "list" [.tup l] = some (.lst l) := nrfl rfl
@[simp] theorem bi_len (l : List PV) : biF "len" [.lst l] = some (.int l.length) := nrfl rfl
@[simp] theorem bi_len_t (l : List PV) : biF "len" [.tup l] = some (.int l.length) := nrfl rfl
@[simp] theorem bi_min (i j : Int) : biF "min" [.int i, .int j] = some (.int (if j < i then j else i)) := nrfl rfl
@[simp] theorem add_int (i j : Int) : binF .Add (.int i) (.int j) = some (.int (i + j)) := nrfl rfl
@[simp] theorem sub_int (i j : Int) : binF .Sub (.int i) (.int j) = some (.int (i - j)) := nrfl rfl
@[simp] theorem eq_int (i j : Int) : cmpF .Eq (.int i) (.int j) = some (i == j) := nrfl rfl
@[simp] theorem ne_int (i j : Int) : cmpF .NotEq (.int i) (.int j) = some (!(i == j)) := nrfl rfl
@[simp] theorem gt_int (i j : Int) : cmpF .Gt (.int i) (.int j) = some (decide (j < i)) := nrfl rfl
@[simp] theorem lt_int (i j : Int) : cmpF .Lt (.int i) (.int j) = some (decide (i < j)) := nrfl rfl
@[simp] theorem ge_int (i j : Int) : cmpF .GtE (.int i) (.int j) = some (decide (j ≤ i)) := nrfl rfl
@[simp] theorem le_int (i j : Int) : cmpF .LtE (.int i) (.int j) = some (decide (i ≤ j)) := nrfl rfl
theorem mod_int {i j : Int} (h : 0 < j) : binF .Mod (.int i) (.int j) = some (.int (i % j)) := by
  show ((if 0 < j then some (i % j) else none).map PV.int) = _
  rw [if_pos h]
  rfl
theorem div_int {i j : Int} (h : 0 < j) (h' : j < 1073741824) : binF .FloorDiv (.int i) (.int j) = some (.int (i / j)) := by
  show ((if 0 < j ∧ j < 1073741824 then some (i / j) else none).map PV.int) = _
  rw [if_pos ⟨h, h'⟩]
  rfl
theorem smallI_of {i : Int} (h : -(2 ^ 64) < i) (h' : i < 2 ^ 64) : smallI i = true := by
  unfold smallI
  rw [decide_eq_true h, decide_eq_true h']
  rfl
theorem mul_int {i j : Int} (h : smallI j = true) : binF .Mult (.int i) (.int j) = some (.int (i * j)) := by
  show (if smallI i || smallI j then _ else _) = _
  rw [h, Bool.or_true]
  rfl
theorem pow_int {i : Int} {k : Nat} (h : smallI i = true) (hk : k ≤ 1000000) : binF .Pow (.int i) (.int k) = some (.int (i ^ k)) := by
  show ((if 0 ≤ (k : Int) ∧ (k : Int) ≤ 1000000 ∧ smallI i then some (i ^ (k : Int).toNat) else none).map PV.int) = _
  rw [if_pos ⟨by omega, by omega, h⟩]
  rfl
theorem blend_ok (h : HasD P) : T (callF P wf (n + 1) (Str.ofString "_law_blend") [.drw]) fun v => ∃ i : Int, v = .int i := by
  rw [callF_of h.blend rfl]
  simp [d_law_blend, start', LIM]
  refine T.get1 fun t => ?_
  refine T.put ?_
  refine T.bind (P := fun fl => ∃ (f : Int) (x3 x4 x5 : Slot), fl = .nx [some (false, .drw), some (false, .int (t + 1)), some (false, .int f), x3, x4, x5])
    (T.for (fun _ ls => ∃ (f : Int) (x3 x4 x5 : Slot), ls = [some (false, .drw), some (false, .int (t + 1)), some (false, .int f), x3, x4, x5]) ⟨0, none, none, none, rfl⟩ ?_ ?_) ?_
  · rintro J R' hJ - x r ls hx ⟨f, x3, x4, x5, rfl⟩
    obtain ⟨p, rfl, hp, hq⟩ : ∃ p : Int, x = .int p ∧ 0 < p ∧ p < 2 ^ 64 := by
      simp at hx
      rcases hx with rfl | rfl | rfl | rfl <;> exact ⟨_, rfl, by omega, by omega⟩
    rw [turnF_of (by simp; rfl)]
    have m1 : smallI 69621 = true := by decide
    have m2 : smallI 48271 = true := by decide
    have m3 : smallI 2147483647 = true := by decide
    have d7 : (7 : Int) < 1073741824 := by decide
    simp [mul_int m1, div_int (show (0 : Int) < 7 by decide) d7, mod_int hp]
    refine T.get2 fun cs => ?_
    simp
    refine T.bind (P := fun fl => ∃ (b : Int) (x5 : Slot), 0 ≤ b ∧ b < p ∧ fl = .nx [some (false, .drw), some (false, .int (t + 1)), some (false, .int f), some (false, .int p), some (false, .int b), x5])
      (T.for (fun _ ls => ∃ (b : Int) (x5 : Slot), 0 ≤ b ∧ b < p ∧ ls = [some (false, .drw), some (false, .int (t + 1)), some (false, .int f), some (false, .int p), some (false, .int b), x5]) ⟨_, _, Int.emod_nonneg _ (by omega), Int.emod_lt_of_pos _ hp, rfl⟩ ?_ ?_) ?_
    · rintro J R' hJ - x r ls hx ⟨b, x5, h1, h2, rfl⟩
      obtain ⟨c, _, rfl⟩ := List.mem_map.mp hx
      rw [turnF_of (by simp; rfl)]
      simp [mul_int m2, mod_int hp]
      exact T.nx (hJ _ _ ⟨_, _, Int.emod_nonneg _ (by omega), Int.emod_lt_of_pos _ hp, rfl⟩)
    · rintro ls ⟨b, x5, h1, h2, rfl⟩
      exact ⟨_, _, h1, h2, rfl⟩
    · rintro fl ⟨b, x5, h1, h2, rfl⟩
      have sb : smallI b = true := smallI_of (by omega) (by omega)
      have pw : binF .Pow (.int b) (.int 5) = some (.int (b ^ 5)) := pow_int (k := 5) sb (by decide)
      simp [mul_int m3, mod_int hp, pw]
      exact T.nx (hJ _ _ ⟨_, _, _, _, rfl⟩)
  · rintro ls ⟨f, x3, x4, x5, rfl⟩
    exact ⟨_, _, _, _, rfl⟩
  · rintro fl ⟨f, x3, x4, x5, rfl⟩
    simp
    exact T.pure ⟨_, rfl⟩
theorem take_ok (h : HasD P) (m : Int) (h0 : 0 < m) (h1 : m < 1073741824) : T (callF P wf (n + 1 + 1) (Str.ofString "_law_take") [.drw, .int m]) fun v => ∃ k : Nat, v = .int k ∧ (k : Int) < m := by
  have fin : ∀ i : Int, T (((M.lift (biF "int" [.int i])).bind fun x => (M.lift (binF Operator.Mod x (PV.int m))).bind fun x => (drGet 0 PV.drw).bind fun x_1 => (M.lift (binF Operator.FloorDiv x_1 (PV.int m))).bind fun x_2 => (drSet 0 PV.drw x_2).bind fun x_3 => M.pure x)) fun v => ∃ k : Nat, v = .int k ∧ (k : Int) < m := by
    intro i
    simp [mod_int h0]
    refine T.get0 fun j => ?_
    simp [div_int h0 h1]
    refine T.put (T.pure ⟨(i % m).toNat, ?_, ?_⟩)
    · rw [Int.toNat_of_nonneg (Int.emod_nonneg _ (by omega))]
    · rw [Int.toNat_of_nonneg (Int.emod_nonneg _ (by omega))]
      exact Int.emod_lt_of_pos _ h0
  have two : T ((drGet 0 PV.drw).bind fun x => (M.lift (cmpF CmpOp.Eq x (PV.int 0))).bind fun x => if x = true then
      (callF P wf (n + 1) (Str.ofString "_law_blend") [PV.drw]).bind fun x => (drSet 0 PV.drw x).bind fun x => (drGet 0 PV.drw).bind fun x => (M.lift (biF "int" [x])).bind fun x => (M.lift (binF Operator.Mod x (PV.int m))).bind fun x =>
        (drGet 0 PV.drw).bind fun x_1 => (M.lift (binF Operator.FloorDiv x_1 (PV.int m))).bind fun x_2 => (drSet 0 PV.drw x_2).bind fun x_3 => M.pure x
      else (drGet 0 PV.drw).bind fun x => (M.lift (biF "int" [x])).bind fun x => (M.lift (binF Operator.Mod x (PV.int m))).bind fun x =>
        (drGet 0 PV.drw).bind fun x_1 => (M.lift (binF Operator.FloorDiv x_1 (PV.int m))).bind fun x_2 => (drSet 0 PV.drw x_2).bind fun x_3 => M.pure x) fun v => ∃ k : Nat, v = .int k ∧ (k : Int) < m := by
    refine T.get0 fun i => ?_
    simp only [eq_int, M.lift_some, M.pure_bind]
    refine T.ite (fun _ => ?_) fun _ => T.get0 fin
    refine (blend_ok h).bind ?_
    rintro v ⟨i, rfl⟩
    exact T.put (T.get0 fin)
  rw [callF_of h.take rfl]
  simp only [d_law_take, start']
  simp
  refine T.get0 fun i => ?_
  simp only [eq_int, M.lift_some, M.pure_bind]
  refine T.ite (fun _ => ?_) fun _ => ?_
  · exact T.ge two two
  · exact two
theorem atI_nat {α : Type} (xs : List α) (k : Nat) (h : k < xs.length) : atI xs (k : Int) = xs[k]? := by
  unfold atI ixN
  rw [if_pos (by omega), if_pos (by omega)]
  simp
theorem popF_int (k : Int) (ys : List PV) : popF (.int k) ys = if 0 ≤ k ∧ k < 2 ^ 62 then (ys[k.toNat]?).map fun y => (y, ys.eraseIdx k.toNat) else none := rfl
theorem pick_of (h : HasD P) {x : PV} {m : Nat} (hl : biF "len" [x] = some (.int m)) (h0 : 0 < m) (h1 : m < 1073741824) {Q : PV → Prop} (hq : ∀ k : Nat, k < m → ∃ y, subF x (.int k) = some y ∧ Q y) :
    T (callF P wf (n + 1 + 1 + 1) (Str.ofString "_law_pick") [.drw, x]) Q := by
  rw [callF_of h.pick rfl]
  simp [d_law_pick, start', hl]
  refine (take_ok h m (by omega) (by omega)).bind ?_
  rintro v ⟨k, rfl, hk⟩
  obtain ⟨y, e, q⟩ := hq k (by omega)
  rw [e]
  exact T.pure q
theorem pick_ok (h : HasD P) {xs : List PV} (h0 : 0 < xs.length) (h1 : xs.length < 1073741824) : T (callF P wf (n + 1 + 1 + 1) (Str.ofString "_law_pick") [.drw, .lst xs]) fun v => v ∈ xs :=
  pick_of h (m := xs.length) rfl h0 h1 fun k hk => ⟨xs[k], by
    show atI xs (k : Int) = _
    rw [atI_nat xs k hk, List.getElem?_eq_getElem hk], List.getElem_mem hk⟩
theorem pick_str (h : HasD P) {t : Str} (h0 : 0 < t.length) (h1 : t.length ≤ LIM) : T (callF P wf (n + 1 + 1 + 1) (Str.ofString "_law_pick") [.drw, .str t]) fun v => ∃ c ∈ t.cps.toList, v = .str ⟨#[c]⟩ :=
  pick_of h (m := t.length) (by simp [biF, bi1, lenF, h1]) h0 (Nat.lt_of_le_of_lt h1 (by decide)) fun k hk => by
    have hk' : k < t.cps.toList.length := by simpa [Str.length] using hk
    refine ⟨.str ⟨#[t.cps.toList[k]]⟩, ?_, _, List.getElem_mem hk', rfl⟩
    show (if t.length ≤ LIM then (atI t.cps.toList (k : Int)).map fun c => PV.str ⟨#[c]⟩ else none) = _
    rw [if_pos h1, atI_nat _ k hk', List.getElem?_eq_getElem hk']
    rfl
theorem perm_erase {α : Type} : ∀ (xs : List α) (k : Nat) (h : k < xs.length), (xs[k] :: xs.eraseIdx k).Perm xs
  | x :: xs, 0, _ => .refl _
  | x :: xs, k + 1, h => by
    simp only [List.getElem_cons_succ, List.eraseIdx_cons_succ]
    exact (List.Perm.swap ..).trans ((perm_erase xs k (by simpa using h)).cons x)
def okI (x : PV) : Prop := noD x = true ∧ depPV x ≤ 63
theorem noDs_of : ∀ {l : List PV}, (∀ x ∈ l, okI x) → noDs l = true ∧ depPVs l ≤ 63
  | [], _ => ⟨rfl, Nat.zero_le _⟩
  | x :: l, h => by
    obtain ⟨a, b⟩ := noDs_of fun y hy => h y (List.mem_cons_of_mem _ hy)
    obtain ⟨c, d⟩ := h x List.mem_cons_self
    refine ⟨?_, ?_⟩
    · show (noD x && noDs l) = true
      rw [a, c]
      rfl
    · exact Nat.max_le.mpr ⟨d, b⟩
theorem okD_lst {l : List PV} (h : ∀ x ∈ l, okI x) : okD (.lst l) = true := by
  obtain ⟨a, b⟩ := noDs_of h
  unfold okD
  simp [noD, depPV, a, b]
theorem okD_tup {l : List PV} (h : ∀ x ∈ l, okI x) : okD (.tup l) = true := by
  obtain ⟨a, b⟩ := noDs_of h
  unfold okD
  simp [noD, depPV, a, b]
theorem mixed_ok (h : HasD P) (hm : P.fn (Str.ofString "_law_mixed") = some d_law_mixed) {xs : List PV} (ho : ∀ x ∈ xs, okI x) {x : PV} (hx : x = .lst xs ∨ x = .tup xs) (h1 : xs.length < wf) (h2 : xs.length < LIM) :
    T (callF P wf (n + 1 + 1 + 1) (Str.ofString "_law_mixed") [.drw, x]) fun v => ∃ ys, v = .lst ys ∧ ys.Perm xs := by
  have e1 : biF "list" [x] = some (.lst xs) := by rcases hx with rfl | rfl <;> rfl
  unfold LIM at h2
  have tst : ∀ l ys, (ys ++ l).Perm xs → cmpF .NotEq (.lst l) (.lst []) = some (!l.isEmpty) := fun l ys hp => by
    have o1 : okD (.lst l) = true := okD_lst fun x hx => ho x (hp.mem_iff.mp (List.mem_append_right _ hx))
    have o2 : okD (.lst []) = true := by decide
    cases l with
    | nil => rfl
    | cons y l => simp [cmpF, eqF, cmpOk, o1, o2, eqPV, eqPVs]
  rw [callF_of hm rfl]
  simp [d_law_mixed, start', e1, LIM]
  refine T.bind (P := fun fl => ∃ ys, fl = .nx [some (false, .drw), some (false, x), some (true, .lst []), some (true, .lst ys)] ∧ ys.Perm xs)
    (T.while (fun k ls => ∃ l ys, ls = [some (false, .drw), some (false, x), some (true, .lst l), some (true, .lst ys)] ∧ l.length = k ∧ (ys ++ l).Perm xs) ⟨xs, [], rfl, rfl, by simp⟩ h1 ?_ ?_) ?_
  · rintro J R' hJ - k ls ⟨l, ys, rfl, hk, hp⟩
    have hlen := hp.length_eq
    simp at hlen
    refine ⟨?_, ?_⟩
    · cases l with
      | nil => cases hk
      | cons y l => simp [tst _ _ hp, LIM]
    · simp
      refine (take_ok h l.length (by omega) (by omega)).bind ?_
      rintro v ⟨j, rfl, hj⟩
      have hj' : j < l.length := by omega
      have e2 : popF (.int j) l = some (l[j], l.eraseIdx j) := by
        rw [popF_int, if_pos (by omega)]
        simp [hj']
      simp [e2]
      rw [if_pos (by omega)]
      refine T.nx (hJ _ _ ⟨_, _, rfl, ?_, ?_⟩)
      · rw [List.length_eraseIdx]; simp [hj']; omega
      · rw [List.append_assoc]
        exact ((perm_erase l j hj').append_left ys).trans hp
  · rintro ls ⟨l, ys, rfl, hk, hp⟩
    have hl : l = [] := List.length_eq_zero_iff.mp hk
    subst hl
    refine ⟨?_, ys, rfl, by simpa using hp⟩
    simp [tst _ _ hp, LIM]
  · rintro fl ⟨ys, rfl, hp⟩
    simp
    exact T.pure ⟨ys, rfl, hp⟩
end FL
namespace FL
open FW
open PySem L2
variable {P : Prog} {wf n : Nat}
/-- texts of letters -/
def letT (t : Str) : Prop := ∀ c ∈ t.cps.toList, c ∈ LET.cps.toList
theorem nameT_iff {t : Str} : nameT t = true ↔ 1 ≤ t.length ∧ t.length ≤ 8 ∧ letT t := by
  unfold nameT letT
  simp only [Bool.and_eq_true, decide_eq_true_eq, List.all_eq_true, List.contains_iff_mem]
  exact ⟨fun ⟨⟨a, b⟩, c⟩ => ⟨a, b, c⟩, fun ⟨a, b, c⟩ => ⟨⟨a, b⟩, c⟩⟩
theorem sum_ones : ∀ (cs : List Nat), ((cs.map fun c => (⟨#[c]⟩ : Str)).map (·.length)).sum = cs.length
  | [] => rfl
  | c :: cs => by
    simp only [List.map_cons, List.sum_cons, sum_ones cs, List.length_cons]
    show 1 + cs.length = _
    omega
theorem join_chars' : ∀ (cs : List Nat), (Str.join (Str.ofString "") (cs.map fun c => ⟨#[c]⟩)).cps.toList = cs
  | [] => rfl
  | [c] => rfl
  | c :: d :: r => by
    have ih := join_chars' (d :: r)
    have e : (Str.ofString "").cps = #[] := by decide
    show ((#[c] ++ (Str.ofString "").cps) ++ (Str.join (Str.ofString "") ((d :: r).map fun c => ⟨#[c]⟩)).cps).toList = _
    rw [e, Array.toList_append, ih]
    rfl
theorem join_chars (cs : List Nat) : (Txt.join (Str.ofString "") (cs.map fun c => ⟨#[c]⟩)).cps.toList = cs := by
  unfold Txt.join
  rw [StrLaws.glued_eq_join]
  exact join_chars' cs
theorem strLen (t : Str) : t.length = t.cps.toList.length := rfl
theorem nodup_le {α : Type} [BEq α] [LawfulBEq α] : ∀ {l m : List α}, l.Nodup → (∀ x ∈ l, x ∈ m) → l.length ≤ m.length
  | [], m, _, _ => Nat.zero_le _
  | x :: l, m, h, hs => by
    have h1 := List.nodup_cons.mp h
    have hx := hs x List.mem_cons_self
    have := nodup_le (l := l) (m := m.erase x) h1.2 fun y hy => by
      refine (List.mem_erase_of_ne ?_).mpr (hs y (List.mem_cons_of_mem _ hy))
      rintro rfl
      exact h1.1 hy
    rw [List.length_erase_of_mem hx] at this
    have := List.length_pos_of_mem hx
    simp only [List.length_cons]
    omega
/-- what may be named in w's place -/
def cut7 (w : Str) : Str := cutS w none (some 7)
def cand (w : Str) : List Str := w :: LET.cps.toList.map fun c => cut7 w ++ ⟨#[c]⟩
theorem cut7_toList (w : Str) : (cut7 w).cps.toList = w.cps.toList.take 7 := by
  show ((w.cps.toList.drop 0).take (HT.sIx w.length w.length (some ((7 : Nat) : Int)) - 0)) = _
  rw [HT.sIx_nat, List.drop_zero, Nat.sub_zero, Nat.min_def]
  split
  · rfl
  · rw [List.take_of_length_le (by rw [← strLen]; omega), List.take_of_length_le (by rw [← strLen]; omega)]
theorem app_toList (a b : Str) : (a ++ b).cps.toList = a.cps.toList ++ b.cps.toList := Array.toList_append ..
theorem cut7_len (w : Str) : (cut7 w).length ≤ 7 := by
  rw [strLen, cut7_toList, List.length_take]
  omega
theorem cand_name {w : Str} (hw : nameT w = true) : ∀ t ∈ cand w, nameT t = true := by
  intro t ht
  rcases List.mem_cons.mp ht with rfl | ht
  · exact hw
  · obtain ⟨c, hc, rfl⟩ := List.mem_map.mp ht
    obtain ⟨_, _, h3⟩ := nameT_iff.mp hw
    have h7 := cut7_len w
    refine nameT_iff.mpr ⟨?_, ?_, ?_⟩
    · rw [strLen, app_toList, List.length_append]
      simp
    · rw [strLen, app_toList, List.length_append, ← strLen]
      simp
      omega
    · intro d hd
      rw [app_toList, cut7_toList] at hd
      rcases List.mem_append.mp hd with hd | hd
      · exact h3 d (List.mem_of_mem_take hd)
      · simp at hd
        exact hd ▸ hc
theorem cand_free (w : Str) {ts : List Str} (h : ts.length < 26) : (cand w).filter (fun t => !ts.contains t) ≠ [] := by
  intro e
  have hall : ∀ t ∈ LET.cps.toList.map fun c => cut7 w ++ (⟨#[c]⟩ : Str), t ∈ ts := by
    intro t ht
    have := List.filter_eq_nil_iff.mp e t (List.mem_cons_of_mem _ ht)
    simpa using this
  have hnd : (LET.cps.toList.map fun c => cut7 w ++ (⟨#[c]⟩ : Str)).Nodup := by
    have nd : LET.cps.toList.Nodup := by decide
    refine List.Pairwise.map _ ?_ nd
    intro a b hab he
    apply hab
    have := congrArg (fun t : Str => t.cps.toList) he
    simp only [app_toList, List.append_cancel_left_eq] at this
    simpa using this
  have := nodup_le hnd hall
  rw [List.length_map] at this
  have l : LET.cps.toList.length = 26 := by decide
  omega
theorem add_str {x y : Str} (h : x.length + y.length ≤ LIM) : binF .Add (.str x) (.str y) = some (.str (x ++ y)) := if_pos h
theorem add_lst {x y : List PV} (h : x.length + y.length ≤ LIM) : binF .Add (.lst x) (.lst y) = some (.lst (x ++ y)) := if_pos h
theorem add_tup {x y : List PV} (h : x.length + y.length ≤ LIM) : binF .Add (.tup x) (.tup y) = some (.tup (x ++ y)) := if_pos h
theorem items_str {t : Str} (h : t.length ≤ LIM) : itemsF (.str t) = some (t.cps.toList.map fun c => .str ⟨#[c]⟩) := if_pos h
theorem join_lets {cs : List Nat} (h : cs.length ≤ 8) : joinF (Str.ofString "") (.lst (cs.map fun c => .str ⟨#[c]⟩)) = some (.str (Txt.join (Str.ofString "") (cs.map fun c => ⟨#[c]⟩))) := by
  have e : (cs.map fun c => PV.str ⟨#[c]⟩) = (cs.map fun c => (⟨#[c]⟩ : Str)).map PV.str := by simp
  have z : (Str.ofString "").length = 0 := by decide
  unfold joinF
  rw [e]
  simp only [seqOf_lst, Option.bind_some, strPV_map, sum_ones, z]
  rw [if_pos (by rw [List.length_map]; omega)]
theorem span_ok (h : HasD P) {s : Nat} (hs : s ≤ 8) : T ((compM (fun x => (callF P wf (n + 3) (Str.ofString "_law_pick") [.drw, .str LET]).bind fun y => M.pure (some y)) (rangeP 0 s) [])) fun ys => ∃ cs : List Nat, ys = cs.map (fun c => .str ⟨#[c]⟩) ∧ cs.length = s ∧ ∀ c ∈ cs, c ∈ LET.cps.toList := by
  refine (T.comp (R := fun y => ∃ c ∈ LET.cps.toList, y = .str ⟨#[c]⟩) (fun x _ => (pick_str h (by decide) (by decide)).bind fun y hy => T.pure ⟨y, rfl, hy⟩) (by simp [rangeP, LIM]; omega)).mono ?_
  rintro ys ⟨zs, rfl, hl, hz⟩
  have : ∀ zs : List PV, (∀ z ∈ zs, ∃ c ∈ LET.cps.toList, z = .str ⟨#[c]⟩) → ∃ cs : List Nat, zs = cs.map (fun c => .str ⟨#[c]⟩) ∧ ∀ c ∈ cs, c ∈ LET.cps.toList := by
    intro zs
    induction zs with
    | nil => exact fun _ => ⟨[], rfl, by simp⟩
    | cons z zs ih =>
      intro hz
      obtain ⟨c, hc, rfl⟩ := hz z List.mem_cons_self
      obtain ⟨cs, rfl, hcs⟩ := ih fun y hy => hz y (List.mem_cons_of_mem _ hy)
      refine ⟨c :: cs, rfl, fun d hd => ?_⟩
      rcases List.mem_cons.mp hd with rfl | hd
      · exact hc
      · exact hcs d hd
  obtain ⟨cs, e, hc⟩ := this _ hz
  refine ⟨cs, by rw [e], ?_, hc⟩
  rw [e] at hl
  simpa [rangeP] using hl
def some10 : List PV := [.str (Str.ofString "a"), .str (Str.ofString "b"), .str FRK, .str (Str.ofString "forks"), .str (Str.ofString "f"), .str (Str.ofString "most"), .str (Str.ofString "tell"), .str (Str.ofString "none"), .str (Str.ofString "places"), .str (Str.ofString "zzzzzzzz")]
theorem words_ok (h : HasD P) (hw : P.fn (Str.ofString "_law_words") = some d_law_words) {c : Nat} (hc : c ≤ 20) : T (callF P wf (n + 1 + 1 + 1 + 1) (Str.ofString "_law_words") [.drw, .int c]) fun v =>
    ∃ ts : List Str, v = .lst (strL ts) ∧ ts.length = c ∧ (∀ t ∈ ts, nameT t = true) ∧ ts.Nodup := by
  refine T.out fun Q hQ => ?_
  rw [callF_of hw rfl]
  simp [d_law_words, start', LIM]
  rw [rngM_int (by omega), M.pure_bind]
  refine T.bind (P := fun fl => ∃ (ts : List Str) (x1 x2 x4 x5 x6 x7 x8 x9 x10 x11 : Slot), fl = .nx [some (false, .drw), x1, x2, some (true, .lst (strL ts)), x4, x5, x6, x7, x8, x9, x10, x11] ∧ ts.length = c ∧ (∀ t ∈ ts, nameT t = true) ∧ ts.Nodup)
    (T.for (fun r ls => ∃ (ts : List Str) (x5 x6 x7 x8 x9 x10 x11 : Slot), ls = [some (false, .drw), some (false, .int c), some (false, .str LET), some (true, .lst (strL ts)),
      some (false, .lst some10), x5, x6, x7, x8, x9, x10, x11] ∧ ts.length + r.length = c ∧ (∀ t ∈ ts, nameT t = true) ∧ ts.Nodup) ⟨[], none, none, none, none, none, none, none, rfl, by simp [rangeP], by simp, by simp⟩ ?_ ?_) ?_
  · rintro J R' hJ - x r ls hx ⟨ts, x5, x6, x7, x8, x9, x10, x11, rfl, hl, hn, hd⟩
    rw [turnF_of (by simp; rfl)]
    simp [-M.ite_bind, LIM]
    refine (pick_ok h (by decide) (by decide)).bind ?_
    intro w hw
    obtain ⟨u, rfl, hu⟩ : ∃ u, w = .str u ∧ nameT u = true := by
      simp only [some10, List.mem_cons, List.not_mem_nil, or_false] at hw
      rcases hw with rfl | rfl | rfl | rfl | rfl | rfl | rfl | rfl | rfl | rfl <;> exact ⟨_, rfl, by decide⟩
    refine (take_ok h 3 (by decide) (by decide)).bind ?_
    rintro v ⟨k, rfl, hk⟩
    simp [-M.ite_bind, LIM]
    refine T.thru (fun fl => ∃ (w : Str) (x7 : Slot), fl = .nx [some (false, .drw), some (false, .int c), some (false, .str LET), some (true, .lst (strL ts)), some (false, .lst some10), some (false, x), some (false, .str w), x7, x8, x9, x10, x11] ∧ nameT w = true) ?_ ?_
    · intro P' hP
      refine T.ite (fun _ => ?_) fun _ => T.pure (hP _ ⟨u, x7, rfl, hu⟩)
      refine (pick_ok h (by decide) (by decide)).bind ?_
      intro w hw
      obtain ⟨m, rfl, m1, m8⟩ : ∃ m : Nat, w = .int m ∧ 1 ≤ m ∧ m ≤ 8 := by
        simp only [List.mem_cons, List.not_mem_nil, or_false] at hw
        rcases hw with rfl | rfl | rfl
        · exact ⟨1, rfl, by decide, by decide⟩
        · exact ⟨2, rfl, by decide, by decide⟩
        · exact ⟨8, rfl, by decide, by decide⟩
      refine (take_ok h m (by omega) (by omega)).bind ?_
      rintro v ⟨j, rfl, hj⟩
      simp
      rw [rngM_int (by omega), M.pure_bind]
      refine T.bind (T.nox (T.bind (span_ok h (s := (1 + (j : Int)).toNat) (by omega)) fun ys hy => T.pure (P := fun v : PV => ∃ cs : List Nat, v = .lst (cs.map fun c => .str ⟨#[c]⟩) ∧ cs.length = j + 1 ∧ ∀ c ∈ cs, c ∈ LET.cps.toList) ?_)) ?_
      · obtain ⟨cs, rfl, a, b⟩ := hy
        exact ⟨cs, rfl, by omega, b⟩
      · rintro v ⟨cs, rfl, a, b⟩
        rw [join_lets (by omega)]
        refine T.pure (hP _ ⟨_, _, rfl, nameT_iff.mpr ⟨?_, ?_, ?_⟩⟩)
        · rw [strLen, join_chars]
          omega
        · rw [strLen, join_chars]
          omega
        · intro c hc
          rw [join_chars] at hc
          exact b c hc
    · rintro fl ⟨w, x7, rfl, hw⟩
      have sl : ∀ c ∈ LET.cps.toList, (M.lift (slcV none (some 7) (PV.str w))).bind (fun x_2 => (M.lift (binF Operator.Add x_2 (.str ⟨#[c]⟩))).bind fun y => M.pure (some y)) = M.pure (some (PV.str (cut7 w ++ ⟨#[c]⟩))) := by
        intro c _
        have e : slcV none (some 7) (.str w) = some (.str (cut7 w)) := if_pos (nameT_lim hw)
        have h7 := cut7_len w
        rw [e, M.lift_some, M.pure_bind, add_str (by show (cut7 w).length + 1 ≤ LIM; unfold LIM; omega)]
        rfl
      have l26 : LET.cps.toList.length = 26 := by decide
      have lts : (strL ts).length < 16777216 := by
        unfold strL
        rw [List.length_map]
        simp at hl
        omega
      simp [LIM, items_str (show LET.length ≤ LIM by decide), lts]
      rw [comp_map (g := fun c => .str (cut7 w ++ ⟨#[c]⟩))]
      · simp
        rw [add_lst (by rw [List.length_map, l26]; simp [LIM])]
        simp
        rw [show (PV.str w :: LET.cps.toList.map fun c => PV.str (cut7 w ++ ⟨#[c]⟩)) = (cand w).map PV.str by simp [cand], comp_filter (c := fun t => !ts.contains t) (g := PV.str)]
        · have fr := cand_free w (ts := ts) (by simp at hl; omega)
          have mem : ∀ t ∈ (cand w).filter (fun t => !ts.contains t), nameT t = true ∧ t ∉ ts := by
            intro t ht
            obtain ⟨a, b⟩ := List.mem_filter.mp ht
            exact ⟨cand_name hw t a, by simpa using b⟩
          cases hf : (cand w).filter (fun t => !ts.contains t) with
          | nil => exact absurd hf fr
          | cons t rest =>
            obtain ⟨ht1, ht2⟩ := mem t (by rw [hf]; exact List.mem_cons_self)
            have e0 : subF (.lst (PV.str t :: rest.map PV.str)) (.int 0) = some (.str t) := by
              show atI (PV.str t :: rest.map PV.str) ((0 : Nat) : Int) = _
              rw [atI_nat _ _ (by simp)]
              rfl
            simp [e0]
            have es : strL ts ++ [.str t] = strL (ts ++ [t]) := by simp [strL]
            rw [es]
            refine T.nx (hJ _ _ ⟨ts ++ [t], _, _, _, _, _, _, _, rfl, ?_, ?_, ?_⟩)
            · simp at hl ⊢
              omega
            · intro u hu
              rcases List.mem_append.mp hu with hu | hu
              · exact hn u hu
              · exact List.mem_singleton.mp hu ▸ ht1
            · rw [List.nodup_append]
              refine ⟨hd, by simp, ?_⟩
              intro a ha b hb
              rw [List.mem_singleton.mp hb]
              rintro rfl
              exact ht2 ha
        · intro t _
          simp [cmpF, in_strs t ts (.inl rfl)]
          split <;> rfl
        · simp [cand, l26, LIM]
      · exact sl
      · rw [l26]
        decide
  · rintro ls ⟨ts, x5, x6, x7, x8, x9, x10, x11, rfl, hl, hn, hd⟩
    exact ⟨ts, _, _, _, _, _, _, _, _, _, _, rfl, by simpa using hl, hn, hd⟩
  · rintro fl ⟨ts, x1, x2, x4, x5, x6, x7, x8, x9, x10, x11, rfl, hl, hn, hd⟩
    simp
    exact T.pure (hQ _ ⟨ts, rfl, hl, hn, hd⟩)
end FL
namespace FL
open FW
open PySem L2
variable {P : Prog} {wf n : Nat}
theorem towns_ok (h : HasD P) (hw : P.fn (Str.ofString "_law_words") = some d_law_words) (ht : P.fn (Str.ofString "_law_towns") = some d_law_towns) {m : Nat} (h2 : 2 ≤ m) (h6 : m ≤ 6) :
    T (callF P wf (n + 1 + 1 + 1 + 1 + 1) (Str.ofString "_law_towns") [.drw, .int m]) fun v => ∃ ts : List Str, v = .lst (strL ts) ∧ Names ts ∧ ts.length ≤ m := by
  refine T.out fun Q hQ => ?_
  rw [callF_of ht rfl]
  simp [d_law_towns, start', LIM]
  refine (take_ok h _ (by omega) (by omega)).bind ?_
  rintro v ⟨k, rfl, hk⟩
  simp
  rw [show (2 + (k : Int)) = ((2 + k : Nat) : Int) by omega]
  refine (words_ok h hw (c := 2 + k) (by omega)).mono ?_
  rintro v ⟨ts, rfl, hl, hn, hd⟩
  exact hQ _ ⟨ts, rfl, ⟨by omega, by omega, hn, hd⟩, by omega⟩
theorem put_ok (hp : P.fn (Str.ofString "_law_put") = some d_law_put) (x y z : PV) : callF P wf (n + 1) (Str.ofString "_law_put") [x, y, z] = M.pure (.tup [.str FRK, x, y, z]) := by
  rw [callF_of hp rfl]
  simp [d_law_put, start', LIM, FRK]
theorem fk_pv (a b c : Pt) : (Pt.fk a b c).pv = .tup [.str FRK, a.pv, b.pv, c.pv] := rfl
theorem pts_of {Q : Pt → Prop} : ∀ {zs : List PV}, (∀ z ∈ zs, ∃ p : Pt, z = p.pv ∧ Q p) → ∃ ps : List Pt, zs = ps.map Pt.pv ∧ ∀ p ∈ ps, Q p
  | [], _ => ⟨[], rfl, by simp⟩
  | z :: zs, h => by
    obtain ⟨p, rfl, hp⟩ := h z List.mem_cons_self
    obtain ⟨ps, rfl, hps⟩ := pts_of fun y hy => h y (List.mem_cons_of_mem _ hy)
    refine ⟨p :: ps, rfl, fun q hq => ?_⟩
    rcases List.mem_cons.mp hq with rfl | hq
    · exact hp
    · exact hps q hq
theorem point_ok (h : HasD P) (hp : P.fn (Str.ofString "_law_point") = some d_law_point) {ts : List Str} (h0 : 0 < ts.length) (h1 : ts.length ≤ 6) : ∀ (deep : Nat) {n : Nat}, deep ≤ n → deep ≤ 60 →
    T (callF P wf (n + 1 + 1 + 1 + 1) (Str.ofString "_law_point") [.drw, .lst (strL ts), .int deep]) fun v => ∃ p : Pt, v = p.pv ∧ p.In ts ∧ p.dep ≤ deep
  | deep, n, hn, h60 => by
    have pk : ∀ Q : PV → Prop, (∀ a, (∃ p : Pt, a = p.pv ∧ p.In ts ∧ p.dep ≤ deep) → Q a) → T (callF P wf (n + 1 + 1 + 1) (Str.ofString "_law_pick") [.drw, .lst (strL ts)]) Q := fun Q hQ =>
      (pick_ok h (by simpa [strL] using h0) (by simp [strL]; omega)).mono fun v hv => by
        obtain ⟨t, ht, rfl⟩ := List.mem_map.mp hv
        exact hQ _ ⟨.nm t, rfl, ht, Nat.zero_le _⟩
    refine T.out fun Q hQ => ?_
    rw [callF_of hp rfl]
    simp [d_law_point, start', LIM]
    cases deep with
    | zero =>
      simp
      exact pk Q hQ
    | succ d =>
      obtain ⟨m, rfl⟩ : ∃ m, n = m + 1 := ⟨n - 1, by omega⟩
      rw [if_neg (by omega)]
      refine (take_ok h 3 (by decide) (by decide)).bind ?_
      rintro v ⟨k, rfl, hk⟩
      simp
      refine T.ite (fun _ => pk Q hQ) fun _ => ?_
      rw [rngM_int (by omega), M.pure_bind]
      have ih : ∀ Q' : PV → Prop, (∀ a, (∃ p : Pt, a = p.pv ∧ p.In ts ∧ p.dep ≤ d) → Q' a) → T (callF P wf (m + 4) (Str.ofString "_law_point") [.drw, .lst (strL ts), .int (d : Int)]) Q' := fun Q' hq =>
         (point_ok h hp h0 h1 d (n := m) (by omega) (by omega)).mono hq
      refine T.bind (T.nox (T.bind (T.comp (R := fun y => ∃ p : Pt, y = p.pv ∧ (p.In ts ∧ p.dep ≤ d)) (fun x _ => ?_) (by simp [rangeP, LIM])) fun ys hy => T.pure (P := fun v : PV => ∃ ps : List Pt, v = .lst (ps.map Pt.pv) ∧ ps.length = 3 ∧ ∀ p ∈ ps, p.In ts ∧ p.dep ≤ d) ?_)) ?_
      · refine (ih _ fun a ha => ha).bind fun y hy => T.pure ⟨y, rfl, hy⟩
      · obtain ⟨zs, e, hl, hz⟩ := hy
        obtain ⟨ps, e', hps⟩ := pts_of hz
        subst e'
        refine ⟨ps, by rw [e]; rfl, by simpa [rangeP] using hl, hps⟩
      · rintro v ⟨ps, rfl, hl, hps⟩
        match ps, hl with
        | [a, b, c], _ =>
          obtain ⟨a1, a2⟩ := hps a (by simp)
          obtain ⟨b1, b2⟩ := hps b (by simp)
          obtain ⟨c1, c2⟩ := hps c (by simp)
          simp
          rw [add_tup (by simp [LIM])]
          refine T.pure (hQ _ ⟨.fk a b c, rfl, ⟨a1, b1, c1⟩, ?_⟩)
          simp [Pt.dep]
          omega
theorem M.bind_ok {α β : Type} {m : M α} {k : α → M β} {d : DS} {a : α} {d' : DS} (h : m d = .ok a d') : (m.bind k) d = k a d' := by
  unfold M.bind
  rw [h]
@[simp] theorem ex_drnew (P : PE') (wf : Nat) (ls : List Slot) (i : Nat) (c : E) : ex P wf (.drnew i c) ls = (M.lift (ownL ls i)).bind fun gs => (ev P false c (ls.set i none)).bind fun v => (drNew gs v).bind fun _ => M.pure (.rt .drw) := nrfl rfl
@[simp] theorem itemsF_scr (ns : List Int) : itemsF (.scr ns) = some (ns.map .int) := nrfl rfl
theorem intPV_map : ∀ ns : List Int, intPV (ns.map .int) = some ns
  | [] => rfl
  | t :: ts => by simp [intPV, intPV_map ts]
theorem begin_ok (h : HasD P) {ns : List Int} (hl : ns.length ≤ 63) : ∃ q : Draw, callF P wf (n + 1) (Str.ofString "_law_begin") [.scr ns] none = .ok .drw (some q) := by
  have e18 : binF .Pow (.int 10) (.int 18) = some (.int (10 ^ 18)) := pow_int (k := 18) (by decide) (by decide)
  have ll : ns.length ≤ LIM := by unfold LIM; omega
  rw [callF_of h.begin_ rfl]
  simp [d_law_begin, start', LIM]
  rw [comp_filter (c := fun i : Int => decide (10 ^ 18 ≤ (if i < 0 then -i else i))) (g := fun i => .int ((if i < 0 then -i else i) - 10 ^ 18))]
  · simp
    rw [comp_map (g := fun i => .int (if i < 0 then -i else i))]
    · simp
      have e1 : ∀ (l : List Int) (f : Int → Int), ∃ a : List Int, (l.map fun i => PV.int (f i)) = a.map .int := fun l f => ⟨l.map f, by simp⟩
      obtain ⟨a, ea⟩ := e1 (ns.filter fun i => decide (1000000000000000000 ≤ if i < 0 then -i else i)) fun i => (if i < 0 then -i else i) - 1000000000000000000
      obtain ⟨b, eb⟩ := e1 ns fun i => if i < 0 then -i else i
      rw [ea, eb]
      have dn : ∀ a b : List Int, drNew (a.map .int) (.lst (b.map .int)) none = .ok () (some ⟨a, 0, b, 0⟩) := fun a b => by
        unfold drNew
        simp only [intPV_map]
      exact ⟨_, by rw [M.bind_ok (dn _ _)]; rfl⟩
    · intro x _
      simp
    · exact ll
  · intro x _
    simp [e18]
    split <;> split <;> rfl
  · exact ll
/-- a law's end: all well -/
theorem law_end {m : M PV} {k : PV → M PV} {q : Draw} (h : m none = .ok .drw (some q)) (t : T (k .drw) fun v => v = .bl true) : ∃ d', (m.bind k) none = .ok (.bl true) d' := by
  obtain ⟨v, q', e, rfl⟩ := t q
  exact ⟨some q', by rw [M.bind_ok h]; exact e⟩
end FL
/-! FT1: trees by parents, plain: knot i + 1 hangs at par i, which is at most i. desc i w: w hangs below stretch i. -/
namespace FL
/-- w is knot i + 1 or below it -/
def desc (par : Nat → Nat) (hp : ∀ i, par i ≤ i) (i : Nat) : Nat → Bool
  | 0 => false
  | w + 1 => decide (w = i) || desc par hp i (par w)
termination_by w => w
decreasing_by exact Nat.lt_succ_of_le (hp w)
section
variable {par : Nat → Nat} {hp : ∀ i, par i ≤ i}
theorem desc_zero (i : Nat) : desc par hp i 0 = false := by rw [desc]
theorem desc_succ (i w : Nat) : desc par hp i (w + 1) = (decide (w = i) || desc par hp i (par w)) := by rw [desc]
theorem desc_self (i : Nat) : desc par hp i (i + 1) = true := by rw [desc_succ]; simp
theorem desc_ge {i : Nat} : ∀ (w : Nat), desc par hp i w = true → i < w
  | 0, h => by rw [desc_zero] at h; cases h
  | w + 1, h => by
    rw [desc_succ] at h
    simp only [Bool.or_eq_true, decide_eq_true_eq] at h
    rcases h with h | h
    · omega
    · have := desc_ge (par w) h
      have := hp w
      omega
termination_by w => w
decreasing_by exact Nat.lt_succ_of_le (hp w)
theorem desc_up (i j : Nat) (h : i ≠ j) : desc par hp i (j + 1) = desc par hp i (par j) := by
  rw [desc_succ]
  simp [Ne.symm h]
theorem desc_par (i : Nat) : desc par hp i (par i) = false := by
  cases e : desc par hp i (par i) with
  | false => rfl
  | true =>
    have := desc_ge _ e
    have := hp i
    omega
/-- below j, all are on one side of a stretch i not beyond j -/
theorem desc_below {i j : Nat} (hij : i ≤ j) : ∀ (w : Nat), desc par hp j w = true → desc par hp i w = desc par hp i (j + 1)
  | 0, h => by rw [desc_zero] at h; cases h
  | w + 1, h => by
    rw [desc_succ] at h
    simp only [Bool.or_eq_true, decide_eq_true_eq] at h
    rcases h with rfl | h
    · rfl
    · have g := desc_ge _ h
      have := hp w
      rw [desc_up i w (by omega)]
      exact desc_below hij (par w) h
termination_by w => w
decreasing_by exact Nat.lt_succ_of_le (hp w)
/-- two stretches: never all four sides -/
theorem desc_lam {i j : Nat} (hij : i ≠ j) {a b c d : Nat} (x y : Bool) (ha : desc par hp i a = x ∧ desc par hp j a = y) (hb : desc par hp i b = x ∧ desc par hp j b = !y) (hc : desc par hp i c = !x ∧ desc par hp j c = y) (hd : desc par hp i d = !x ∧ desc par hp j d = !y) : False := by
  have key : ∀ (i j : Nat), i < j → ∀ u v, desc par hp j u = true → desc par hp j v = true → desc par hp i u = desc par hp i v := fun i j h u v hu hv =>
    (desc_below (Nat.le_of_lt h) u hu).trans (desc_below (Nat.le_of_lt h) v hv).symm
  rcases Nat.lt_or_gt_of_ne hij with h | h
  · cases y with
    | true =>
      have := key i j h a c ha.2 hc.2
      rw [ha.1, hc.1] at this
      cases x <;> cases this
    | false =>
      have := key i j h b d hb.2 hd.2
      rw [hb.1, hd.1] at this
      cases x <;> cases this
  · cases x with
    | true =>
      have := key j i h a b ha.1 hb.1
      rw [ha.2, hb.2] at this
      cases y <;> cases this
    | false =>
      have := key j i h c d hc.1 hd.1
      rw [hc.2, hd.2] at this
      cases y <;> cases this
/-- two knots are parted by a stretch -/
theorem desc_sep {u w : Nat} (h : u ≠ w) : ∃ i, (i + 1 = u ∨ i + 1 = w) ∧ desc par hp i u ≠ desc par hp i w := by
  rcases Nat.lt_or_gt_of_ne h with h | h
  · refine ⟨w - 1, .inr (by omega), ?_⟩
    have e1 : desc par hp (w - 1) w = true := by
      have := desc_self (par := par) (hp := hp) (w - 1)
      rwa [Nat.sub_add_cancel (by omega)] at this
    have e2 : desc par hp (w - 1) u = false := by
      cases e : desc par hp (w - 1) u with
      | false => rfl
      | true => have := desc_ge _ e; omega
    rw [e1, e2]
    decide
  · refine ⟨u - 1, .inl (by omega), ?_⟩
    have e1 : desc par hp (u - 1) u = true := by
      have := desc_self (par := par) (hp := hp) (u - 1)
      rwa [Nat.sub_add_cancel (by omega)] at this
    have e2 : desc par hp (u - 1) w = false := by
      cases e : desc par hp (u - 1) w with
      | false => rfl
      | true => have := desc_ge _ e; omega
    rw [e1, e2]
    decide
/-- neighbours, by stretch j -/
def Adj (par : Nat → Nat) (j u v : Nat) : Prop := (u = j + 1 ∧ v = par j) ∨ (v = j + 1 ∧ u = par j)
theorem Adj.other {j u v : Nat} (h : Adj par j u v) {i : Nat} (hi : i ≠ j) : desc par hp i u = desc par hp i v := by
  rcases h with ⟨rfl, rfl⟩ | ⟨rfl, rfl⟩
  · exact desc_up i j hi
  · exact (desc_up i j hi).symm
theorem Adj.own {j u v : Nat} (h : Adj par j u v) : desc par hp j u = !desc par hp j v := by
  rcases h with ⟨rfl, rfl⟩ | ⟨rfl, rfl⟩
  · rw [desc_self, desc_par]; rfl
  · rw [desc_self, desc_par]; rfl
/-- a simple way over the first m stretches: head u, end v -/
inductive Way (par : Nat → Nat) (m : Nat) : Nat → Nat → List Nat → Prop
  | one (u : Nat) : Way par m u u [u]
  | step {u v w : Nat} {t : List Nat} (j : Nat) (hj : j < m) (a : Adj par j u v) (r : Way par m v w t) (n : u ∉ t) : Way par m u w (u :: t)
theorem Way.head {m u v : Nat} {t : List Nat} (h : Way par m u v t) : ∃ r, t = u :: r := by
  cases h with
  | one => exact ⟨[], rfl⟩
  | step j hj a r n => exact ⟨_, rfl⟩
theorem Way.mem {m u v : Nat} {t : List Nat} (h : Way par m u v t) : u ∈ t ∧ v ∈ t := by
  induction h with
  | one u => simp
  | step j hj a r n ih => exact ⟨List.mem_cons_self, List.mem_cons_of_mem _ ih.2⟩
/-- a stretch one end of which is not on the way isn't crossed -/
theorem Way.still {m u v i z : Nat} {t : List Nat} (h : Way par m u v t) (hz : z = i + 1 ∨ z = par i) (n : z ∉ t) : ∀ w ∈ t, desc par hp i w = desc par hp i u := by
  induction h with
  | one u =>
    intro w hw
    rw [List.mem_singleton.mp hw]
  | @step u v w t j hj a r n' ih =>
    intro x hx
    simp only [List.mem_cons, not_or] at n
    have hij : i ≠ j := by
      rintro rfl
      have hv := r.mem.1
      rcases a with ⟨rfl, rfl⟩ | ⟨rfl, rfl⟩
      · rcases hz with rfl | rfl
        · exact n.1 rfl
        · exact n.2 hv
      · rcases hz with rfl | rfl
        · exact n.2 hv
        · exact n.1 rfl
    rcases List.mem_cons.mp hx with rfl | hx
    · rfl
    · rw [ih n.2 x hx, a.other hij]
/-- what lies on a way between two on one side lies there, too -/
theorem Way.side {m u v i : Nat} {t : List Nat} (h : Way par m u v t) (e : desc par hp i u = desc par hp i v) : ∀ w ∈ t, desc par hp i w = desc par hp i u := by
  induction h with
  | one u =>
    intro w hw
    rw [List.mem_singleton.mp hw]
  | @step u v w t j hj a r n ih =>
    intro x hx
    rcases List.mem_cons.mp hx with rfl | hx
    · rfl
    · by_cases hij : i = j
      · subst hij
        exfalso
        have st := r.still (hp := hp) (i := i) (z := u) (by rcases a with ⟨h, _⟩ | ⟨_, h⟩ <;> simp [h]) n w r.mem.2
        have ow := a.own (hp := hp)
        rw [e, st] at ow
        cases q : desc par hp i v <;> rw [q] at ow <;> cases ow
      · rw [a.other hij] at e
        rw [ih e x hx, a.other hij]
/-- and what lies on all the sides that both have lies on the way -/
theorem Way.has {m u v w : Nat} {t : List Nat} (h : Way par m u v t) (hb : ∀ i, desc par hp i u = desc par hp i v → desc par hp i w = desc par hp i u) : w ∈ t := by
  induction h with
  | one u =>
    by_cases hw : u = w
    · simp [hw]
    · obtain ⟨i, _, hi⟩ := desc_sep (par := par) (hp := hp) hw
      exact absurd (hb i rfl).symm hi
  | @step u v z t j hj a r n ih =>
    by_cases hw : u = w
    · subst hw; exact List.mem_cons_self
    · refine List.mem_cons_of_mem _ (ih fun i hi => ?_)
      by_cases hij : i = j
      · subst hij
        have st := r.still (hp := hp) (i := i) (z := u) (by rcases a with ⟨h, _⟩ | ⟨_, h⟩ <;> simp [h]) n z r.mem.2
        have ow := a.own (hp := hp)
        -- w on u's side of i: then all four sides
        cases q : decide (desc par hp i w = desc par hp i v) with
        | true => exact of_decide_eq_true q
        | false =>
          exfalso
          have q := of_decide_eq_false q
          have hwu : desc par hp i w = desc par hp i u := by
            rw [ow]
            cases e1 : desc par hp i w <;> cases e2 : desc par hp i v <;> first | rfl | (exact absurd (e1.trans e2.symm) q)
          obtain ⟨k, _, hk⟩ := desc_sep (par := par) (hp := hp) hw
          have hki : k ≠ i := by
            rintro rfl
            exact hk hwu.symm
          have huz : desc par hp k u ≠ desc par hp k z := fun e => hk (hb k e).symm
          have hvu : desc par hp k u = desc par hp k v := a.other hki
          -- u: (u, u), v: (u, v), w: (not u, u), z: (not u, v)
          refine desc_lam (par := par) (hp := hp) (i := k) (j := i) hki (a := u) (b := v) (c := w) (d := z) (desc par hp k u) (desc par hp i u) ⟨rfl, rfl⟩ ⟨hvu.symm, ?_⟩ ⟨?_, hwu⟩ ⟨?_, ?_⟩
          · rw [ow]; simp
          · cases e1 : desc par hp k w <;> cases e2 : desc par hp k u <;> first | rfl | (exact absurd (e2.trans e1.symm) hk)
          · cases e1 : desc par hp k z <;> cases e2 : desc par hp k u <;> first | rfl | (exact absurd (e2.trans e1.symm) huz)
          · rw [st, ow]; simp
      · rw [← a.other hij]
        refine hb i ?_
        rw [a.other hij]
        exact hi
end
end FL
/-! FT2: ways in trees: they exist, they go on, the middle of three. -/
namespace FL
open FW
section
variable {par : Nat → Nat} {hp : ∀ i, par i ≤ i} {m : Nat}
theorem Way.nodup {u v : Nat} {t : List Nat} (h : Way par m u v t) : t.Nodup := by
  induction h with
  | one u => simp
  | step j hj a r n ih => exact List.nodup_cons.mpr ⟨n, ih⟩
theorem Way.snoc {u v w j : Nat} {t : List Nat} (h : Way par m u v t) (hj : j < m) (a : Adj par j v w) (n : w ∉ t) : Way par m u w (t ++ [w]) := by
  induction h with
  | one u => exact .step j hj a (.one w) fun e => n (by rw [List.mem_singleton.mp e]; exact List.mem_singleton.mpr rfl)
  | @step u x v t i hi b r n' ih =>
    have n1 : w ≠ u := fun e => n (e ▸ List.mem_cons_self)
    have n2 : w ∉ t := fun e => n (List.mem_cons_of_mem _ e)
    refine .step i hi b (ih a n2) fun z => ?_
    rcases List.mem_append.mp z with z | z
    · exact n' z
    · exact n1 (List.mem_singleton.mp z).symm
theorem Way.le {u v : Nat} {t : List Nat} (hp : ∀ i, par i ≤ i) (h : Way par m u v t) (hu : u ≤ m) : ∀ w ∈ t, w ≤ m := by
  induction h with
  | one u => intro w hw; rw [List.mem_singleton.mp hw]; exact hu
  | @step u x v t i hi b r n' ih =>
    intro w hw
    rcases List.mem_cons.mp hw with rfl | hw
    · exact hu
    · refine ih ?_ w hw
      have := hp i
      rcases b with ⟨h1, h2⟩ | ⟨h1, h2⟩ <;> omega
theorem Way.last {u v : Nat} {t : List Nat} (h : Way par m u v t) : t.getLast? = some v := by
  induction h with
  | one u => rfl
  | @step u x v t i hi b r n' ih =>
    obtain ⟨q, rfl⟩ := r.head
    rw [List.getLast?_cons_cons]
    exact ih
/-- the next knot behind a beginning -/
theorem Way.next {u g v w : Nat} {t s : List Nat} (h : Way par m u g (t ++ w :: s)) (hl : t.getLast? = some v) : ∃ j, j < m ∧ Adj par j v w ∧ w ∉ t := by
  induction t generalizing u with
  | nil => cases hl
  | cons a t ih =>
    cases t with
    | nil =>
      have : a = v := by simpa using hl
      subst this
      cases h with
      | @step _ x _ _ j hj b r n =>
        obtain ⟨q, e⟩ := r.head
        have e : w :: s = x :: q := e
        cases e
        refine ⟨j, hj, b, ?_⟩
        simp only [List.mem_singleton]
        rintro rfl
        exact n List.mem_cons_self
    | cons b t =>
      rw [List.getLast?_cons_cons] at hl
      cases h with
      | @step _ x _ _ j hj c r n =>
        obtain ⟨i, hi, d, e⟩ := ih (u := x) r hl
        refine ⟨i, hi, d, ?_⟩
        simp only [List.mem_cons, not_or]
        simp only [List.mem_cons, not_or] at e
        refine ⟨?_, e⟩
        rintro rfl
        exact n (by simp)
theorem way_ex (hp : ∀ i, par i ≤ i) : ∀ (k u v : Nat), u + v ≤ k → u ≤ m → v ≤ m → ∃ t, Way par m u v t ∧ ∀ w ∈ t, w ≤ max u v := by
  intro k
  induction k with
  | zero =>
    intro u v h _ _
    have : u = v := by omega
    subst this
    exact ⟨[u], .one u, by simp⟩
  | succ k ih =>
    intro u v h hu hv
    rcases Nat.lt_trichotomy u v with l | l | l
    · have e : v = (v - 1) + 1 := by omega
      have := hp (v - 1)
      obtain ⟨t, ht, hm⟩ := ih u (par (v - 1)) (by omega) hu (by omega)
      refine ⟨t ++ [v], ht.snoc (j := v - 1) (by omega) (.inr ⟨e, rfl⟩) fun z => ?_, fun w hw => ?_⟩
      · have := hm v z
        omega
      · rcases List.mem_append.mp hw with hw | hw
        · have := hm w hw
          omega
        · rw [List.mem_singleton.mp hw]
          omega
    · subst l
      exact ⟨[u], .one u, by simp⟩
    · have e : u = (u - 1) + 1 := by omega
      have := hp (u - 1)
      obtain ⟨t, ht, hm⟩ := ih (par (u - 1)) v (by omega) (by omega) hv
      refine ⟨u :: t, .step (u - 1) (by omega) (.inl ⟨e, rfl⟩) ht fun z => ?_, fun w hw => ?_⟩
      · have := hm u z
        omega
      · rcases List.mem_cons.mp hw with rfl | hw
        · omega
        · have := hm w hw
          omega
/-- the middle of three knots -/
theorem mid_ex (u v t : Nat) (hu : u ≤ m) (hv : v ≤ m) (ht : t ≤ m) : ∃ c, c ≤ m ∧ ∀ i, desc par hp i c = maj (desc par hp i u) (desc par hp i v) (desc par hp i t) := by
  -- the last stretch beyond which two of the three lie
  have key : ∀ (k : Nat), (∀ i, k ≤ i → maj (desc par hp i u) (desc par hp i v) (desc par hp i t) = false) → k ≤ m → ∃ c, c ≤ m ∧ ∀ i, desc par hp i c = maj (desc par hp i u) (desc par hp i v) (desc par hp i t) := by
    intro k
    induction k with
    | zero =>
      intro h _
      exact ⟨0, by omega, fun i => by rw [desc_zero, h i (by omega)]⟩
    | succ k ih =>
      intro h hk
      cases e : maj (desc par hp k u) (desc par hp k v) (desc par hp k t) with
      | false => exact ih (fun i hi => by
          rcases Nat.eq_or_lt_of_le hi with rfl | hi
          · exact e
          · exact h i hi) (by omega)
      | true =>
        refine ⟨k + 1, hk, fun i => ?_⟩
        by_cases hi : i ≤ k
        · have b : ∀ w, desc par hp k w = true → desc par hp i w = desc par hp i (k + 1) := fun w hw => desc_below hi w hw
          cases a1 : desc par hp k u <;> cases a2 : desc par hp k v <;> cases a3 : desc par hp k t <;> rw [a1, a2, a3] at e <;> first | cases e | skip
          · rw [b v a2, b t a3]
            cases desc par hp i u <;> cases desc par hp i (k + 1) <;> rfl
          · rw [b u a1, b t a3]
            cases desc par hp i v <;> cases desc par hp i (k + 1) <;> rfl
          · rw [b u a1, b v a2]
            cases desc par hp i t <;> cases desc par hp i (k + 1) <;> rfl
          · rw [b u a1, b v a2, b t a3]
            cases desc par hp i (k + 1) <;> rfl
        · rw [h i (by omega)]
          cases q : desc par hp i (k + 1) with
          | false => rfl
          | true =>
            have := desc_ge _ q
            omega
  refine key m (fun i hi => ?_) (Nat.le_refl _)
  have z : ∀ w, w ≤ m → desc par hp i w = false := fun w hw => by
    cases q : desc par hp i w with
    | false => rfl
    | true =>
      have := desc_ge _ q
      omega
  rw [z u hu, z v hv, z t ht]
  rfl
/-- the middle lies on the way between two, and what lies on all three ways is the middle -/
theorem mid_way {u v t c : Nat} {l : List Nat} (h : Way par m u v l) (hc : ∀ i, desc par hp i c = maj (desc par hp i u) (desc par hp i v) (desc par hp i t)) : c ∈ l :=
  h.has (hp := hp) fun i e => by
    rw [hc i, ← e]
    cases desc par hp i u <;> cases desc par hp i t <;> rfl
theorem mid_of {u v t k : Nat} {l1 l2 l3 : List Nat} (h1 : Way par m u v l1) (h2 : Way par m v t l2) (h3 : Way par m t u l3) (k1 : k ∈ l1) (k2 : k ∈ l2) (k3 : k ∈ l3) (i : Nat) : desc par hp i k = maj (desc par hp i u) (desc par hp i v) (desc par hp i t) := by
  have a1 : desc par hp i u = desc par hp i v → desc par hp i k = desc par hp i u := fun e => h1.side e k k1
  have a2 : desc par hp i v = desc par hp i t → desc par hp i k = desc par hp i v := fun e => h2.side e k k2
  have a3 : desc par hp i t = desc par hp i u → desc par hp i k = desc par hp i t := fun e => h3.side e k k3
  cases e1 : desc par hp i u <;> cases e2 : desc par hp i v <;> cases e3 : desc par hp i t <;> rw [e1, e2] at a1 <;> rw [e2, e3] at a2 <;> rw [e3, e1] at a3 <;> first | exact a1 rfl | exact a2 rfl | exact a3 rfl
theorem same_knot {u v : Nat} (h : ∀ i, desc par hp i u = desc par hp i v) : u = v := by
  by_cases e : u = v
  · exact e
  · obtain ⟨i, _, hi⟩ := desc_sep (par := par) (hp := hp) e
    exact absurd (h i) hi
end
end FL
namespace FL
open FW
open PySem L2
/-- _law_lots: _law_names, _law_found, _law_word, _law_lot -/
def d_law_lots : FnD := ⟨1, 4,
 (Ss.cons (S.set (G.nm 1) (E.lst (Es.cons (E.lst Es.nil) Es.nil)))
 (Ss.cons (S.for_ (G.nm 2) (I.seq (E.slc (E.bi "sorted" (Es.cons (E.var 0) Es.nil)) (C.yes (E.int 1)) C.no))
 (Ss.cons (S.set (G.nm 1) (E.bin .Add (E.var 1) (E.lc (E.bin .Add (E.var 3) (E.lst (Es.cons (E.var 2) Es.nil))) (G.nm 3) (I.seq (E.var 1)) C.no [3])))
 Ss.nil))
 (Ss.cons (S.ret (E.bi "sorted" (Es.cons (E.lc (E.bi "tuple" (Es.cons (E.var 3) Es.nil)) (G.nm 3) (I.seq (E.var 1)) (C.yes (E.cmp .NotEq (E.var 3) (E.lst Es.nil))) [3]) Es.nil)))
 Ss.nil)))⟩
/-- _law_lies: _law_lot, _law_point_here, _law_kid -/
def d_law_lies : FnD := ⟨2, 3,
 (Ss.cons (S.ife (E.isin (E.var 1) ["str"])
 (Ss.cons (S.ret (E.cmp .In (E.var 1) (E.var 0)))
 Ss.nil)
 Ss.nil)
 (Ss.cons (S.ret (E.cmp .Gt (E.bi "len" (Es.cons (E.lc (E.int 1) (G.nm 2) (I.seq (E.slc (E.var 1) (C.yes (E.int 1)) C.no)) (C.yes (E.call (Str.ofString "_law_lies") (Es.cons (E.var 0) (Es.cons (E.var 2) Es.nil)))) [2]) Es.nil)) (E.int 1)))
 Ss.nil))⟩
/-- _law_tree: _law_draw, _law_names, _law_knots, _law_span, _law_rows, _law_knot_here, _law_pair, _law_word -/
def d_law_tree : FnD := ⟨4, 8,
 (Ss.cons (S.own 4 (E.lst Es.nil))
 (Ss.cons (S.for_ (G.nm 5) (I.rng2 (E.int 1) (E.var 2))
 (Ss.cons (S.set (G.nm 6) (E.call (Str.ofString "_law_mixed") (Es.cons (E.var 0) (Es.cons (E.lst (Es.cons (E.var 5) (Es.cons (E.call (Str.ofString "_law_take") (Es.cons (E.var 0) (Es.cons (E.var 5) Es.nil))) Es.nil))) Es.nil))))
 (Ss.cons (S.app 4 (E.tup (Es.cons (E.sub (E.var 6) (E.int 0)) (Es.cons (E.sub (E.var 6) (E.int 1)) (Es.cons (E.bin .Add (E.int 1) (E.call (Str.ofString "_law_take") (Es.cons (E.var 0) (Es.cons (E.var 3) Es.nil)))) Es.nil)))))
 Ss.nil)))
 (Ss.cons (S.ret (E.dct false (Es.cons (E.str (Str.ofString "seats")) (Es.cons (E.str (Str.ofString "rows")) Es.nil)) (Es.cons (E.bi "dict" (Es.cons (E.lc (E.tup (Es.cons (E.var 7) (Es.cons (E.call (Str.ofString "_law_take") (Es.cons (E.var 0) (Es.cons (E.var 2) Es.nil))) Es.nil))) (G.nm 7) (I.seq (E.var 1)) C.no [7]) Es.nil)) (Es.cons (E.var 4) Es.nil))))
 Ss.nil)))⟩
/-- _law_path: _law_rows, _law_begin_here, _law_goal, _law_line, _law_trail, _law_uno, _law_duo, _law_span, _law_here, _law_there -/
def d_law_path : FnD := ⟨3, 10,
 (Ss.cons (S.own 3 (E.lst (Es.cons (E.lst (Es.cons (E.var 1) Es.nil)) Es.nil)))
 (Ss.cons (S.whl (E.cmp .NotEq (E.var 3) (E.lst Es.nil))
 (Ss.cons (S.setPop 4 3)
 (Ss.cons (S.ife (E.cmp .Eq (E.sub (E.var 4) (E.neg (E.int 1))) (E.var 2))
 (Ss.cons (S.ret (E.var 4))
 Ss.nil)
 Ss.nil)
 (Ss.cons (S.for_ (G.tp [5, 6, 7]) (I.seq (E.var 0))
 (Ss.cons (S.for_ (G.tp [8, 9]) (I.seq (E.lst (Es.cons (E.tup (Es.cons (E.var 5) (Es.cons (E.var 6) Es.nil))) (Es.cons (E.tup (Es.cons (E.var 6) (Es.cons (E.var 5) Es.nil))) Es.nil))))
 (Ss.cons (S.ife (E.and (E.cmp .Eq (E.var 8) (E.sub (E.var 4) (E.neg (E.int 1)))) (E.cmp .NotIn (E.var 9) (E.var 4)))
 (Ss.cons (S.app 3 (E.bin .Add (E.var 4) (E.lst (Es.cons (E.var 9) Es.nil))))
 Ss.nil)
 Ss.nil)
 Ss.nil))
 Ss.nil))
 Ss.nil))))
 (Ss.cons (S.ret (E.lst Es.nil))
 Ss.nil)))⟩
/-- _law_knot: _law_tree_here, _law_point_here, _law_uno, _law_two, _law_three, _law_first, _law_second, _law_last, _law_kid, _law_knot_here -/
def d_law_knot : FnD := ⟨2, 10,
 (Ss.cons (S.ife (E.isin (E.var 1) ["str"])
 (Ss.cons (S.ret (E.sub (E.sub (E.var 0) (E.str (Str.ofString "seats"))) (E.var 1)))
 Ss.nil)
 Ss.nil)
 (Ss.cons (S.set (G.tp [2, 3, 4]) (E.lc (E.call (Str.ofString "_law_knot") (Es.cons (E.var 0) (Es.cons (E.var 8) Es.nil))) (G.nm 8) (I.seq (E.slc (E.var 1) (C.yes (E.int 1)) C.no)) C.no [8]))
 (Ss.cons (S.par [5, 6] [false, false] (Es.cons (E.call (Str.ofString "_law_path") (Es.cons (E.sub (E.var 0) (E.str (Str.ofString "rows"))) (Es.cons (E.var 2) (Es.cons (E.var 3) Es.nil)))) (Es.cons (E.call (Str.ofString "_law_path") (Es.cons (E.sub (E.var 0) (E.str (Str.ofString "rows"))) (Es.cons (E.var 3) (Es.cons (E.var 4) Es.nil)))) Es.nil)))
 (Ss.cons (S.set (G.nm 7) (E.call (Str.ofString "_law_path") (Es.cons (E.sub (E.var 0) (E.str (Str.ofString "rows"))) (Es.cons (E.var 4) (Es.cons (E.var 2) Es.nil)))))
 (Ss.cons (S.ret (E.sub (E.lc (E.var 9) (G.nm 9) (I.seq (E.var 5)) (C.yes (E.and (E.cmp .In (E.var 9) (E.var 6)) (E.cmp .In (E.var 9) (E.var 7)))) [9]) (E.int 0)))
 Ss.nil)))))⟩
/-- _law_due: _law_names, _law_uno, _law_duo, _law_tres, _law_lot, _law_sides -/
def d_law_due : FnD := ⟨4, 6,
 (Ss.cons (S.for_ (G.nm 4) (I.seq (E.call (Str.ofString "_law_lots") (Es.cons (E.var 0) Es.nil)))
 (Ss.cons (S.set (G.nm 5) (E.lst (Es.cons (E.call (Str.ofString "_law_lies") (Es.cons (E.var 4) (Es.cons (E.var 1) Es.nil))) (Es.cons (E.call (Str.ofString "_law_lies") (Es.cons (E.var 4) (Es.cons (E.var 2) Es.nil))) (Es.cons (E.call (Str.ofString "_law_lies") (Es.cons (E.var 4) (Es.cons (E.var 3) Es.nil))) Es.nil)))))
 (Ss.cons (S.ife (E.and (E.cmp .Eq (E.sub (E.var 5) (E.int 0)) (E.sub (E.var 5) (E.int 1))) (E.cmp .NotEq (E.sub (E.var 5) (E.int 2)) (E.sub (E.var 5) (E.int 0))))
 (Ss.cons (S.ret (E.bl false))
 Ss.nil)
 Ss.nil)
 Ss.nil)))
 (Ss.cons (S.ret (E.bl true))
 Ss.nil))⟩
/-- law: _law_script, _law_draw, _law_turn, _law_names, _law_tree_here, _law_lap, _law_uno, _law_duo, _law_tres, _law_due_here, _law_found, _law_trail -/
def d_law10 : FnD := ⟨1, 12,
 (Ss.cons (S.set (G.nm 1) (E.call (Str.ofString "_law_begin") (Es.cons (E.var 0) Es.nil)))
 (Ss.cons (S.for_ (G.nm 2) (I.rng1 (E.bin .Add (E.int 4) (E.bi "min" (Es.cons (E.bi "len" (Es.cons (E.var 0) Es.nil)) (Es.cons (E.int 8) Es.nil)))))
 (Ss.cons (S.set (G.nm 3) (E.call (Str.ofString "_law_towns") (Es.cons (E.var 1) (Es.cons (E.int 6) Es.nil))))
 (Ss.cons (S.set (G.nm 4) (E.call (Str.ofString "_law_tree") (Es.cons (E.var 1) (Es.cons (E.var 3) (Es.cons (E.bin .Add (E.int 2) (E.call (Str.ofString "_law_take") (Es.cons (E.var 1) (Es.cons (E.int 11) Es.nil)))) (Es.cons (E.int 9) Es.nil))))))
 (Ss.cons (S.for_ (G.nm 5) (I.rng1 (E.int 6))
 (Ss.cons (S.par [6, 7] [false, false] (Es.cons (E.call (Str.ofString "_law_point") (Es.cons (E.var 1) (Es.cons (E.var 3) (Es.cons (E.int 2) Es.nil)))) (Es.cons (E.call (Str.ofString "_law_point") (Es.cons (E.var 1) (Es.cons (E.var 3) (Es.cons (E.int 2) Es.nil)))) Es.nil)))
 (Ss.cons (S.set (G.nm 8) (E.call (Str.ofString "_law_point") (Es.cons (E.var 1) (Es.cons (E.var 3) (Es.cons (E.int 2) Es.nil)))))
 (Ss.cons (S.ife (E.cmp .Eq (E.call (Str.ofString "_law_take") (Es.cons (E.var 1) (Es.cons (E.int 2) Es.nil))) (E.int 0))
 (Ss.cons (S.set (G.nm 8) (E.bin .Add (E.tup (Es.cons (E.str (Str.ofString "fork")) Es.nil)) (E.bi "tuple" (Es.cons (E.call (Str.ofString "_law_mixed") (Es.cons (E.var 1) (Es.cons (E.lst (Es.cons (E.var 6) (Es.cons (E.var 7) (Es.cons (E.var 8) Es.nil)))) Es.nil))) Es.nil))))
 Ss.nil)
 Ss.nil)
 (Ss.cons (S.set (G.nm 9) (E.call (Str.ofString "_law_due") (Es.cons (E.var 3) (Es.cons (E.var 6) (Es.cons (E.var 7) (Es.cons (E.var 8) Es.nil))))))
 (Ss.cons (S.own 10 (E.lst (Es.cons (E.call (Str.ofString "on_ways") (Es.cons (E.var 3) (Es.cons (E.var 6) (Es.cons (E.var 7) (Es.cons (E.var 8) Es.nil))))) (Es.cons (E.call (Str.ofString "on_ways") (Es.cons (E.var 3) (Es.cons (E.var 7) (Es.cons (E.var 6) (Es.cons (E.var 8) Es.nil))))) Es.nil))))
 (Ss.cons (S.app 10 (E.callK (Str.ofString "on_ways") Es.nil (Es.cons (E.var 8) (Es.cons (E.var 7) (Es.cons (E.var 6) (Es.cons (E.rev (E.var 3)) Es.nil)))) [(Str.ofString "third"), (Str.ofString "other"), (Str.ofString "one"), (Str.ofString "places")] [3, 2, 1, 0]))
 (Ss.cons (S.ife (E.cmp .NotEq (E.bi "repr" (Es.cons (E.var 10) Es.nil)) (E.bi "repr" (Es.cons (E.bin .Mult (E.lst (Es.cons (E.var 9) Es.nil)) (E.int 3)) Es.nil)))
 (Ss.cons (S.ret (E.bl false))
 Ss.nil)
 Ss.nil)
 (Ss.cons (S.set (G.nm 11) (E.call (Str.ofString "_law_path") (Es.cons (E.sub (E.var 4) (E.str (Str.ofString "rows"))) (Es.cons (E.call (Str.ofString "_law_knot") (Es.cons (E.var 4) (Es.cons (E.var 6) Es.nil))) (Es.cons (E.call (Str.ofString "_law_knot") (Es.cons (E.var 4) (Es.cons (E.var 7) Es.nil))) Es.nil)))))
 (Ss.cons (S.ife (E.and (E.var 9) (E.cmp .NotIn (E.call (Str.ofString "_law_knot") (Es.cons (E.var 4) (Es.cons (E.var 8) Es.nil))) (E.var 11)))
 (Ss.cons (S.ret (E.bl false))
 Ss.nil)
 Ss.nil)
 (Ss.cons (S.ife (E.or (E.cmp .IsNot (E.call (Str.ofString "on_ways") (Es.cons (E.var 3) (Es.cons (E.var 6) (Es.cons (E.var 7) (Es.cons (E.var 6) Es.nil))))) (E.bl true)) (E.cmp .NotEq (E.call (Str.ofString "on_ways") (Es.cons (E.var 3) (Es.cons (E.var 6) (Es.cons (E.var 6) (Es.cons (E.var 7) Es.nil))))) (E.call (Str.ofString "one_spot") (Es.cons (E.var 3) (Es.cons (E.var 6) (Es.cons (E.var 7) Es.nil))))))
 (Ss.cons (S.ret (E.bl false))
 Ss.nil)
 Ss.nil)
 Ss.nil)))))))))))
 Ss.nil))))
 (Ss.cons (S.ret (E.bl true))
 Ss.nil)))⟩
end FL
namespace FL
open FW
open PySem L2
variable {P : Prog} {wf n : Nat}
def natL (t : List Nat) : List PV := t.map fun (k : Nat) => PV.int (k : Int)
def rowV (r : Nat × Nat × Nat) : PV := .tup [.int r.1, .int r.2.1, .int r.2.2]
def RowsOk (par : Nat → Nat) (rs : List (Nat × Nat × Nat)) : Prop := ∀ (j : Nat) r, rs[j]? = some r → Adj par j r.1 r.2.1
/-- a while loop with a measure -/
theorem T.loop_ {t : List Slot → M Bool} {f : List Slot → M Fl} {R : Fl → Prop} {I : Nat → List Slot → Prop} (h : ∀ k ls, I k ls → (t ls = M.pure false ∧ R (.nx ls)) ∨ (∃ k', k = k' + 1 ∧ t ls = M.pure true ∧ T (f ls) (turnQ (I k') R))) : ∀ {k wf : Nat} {ls : List Slot}, I k ls → k < wf → T (whileM t f wf ls) R
  | k, wf + 1, ls, hi, hk => by
    unfold whileM
    rcases h k ls hi with ⟨e, r⟩ | ⟨k', rfl, e, b⟩
    · rw [e, M.pure_bind, if_neg (by decide)]
      exact T.pure r
    · rw [e, M.pure_bind, if_pos rfl]
      refine b.bind ?_
      rintro (ls' | v | ls' | ls') z
      · exact T.loop_ h z (by omega)
      · exact T.pure z
      · exact T.pure z
      · exact T.loop_ h z (by omega)
theorem T.loop {t : List Slot → M Bool} {f : List Slot → M Fl} {R : Fl → Prop} (I : Nat → List Slot → Prop) {k wf : Nat} {ls : List Slot} (hi : I k ls) (hk : k < wf)
    (h : ∀ (J : Nat → List Slot → Prop) (R' : Fl → Prop), (∀ k ls, I k ls → J k ls) → (∀ fl, R fl → R' fl) → ∀ k ls, I k ls → (t ls = M.pure false ∧ R' (.nx ls)) ∨ (∃ k', k = k' + 1 ∧ t ls = M.pure true ∧ T (f ls) (turnQ (J k') R'))) : T (whileM t f wf ls) R :=
  T.loop_ (h I R (fun _ _ z => z) fun _ z => z) hi hk
@[simp] theorem ex_setPop (P : PE') (wf : Nat) (ls : List Slot) (i j : Nat) : ex P wf (.setPop i j) ls = (M.lift (ownL ls j)).bind fun ys => (M.lift ys.getLast?).bind fun y => if i < ls.length ∧ i ≠ j then M.pure (.nx ((ls.set j (some (true, .lst ys.dropLast))).set i (some (false, y)))) else M.bad := nrfl rfl
theorem in_natL (b : Nat) (t : List Nat) : inF (.int b) (.lst (natL t)) = some (t.contains b) := by
  have h1 : inOk (.int b) (natL t) = true := by simp [inOk, flatP, natL]
  have h2 : (natL t).any (fun z => eqPV z (.int b)) = t.contains b := by
    unfold natL
    rw [List.any_map, List.contains_eq_any_beq]
    congr 1
    funext z
    show ((z : Int) == (b : Int)) = (b == z)
    by_cases e : z = b
    · subst e; simp
    · have e2 : ¬ b = z := fun q => e q.symm
      rw [beq_eq_false_iff_ne.mpr e2]
      exact beq_eq_false_iff_ne.mpr (by omega)
  simp [inF, h1, h2]
theorem last_natL {t : List Nat} {w : Nat} (h : t.getLast? = some w) : subF (.lst (natL t)) (.int (-1)) = some (.int w) := by
  have hl : 0 < t.length := by
    cases t with
    | nil => cases h
    | cons a t => simp
  show atI (natL t) (-1) = _
  unfold atI ixN
  rw [if_neg (by decide), if_pos (by simp [natL]; omega)]
  have e : (-1 + ((natL t).length : Int)).toNat = t.length - 1 := by simp [natL]; omega
  rw [Option.bind_some, e]
  unfold natL
  rw [List.getElem?_map, ← List.getLast?_eq_getElem?, h]
  rfl
/-- the ways that go on from t over the pair (a, b) -/
def kid (t : List Nat) (a b : Nat) : List (List Nat) := if t.getLast? = some a ∧ b ∉ t then [t ++ [b]] else []
def kids (t : List Nat) (rs : List (Nat × Nat × Nat)) : List (List Nat) := rs.flatMap fun r => kid t r.1 r.2.1 ++ kid t r.2.1 r.1
def lineV (l : List (List Nat)) : List PV := l.map fun t => .lst (natL t)
def pairBody : Ss := Ss.cons (S.ife (E.and (E.cmp .Eq (E.var 8) (E.sub (E.var 4) (E.neg (E.int 1)))) (E.cmp .NotIn (E.var 9) (E.var 4)))
   (Ss.cons (S.app 3 (E.bin .Add (E.var 4) (E.lst (Es.cons (E.var 9) Es.nil)))) Ss.nil) Ss.nil) Ss.nil
@[simp] theorem ev_neg (P : PE') (b : Bool) (a : E) (ls : List Slot) : ev P b (.neg a) ls = (ev P true a ls).bind fun
    | .int i => M.pure (.int (-i))
    | _ => M.bad := nrfl rfl
theorem pair_turn (P : PE') (rows u v : Slot) {l : List (List Nat)} {t : List Nat} {w a b : Nat} (x5 x6 x7 x8 x9 : Slot) (hw : t.getLast? = some w) (hl : l.length < 16777216) (ht : t.length < 1000) :
    turnF P wf (G.tp [8, 9]) pairBody (.tup [.int a, .int b]) [rows, u, v, some (true, .lst (lineV l)), some (false, .lst (natL t)), x5, x6, x7, x8, x9] =
      M.pure (.nx [rows, u, v, some (true, .lst (lineV (l ++ kid t a b))), some (false, .lst (natL t)), x5, x6, x7, some (false, .int a), some (false, .int b)]) := by
  rw [turnF_of (by simp; rfl)]
  have e1 := last_natL hw
  simp [pairBody, e1, cmpF, eqF, cmpOk, scalP, eqPV, in_natL]
  have ek : kid t a b = if w = a ∧ b ∉ t then [t ++ [b]] else [] := by
    unfold kid
    rw [hw]
    simp
  by_cases h1 : a = w
  · subst h1
    by_cases h2 : b ∈ t
    · simp [h2, ek]
    · have e2 : binF .Add (.lst (natL t)) (.lst [.int b]) = some (.lst (natL (t ++ [b]))) := by
        rw [add_lst (by simp [natL, LIM]; omega)]
        simp [natL]
      have e3 : (lineV l).length < LIM := by simpa [lineV, LIM] using hl
      have hL : 1 ≤ LIM := by simp [LIM]
      simp [h2, ek, e2, e3, hL]
      simp [lineV]
  · have h1' : ¬ w = a := fun e => h1 e.symm
    have h2 : ((a : Int) == (w : Int)) = false := beq_eq_false_iff_ne.mpr (by omega)
    simp [h1, h1', ek, h2]
    intro e
    exact absurd e (by omega)
def rowBody : Ss := Ss.cons (S.for_ (G.tp [8, 9]) (I.seq (E.lst (Es.cons (E.tup (Es.cons (E.var 5) (Es.cons (E.var 6) Es.nil))) (Es.cons (E.tup (Es.cons (E.var 6) (Es.cons (E.var 5) Es.nil))) Es.nil)))) pairBody) Ss.nil
theorem kid_len (t : List Nat) (a b : Nat) : (kid t a b).length ≤ 1 := by
  unfold kid
  split <;> simp
theorem row_turn (P : PE') (rows u v : Slot) {l : List (List Nat)} {t : List Nat} {w : Nat} (r : Nat × Nat × Nat) (x5 x6 x7 x8 x9 : Slot) (hw : t.getLast? = some w) (hl : l.length + 2 < 16777216) (ht : t.length < 1000) :
    ∃ y5 y6 y7 y8 y9 : Slot, turnF P wf (G.tp [5, 6, 7]) rowBody (rowV r) [rows, u, v, some (true, .lst (lineV l)), some (false, .lst (natL t)), x5, x6, x7, x8, x9] =
      M.pure (.nx [rows, u, v, some (true, .lst (lineV (l ++ (kid t r.1 r.2.1 ++ kid t r.2.1 r.1)))), some (false, .lst (natL t)), y5, y6, y7, y8, y9]) := by
  have k1 := kid_len t r.1 r.2.1
  have p1 := pair_turn (wf := wf) P rows u v (l := l) (t := t) (w := w) (a := r.1) (b := r.2.1) (some (false, .int r.1)) (some (false, .int r.2.1)) (some (false, .int r.2.2)) x8 x9 hw (by omega) ht
  have p2 := pair_turn (wf := wf) P rows u v (l := l ++ kid t r.1 r.2.1) (t := t) (w := w) (a := r.2.1) (b := r.1) (some (false, .int r.1)) (some (false, .int r.2.1)) (some (false, .int r.2.2)) (some (false, .int r.1)) (some (false, .int r.2.1)) hw (by simp; omega) ht
  have hL : 2 ≤ LIM := by simp [LIM]
  refine ⟨some (false, .int r.1), some (false, .int r.2.1), some (false, .int r.2.2), some (false, .int r.2.1), some (false, .int r.1), ?_⟩
  rw [turnF_of (by simp [rowV]; rfl), ← List.append_assoc]
  simp [rowBody, hL, forM'_cons, forM'_nil, p1, p2]
theorem kids_cons (t : List Nat) (r : Nat × Nat × Nat) (rs : List (Nat × Nat × Nat)) : kids t (r :: rs) = (kid t r.1 r.2.1 ++ kid t r.2.1 r.1) ++ kids t rs := by
  unfold kids
  rw [List.flatMap_cons]
theorem kids_len (t : List Nat) : ∀ rs : List (Nat × Nat × Nat), (kids t rs).length ≤ 2 * rs.length
  | [] => by simp [kids]
  | r :: rs => by
    rw [kids_cons]
    have := kids_len t rs
    have := kid_len t r.1 r.2.1
    have := kid_len t r.2.1 r.1
    simp only [List.length_append, List.length_cons]
    omega
theorem kid_mem {t c : List Nat} {a b : Nat} : c ∈ kid t a b ↔ t.getLast? = some a ∧ b ∉ t ∧ c = t ++ [b] := by
  unfold kid
  split
  · rename_i h
    simp [h]
  · rename_i h
    constructor
    · intro z; cases z
    · rintro ⟨h1, h2, _⟩
      exact absurd ⟨h1, h2⟩ h
theorem kids_mem {t c : List Nat} {rs : List (Nat × Nat × Nat)} : c ∈ kids t rs ↔ ∃ r ∈ rs, c ∈ kid t r.1 r.2.1 ∨ c ∈ kid t r.2.1 r.1 := by
  unfold kids
  simp [List.mem_flatMap]
theorem Adj.symm {par : Nat → Nat} {j u v : Nat} (h : Adj par j u v) : Adj par j v u := h.elim (fun z => .inr z) fun z => .inl z
section
variable {par : Nat → Nat} {hp : ∀ i, par i ≤ i} {rs : List (Nat × Nat × Nat)}
theorem way_len (hp : ∀ i, par i ≤ i) {m u w : Nat} {t : List Nat} (h : Way par m u w t) (hu : u ≤ m) : t.length ≤ m + 1 := by
  have := nodup_le (m := List.range (m + 1)) h.nodup fun w hw => List.mem_range.mpr (by have := h.le hp hu w hw; omega)
  simpa using this
end
/-- how many turns a line of ways may still take -/
def Bp : Nat → Nat
  | 0 => 1
  | k + 1 => 1 + 26 * Bp k
def pot (l : List (List Nat)) : Nat := (l.map fun t => Bp (14 - t.length)).sum
theorem Bp_pos : ∀ k, 1 ≤ Bp k
  | 0 => Nat.le_refl _
  | k + 1 => by unfold Bp; omega
theorem pot_append (a b : List (List Nat)) : pot (a ++ b) = pot a + pot b := by
  unfold pot
  rw [List.map_append, List.sum_append]
theorem pot_kids (t : List Nat) : ∀ {l : List (List Nat)}, (∀ c ∈ l, c.length = t.length + 1) → pot l = l.length * Bp (13 - t.length)
  | [], _ => by simp [pot]
  | c :: l, h => by
    have ih := pot_kids t (l := l) fun d hd => h d (List.mem_cons_of_mem _ hd)
    have hc := h c List.mem_cons_self
    unfold pot at ih ⊢
    rw [List.map_cons, List.sum_cons, ih, hc, List.length_cons, Nat.succ_mul, show 14 - (t.length + 1) = 13 - t.length by omega]
    omega
theorem okI_natL (t : List Nat) : okI (.lst (natL t)) := by
  have h1 : ∀ x ∈ natL t, okI x := fun x hx => by
    obtain ⟨k, _, rfl⟩ := List.mem_map.mp hx
    exact ⟨rfl, Nat.zero_le _⟩
  obtain ⟨a, b⟩ := noDs_of h1
  have d0 : ∀ t : List Nat, depPVs (natL t) = 0 := by
    intro t
    induction t with
    | nil => rfl
    | cons k t ih =>
      show max (depPV (.int k)) (depPVs (natL t)) = 0
      rw [ih]
      rfl
  refine ⟨a, ?_⟩
  show depPVs (natL t) + 1 ≤ 63
  rw [d0]
  decide
theorem ne_line (l : List (List Nat)) : cmpF .NotEq (.lst (lineV l)) (.lst []) = some (!l.isEmpty) := by
  have o1 : okD (.lst (lineV l)) = true := okD_lst fun x hx => by
    obtain ⟨t, _, rfl⟩ := List.mem_map.mp hx
    exact okI_natL t
  have o2 : okD (.lst []) = true := by decide
  have oc : cmpOk (.lst (lineV l)) (.lst []) = true := by simp [cmpOk, o1, o2]
  show (if cmpOk (.lst (lineV l)) (.lst []) then some (eqPV (.lst (lineV l)) (.lst [])) else none).map (!·) = _
  rw [oc]
  cases l <;> rfl
/-- a line whose deeper ways are no shorter than their places allow -/
def Stk (l : List (List Nat)) : Prop := ∀ (i : Nat) t, l[i]? = some t → i < 26 * t.length
theorem Stk.len {l : List (List Nat)} (h : Stk l) (hb : ∀ t ∈ l, t.length ≤ 13) : l.length ≤ 338 := by
  rcases Nat.eq_zero_or_pos l.length with z | z
  · omega
  · have e : l[l.length - 1]? = some l[l.length - 1] := List.getElem?_eq_getElem (by omega)
    have := h _ _ e
    have := hb _ (List.getElem_mem (by omega : l.length - 1 < l.length))
    omega
section
variable {par : Nat → Nat} {hp : ∀ i, par i ≤ i} {m at' : Nat} {rs : List (Nat × Nat × Nat)}
/-- the rows of a map but of one stretch -/
structure RowsX (par : Nat → Nat) (m at' : Nat) (rs : List (Nat × Nat × Nat)) : Prop where
  sub : ∀ r ∈ rs, ∃ j, j < m ∧ j ≠ at' ∧ Adj par j r.1 r.2.1
  all : ∀ j, j < m → j ≠ at' → ∃ r ∈ rs, Adj par j r.1 r.2.1
  few : rs.length ≤ 12
theorem kids_wayX (hr : RowsX par m at' rs) {u w : Nat} {t c : List Nat} (h : Way par m u w t) (hc : c ∈ kids t rs) : ∃ b, Way par m u b c ∧ c = t ++ [b] ∧ desc par hp at' b = desc par hp at' w := by
  obtain ⟨r, hr1, hk⟩ := kids_mem.mp hc
  obtain ⟨j, hlt, hne, ad⟩ := hr.sub r hr1
  rcases hk with hk | hk
  · obtain ⟨e1, e2, rfl⟩ := kid_mem.mp hk
    rw [h.last] at e1
    cases e1
    exact ⟨_, h.snoc hlt ad e2, rfl, (ad.other (Ne.symm hne)).symm⟩
  · obtain ⟨e1, e2, rfl⟩ := kid_mem.mp hk
    rw [h.last] at e1
    cases e1
    exact ⟨_, h.snoc hlt ad.symm e2, rfl, ad.other (Ne.symm hne)⟩
theorem kids_allX (hr : RowsX par m at' rs) {w b j : Nat} {t : List Nat} (hl : t.getLast? = some w) (hj : j < m) (hne : j ≠ at') (a : Adj par j w b) (n : b ∉ t) : t ++ [b] ∈ kids t rs := by
  obtain ⟨r, hr1, ad⟩ := hr.all j hj hne
  refine kids_mem.mpr ⟨r, hr1, ?_⟩
  have key : (r.1 = w ∧ r.2.1 = b) ∨ (r.2.1 = w ∧ r.1 = b) := by
    rcases ad with ⟨h1, h2⟩ | ⟨h1, h2⟩ <;> rcases a with ⟨h3, h4⟩ | ⟨h3, h4⟩
    · exact .inl ⟨by omega, by omega⟩
    · exact .inr ⟨by omega, by omega⟩
    · exact .inr ⟨by omega, by omega⟩
    · exact .inl ⟨by omega, by omega⟩
  rcases key with ⟨h1, h2⟩ | ⟨h1, h2⟩
  · exact .inl (kid_mem.mpr ⟨by rw [hl, h1], by rw [h2]; exact n, by rw [h2]⟩)
  · exact .inr (kid_mem.mpr ⟨by rw [hl, h1], by rw [h2]; exact n, by rw [h2]⟩)
end
theorem pathX_ok (h : P.fn (Str.ofString "_law_path") = some d_law_path) {par : Nat → Nat} (hp : ∀ i, par i ≤ i) {m at' : Nat} {rs : List (Nat × Nat × Nat)} (hr : RowsX par m at' rs) (hm : m ≤ 12) {u v : Nat} (hu : u ≤ m) (hv : v ≤ m) (hwf : Bp 13 < wf) :
    T (callF P wf (n + 1) (Str.ofString "_law_path") [.lst (rs.map rowV), .int u, .int v]) fun x => (∃ t, x = .lst (natL t) ∧ Way par m u v t ∧ desc par hp at' u = desc par hp at' v) ∨ (x = .lst [] ∧ desc par hp at' u ≠ desc par hp at' v) := by
  refine T.out fun Q hQ => ?_
  have hrf := hr.few
  obtain ⟨P0, hP0, _⟩ := way_ex (m := m) hp (u + v) u v (Nat.le_refl _) hu hv
  rw [callF_of h rfl]
  simp [-ex_whl, d_law_path, start', LIM]
  rw [ex_whl, if_pos (by simp)]
  refine T.thru (fun fl => (∃ t, fl = .rt (.lst (natL t)) ∧ Way par m u v t ∧ desc par hp at' u = desc par hp at' v) ∨ (∃ ls, fl = .nx ls ∧ desc par hp at' u ≠ desc par hp at' v)) ?_ ?_
  · intro P' hP'
    refine T.loop (fun k ls => ∃ (line : List (List Nat)) (x4 x5 x6 x7 x8 x9 : Slot), ls = [some (false, .lst (rs.map rowV)), some (false, .int u), some (false, .int v), some (true, .lst (lineV line)), x4, x5, x6, x7, x8, x9] ∧
      (∀ t ∈ line, ∃ w, Way par m u w t ∧ desc par hp at' w = desc par hp at' u) ∧ (desc par hp at' u = desc par hp at' v → ∃ t ∈ line, ∃ s, P0 = t ++ s) ∧ Stk line ∧ pot line ≤ k) ⟨[[u]], none, none, none, none, none, none, rfl, ?_, ?_, ?_, ?_⟩ hwf ?_
    · intro t ht
      rw [List.mem_singleton.mp ht]
      exact ⟨u, .one u, rfl⟩
    · intro _
      obtain ⟨q, e⟩ := hP0.head
      exact ⟨[u], by simp, q, by rw [e]; rfl⟩
    · intro i t e
      cases i with
      | zero => cases e; simp
      | succ i => simp at e
    · show pot [[u]] ≤ Bp 13
      unfold pot
      simp
    · rintro J R' hJ hR k ls ⟨line, x4, x5, x6, x7, x8, x9, rfl, hw, hlive, hstk, hk⟩
      rcases List.eq_nil_or_concat line with rfl | ⟨l', t, rfl⟩
      · left
        refine ⟨?_, hR _ (hP' _ (.inr ⟨_, rfl, fun e => ?_⟩))⟩
        · simp [ne_line, LIM]
        · obtain ⟨t0, ht0, _⟩ := hlive e
          cases ht0
      · right
        obtain ⟨w, hwt, hside⟩ := hw t (by simp)
        have hlen := way_len hp hwt hu
        have hB : pot (l' ++ [t]) = pot l' + Bp (14 - t.length) := by
          rw [pot_append]
          unfold pot
          simp
        have hB2 : Bp (14 - t.length) = 1 + 26 * Bp (13 - t.length) := by
          rw [show 14 - t.length = (13 - t.length) + 1 by omega]
          rfl
        rw [List.concat_eq_append] at *
        refine ⟨k - 1, by omega, ?_, ?_⟩
        · have ne : (l' ++ [t]).isEmpty = false := by cases l' <;> rfl
          simp [ne_line, LIM, ne]
        · have eg : (lineV (l' ++ [t])).getLast? = some (.lst (natL t)) := by simp [lineV]
          have ed : (lineV (l' ++ [t])).dropLast = lineV l' := by simp [lineV]
          simp [-M.ite_bind, eg, ed, last_natL hwt.last]
          by_cases hwv : w = v
          · subst hwv
            rw [if_pos rfl]
            simp
            exact T.rt (hR _ (hP' _ (.inl ⟨t, rfl, hwt, hside.symm⟩)))
          · rw [if_neg (by omega)]
            simp
            have l13 : ∀ x ∈ l', x.length ≤ 13 := fun x hx => by
              obtain ⟨w', hw', _⟩ := hw x (List.mem_append_left _ hx)
              have := way_len hp hw' hu
              omega
            have top : l'.length < 26 * t.length := hstk l'.length t (by simp)
            have st' : Stk l' := fun i x e => hstk i x (by
              rw [List.getElem?_append_left (List.getElem?_eq_some_iff.mp e).1]
              exact e)
            have ll := st'.len l13
            have kl := kids_len t rs
            refine T.bind (P := fun fl => ∃ (y5 y6 y7 y8 y9 : Slot), fl = .nx [some (false, .lst (rs.map rowV)), some (false, .int u), some (false, .int v), some (true, .lst (lineV (l' ++ kids t rs))), some (false, .lst (natL t)), y5, y6, y7, y8, y9]) ?_ ?_
            · obtain ⟨ls', e, l2, y5, y6, y7, y8, y9, rfl, e2⟩ := for_inv (f := turnF ⟨P.gl, callF P wf n⟩ wf (G.tp [5, 6, 7]) rowBody) rowV
                (fun r ls => ∃ (l2 : List (List Nat)) (y5 y6 y7 y8 y9 : Slot), ls = [some (false, .lst (rs.map rowV)), some (false, .int u), some (false, .int v), some (true, .lst (lineV l2)), some (false, .lst (natL t)), y5, y6, y7, y8, y9] ∧ l2 ++ kids t r = l' ++ kids t rs)
                (xs := rs) (ls := [some (false, .lst (rs.map rowV)), some (false, .int u), some (false, .int v), some (true, .lst (lineV l')), some (false, .lst (natL t)), x5, x6, x7, x8, x9]) ⟨l', _, _, _, _, _, rfl, rfl⟩ (by
                  rintro r q ls _ ⟨l2, y5, y6, y7, y8, y9, rfl, e2⟩
                  have hlen2 := congrArg List.length e2
                  simp only [List.length_append] at hlen2
                  obtain ⟨z5, z6, z7, z8, z9, e3⟩ := row_turn (wf := wf) ⟨P.gl, callF P wf n⟩ (some (false, .lst (rs.map rowV))) (some (false, .int u)) (some (false, .int v)) (l := l2) (t := t) (w := w) r y5 y6 y7 y8 y9 hwt.last (by omega) (by omega)
                  refine ⟨_, e3, _, _, _, _, _, _, rfl, ?_⟩
                  rw [← e2, kids_cons]
                  simp)
              have e : forM' (turnF ⟨P.gl, callF P wf n⟩ wf (G.tp [5, 6, 7]) _) (rs.map rowV) [some (false, .lst (rs.map rowV)), some (false, .int u), some (false, .int v), some (true, .lst (lineV l')), some (false, .lst (natL t)), x5, x6, x7, x8, x9] = _ := e
              refine T.eq e (T.pure ⟨y5, y6, y7, y8, y9, ?_⟩)
              have e2 : l2 ++ kids t [] = l' ++ kids t rs := e2
              have k0 : kids t [] = [] := rfl
              rw [k0, List.append_nil] at e2
              rw [e2]
            · rintro fl ⟨y5, y6, y7, y8, y9, rfl⟩
              simp
              have klen : ∀ c ∈ kids t rs, c.length = t.length + 1 := fun c hc => by
                obtain ⟨b, _, rfl, _⟩ := kids_wayX (hp := hp) hr hwt hc
                simp
              refine T.nx (hJ _ _ ⟨l' ++ kids t rs, _, _, _, _, _, _, rfl, ?_, ?_, ?_, ?_⟩)
              · intro x hx
                rcases List.mem_append.mp hx with hx | hx
                · exact hw x (List.mem_append_left _ hx)
                · obtain ⟨b, hb, _, hb2⟩ := kids_wayX (hp := hp) hr hwt hx
                  exact ⟨b, hb, hb2.trans hside⟩
              · intro esame
                obtain ⟨t0, ht0, s, hs⟩ := hlive esame
                rcases List.mem_append.mp ht0 with z | z
                · exact ⟨t0, List.mem_append_left _ z, s, hs⟩
                · rw [List.mem_singleton.mp z] at hs
                  cases s with
                  | nil =>
                    exfalso
                    rw [List.append_nil] at hs
                    have e1 := hP0.last
                    rw [hs, hwt.last] at e1
                    injection e1 with e1
                    exact hwv e1
                  | cons b s =>
                    have hsd := hP0.side (hp := hp) (i := at') esame
                    have hb0 := hsd b (by rw [hs]; simp)
                    rw [hs] at hP0
                    obtain ⟨j, hj, ad, nb⟩ := hP0.next hwt.last
                    have hne : j ≠ at' := by
                      rintro rfl
                      have := ad.own (hp := hp)
                      rw [hside, hb0] at this
                      cases q : desc par hp j u <;> rw [q] at this <;> cases this
                    exact ⟨t ++ [b], List.mem_append_right _ (kids_allX hr hwt.last hj hne ad nb), s, by rw [hs]; simp⟩
              · intro i x e
                by_cases hi : i < l'.length
                · rw [List.getElem?_append_left hi] at e
                  exact st' i x e
                · rw [List.getElem?_append_right (by omega)] at e
                  have := klen x (List.mem_of_getElem? e)
                  have := (List.getElem?_eq_some_iff.mp e).1
                  omega
              · rw [pot_append, pot_kids t klen]
                have h1 : (kids t rs).length * Bp (13 - t.length) ≤ 26 * Bp (13 - t.length) := Nat.mul_le_mul_right _ (by omega)
                omega
  · rintro fl (⟨t, rfl, ht, he⟩ | ⟨ls, rfl, he⟩)
    · simp
      exact T.pure (hQ _ (.inl ⟨t, rfl, ht, he⟩))
    · simp
      exact T.pure (hQ _ (.inr ⟨rfl, he⟩))
theorem desc_out {par : Nat → Nat} {hp : ∀ i, par i ≤ i} {m u : Nat} (h : u ≤ m) : desc par hp m u = false := by
  cases e : desc par hp m u with
  | false => rfl
  | true => have := desc_ge _ e; omega
theorem RowsOk.x {par : Nat → Nat} {rs : List (Nat × Nat × Nat)} (hr : RowsOk par rs) (hm : rs.length ≤ 12) : RowsX par rs.length rs.length rs where
  sub := fun r h => by
    obtain ⟨j, hj⟩ := List.getElem?_of_mem h
    have := (List.getElem?_eq_some_iff.mp hj).1
    exact ⟨j, this, by omega, hr j r hj⟩
  all := fun j hj _ => ⟨rs[j], List.getElem_mem hj, hr j _ (List.getElem?_eq_getElem hj)⟩
  few := hm
/-- without one stretch -/
theorem RowsOk.cut {par : Nat → Nat} {rs : List (Nat × Nat × Nat)} (hr : RowsOk par rs) (hm : rs.length ≤ 12) (a : Nat) : RowsX par rs.length a (rs.take a ++ rs.drop (a + 1)) where
  sub := fun r h => by
    rcases List.mem_append.mp h with h | h
    · obtain ⟨j, hj⟩ := List.getElem?_of_mem h
      rw [List.getElem?_take] at hj
      split at hj
      · have := (List.getElem?_eq_some_iff.mp hj).1
        exact ⟨j, this, by omega, hr j r hj⟩
      · cases hj
    · obtain ⟨j, hj⟩ := List.getElem?_of_mem h
      rw [List.getElem?_drop] at hj
      have := (List.getElem?_eq_some_iff.mp hj).1
      exact ⟨a + 1 + j, this, by omega, hr _ r hj⟩
  all := fun j hj hne => by
    have e : rs[j]? = some rs[j] := List.getElem?_eq_getElem hj
    refine ⟨rs[j], ?_, hr j _ e⟩
    rcases Nat.lt_or_gt_of_ne hne with h | h
    · refine List.mem_append_left _ (List.mem_of_getElem? (i := j) ?_)
      rw [List.getElem?_take, if_pos h]
      exact e
    · refine List.mem_append_right _ (List.mem_of_getElem? (i := j - (a + 1)) ?_)
      rw [List.getElem?_drop, show a + 1 + (j - (a + 1)) = j by omega]
      exact e
  few := by
    simp
    omega
theorem path_ok (h : P.fn (Str.ofString "_law_path") = some d_law_path) {par : Nat → Nat} (hp : ∀ i, par i ≤ i) {rs : List (Nat × Nat × Nat)} (hr : RowsOk par rs) (hm : rs.length ≤ 12) {u v : Nat} (hu : u ≤ rs.length) (hv : v ≤ rs.length) (hwf : Bp 13 < wf) :
    T (callF P wf (n + 1) (Str.ofString "_law_path") [.lst (rs.map rowV), .int u, .int v]) fun x => ∃ t, x = .lst (natL t) ∧ Way par rs.length u v t :=
  (pathX_ok h hp (hr.x hm) hm hu hv hwf).mono fun x hx => by
    rcases hx with ⟨t, e, w, _⟩ | ⟨_, e⟩
    · exact ⟨t, e, w⟩
    · exact absurd ((desc_out hu).trans (desc_out hv).symm) e
end FL
namespace FL
open FW
open PySem L2
variable {P : Prog} {wf n : Nat}
def SEATS : Str := Str.ofString "seats"
def ROWS : Str := Str.ofString "rows"
/-- a point's value where names have values -/
def Pt.kd (f : Str → Bool) : Pt → Bool
  | .nm t => f t
  | .fk a b c => maj (a.kd f) (b.kd f) (c.kd f)
/-- a drawn map: its stretches, its seats -/
structure TreeV (x : PV) (ts : List Str) (par : Nat → Nat) (rs : List (Nat × Nat × Nat)) (seat : Str → Nat) : Prop where
  rows : subF x (.str ROWS) = some (.lst (rs.map rowV))
  seats : ∃ sv, subF x (.str SEATS) = some sv ∧ ∀ t ∈ ts, subF sv (.str t) = some (.int (seat t))
  le : ∀ t ∈ ts, seat t ≤ rs.length
  ok : RowsOk par rs
  few : rs.length ≤ 12
theorem sub0 {a : PV} {l : List PV} : subF (.lst (a :: l)) (.int 0) = some a := by
  show atI (a :: l) ((0 : Nat) : Int) = _
  rw [atI_nat _ _ (by simp)]
  rfl
theorem knot_ok (h : P.fn (Str.ofString "_law_knot") = some d_law_knot) (h2 : P.fn (Str.ofString "_law_path") = some d_law_path) {x : PV} {ts : List Str} {par : Nat → Nat} (hp : ∀ i, par i ≤ i) {rs : List (Nat × Nat × Nat)} {seat : Str → Nat} (tv : TreeV x ts par rs seat) (hwf : Bp 13 < wf) :
    ∀ (p : Pt) {n : Nat}, p.In ts → p.dep ≤ n → T (callF P wf (n + 1 + 1) (Str.ofString "_law_knot") [x, p.pv]) fun v => ∃ k, v = .int (k : Nat) ∧ k ≤ rs.length ∧ ∀ i, desc par hp i k = p.kd fun t => desc par hp i (seat t)
  | .nm t, n, hi, _ => by
    refine T.out fun Q hQ => ?_
    have e1 : tyOk (.str t) "str" = true := by simp [tyOk, tyN]
    obtain ⟨sv, s1, s2⟩ := tv.seats
    have s1' : subF x (.str (Str.ofString "seats")) = some sv := s1
    rw [callF_of h rfl]
    simp [d_law_knot, start', Pt.pv, e1, s1', s2 t hi]
    exact T.pure (hQ _ ⟨seat t, rfl, tv.le t hi, fun i => rfl⟩)
  | .fk a b c, n, hi, hd => by
    obtain ⟨ia, ib, ic⟩ := hi
    unfold Pt.dep at hd
    obtain ⟨m, rfl⟩ : ∃ m, n = m + 1 := ⟨n - 1, by omega⟩
    refine T.out fun Q hQ => ?_
    have e1 : tyOk (.tup [.str FRK, a.pv, b.pv, c.pv]) "str" = false := by simp [tyOk, tyN]
    have e5 : slcV (some 1) none (.tup [.str FRK, a.pv, b.pv, c.pv]) = some (.tup [a.pv, b.pv, c.pv]) := rfl
    have r1 : subF x (.str (Str.ofString "rows")) = some (.lst (rs.map rowV)) := tv.rows
    have ka := knot_ok h h2 hp tv hwf a (n := m) ia (by omega)
    have kb := knot_ok h h2 hp tv hwf b (n := m) ib (by omega)
    have kc := knot_ok h h2 hp tv hwf c (n := m) ic (by omega)
    rw [callF_of h rfl]
    simp [-M.ite_bind, d_law_knot, start', Pt.pv, e1, e5]
    refine T.thru (fun v => ∃ u w z : Nat, v = .lst [.int u, .int w, .int z] ∧ (u ≤ rs.length ∧ ∀ i, desc par hp i u = a.kd fun t => desc par hp i (seat t)) ∧ (w ≤ rs.length ∧ ∀ i, desc par hp i w = b.kd fun t => desc par hp i (seat t)) ∧ (z ≤ rs.length ∧ ∀ i, desc par hp i z = c.kd fun t => desc par hp i (seat t))) ?_ ?_
    · intro P' hP
      have hL : (0 : Nat) < LIM ∧ 1 < LIM ∧ 2 < LIM := by simp [LIM]
      refine T.nox ?_
      simp only [compM, M.bind_bind, M.pure_bind]
      refine ka.bind ?_
      rintro _ ⟨u, rfl, u1, u2⟩
      simp [hL.1]
      refine kb.bind ?_
      rintro _ ⟨w, rfl, w1, w2⟩
      simp [hL.2.1]
      refine kc.bind ?_
      rintro _ ⟨z, rfl, z1, z2⟩
      simp [hL.2.2]
      exact T.pure (hP _ ⟨u, w, z, rfl, ⟨u1, u2⟩, ⟨w1, w2⟩, ⟨z1, z2⟩⟩)
    · rintro v ⟨u, w, z, rfl, ⟨u1, u2⟩, ⟨w1, w2⟩, ⟨z1, z2⟩⟩
      simp [r1]
      refine (path_ok h2 hp tv.ok tv.few u1 w1 hwf).bind ?_
      rintro _ ⟨l1, rfl, p1⟩
      refine (path_ok h2 hp tv.ok tv.few w1 z1 hwf).bind ?_
      rintro _ ⟨l2, rfl, p2⟩
      refine (path_ok h2 hp tv.ok tv.few z1 u1 hwf).bind ?_
      rintro _ ⟨l3, rfl, p3⟩
      simp
      have lim : l1.length ≤ LIM := by
        have := way_len hp p1 u1
        have := tv.few
        simp [LIM]
        omega
      rw [show natL l1 = l1.map fun (k : Nat) => PV.int (k : Int) from rfl, comp_filter (c := fun k => l2.contains k && l3.contains k) (g := fun (k : Nat) => PV.int (k : Int))]
      · obtain ⟨c0, _, hc0⟩ := mid_ex (par := par) (hp := hp) (m := rs.length) u w z u1 w1 z1
        have m1 : c0 ∈ l1 := mid_way p1 hc0
        have m2 : c0 ∈ l2 := p2.has (hp := hp) fun i e => by
          rw [hc0 i, ← e]
          cases desc par hp i u <;> cases desc par hp i w <;> rfl
        have m3 : c0 ∈ l3 := p3.has (hp := hp) fun i e => by
          rw [hc0 i, ← e]
          cases desc par hp i w <;> cases desc par hp i z <;> rfl
        cases hf : l1.filter fun k => l2.contains k && l3.contains k with
        | nil =>
          exfalso
          have := List.filter_eq_nil_iff.mp hf c0 m1
          simp [m2, m3] at this
        | cons k rest =>
          have hk : k ∈ l1.filter fun k => l2.contains k && l3.contains k := by rw [hf]; exact List.mem_cons_self
          obtain ⟨k1, k23⟩ := List.mem_filter.mp hk
          simp at k23
          simp [sub0]
          refine T.pure (hQ _ ⟨k, rfl, p1.le hp u1 k k1, fun i => ?_⟩)
          rw [mid_of p1 p2 p3 k1 k23.1 k23.2 i, u2 i, w2 i, z2 i]
          rfl
      · intro k _
        by_cases q1 : k ∈ l2 <;> by_cases q2 : k ∈ l3 <;> simp [cmpF, in_natL, q1, q2]
      · exact lim
/-! ### a map is drawn -/
theorem T.comp_zip {α β : Type} {f : PV → M (Option PV)} (i : α → PV) (g : α → β → PV) (R : β → Prop) : ∀ {xs : List α} {acc : List PV}, (∀ x ∈ xs, T (f (i x)) fun o => ∃ b, o = some (g x b) ∧ R b) → acc.length + xs.length ≤ LIM →
    T (compM f (xs.map i) acc) fun ys => ∃ bs : List β, bs.length = xs.length ∧ ys = acc ++ (xs.zip bs).map (fun p => g p.1 p.2) ∧ ∀ b ∈ bs, R b
  | [], acc, _, _ => T.pure ⟨[], rfl, by simp, by simp⟩
  | x :: xs, acc, h, hl => by
    simp only [List.map_cons]
    unfold compM
    refine (h x List.mem_cons_self).bind ?_
    rintro o ⟨b, rfl, hb⟩
    simp only [List.length_cons] at hl
    simp only
    rw [if_pos (by omega)]
    refine (T.comp_zip i g R (acc := acc ++ [g x b]) (fun z hz => h z (List.mem_cons_of_mem _ hz)) (by simp; omega)).mono ?_
    rintro ys ⟨bs, e, rfl, hr⟩
    refine ⟨b :: bs, by simp [e], by simp, ?_⟩
    intro z hz
    rcases List.mem_cons.mp hz with rfl | hz
    · exact hb
    · exact hr z hz
theorem dictF_zip : ∀ (ts : List Str) (ks : List Nat) (as : List Str) (vs : List Nat), ks.length = ts.length → (as ++ ts).Nodup → dictF ((ts.zip ks).map fun p => .tup [.str p.1, .int p.2]) (strL as) (natL vs) = some (.dct false (strL (as ++ ts)) (natL (vs ++ ks)))
  | [], ks, as, vs, h, _ => by
    have : ks = [] := List.length_eq_zero_iff.mp h
    subst this
    simp [dictF]
  | t :: ts, [], _, _, h, _ => by cases h
  | t :: ts, k :: ks, as, vs, h, nd => by
    have hn : (strL as).any (fun x => eqPV x (.str t)) = false := by
      rw [List.any_eq_false]
      intro x hx
      obtain ⟨a, ha, rfl⟩ := List.mem_map.mp hx
      rw [eqPV_str]
      rw [List.nodup_append] at nd
      have := nd.2.2 a ha t (by simp)
      simpa using this
    have e : FW.putK (.str t) (.int (k : Nat)) (strL as) (natL vs) = (strL (as ++ [t]), natL (vs ++ [k])) := by
      unfold FW.putK
      rw [hn, if_neg (by decide)]
      simp [strL, natL]
    show (if (kOf (.str t)).isSome then dictF _ (FW.putK (.str t) (.int (k : Nat)) (strL as) (natL vs)).1 (FW.putK (.str t) (.int (k : Nat)) (strL as) (natL vs)).2 else none) = _
    rw [e, if_pos (show (kOf (.str t)).isSome = true from rfl)]
    show dictF ((ts.zip ks).map fun p => .tup [.str p.1, .int p.2]) (strL (as ++ [t])) (natL (vs ++ [k])) = _
    rw [dictF_zip ts ks (as ++ [t]) (vs ++ [k]) (by simpa using h) (by simpa using nd)]
    simp
theorem getK_str : ∀ (ts : List Str) (ks : List Nat) (t : Str), ks.length = ts.length → t ∈ ts → getK (.str t) (strL ts) (natL ks) = some (.int ((ks[ts.idxOf t]?).getD 0 : Nat)) ∧ ((ks[ts.idxOf t]?).getD 0) ∈ ks
  | [], _, _, _, h => by cases h
  | a :: ts, [], _, h, _ => by cases h
  | a :: ts, k :: ks, t, h, hm => by
    show (if eqPV (.str a) (.str t) then some (PV.int (k : Nat)) else getK (.str t) (strL ts) (natL ks)) = _ ∧ _
    rw [eqPV_str, List.idxOf_cons]
    cases e : a == t with
    | true => simp
    | false =>
      have hm' : t ∈ ts := by
        rcases List.mem_cons.mp hm with rfl | hm
        · simp at e
        · exact hm
      obtain ⟨q1, q2⟩ := getK_str ts ks t (by simpa using h) hm'
      rw [if_neg (by decide)]
      simp only [cond_false, List.getElem?_cons_succ]
      exact ⟨q1, List.mem_cons_of_mem _ q2⟩
/-- the rows so far, their parents -/
def Rows' (ps : List Nat) (rs : List (Nat × Nat × Nat)) : Prop := ps.length = rs.length ∧ (∀ (j p : Nat), ps[j]? = some p → p ≤ j) ∧ ∀ (j : Nat) r, rs[j]? = some r → ∃ p, ps[j]? = some p ∧ ((r.1 = j + 1 ∧ r.2.1 = p) ∨ (r.2.1 = j + 1 ∧ r.1 = p))
theorem rng2_int (P : PE') (b : Bool) (ls : List Slot) (a c : E) : evI P b (.rng2 a c) ls = (ev P true a ls).bind fun x => (ev P true c ls).bind fun y => match x, y with
    | .int m, .int n => if n < 2 ^ 62 ∧ -(2 ^ 62) ≤ m ∧ m < 2 ^ 62 ∧ -(2 ^ 62) ≤ n then M.pure (rangeP m (n - m).toNat) else M.bad
    | _, _ => M.bad := nrfl rfl
theorem Rows'.snoc {ps : List Nat} {rs : List (Nat × Nat × Nat)} (h : Rows' ps rs) {a b s p : Nat} (hp : p ≤ rs.length) (hab : (a = rs.length + 1 ∧ b = p) ∨ (b = rs.length + 1 ∧ a = p)) : Rows' (ps ++ [p]) (rs ++ [(a, b, s)]) := by
  obtain ⟨h1, h2, h3⟩ := h
  refine ⟨by simp [h1], fun j q e => ?_, fun j r e => ?_⟩
  · by_cases hj : j < ps.length
    · rw [List.getElem?_append_left hj] at e
      exact h2 j q e
    · rw [List.getElem?_append_right (by omega)] at e
      have hl := (List.getElem?_eq_some_iff.mp e).1
      simp at hl
      have : j - ps.length = 0 := by omega
      rw [this] at e
      cases e
      omega
  · by_cases hj : j < rs.length
    · rw [List.getElem?_append_left hj] at e
      obtain ⟨q, q1, q2⟩ := h3 j r e
      exact ⟨q, by rw [List.getElem?_append_left (by omega)]; exact q1, q2⟩
    · rw [List.getElem?_append_right (by omega)] at e
      have hl := (List.getElem?_eq_some_iff.mp e).1
      simp at hl
      have hz : j - rs.length = 0 := by omega
      rw [hz] at e
      cases e
      have hj2 : j = rs.length := by omega
      subst hj2
      exact ⟨p, by rw [List.getElem?_append_right (by omega), h1, Nat.sub_self]; rfl, hab⟩
@[simp] theorem ev_dct (P : PE') (b : Bool) (t : Bool) (ks vs : Es) (ls : List Slot) : ev P b (.dct t ks vs) ls = (evs P vs ls).bind fun xs => M.lift (dispF t (dispKs ks) xs) := nrfl rfl
@[simp] theorem pubE_dct (b t : Bool) (ks vs : Es) : pubE b (.dct t ks vs) = pubEs vs := nrfl rfl
theorem disp_tree (x y : PV) : dispF false (dispKs (Es.cons (E.str (Str.ofString "seats")) (Es.cons (E.str (Str.ofString "rows")) Es.nil))) [x, y] = some (.dct false [.str SEATS, .str ROWS] [x, y]) := by
  have e : dispKs (Es.cons (E.str (Str.ofString "seats")) (Es.cons (E.str (Str.ofString "rows")) Es.nil)) = some [SEATS, ROWS] := rfl
  rw [e]
  show (if false = false ∧ [SEATS, ROWS].length = [x, y].length ∧ [SEATS, ROWS].Nodup ∧ [SEATS, ROWS] ≠ [] ∧ [SEATS, ROWS].length ≤ 15 then some (PV.dct false ([SEATS, ROWS].map .str) [x, y]) else none) = _
  rw [if_pos ⟨rfl, rfl, by decide, by simp, by simp⟩]
  rfl
theorem perm_two {a b : PV} {ys : List PV} (h : ys.Perm [a, b]) : ys = [a, b] ∨ ys = [b, a] := by
  have hl := h.length_eq
  match ys, hl with
  | [x, y], _ =>
    have hx : x = a ∨ x = b := by
      have := h.mem_iff.mp (List.mem_cons_self : x ∈ [x, y])
      simpa using this
    rcases hx with rfl | rfl
    · have := (List.perm_cons x).mp h
      rw [List.perm_singleton] at this
      injection this with e _
      exact .inl (by rw [e])
    · have h2 : [x, y].Perm [x, a] := h.trans (.swap ..)
      have := (List.perm_cons x).mp h2
      rw [List.perm_singleton] at this
      injection this with e _
      exact .inr (by rw [e])
theorem tree_ok (h : HasD P) (hmx : P.fn (Str.ofString "_law_mixed") = some d_law_mixed) (ht : P.fn (Str.ofString "_law_tree") = some d_law_tree) {ts : List Str} (hn : Names ts) {m s : Nat} (hm : m ≤ 12) (hs0 : 0 < s) (hs : s < 1073741824) (hwf : 4 ≤ wf) :
    T (callF P wf (n + 1 + 1 + 1 + 1) (Str.ofString "_law_tree") [.drw, .lst (strL ts), .int ((m + 1 : Nat) : Int), .int s]) fun x => ∃ (par : Nat → Nat) (rs : List (Nat × Nat × Nat)) (seat : Str → Nat), (∀ i, par i ≤ i) ∧ TreeV x ts par rs seat ∧ rs.length = m := by
  refine T.out fun Q hQ => ?_
  rw [callF_of ht rfl]
  simp [-M.ite_bind, d_law_tree, start', LIM, rng2_int]
  rw [if_pos (by omega), M.pure_bind]
  refine T.thru (fun fl => ∃ (rs : List (Nat × Nat × Nat)) (ps : List Nat) (x5 x6 x7 : Slot), fl = .nx [some (false, .drw), some (false, .lst (strL ts)), some (false, .int ((m + 1 : Nat) : Int)), some (false, .int s), some (true, .lst (rs.map rowV)), x5, x6, x7] ∧ Rows' ps rs ∧ rs.length = m) ?_ ?_
  · intro P' hP
    refine T.for (fun r ls => ∃ (rs : List (Nat × Nat × Nat)) (ps : List Nat) (x5 x6 x7 : Slot), ls = [some (false, .drw), some (false, .lst (strL ts)), some (false, .int ((m : Int) + 1)), some (false, .int s), some (true, .lst (rs.map rowV)), x5, x6, x7] ∧ Rows' ps rs ∧ rs.length ≤ m ∧ r = (rangeP 1 m).drop rs.length)
      ⟨[], [], none, none, none, rfl, ⟨rfl, by simp, by simp⟩, by simp, by simp⟩ ?_ ?_
    · rintro J R' hJ - x r ls hx ⟨rs, ps, x5, x6, x7, rfl, hrow, hle, hr⟩
      have hlt : rs.length < m := by
        rcases Nat.lt_or_ge rs.length m with z | z
        · exact z
        · rw [List.drop_of_length_le (by simp [rangeP]; omega)] at hr
          cases hr
      have hx2 : x = .int ((rs.length : Int) + 1) ∧ r = (rangeP 1 m).drop (rs.length + 1) := by
        have e : (rangeP 1 m).drop rs.length = (rangeP 1 m)[rs.length]'(by simp [rangeP]; omega) :: (rangeP 1 m).drop (rs.length + 1) := List.drop_eq_getElem_cons (by simp [rangeP]; omega)
        rw [e] at hr
        injection hr with h1 h2
        refine ⟨?_, h2⟩
        rw [h1]
        simp [rangeP]
        omega
      obtain ⟨rfl, hr2⟩ := hx2
      rw [turnF_of (by simp; rfl)]
      have hL : 2 ≤ LIM ∧ 3 ≤ LIM := by simp [LIM]
      simp [-M.ite_bind, hL.1]
      refine (take_ok h _ (by omega) (by omega)).bind ?_
      rintro _ ⟨p, rfl, hp⟩
      refine (mixed_ok h hmx (xs := [.int ((rs.length : Int) + 1), .int p]) (fun x hx => ?_) (.inl rfl) (by simp; omega) (by simp [LIM])).bind ?_
      · simp only [List.mem_cons, List.not_mem_nil, or_false] at hx
        rcases hx with rfl | rfl <;> exact ⟨rfl, Nat.zero_le _⟩
      · rintro _ ⟨ys, rfl, hy⟩
        have two : ∃ a b : Nat, ys = [.int a, .int b] ∧ ((a = rs.length + 1 ∧ b = p) ∨ (b = rs.length + 1 ∧ a = p)) := by
          rcases perm_two hy with rfl | rfl
          · exact ⟨rs.length + 1, p, by simp, .inl ⟨rfl, rfl⟩⟩
          · exact ⟨p, rs.length + 1, by simp, .inr ⟨rfl, rfl⟩⟩
        obtain ⟨a, b, rfl, hab⟩ := two
        have s1 : subF (.lst [.int a, .int b]) (.int 1) = some (.int b) := by
          show atI [PV.int a, PV.int b] ((1 : Nat) : Int) = _
          rw [atI_nat _ _ (by simp)]
          rfl
        have hlim : (rs.map rowV).length < LIM := by simp [LIM]; omega
        simp [-M.ite_bind, hL.2, sub0, s1]
        refine (take_ok h s (by omega) (by omega)).bind ?_
        rintro _ ⟨q, rfl, _⟩
        have hl2 : rs.length < LIM := by simpa using hlim
        simp [-M.ite_bind, hL.2, hl2]
        have es : rs.map rowV ++ [.tup [.int a, .int b, .int (1 + (q : Int))]] = (rs ++ [(a, b, 1 + q)]).map rowV := by simp [rowV]
        rw [es]
        refine T.nx (hJ _ _ ⟨rs ++ [(a, b, 1 + q)], ps ++ [p], _, _, _, rfl, hrow.snoc (by omega) hab, by simp; omega, by simpa using hr2⟩)
    · rintro ls ⟨rs, ps, x5, x6, x7, rfl, hrow, hle, hr⟩
      refine hP _ ⟨rs, ps, x5, x6, x7, by simp, hrow, ?_⟩
      have := congrArg List.length hr
      simp [rangeP] at this
      omega
  · rintro fl ⟨rs, ps, x5, x6, x7, rfl, hrow, hlen⟩
    have itl : itemsF (.lst (strL ts)) = some (ts.map .str) := rfl
    have hL : 2 ≤ LIM := by simp [LIM]
    simp [-M.ite_bind, itl, hL]
    refine T.thru (fun v => ∃ ks : List Nat, v = .lst ((ts.zip ks).map fun p => .tup [.str p.1, .int p.2]) ∧ ks.length = ts.length ∧ ∀ k ∈ ks, k < m + 1) ?_ ?_
    · intro P' hP
      refine T.nox (T.bind (T.comp_zip (β := Nat) PV.str (fun t k => .tup [.str t, .int k]) (fun k => k < m + 1) (xs := ts) (fun t _ => ?_) (by have := hn.hi; simp [LIM]; omega)) ?_)
      · refine (take_ok h _ (by omega) (by omega)).bind ?_
        rintro _ ⟨k, rfl, hk⟩
        exact T.pure ⟨k, rfl, by omega⟩
      · rintro ys ⟨ks, e1, rfl, e2⟩
        exact T.pure (hP _ ⟨ks, by simp, e1, e2⟩)
    · rintro v ⟨ks, rfl, e1, e2⟩
      have dz : biF "dict" [.lst ((ts.zip ks).map fun p => .tup [.str p.1, .int p.2])] = some (.dct false (strL ts) (natL ks)) := by
        have q := dictF_zip ts ks [] [] e1 (by simpa using hn.nd)
        rw [List.nil_append, List.nil_append] at q
        exact q
      simp [dz, disp_tree]
      have hs12 : eqPV (.str SEATS) (.str ROWS) = false := by decide
      refine T.pure (hQ _ ⟨fun j => (ps[j]?).getD 0, rs, fun t => (ks[ts.idxOf t]?).getD 0, fun i => ?_, ⟨?_, ⟨.dct false (strL ts) (natL ks), ?_, fun t ht => ?_⟩, fun t ht => ?_, fun j r e => ?_, by omega⟩, hlen⟩)
      · cases e : ps[i]? with
        | none => show (ps[i]?).getD 0 ≤ i; rw [e]; exact Nat.zero_le _
        | some p => show (ps[i]?).getD 0 ≤ i; rw [e]; exact hrow.2.1 i p e
      · rfl
      · rfl
      · exact (getK_str ts ks t e1 ht).1
      · have := e2 _ (getK_str ts ks t e1 ht).2
        omega
      · obtain ⟨p, q1, q2⟩ := hrow.2.2 j r e
        unfold Adj
        simp only [q1, Option.getD_some]
        exact q2.elim (fun z => .inl z) fun z => .inr z
end FL
namespace FL
open FW
open PySem L2
variable {P : Prog} {wf n : Nat}
/-! ### names in order -/
def leS (a b : Str) : Prop := a.cps.toList ≤ b.cps.toList
theorem ltS_iff (a b : Str) : ltS a b = decide (a.cps.toList < b.cps.toList) := rfl
theorem ins_pw (x : Str) : ∀ {xs : List Str}, xs.Pairwise leS → (insBy ltS x xs).Pairwise leS
  | [], _ => by simp [insBy]
  | y :: r, h => by
    rw [List.pairwise_cons] at h
    unfold insBy
    rw [ltS_iff]
    split
    · rename_i hlt
      have hlt := of_decide_eq_true hlt
      rw [List.pairwise_cons]
      refine ⟨fun z hz => ?_, ins_pw x h.2⟩
      rcases List.mem_cons.mp ((insBy_perm ltS x r).mem_iff.mp hz) with rfl | hz
      · exact List.le_of_lt hlt
      · exact h.1 z hz
    · rename_i hlt
      have hlt : ¬ y.cps.toList < x.cps.toList := fun z => hlt (decide_eq_true z)
      have hxy : x.cps.toList ≤ y.cps.toList := List.not_lt.mp hlt
      rw [List.pairwise_cons, List.pairwise_cons]
      refine ⟨fun z hz => ?_, h⟩
      rcases List.mem_cons.mp hz with rfl | hz
      · exact hxy
      · exact List.le_trans hxy (h.1 z hz)
theorem ord_pw : ∀ (xs : List Str), (ordS xs).Pairwise leS
  | [] => .nil
  | x :: r => ins_pw x (ord_pw r)
theorem str_ext {a b : Str} (h : a.cps.toList = b.cps.toList) : a = b := by
  obtain ⟨a⟩ := a
  obtain ⟨b⟩ := b
  have : a = b := by simpa using h
  rw [this]
/-- one order for all lists of the same names -/
theorem ord_perm {xs ys : List Str} (h : xs.Perm ys) : ordS xs = ordS ys :=
  List.Perm.eq_of_pairwise (fun a b _ _ h1 h2 => str_ext (List.le_antisymm h1 h2)) (ord_pw xs) (ord_pw ys) ((ordS_perm xs).trans (h.trans (ordS_perm ys).symm))
theorem wayB_perm {xs ys : List Str} (h : xs.Perm ys) (p q r : Pt) : wayB xs p q r = wayB ys p q r := by
  unfold wayB
  rw [ord_perm h]
theorem Names.perm {xs ys : List Str} (hn : Names xs) (h : xs.Perm ys) : Names ys := ⟨h.length_eq ▸ hn.lo, h.length_eq ▸ hn.hi, fun t ht => hn.nm t (h.mem_iff.mpr ht), h.nodup_iff.mp hn.nd⟩
/-! ### the law's own lots, sides -/
theorem lies_ok (h : P.fn (Str.ofString "_law_lies") = some d_law_lies) {lot : List Str} : ∀ {p : Pt} {n : Nat}, p.dep ≤ n → callF P wf (n + 1) (Str.ofString "_law_lies") [tupL lot, p.pv] = M.pure (.bl (p.sd lot))
  | .nm t, n, _ => by
    have e1 : tyOk (.str t) "str" = true := by simp [tyOk, tyN]
    rw [callF_of h rfl]
    simp [d_law_lies, start', Pt.pv, e1, cmpF, in_strs t lot (.inr rfl), tupL, Pt.sd]
  | .fk a b c, n, hn => by
    unfold Pt.dep at hn
    obtain ⟨m, rfl⟩ : ∃ m, n = m + 1 := ⟨n - 1, by omega⟩
    have e1 : tyOk (.tup [.str FRK, a.pv, b.pv, c.pv]) "str" = false := by simp [tyOk, tyN]
    have e5 : slcV (some 1) none (.tup [.str FRK, a.pv, b.pv, c.pv]) = some (.tup [a.pv, b.pv, c.pv]) := rfl
    have q : ∀ p ∈ [a, b, c], callF P wf (m + 1) (Str.ofString "_law_lies") [tupL lot, p.pv] = M.pure (.bl (p.sd lot)) := by
      intro p hp
      simp only [List.mem_cons, List.not_mem_nil, or_false] at hp
      rcases hp with rfl | rfl | rfl
      · exact lies_ok h (by omega)
      · exact lies_ok h (by omega)
      · exact lies_ok h (by omega)
    rw [callF_of h rfl]
    simp [d_law_lies, start', Pt.pv, e1, e5, tupL]
    rw [show [a.pv, b.pv, c.pv] = [a, b, c].map Pt.pv from rfl, comp_filter (c := fun p => p.sd lot) (g := fun _ => .int 1)]
    · simp only [Pt.sd, maj, List.filter_cons, List.filter_nil]
      cases a.sd lot <;> cases b.sd lot <;> cases c.sd lot <;> simp
    · intro p hp
      rw [show (PV.tup (strL lot)) = tupL lot from rfl, q p hp]
      simp
      split <;> rfl
    · simp [LIM]
def lotL (l : List Str) : PV := .lst (strL l)
theorem lawlots_ok (h : P.fn (Str.ofString "_law_lots") = some d_law_lots) {ns : List Str} (hn : Names ns) : callF P wf (n + 1) (Str.ofString "_law_lots") [.lst (strL ns)] = M.pure (.lst ((parts (ordS ns)).map tupL)) := by
  have hs : sortable (strL ns) = true := by
    unfold sortable strL
    simp [isStrP]
  have e1 : biF "sorted" [.lst (strL ns)] = some (.lst (strL (ordS ns))) := by
    have he : srtPV (strL ns) = strL (ordS ns) := srtPV_map .str ns
    simp [biF, bi1, seqOf, hs, he]
  have e2 : slcV (some 1) none (.lst (strL (ordS ns))) = some (.lst ((ordS ns).tail.map .str)) := by
    cases e : ordS ns with
    | nil => rfl
    | cons t ts =>
      simp [slcV, strL, cutP, HT.sIx]
      exact List.take_of_length_le (by simp)
  obtain ⟨l6, nm⟩ := hn.ord
  have hd : (ordS ns).tail.length ≤ 6 := by rw [List.length_tail]; omega
  rw [callF_of h rfl]
  simp [d_law_lots, start', e1, e2, LIM]
  rw [← List.map_tail]
  refine for_then (i := .str) (xs := (ordS ns).tail) (fun r ls => ∃ (F : List (List Str)) (x2 x3 : Slot), ls = [some (false, .lst (strL ns)), some (false, .lst (F.map lotL)), x2, x3] ∧ F.length * 2 ^ r.length ≤ 64 ∧ (∀ l ∈ F, l.length + r.length ≤ 6) ∧ r.foldl (fun f t => f ++ f.map (· ++ [t])) F = lots (ordS ns).tail)
    ⟨[[]], none, none, rfl, by simpa using Nat.pow_le_pow_right (show 0 < 2 by decide) hd, by simpa using hd, rfl⟩ ?_ ?_
  · rintro t r ls ht ⟨F, x2, x3, rfl, hb, hm, hF⟩
    rw [List.length_cons, Nat.pow_succ] at hb
    have hF6 : F.length * 2 ≤ 64 := by
      refine Nat.le_trans (Nat.mul_le_mul_left _ ?_) hb
      have := Nat.pow_pos (n := r.length) (show 0 < 2 by decide)
      omega
    refine ⟨[some (false, .lst (strL ns)), some (false, .lst ((F ++ F.map (· ++ [t])).map lotL)), some (false, .str t), x3], ?_, _, _, _, rfl, ?_, ?_, hF⟩
    · simp only [turnF, storeG_nm, List.length_cons, List.length_nil]
      simp
      rw [comp_map (g := fun l => lotL (l ++ [t]))]
      · have e8 : binF Operator.Add (.lst (F.map lotL)) (.lst (F.map fun l => lotL (l ++ [t]))) = some (.lst ((F ++ F.map (· ++ [t])).map lotL)) := by
          rw [add_lst (by simp [LIM]; omega)]
          simp
        simp [e8]
      · intro l hl
        have h6 := hm l hl
        have hL : 1 ≤ LIM := by simp [LIM]
        have e9 : binF .Add (lotL l) (.lst [.str t]) = some (lotL (l ++ [t])) := by
          unfold lotL
          rw [add_lst (by simp [LIM, strL]; simp at h6; omega)]
          simp [strL]
        simp [hL, e9]
      · simp [LIM]; omega
    · rw [List.length_append, List.length_map, ← Nat.mul_two, Nat.mul_assoc, Nat.mul_comm 2]
      exact hb
    · intro l hl
      rcases List.mem_append.mp hl with hl | hl
      · have := hm l hl
        simp at this
        omega
      · obtain ⟨l', hl', rfl⟩ := List.mem_map.mp hl
        have := hm l' hl'
        simp at this ⊢
        omega
  · rintro ls' ⟨F, x2, x3, rfl, hb, _, hF⟩
    have hF : F = lots (ordS ns).tail := hF
    subst hF
    have hb : (lots (ordS ns).tail).length * 2 ^ 0 ≤ 64 := hb
    simp
    rw [comp_filter (c := fun l => l != []) (g := tupL)]
    · have hs : sortable (((lots (ordS ns).tail).filter (· != [])).map tupL) = true := by
        unfold sortable
        simp only [Bool.or_eq_true]
        right
        rw [List.all_map, List.all_eq_true]
        intro l hl
        have := (List.mem_filter.mp hl).2
        cases l with
        | nil => cases this
        | cons t ts => simp [isTup1, tupL, strL, isStrP]
      have e9 : biF "sorted" [.lst (((lots (ordS ns).tail).filter (· != [])).map tupL)] = some (.lst ((parts (ordS ns)).map tupL)) := by
        simp only [biF, bi1, seqOf, Option.bind_some, hs, if_true]
        rw [srtPV_map]
        rfl
      simp [e9]
    · intro l hl
      have o1 : okD (.lst (strL l)) = true := by
        have := okD_tupL (ts := l) fun t ht => nameT_noD (nm t (List.mem_of_mem_tail (lots_sub hl t ht)))
        exact this
      have o2 : okD (.lst []) = true := by decide
      have o3 : eqPV (.lst (strL l)) (.lst []) = (l == []) := eqPVs_strL l []
      have hL : (0 : Nat) ≤ LIM := Nat.zero_le _
      simp [lotL, cmpF, eqF, cmpOk, o1, o2, o3]
      cases hq : l with
      | nil => simp
      | cons t ts => simp [tupL]
    · simp [LIM]
      simp at hb
      omega
@[simp] theorem eq_bl (a b : Bool) : cmpF .Eq (.bl a) (.bl b) = some (a == b) := nrfl rfl
@[simp] theorem ne_bl (a b : Bool) : cmpF .NotEq (.bl a) (.bl b) = some (!(a == b)) := nrfl rfl
theorem due_ok (h1 : P.fn (Str.ofString "_law_lots") = some d_law_lots) (h2 : P.fn (Str.ofString "_law_lies") = some d_law_lies) (h3 : P.fn (Str.ofString "_law_due") = some d_law_due) {ns : List Str} (hn : Names ns) {a b c : Pt} (da : a.dep ≤ n) (db : b.dep ≤ n) (dc : c.dep ≤ n) :
    T (callF P wf (n + 1 + 1) (Str.ofString "_law_due") [.lst (strL ns), a.pv, b.pv, c.pv]) fun v => v = .bl (wayB ns a b c) := by
  refine T.out fun Q hQ => ?_
  have ly : ∀ (pt : List Str) (p : Pt), p.dep ≤ n → callF P wf (n + 1) (Str.ofString "_law_lies") [tupL pt, p.pv] = M.pure (.bl (p.sd pt)) := fun pt p hd => lies_ok h2 hd
  rw [callF_of h3 rfl]
  simp [d_law_due, start', lawlots_ok h1 hn]
  refine T.thru (fun fl => (fl = .rt (.bl false) ∧ wayB ns a b c = false) ∨ ∃ ls, fl = .nx ls ∧ wayB ns a b c = true) ?_ ?_
  · intro P' hP
    refine T.for (fun r ls => ∃ (pre post : List (List Str)) (x4 x5 : Slot), ls = [some (false, .lst (strL ns)), some (false, a.pv), some (false, b.pv), some (false, c.pv), x4, x5] ∧ parts (ordS ns) = pre ++ post ∧ r = post.map tupL ∧ ∀ pt ∈ pre, (a.sd pt == b.sd pt && c.sd pt != a.sd pt) = false)
      ⟨[], parts (ordS ns), none, none, rfl, rfl, rfl, by simp⟩ ?_ ?_
    · rintro J R' hJ hR x r ls hx ⟨pre, post, x4, x5, rfl, e, hr, hpre⟩
      match post, hr, e with
      | pt :: post, hr, e =>
        rw [List.map_cons] at hr
        injection hr with hr1 hr2
        subst hr1
        have s0 : ∀ x y z : PV, subF (.lst [x, y, z]) (.int 0) = some x := fun x y z => rfl
        have s1 : ∀ x y z : PV, subF (.lst [x, y, z]) (.int 1) = some y := fun x y z => rfl
        have s2 : ∀ x y z : PV, subF (.lst [x, y, z]) (.int 2) = some z := fun x y z => rfl
        have hL : 3 ≤ LIM := by simp [LIM]
        rw [turnF_of (by simp; rfl)]
        simp [-M.ite_bind, ly pt a da, ly pt b db, ly pt c dc, hL, s0, s1, s2]
        cases hb : (a.sd pt == b.sd pt && c.sd pt != a.sd pt) with
        | true =>
          have hb1 : a.sd pt = b.sd pt ∧ ¬ c.sd pt = a.sd pt := by simpa using hb
          simp [hb1.1, hb1.1 ▸ hb1.2]
          refine T.rt (hR _ (hP _ (.inl ⟨rfl, ?_⟩)))
          unfold wayB
          rw [Bool.not_eq_false', List.any_eq_true]
          exact ⟨pt, by rw [e]; simp, hb⟩
        | false =>
          have hb2 : a.sd pt = b.sd pt → c.sd pt = a.sd pt := by
            intro h
            have : ¬ (a.sd pt = b.sd pt ∧ ¬ c.sd pt = a.sd pt) := by simpa using hb
            exact Classical.byContradiction fun z => this ⟨h, z⟩
          have fin : T (M.pure (.nx [some (false, .lst (strL ns)), some (false, a.pv), some (false, b.pv), some (false, c.pv), some (false, tupL pt), some (false, .lst [.bl (a.sd pt), .bl (b.sd pt), .bl (c.sd pt)])])) (turnQ (J r) R') :=
            T.nx (hJ _ _ ⟨pre ++ [pt], post, _, _, rfl, by rw [e]; simp, hr2, fun q hq => by
              rcases List.mem_append.mp hq with hq | hq
              · exact hpre q hq
              · rw [List.mem_singleton.mp hq]; exact hb⟩)
          by_cases he : a.sd pt = b.sd pt
          · have hc := hb2 he
            simp [he, hc]
            rw [he] at hc fin
            rw [hc] at fin
            exact fin
          · simp [he]
            exact fin
    · rintro ls ⟨pre, post, x4, x5, rfl, e, hr, hpre⟩
      have : post = [] := by
        cases post with
        | nil => rfl
        | cons _ _ => cases hr
      subst this
      rw [List.append_nil] at e
      refine hP _ (.inr ⟨_, rfl, ?_⟩)
      unfold wayB
      rw [Bool.not_eq_true', List.any_eq_false]
      intro pt hpt
      rw [e] at hpt
      rw [hpre pt hpt]
      decide
  · rintro fl (⟨rfl, e⟩ | ⟨ls, rfl, e⟩)
    · simp
      exact T.pure (hQ _ (by rw [e]))
    · simp
      exact T.pure (hQ _ (by rw [e]))
end FL
namespace FL
open FW
open PySem L2
variable {P : Prog} {wf n : Nat}
theorem maj_count (x y z : Bool) : maj x y z = decide (2 ≤ [x, y, z].count true) := by
  cases x <;> cases y <;> cases z <;> rfl
theorem perm_map_inv {α β : Type} (f : α → β) {ys xs : List β} (h : ys.Perm xs) : ∀ l : List α, xs = l.map f → ∃ l' : List α, l'.Perm l ∧ ys = l'.map f := by
  induction h with
  | nil =>
    intro l e
    have : l = [] := by simpa using e.symm
    exact ⟨[], by rw [this], rfl⟩
  | cons x p ih =>
    intro l e
    match l, e with
    | a :: t, e =>
      rw [List.map_cons] at e
      injection e with e1 e2
      obtain ⟨l', p', rfl⟩ := ih t e2
      exact ⟨a :: l', p'.cons a, by rw [e1]; rfl⟩
  | swap x y l1 =>
    intro l e
    match l, e with
    | a :: b :: t, e =>
      rw [List.map_cons, List.map_cons] at e
      injection e with e1 e2
      injection e2 with e2 e3
      exact ⟨b :: a :: t, .swap .., by rw [e1, e2, e3]; rfl⟩
  | trans p q ih1 ih2 =>
    intro l e
    obtain ⟨l2, p2, e2⟩ := ih2 l e
    obtain ⟨l1, p1, e1⟩ := ih1 l2 e2
    exact ⟨l1, p1.trans p2, e1⟩
theorem spotB_of {ns : List Str} {p q : Pt} (h : ∀ pt, p.sd pt = q.sd pt) : spotB ns p q = true := by
  unfold spotB
  rw [List.all_eq_true]
  intro pt _
  rw [h pt]
  simp
theorem wayB_of {ns : List Str} {p q r : Pt} (h : ∀ pt, (p.sd pt == q.sd pt && r.sd pt != p.sd pt) = false) : wayB ns p q r = true := by
  unfold wayB
  rw [Bool.not_eq_true', List.any_eq_false]
  intro pt _
  rw [h pt]
  simp
theorem way_spot {ns : List Str} {a b c : Pt} : wayB ns a b c = spotB ns (.fk a b c) c := by
  unfold wayB spotB
  rw [List.not_any_eq_all_not]
  congr 1
  funext pt
  simp only [Pt.sd, maj]
  cases a.sd pt <;> cases b.sd pt <;> cases c.sd pt <;> rfl
theorem okI_pt {ns : List Str} (hn : ∀ t ∈ ns, nameT t = true) : ∀ {p : Pt}, p.In ns → p.dep ≤ 63 → noD p.pv = true ∧ depPV p.pv ≤ p.dep
  | .nm t, h, _ => ⟨nameT_noD (hn t h), Nat.zero_le _⟩
  | .fk a b c, ⟨ha, hb, hc⟩, hd => by
    unfold Pt.dep at hd
    obtain ⟨a1, a2⟩ := okI_pt hn ha (by omega)
    obtain ⟨b1, b2⟩ := okI_pt hn hb (by omega)
    obtain ⟨c1, c2⟩ := okI_pt hn hc (by omega)
    have f1 : noD (.str FRK) = true := nameT_noD (by decide)
    refine ⟨?_, ?_⟩
    · show (noD (.str FRK) && (noD a.pv && (noD b.pv && (noD c.pv && true)))) = true
      rw [f1, a1, b1, c1]
      rfl
    · show max (depPV (.str FRK)) (max (depPV a.pv) (max (depPV b.pv) (max (depPV c.pv) 0))) + 1 ≤ _
      have f2 : depPV (.str FRK) = 0 := rfl
      unfold Pt.dep
      omega
/-- a point of places, of at most k forks in one another -/
def Okp (ts : List Str) (k : Nat) (p : Pt) : Prop := p.In ts ∧ p.dep ≤ k
theorem Okp.fk {ts : List Str} {k : Nat} {a b c : Pt} (ha : Okp ts k a) (hb : Okp ts k b) (hc : Okp ts k c) : Okp ts (k + 1) (.fk a b c) := ⟨⟨ha.1, hb.1, hc.1⟩, by have := ha.2; have := hb.2; have := hc.2; unfold Pt.dep; omega⟩
theorem Okp.up {ts : List Str} {k m : Nat} {a : Pt} (ha : Okp ts k a) (h : k ≤ m := by omega) : Okp ts m a := ⟨ha.1, Nat.le_trans ha.2 h⟩
end FL
namespace FL
open FW
open PySem L2
/-- is_parting_of: names, thing, name -/
def d_is_parting_of : FnD := ⟨2, 3,
 (Ss.cons (S.ife (E.or (E.not (E.isin (E.var 1) ["tuple"])) (E.cmp .Eq (E.bi "len" (Es.cons (E.var 1) Es.nil)) (E.int 0)))
 (Ss.cons (S.ret (E.bl false))
 Ss.nil)
 Ss.nil)
 (Ss.cons (S.ife (E.not (E.bi "all" (Es.cons (E.lc (E.and (E.isin (E.var 2) ["str"]) (E.cmp .In (E.var 2) (E.slc (E.var 0) (C.yes (E.int 1)) C.no))) (G.nm 2) (I.seq (E.var 1)) C.no [2]) Es.nil)))
 (Ss.cons (S.ret (E.bl false))
 Ss.nil)
 Ss.nil)
 (Ss.cons (S.ret (E.cmp .Eq (E.bi "list" (Es.cons (E.var 1) Es.nil)) (E.sortset (E.var 1))))
 Ss.nil)))⟩
/-- need_parting: names, parting -/
def d_need_parting : FnD := ⟨2, 2,
 (Ss.cons (S.ife (E.not (E.call (Str.ofString "is_parting_of") (Es.cons (E.var 0) (Es.cons (E.var 1) Es.nil))))
 (Ss.cons S.nev
 Ss.nil)
 Ss.nil)
 Ss.nil)⟩
/-- is_beyond: places, parting, point, names -/
def d_is_beyond : FnD := ⟨3, 4,
 (Ss.cons (S.set (G.nm 3) (E.call (Str.ofString "need_places") (Es.cons (E.var 0) Es.nil)))
 (Ss.cons (S.expr (E.call (Str.ofString "need_parting") (Es.cons (E.var 3) (Es.cons (E.var 1) Es.nil))))
 (Ss.cons (S.expr (E.call (Str.ofString "need_point") (Es.cons (E.var 3) (Es.cons (E.var 2) Es.nil))))
 (Ss.cons (S.ret (E.call (Str.ofString "is_side") (Es.cons (E.var 1) (Es.cons (E.var 2) Es.nil))))
 Ss.nil))))⟩
/-- _law_cut_off: _law_tree_here, _law_names, _law_at, _law_rows, _law_least, _law_word -/
def d_law_cut_off : FnD := ⟨3, 6,
 (Ss.cons (S.set (G.nm 3) (E.bin .Add (E.slc (E.sub (E.var 0) (E.str (Str.ofString "rows"))) C.no (C.yes (E.var 2))) (E.slc (E.sub (E.var 0) (E.str (Str.ofString "rows"))) (C.yes (E.bin .Add (E.var 2) (E.int 1))) C.no)))
 (Ss.cons (S.set (G.nm 4) (E.sub (E.sub (E.var 0) (E.str (Str.ofString "seats"))) (E.sub (E.bi "sorted" (Es.cons (E.var 1) Es.nil)) (E.int 0))))
 (Ss.cons (S.ret (E.bi "tuple" (Es.cons (E.lc (E.var 5) (G.nm 5) (I.seq (E.bi "sorted" (Es.cons (E.var 1) Es.nil))) (C.yes (E.cmp .Eq (E.call (Str.ofString "_law_path") (Es.cons (E.var 3) (Es.cons (E.var 4) (Es.cons (E.sub (E.sub (E.var 0) (E.str (Str.ofString "seats"))) (E.var 5)) Es.nil)))) (E.lst Es.nil))) [5]) Es.nil)))
 Ss.nil)))⟩
/-- _law_behind: _law_tree_here, _law_names, _law_at, _law_point_here, _law_rows, _law_least -/
def d_law_behind : FnD := ⟨4, 6,
 (Ss.cons (S.set (G.nm 4) (E.bin .Add (E.slc (E.sub (E.var 0) (E.str (Str.ofString "rows"))) C.no (C.yes (E.var 2))) (E.slc (E.sub (E.var 0) (E.str (Str.ofString "rows"))) (C.yes (E.bin .Add (E.var 2) (E.int 1))) C.no)))
 (Ss.cons (S.set (G.nm 5) (E.sub (E.sub (E.var 0) (E.str (Str.ofString "seats"))) (E.sub (E.bi "sorted" (Es.cons (E.var 1) Es.nil)) (E.int 0))))
 (Ss.cons (S.ret (E.cmp .Eq (E.call (Str.ofString "_law_path") (Es.cons (E.var 4) (Es.cons (E.var 5) (Es.cons (E.call (Str.ofString "_law_knot") (Es.cons (E.var 0) (Es.cons (E.var 3) Es.nil))) Es.nil)))) (E.lst Es.nil)))
 Ss.nil)))⟩
/-- law: _law_script, _law_draw, _law_turn, _law_names, _law_lots_here, _law_lap, _law_point_here, _law_lot, _law_due, _law_found, _law_tree_here, _law_at -/
def d_law08 : FnD := ⟨1, 12,
 (Ss.cons (S.set (G.nm 1) (E.call (Str.ofString "_law_begin") (Es.cons (E.var 0) Es.nil)))
 (Ss.cons (S.for_ (G.nm 2) (I.rng1 (E.bin .Add (E.int 4) (E.bi "min" (Es.cons (E.bi "len" (Es.cons (E.var 0) Es.nil)) (Es.cons (E.int 8) Es.nil)))))
 (Ss.cons (S.set (G.nm 3) (E.call (Str.ofString "_law_towns") (Es.cons (E.var 1) (Es.cons (E.int 6) Es.nil))))
 (Ss.cons (S.set (G.nm 4) (E.call (Str.ofString "_law_lots") (Es.cons (E.var 3) Es.nil)))
 (Ss.cons (S.for_ (G.nm 5) (I.rng1 (E.int 8))
 (Ss.cons (S.par [6, 7] [false, false] (Es.cons (E.call (Str.ofString "_law_point") (Es.cons (E.var 1) (Es.cons (E.var 3) (Es.cons (E.call (Str.ofString "_law_pick") (Es.cons (E.var 1) (Es.cons (E.lst (Es.cons (E.int 1) (Es.cons (E.int 2) (Es.cons (E.int 4) Es.nil)))) Es.nil))) Es.nil)))) (Es.cons (E.call (Str.ofString "_law_pick") (Es.cons (E.var 1) (Es.cons (E.var 4) Es.nil))) Es.nil)))
 (Ss.cons (S.set (G.nm 8) (E.call (Str.ofString "_law_lies") (Es.cons (E.var 7) (Es.cons (E.var 6) Es.nil))))
 (Ss.cons (S.set (G.nm 9) (E.lst (Es.cons (E.call (Str.ofString "is_beyond") (Es.cons (E.var 3) (Es.cons (E.var 7) (Es.cons (E.var 6) Es.nil)))) (Es.cons (E.callK (Str.ofString "is_beyond") Es.nil (Es.cons (E.var 6) (Es.cons (E.var 7) (Es.cons (E.rev (E.var 3)) Es.nil))) [(Str.ofString "point"), (Str.ofString "parting"), (Str.ofString "places")] [2, 1, 0]) Es.nil))))
 (Ss.cons (S.ife (E.cmp .NotEq (E.bi "repr" (Es.cons (E.var 9) Es.nil)) (E.bi "repr" (Es.cons (E.lst (Es.cons (E.var 8) (Es.cons (E.var 8) Es.nil))) Es.nil)))
 (Ss.cons (S.ret (E.bl false))
 Ss.nil)
 Ss.nil)
 Ss.nil)))))
 (Ss.cons (S.set (G.nm 10) (E.call (Str.ofString "_law_tree") (Es.cons (E.var 1) (Es.cons (E.var 3) (Es.cons (E.bin .Add (E.int 2) (E.call (Str.ofString "_law_take") (Es.cons (E.var 1) (Es.cons (E.int 11) Es.nil)))) (Es.cons (E.int 9) Es.nil))))))
 (Ss.cons (S.for_ (G.nm 5) (I.rng1 (E.int 3))
 (Ss.cons (S.set (G.nm 6) (E.call (Str.ofString "_law_point") (Es.cons (E.var 1) (Es.cons (E.var 3) (Es.cons (E.int 3) Es.nil)))))
 (Ss.cons (S.for_ (G.nm 11) (I.rng1 (E.bi "len" (Es.cons (E.sub (E.var 10) (E.str (Str.ofString "rows"))) Es.nil)))
 (Ss.cons (S.set (G.nm 7) (E.call (Str.ofString "_law_cut_off") (Es.cons (E.var 10) (Es.cons (E.var 3) (Es.cons (E.var 11) Es.nil)))))
 (Ss.cons (S.set (G.nm 8) (E.call (Str.ofString "_law_behind") (Es.cons (E.var 10) (Es.cons (E.var 3) (Es.cons (E.var 11) (Es.cons (E.var 6) Es.nil))))))
 (Ss.cons (S.ife (E.and (E.cmp .NotEq (E.var 7) (E.tup Es.nil)) (E.cmp .NotEq (E.call (Str.ofString "is_beyond") (Es.cons (E.var 3) (Es.cons (E.var 7) (Es.cons (E.var 6) Es.nil)))) (E.var 8)))
 (Ss.cons (S.ret (E.bl false))
 Ss.nil)
 Ss.nil)
 Ss.nil))))
 Ss.nil)))
 Ss.nil))))))
 (Ss.cons (S.ret (E.bl true))
 Ss.nil)))⟩
end FL
namespace FL
open FW
open PySem L2
variable {P : Prog} {wf n : Nat}
@[simp] theorem ev_callK (P : PE') (b : Bool) (f : Str) (es ks : Es) (nm : List Str) (perm : List Nat) (ls : List Slot) : ev P b (.callK f es ks nm perm) ls = (evs P es ls).bind fun xs => (evs P ks ls).bind fun ys => if xs.length + ys.length = perm.length ∧ ys.length = nm.length then P.cf f (pick perm xs ys) else M.bad := nrfl rfl
@[simp] theorem pubE_callK (b : Bool) (f : Str) (es ks : Es) (nm : List Str) (perm : List Nat) : pubE b (.callK f es ks nm perm) = pubEs es ++ pubEs ks := nrfl rfl
def revM : PV → M PV
  | .lst xs => M.pure (.lst xs.reverse)
  | _ => M.bad
@[simp] theorem revM_lst (xs : List PV) : revM (.lst xs) = M.pure (.lst xs.reverse) := nrfl rfl
@[simp] theorem ev_rev (P : PE') (b : Bool) (a : E) (ls : List Slot) : ev P b (.rev a) ls = (ev P true a ls).bind revM := nrfl rfl
@[simp] theorem isnot_bl (a b : Bool) : cmpF .IsNot (.bl a) (.bl b) = some (!(a == b)) := nrfl rfl
theorem filter_lots (p : Str → Bool) : ∀ (ns : List Str) (F : List (List Str)) (m : List Str), m ∈ F → m ++ ns.filter p ∈ ns.foldl (fun f t => f ++ f.map (· ++ [t])) F
  | [], F, m, h => by simpa using h
  | t :: ns, F, m, h => by
    rw [List.foldl_cons, List.filter_cons]
    cases e : p t with
    | true =>
      have := filter_lots p ns (F ++ F.map (· ++ [t])) (m ++ [t]) (List.mem_append_right _ (List.mem_map.mpr ⟨m, h, rfl⟩))
      simpa using this
    | false => exact filter_lots p ns (F ++ F.map (· ++ [t])) m (List.mem_append_left _ h)
theorem kd_const {ts : List Str} {f : Str → Bool} {c : Bool} (h : ∀ t ∈ ts, f t = c) : ∀ {p : Pt}, p.In ts → p.kd f = c
  | .nm t, hp => h t hp
  | .fk a b d, ⟨ha, hb, hd⟩ => by
    show maj (a.kd f) (b.kd f) (d.kd f) = c
    rw [kd_const h ha, kd_const h hb, kd_const h hd]
    cases c <;> rfl
theorem sd_kd {ts lot : List Str} {f : Str → Bool} {c : Bool} (h : ∀ t ∈ ts, lot.contains t = (f t != c)) : ∀ {p : Pt}, p.In ts → p.sd lot = (p.kd f != c)
  | .nm t, hp => h t hp
  | .fk a b d, ⟨ha, hb, hd⟩ => by
    show maj (a.sd lot) (b.sd lot) (d.sd lot) = (maj (a.kd f) (b.kd f) (d.kd f) != c)
    rw [sd_kd h ha, sd_kd h hb, sd_kd h hd]
    cases a.kd f <;> cases b.kd f <;> cases d.kd f <;> cases c <;> rfl
/-- a function of the names parts them by a parting, or not at all -/
theorem cut_lot {ns : List Str} (hn : Names ns) (f : Str → Bool) : ∃ c : Bool, (∀ t ∈ ns, f t = c) ∨ ∃ lot ∈ parts (ordS ns), ∀ t ∈ ns, lot.contains t = (f t != c) := by
  have hp := ordS_perm ns
  cases e : ordS ns with
  | nil =>
    have l1 := hp.length_eq
    rw [e, List.length_nil] at l1
    have := hn.lo
    omega
  | cons t0 tail =>
    refine ⟨f t0, ?_⟩
    have nd : (t0 :: tail).Nodup := by rw [← e]; exact hp.nodup_iff.mpr hn.nd
    rw [List.nodup_cons] at nd
    have mem : ∀ t, t ∈ ns ↔ t = t0 ∨ t ∈ tail := fun t => by
      rw [← hp.mem_iff, e, List.mem_cons]
    by_cases hl : tail.filter (fun t => f t != f t0) = []
    · left
      intro t ht
      rcases (mem t).mp ht with rfl | h
      · rfl
      · have := List.filter_eq_nil_iff.mp hl t h
        simpa using this
    · right
      refine ⟨tail.filter (fun t => f t != f t0), parts_mem.mpr ⟨?_, hl⟩, fun t ht => ?_⟩
      · have := filter_lots (fun t => f t != f t0) tail [[]] [] (by simp)
        simpa [lots] using this
      · rcases (mem t).mp ht with rfl | h
        · have : t ∉ tail.filter (fun s => f s != f t) := fun z => nd.1 (List.mem_filter.mp z).1
          simp [nd.1]
        · by_cases hq : f t = f t0
          · simp [hq]
          · simp [h, hq]
/-- what lies on all ways lies on this one -/
theorem way_knot {ns : List Str} (hn : Names ns) {a b c : Pt} (ha : a.In ns) (hb : b.In ns) (hc : c.In ns) (hw : wayB ns a b c = true) (f : Str → Bool) (he : a.kd f = b.kd f) : c.kd f = a.kd f := by
  obtain ⟨d, h | ⟨lot, hl, h⟩⟩ := cut_lot hn f
  · rw [kd_const h hc, kd_const h ha]
  · unfold wayB at hw
    rw [Bool.not_eq_true', List.any_eq_false] at hw
    have := hw lot hl
    rw [sd_kd h ha, sd_kd h hb, sd_kd h hc, he] at this
    rw [he]
    cases e1 : b.kd f <;> cases e2 : c.kd f <;> cases d <;> rw [e1, e2] at this <;> first | rfl | (exfalso; exact this rfl)
theorem wayB_comm (ns : List Str) (a b c : Pt) : wayB ns b a c = wayB ns a b c := by
  unfold wayB
  congr 2
  funext pt
  cases a.sd pt <;> cases b.sd pt <;> cases c.sd pt <;> rfl
theorem wayB_self (ns : List Str) (a b : Pt) : wayB ns a b a = true := by
  unfold wayB
  rw [Bool.not_eq_true', List.any_eq_false]
  intro pt _
  cases a.sd pt <;> cases b.sd pt <;> decide
theorem wayB_spot (ns : List Str) (a b : Pt) : wayB ns a a b = spotB ns a b := by
  unfold wayB spotB
  rw [List.not_any_eq_all_not]
  congr 1
  funext pt
  cases a.sd pt <;> cases b.sd pt <;> rfl
theorem repr3 (b : Bool) : ∃ s, biF "repr" [.lst [.bl b, .bl b, .bl b]] = some (.str s) := by
  have h : (okD (.lst [.bl b, .bl b, .bl b]) && (toD (.lst [.bl b, .bl b, .bl b])).showable && decide ((toD (.lst [.bl b, .bl b, .bl b])).shown.length ≤ LIM)) = true := by
    cases b <;> decide +kernel
  exact ⟨_, if_pos h⟩
theorem mul3 (x : PV) : binF .Mult (.lst [x]) (.int 3) = some (.lst [x, x, x]) := by
  show (if 0 ≤ (3 : Int) ∧ (3 : Int) < 2 ^ 62 ∧ [x].length * (3 : Int).toNat ≤ LIM then some (PV.lst (List.replicate (3 : Int).toNat [x]).flatten) else none) = _
  rw [if_pos ⟨by decide, by decide, by simp [LIM]⟩]
  rfl
theorem ne_same (s : Str) : cmpF .NotEq (.str s) (.str s) = some false := by
  show (eqF (.str s) (.str s)).map (!·) = _
  have : eqF (.str s) (.str s) = some (s == s) := rfl
  rw [this]
  simp
/-! ### partings as sorted lists -/
theorem lots_subl : ∀ (ns : List Str) (F : List (List Str)) (pre : List Str), (∀ m ∈ F, m.Sublist pre) → ∀ l ∈ ns.foldl (fun f t => f ++ f.map (· ++ [t])) F, l.Sublist (pre ++ ns)
  | [], F, pre, h, l, hl => by simpa using h l hl
  | t :: ns, F, pre, h, l, hl => by
    rw [List.foldl_cons] at hl
    have := lots_subl ns _ (pre ++ [t]) (fun m hm => by
      rcases List.mem_append.mp hm with hm | hm
      · exact (h m hm).trans (List.sublist_append_left _ _)
      · obtain ⟨q, hq, rfl⟩ := List.mem_map.mp hm
        exact (h q hq).append (List.Sublist.refl _)) l hl
    simpa using this
theorem parts_subl {ns l : List Str} (h : l ∈ parts ns) : l.Sublist ns.tail := by
  have := lots_subl ns.tail [[]] [] (by simp) l (parts_mem.mp h).1
  simpa using this
theorem ded_nd : ∀ {ts : List Str}, ts.Nodup → dedS ts = ts
  | [], _ => rfl
  | x :: r, h => by
    rw [List.nodup_cons] at h
    unfold dedS
    rw [if_neg (by simpa using h.1), ded_nd h.2]
theorem ord_id {ts : List Str} (h : ts.Pairwise leS) : ordS ts = ts :=
  List.Perm.eq_of_pairwise (fun a b _ _ h1 h2 => str_ext (List.le_antisymm h1 h2)) (ord_pw ts) h (ordS_perm ts)
theorem strPV_strs : ∀ ts : List Str, strPV (strL ts) = some ts
  | [] => rfl
  | t :: ts => by
    show (strPV (strL ts)).map (t :: ·) = _
    rw [strPV_strs ts]
    rfl
theorem blPV_true {α : Type} : ∀ l : List α, blPV (l.map fun _ => PV.bl true) = some (l.map fun _ => true)
  | [] => rfl
  | _ :: l => by
    show (blPV (l.map fun _ => PV.bl true)).map (true :: ·) = _
    rw [blPV_true l]
    rfl
theorem sortset_id {ts : List Str} (h : ts.Pairwise leS) (nd : ts.Nodup) (hl : ts.length < 64) : sortsetF (tupL ts) = some (.lst (strL ts)) := by
  have e1 : strPV (strL ts) = some ts := strPV_strs ts
  have e2 : srtPV ((dedS ts).map .str) = strL ts := by
    rw [ded_nd nd]
    have he : srtPV (strL ts) = strL (ordS ts) := srtPV_map .str ts
    rw [ord_id h] at he
    exact he
  simp [sortsetF, tupL, seqOf, e1, hl, e2]
theorem is_parting_of_ok (h : P.fn (Str.ofString "is_parting_of") = some d_is_parting_of) {ns lot : List Str} (hn : Names ns) (hl : lot ∈ parts (ordS ns)) :
    callF P wf (n + 1) (Str.ofString "is_parting_of") [.tup (strL (ordS ns)), tupL lot] = M.pure (.bl true) := by
  obtain ⟨l6, nm⟩ := hn.ord
  have sub := parts_subl hl
  have ne := (parts_mem.mp hl).2
  have pw : (ordS ns).Pairwise leS := ord_pw ns
  have nd : (ordS ns).Nodup := (ordS_perm ns).nodup_iff.mpr hn.nd
  have s2 := sub.trans (List.tail_sublist _)
  have len : lot.length ≤ 6 := Nat.le_trans s2.length_le l6
  have e0 : sortsetF (.tup (strL lot)) = some (.lst (strL lot)) := sortset_id (pw.sublist s2) (nd.sublist s2) (by omega)
  have e1 : ["tuple"].any (tyOk (.tup (strL lot))) = true := by simp [tyOk, tyN]
  have e3 : slcV (some 1) none (.tup (strL (ordS ns))) = some (.tup (strL (ordS ns).tail)) := by
    cases e : ordS ns with
    | nil => rfl
    | cons t ts =>
      simp [slcV, strL, cutP, HT.sIx]
      exact List.take_of_length_le (by simp)
  have o1 : okD (.lst (strL lot)) = true := by
    have := okD_tupL (ts := lot) fun t ht => nameT_noD (nm t (s2.subset ht))
    exact this
  have e5 : eqPVs (strL lot) (strL lot) = true := by
    rw [eqPVs_strL]
    simp
  have hl0 : (lot.length : Int) ≠ 0 := by
    cases lot with
    | nil => exact absurd rfl ne
    | cons _ _ => simp; omega
  have e2 : tyOk (.tup (strL lot)) "tuple" = true := by simp [tyOk, tyN]
  have itl : itemsF (.tup (strL lot)) = some (lot.map .str) := rfl
  have e6 : biF "all" [.lst (lot.map fun _ => PV.bl true)] = some (.bl true) := by
    show (blPV (lot.map fun _ => PV.bl true)).map (fun bs => PV.bl (bs.all id)) = _
    rw [blPV_true]
    simp
  have e7 : lenF (.tup (strL lot)) = some lot.length := by simp [lenF, strL]
  have e8 : biF "len" [.tup (strL lot)] = some (.int lot.length) := by simp [biF, bi1, e7]
  have e9 : cmpF .Eq (.lst (strL lot)) (.lst (strL lot)) = some true := by
    simp [cmpF, eqF, cmpOk, o1, eqPV, e5]
  rw [callF_of h rfl]
  simp [d_is_parting_of, start', tupL, e2, e8, ne, itl, e0]
  rw [comp_map (g := fun _ => .bl true)]
  · simp [e6, e9]
  · intro t ht
    have mt : t ∈ (ordS ns).tail := sub.subset ht
    have e4 : tyOk (.str t) "str" = true := by simp [tyOk, tyN]
    simp [e4, e3, cmpF, in_strs t _ (.inr rfl), mt]
  · simp [LIM]; omega
theorem need_parting_ok (h : P.fn (Str.ofString "is_parting_of") = some d_is_parting_of) (h2 : P.fn (Str.ofString "need_parting") = some d_need_parting) {ns lot : List Str} (hn : Names ns) (hl : lot ∈ parts (ordS ns)) :
    callF P wf (n + 1 + 1) (Str.ofString "need_parting") [.tup (strL (ordS ns)), tupL lot] = M.pure .non := by
  rw [callF_of h2 rfl]
  simp [d_need_parting, start', is_parting_of_ok h hn hl]
structure HasB (P : Prog) : Prop where
  is_parting_of : P.fn (Str.ofString "is_parting_of") = some d_is_parting_of
  need_parting : P.fn (Str.ofString "need_parting") = some d_need_parting
  is_beyond : P.fn (Str.ofString "is_beyond") = some d_is_beyond
theorem is_beyond_ok (h0 : Has P) (h1 : P.fn (Str.ofString "is_side") = some d_is_side) (h : HasB P) {ns lot : List Str} (hn : Names ns) (hl : lot ∈ parts (ordS ns)) {x : PV} (hx : x = .lst (strL ns) ∨ x = tupL ns) {p : Pt} (hp : p.In ns) (dp : p.dep ≤ n + 1) :
    callF P wf (n + 1 + 1 + 1 + 1) (Str.ofString "is_beyond") [x, tupL lot, p.pv] = M.pure (.bl (p.sd lot)) := by
  have mo : ∀ t ∈ ns, t ∈ ordS ns := fun t ht => (ordS_perm ns).mem_iff.mpr ht
  have e1 : callF P wf (n + 1 + 1 + 1) (Str.ofString "need_point") [.tup (strL (ordS ns)), p.pv] = M.pure .non := need_point_ok h0 (hp.mono mo) dp
  have e2 : callF P wf (n + 1 + 1 + 1) (Str.ofString "need_places") [x] = M.pure (.tup (strL (ordS ns))) := need_places_ok h0 hn hx
  have e3 : callF P wf (n + 1 + 1 + 1) (Str.ofString "need_parting") [.tup (strL (ordS ns)), tupL lot] = M.pure .non := need_parting_ok h.is_parting_of h.need_parting hn hl
  have e4 : callF P wf (n + 1 + 1 + 1) (Str.ofString "is_side") [tupL lot, p.pv] = M.pure (.bl (p.sd lot)) := is_side_ok h1 (by omega)
  rw [callF_of h.is_beyond rfl]
  simp [d_is_beyond, start', e1, e2, e3, e4]
/-! ### a comprehension with a test that walks -/
theorem T.compf {α : Type} {f : PV → M (Option PV)} (i : α → PV) (c : α → Bool) (g : α → PV) : ∀ {xs : List α} {acc : List PV}, (∀ x ∈ xs, T (f (i x)) fun o => o = if c x then some (g x) else none) → acc.length + xs.length ≤ LIM →
    T (compM f (xs.map i) acc) fun ys => ys = acc ++ (xs.filter c).map g
  | [], acc, _, _ => T.pure (by simp)
  | x :: xs, acc, h, hl => by
    simp only [List.map_cons]
    unfold compM
    refine (h x List.mem_cons_self).bind ?_
    rintro o rfl
    simp only [List.length_cons] at hl
    rw [List.filter_cons]
    cases e : c x with
    | true =>
      simp only [if_true]
      rw [if_pos (by omega)]
      refine (T.compf i c g (acc := acc ++ [g x]) (fun z hz => h z (List.mem_cons_of_mem _ hz)) (by simp; omega)).mono ?_
      rintro ys rfl
      simp
    | false =>
      simp only [if_neg Bool.false_ne_true]
      exact T.compf i c g (fun z hz => h z (List.mem_cons_of_mem _ hz)) (by omega)
/-! ### stretches -/
/-- the least name -/
def leastS (ns : List Str) : Str := (ordS ns).headD Str.empty
def cutL (ns : List Str) (f : Str → Bool) : List Str := (ordS ns).filter fun w => f w != f (leastS ns)
theorem sorted_names {ns : List Str} : biF "sorted" [.lst (strL ns)] = some (.lst (strL (ordS ns))) := by
  have hs : sortable (strL ns) = true := by
    unfold sortable strL
    simp [isStrP]
  have he : srtPV (strL ns) = strL (ordS ns) := srtPV_map .str ns
  simp [biF, bi1, seqOf, hs, he]
def cutR (rs : List (Nat × Nat × Nat)) (a : Nat) : List (Nat × Nat × Nat) := rs.take a ++ rs.drop (a + 1)
theorem cut_rows {rs : List (Nat × Nat × Nat)} {a : Nat} (hm : rs.length ≤ 12) (_ha : a < rs.length) :
    slcV none (some (a : Int)) (.lst (rs.map rowV)) = some (.lst ((rs.map rowV).take a)) ∧ slcV (some ((a : Int) + 1)) none (.lst (rs.map rowV)) = some (.lst ((rs.map rowV).drop (a + 1))) := by
  constructor
  · simp [slcV, cutP, HT.sIx]
    rw [if_neg (by omega)]
    omega
  · simp [slcV, cutP, HT.sIx]
    rw [if_neg (by omega), Nat.min_eq_left (by omega)]
    exact List.take_of_length_le (by simp)
theorem headD_mem {ns : List Str} (hn : Names ns) : leastS ns ∈ ns := by
  unfold leastS
  rw [← (ordS_perm ns).mem_iff]
  cases e : ordS ns with
  | nil =>
    have l1 := (ordS_perm ns).length_eq
    rw [e, List.length_nil] at l1
    have := hn.lo
    omega
  | cons t ts => simp
theorem sub_head {ns : List Str} (hn : Names ns) : subF (.lst (strL (ordS ns))) (.int 0) = some (.str (leastS ns)) := by
  unfold leastS
  cases e : ordS ns with
  | nil =>
    have l1 := (ordS_perm ns).length_eq
    rw [e, List.length_nil] at l1
    have := hn.lo
    omega
  | cons t ts => exact sub0
theorem eq_nil_natL (t : List Nat) : cmpF .Eq (.lst (natL t)) (.lst []) = some (t == []) := by
  have o1 : okD (.lst (natL t)) = true := by
    obtain ⟨a, b⟩ := okI_natL t
    simp [okD, a]
    omega
  have o2 : okD (.lst []) = true := by decide
  have oc : cmpOk (.lst (natL t)) (.lst []) = true := by simp [cmpOk, o1, o2]
  show (if cmpOk (.lst (natL t)) (.lst []) then some (eqPV (.lst (natL t)) (.lst [])) else none) = _
  rw [oc]
  cases t <;> rfl
theorem Way.ne {par : Nat → Nat} {m u v : Nat} {t : List Nat} (h : Way par m u v t) : (t == []) = false := by
  obtain ⟨r, e⟩ := h.head
  rw [e]
  rfl
theorem cut_off_ok (h : P.fn (Str.ofString "_law_path") = some d_law_path) (h2 : P.fn (Str.ofString "_law_cut_off") = some d_law_cut_off) {x : PV} {ns : List Str} (hn : Names ns) {par : Nat → Nat} (hp : ∀ i, par i ≤ i) {rs : List (Nat × Nat × Nat)} {seat : Str → Nat}
    (tv : TreeV x ns par rs seat) {a : Nat} (ha : a < rs.length) (hwf : Bp 13 < wf) : T (callF P wf (n + 1 + 1) (Str.ofString "_law_cut_off") [x, .lst (strL ns), .int a]) fun v => v = tupL (cutL ns fun t => desc par hp a (seat t)) := by
  refine T.out fun Q hQ => ?_
  have hQ := hQ _ rfl
  obtain ⟨sv, s1, s2⟩ := tv.seats
  have s1' : subF x (.str (Str.ofString "seats")) = some sv := s1
  have r1 : subF x (.str (Str.ofString "rows")) = some (.lst (rs.map rowV)) := tv.rows
  obtain ⟨c1, c2⟩ := cut_rows tv.few ha
  have c3 : binF .Add (.lst ((rs.map rowV).take a)) (.lst ((rs.map rowV).drop (a + 1))) = some (.lst ((cutR rs a).map rowV)) := by
    rw [add_lst (by have := tv.few; simp [LIM]; omega)]
    simp [cutR]
  have hm := headD_mem hn
  have mo : ∀ t ∈ ordS ns, t ∈ ns := fun t ht => (ordS_perm ns).mem_iff.mp ht
  have itl : itemsF (.lst (strL (ordS ns))) = some ((ordS ns).map .str) := rfl
  rw [callF_of h2 rfl]
  simp [-M.ite_bind, d_law_cut_off, start', r1, s1', c1, c2, c3, sorted_names, sub_head hn, s2 _ hm, itl]
  refine T.thru (fun v => v = .lst (strL (cutL ns fun t => desc par hp a (seat t)))) ?_ ?_
  · intro P' hP'
    refine T.nox (T.bind (T.compf (acc := []) .str (fun w => desc par hp a (seat w) != desc par hp a (seat (leastS ns))) .str (xs := ordS ns) (fun t ht => ?_) (by have := hn.ord.1; simp [LIM]; omega)) ?_)
    · have mt := mo t ht
      simp [-M.ite_bind, s2 t mt]
      refine (pathX_ok h hp (tv.ok.cut tv.few a) tv.few (tv.le _ hm) (tv.le _ mt) hwf).bind ?_
      rintro _ (⟨l, rfl, hw, e⟩ | ⟨rfl, e⟩)
      · simp [eq_nil_natL, hw.ne, e]
        exact T.pure rfl
      · have e2 : cmpF .Eq (.lst []) (.lst []) = some true := by decide
        have e3 : ¬ desc par hp a (seat t) = desc par hp a (seat (leastS ns)) := fun z => e z.symm
        simp [e2, e3]
        exact T.pure rfl
    · rintro ys rfl
      exact T.pure (hP' _ (by simp [cutL, strL]))
  · rintro v rfl
    simp [biF, bi1, seqOf]
    exact T.pure hQ
theorem behind_ok (h : P.fn (Str.ofString "_law_path") = some d_law_path) (h2 : P.fn (Str.ofString "_law_behind") = some d_law_behind) (h3 : P.fn (Str.ofString "_law_knot") = some d_law_knot) {x : PV} {ns : List Str} (hn : Names ns) {par : Nat → Nat} (hp : ∀ i, par i ≤ i) {rs : List (Nat × Nat × Nat)} {seat : Str → Nat}
    (tv : TreeV x ns par rs seat) {a : Nat} (ha : a < rs.length) (hwf : Bp 13 < wf) {p : Pt} (ip : p.In ns) (dp : p.dep ≤ n) : T (callF P wf (n + 1 + 1 + 1) (Str.ofString "_law_behind") [x, .lst (strL ns), .int a, p.pv]) fun v => v = .bl (p.kd (fun t => desc par hp a (seat t)) != desc par hp a (seat (leastS ns))) := by
  refine T.out fun Q hQ => ?_
  have hQ := hQ _ rfl
  obtain ⟨sv, s1, s2⟩ := tv.seats
  have s1' : subF x (.str (Str.ofString "seats")) = some sv := s1
  have r1 : subF x (.str (Str.ofString "rows")) = some (.lst (rs.map rowV)) := tv.rows
  obtain ⟨c1, c2⟩ := cut_rows tv.few ha
  have c3 : binF .Add (.lst ((rs.map rowV).take a)) (.lst ((rs.map rowV).drop (a + 1))) = some (.lst ((cutR rs a).map rowV)) := by
    rw [add_lst (by have := tv.few; simp [LIM]; omega)]
    simp [cutR]
  have hm := headD_mem hn
  rw [callF_of h2 rfl]
  simp [-M.ite_bind, d_law_behind, start', r1, s1', c1, c2, c3, sorted_names, sub_head hn, s2 _ hm]
  refine (knot_ok h3 h hp tv hwf p (n := n) ip dp).bind ?_
  rintro _ ⟨k, rfl, k1, k2⟩
  refine (pathX_ok h hp (tv.ok.cut tv.few a) tv.few (tv.le _ hm) k1 hwf).bind ?_
  rintro _ (⟨l, rfl, hw, e⟩ | ⟨rfl, e⟩)
  · rw [k2] at e
    simp [eq_nil_natL, hw.ne]
    rw [← e] at hQ
    simpa using T.pure hQ
  · rw [k2] at e
    have e2 : cmpF .Eq (.lst []) (.lst []) = some true := by decide
    simp [e2]
    have e3 : (p.kd (fun t => desc par hp a (seat t)) != desc par hp a (seat (leastS ns))) = true := by
      cases q1 : p.kd (fun t => desc par hp a (seat t)) <;> cases q2 : desc par hp a (seat (leastS ns)) <;> first | rfl | (rw [q1, q2] at e; exact absurd rfl e)
    rw [e3] at hQ
    exact T.pure hQ
/-- such a lot is a parting, if it is one -/
theorem cutL_part {ns : List Str} (f : Str → Bool) (hne : cutL ns f ≠ []) : cutL ns f ∈ parts (ordS ns) := by
  unfold cutL leastS at *
  cases e : ordS ns with
  | nil => rw [e] at hne; exact absurd rfl hne
  | cons t0 tail =>
    rw [e] at hne
    simp only [List.headD_cons, List.filter_cons, bne_self_eq_false, Bool.false_eq_true, if_false] at hne ⊢
    refine parts_mem.mpr ⟨?_, hne⟩
    have := filter_lots (fun t => f t != f t0) tail [[]] [] (by simp)
    simpa [lots] using this
theorem cutL_has {ns : List Str} (f : Str → Bool) : ∀ t ∈ ns, (cutL ns f).contains t = (f t != f (leastS ns)) := fun t ht => by
  have mt : t ∈ ordS ns := (ordS_perm ns).mem_iff.mpr ht
  unfold cutL
  cases q : f t != f (leastS ns) with
  | true => simpa using ⟨mt, by simpa using q⟩
  | false => simpa using fun _ => (by simpa using q)
theorem ne_unit {lot : List Str} (nm : ∀ t ∈ lot, nameT t = true) : cmpF .NotEq (tupL lot) (.tup []) = some (!lot.isEmpty) := by
  have o1 : okD (tupL lot) = true := okD_tupL fun t ht => nameT_noD (nm t ht)
  have o2 : okD (.tup []) = true := by decide
  have oc : cmpOk (tupL lot) (.tup []) = true := by simp [cmpOk, o1, o2]
  show (if cmpOk (tupL lot) (.tup []) then some (eqPV (tupL lot) (.tup [])) else none).map (!·) = _
  rw [oc]
  cases lot <;> rfl
theorem cutL_nm {ns : List Str} (hn : Names ns) (f : Str → Bool) : ∀ t ∈ cutL ns f, nameT t = true := fun t ht =>
  hn.nm t ((ordS_perm ns).mem_iff.mp (List.mem_filter.mp ht).1)
end FL
namespace FL
open FW
open PySem L2
variable {P : Prog} {wf n : Nat}
structure Has08 (P : Prog) : Prop extends Has P, HasD P, HasB P where
  is_side : P.fn (Str.ofString "is_side") = some d_is_side
  words : P.fn (Str.ofString "_law_words") = some d_law_words
  towns : P.fn (Str.ofString "_law_towns") = some d_law_towns
  point : P.fn (Str.ofString "_law_point") = some d_law_point
  mixed : P.fn (Str.ofString "_law_mixed") = some d_law_mixed
  tree : P.fn (Str.ofString "_law_tree") = some d_law_tree
  path : P.fn (Str.ofString "_law_path") = some d_law_path
  knot : P.fn (Str.ofString "_law_knot") = some d_law_knot
  lots' : P.fn (Str.ofString "_law_lots") = some d_law_lots
  lies : P.fn (Str.ofString "_law_lies") = some d_law_lies
  cut_off : P.fn (Str.ofString "_law_cut_off") = some d_law_cut_off
  behind : P.fn (Str.ofString "_law_behind") = some d_law_behind
  law : P.fn (Str.ofString "law") = some d_law08
theorem repr2 (b : Bool) : ∃ s, biF "repr" [.lst [.bl b, .bl b]] = some (.str s) := by
  have h : (okD (.lst [.bl b, .bl b]) && (toD (.lst [.bl b, .bl b])).showable && decide ((toD (.lst [.bl b, .bl b])).shown.length ≤ LIM)) = true := by
    cases b <;> decide +kernel
  exact ⟨_, if_pos h⟩
theorem law08 (h : Has08 P) (hwf : 4 ≤ wf) (hwf2 : Bp 13 < wf) (ns : List Int) (hl : ns.length ≤ 63) : ∃ d', callF P wf (n + 20) (Str.ofString "law") [.scr ns] none = .ok (.bl true) d' := by
  have eL : biF "len" [.scr ns] = some (.int ns.length) := rfl
  rw [callF_of h.law rfl]
  simp [d_law08, start']
  obtain ⟨q, hb⟩ := begin_ok (wf := wf) (n := n + 18) h.toHasD hl
  refine law_end hb (T.out fun Q hQ => ?_)
  have hQ := hQ _ rfl
  simp [eL]
  rw [rngM_int (by split <;> omega), M.pure_bind]
  refine T.thru (fun fl => ∃ ls, fl = .nx ls) (fun P' hP => T.for (fun _ ls => ∃ (x2 x3 x4 x5 x6 x7 x8 x9 x10 x11 : Slot), ls = [some (false, .scr ns), some (false, .drw), x2, x3, x4, x5, x6, x7, x8, x9, x10, x11]) ⟨none, none, none, none, none, none, none, none, none, none, rfl⟩ ?_ fun ls _ => hP _ ⟨ls, rfl⟩) ?_
  · rintro J R' hJ - x r ls hx ⟨x2, x3, x4, x5, x6, x7, x8, x9, x10, x11, rfl⟩
    rw [turnF_of (by simp; rfl)]
    simp [-M.ite_bind]
    refine (towns_ok h.toHasD h.words h.towns (m := 6) (by decide) (by decide)).bind ?_
    rintro v ⟨ts, rfl, hn, -⟩
    have h0 : 0 < ts.length := Nat.lt_of_lt_of_le (by decide) hn.lo
    have W : ∀ {l lot : List Str} (_ : Names l) (p : Pt), lot ∈ parts (ordS l) → p.In l → p.dep ≤ 5 → callF P wf (n + 19) (Str.ofString "is_beyond") [.lst (strL l), tupL lot, p.pv] = M.pure (.bl (p.sd lot)) := fun hn p hl hp dp =>
      is_beyond_ok (n := n + 15) h.toHas h.is_side h.toHasB hn hl (.inl rfl) hp (by omega)
    have pr : ts.Perm ts.reverse := (List.reverse_perm ts).symm
    have er : (strL ts).reverse = strL ts.reverse := (List.map_reverse).symm
    simp [-M.ite_bind, lawlots_ok (n := n + 18) h.lots' hn]
    rw [rngM_int (by omega), M.pure_bind]
    refine T.thru (fun fl => ∃ (y5 y6 y7 y8 y9 y10 y11 : Slot), fl = .nx [some (false, .scr ns), some (false, .drw), some (false, x), some (false, .lst (strL ts)), some (false, .lst ((parts (ordS ts)).map tupL)), y5, y6, y7, y8, y9, y10, y11]) ?_ ?_
    · intro P' hP
      refine T.for (fun _ ls => ∃ (y5 y6 y7 y8 y9 y10 y11 : Slot), ls = [some (false, .scr ns), some (false, .drw), some (false, x), some (false, .lst (strL ts)), some (false, .lst ((parts (ordS ts)).map tupL)), y5, y6, y7, y8, y9, y10, y11]) ⟨_, _, _, _, _, _, _, rfl⟩ ?_ (fun ls ⟨y5, y6, y7, y8, y9, y10, y11, e⟩ => hP _ ⟨y5, y6, y7, y8, y9, y10, y11, by rw [e]⟩)
      rintro J2 R2 hJ2 - y q ls hy ⟨y5, y6, y7, y8, y9, y10, y11, rfl⟩
      rw [turnF_of (by simp; rfl)]
      simp [-M.ite_bind, LIM]
      refine (pick_ok h.toHasD (xs := [.int 1, .int 2, .int 4]) (by simp) (by simp)).bind ?_
      intro dv hdv
      have : ∃ k : Nat, dv = .int k ∧ k ≤ 4 := by
        simp only [List.mem_cons, List.not_mem_nil, or_false] at hdv
        rcases hdv with rfl | rfl | rfl
        · exact ⟨1, rfl, by decide⟩
        · exact ⟨2, rfl, by decide⟩
        · exact ⟨4, rfl, by decide⟩
      obtain ⟨k, rfl, hk⟩ := this
      refine (point_ok h.toHasD h.point h0 hn.hi k (n := n + 15) (by omega) (by omega)).bind ?_
      rintro _ ⟨p, rfl, hp, dp⟩
      have lotm : 0 < (parts (ordS ts)).length := by
        have : (ordS ts).tail ∈ parts (ordS ts) := by
          refine parts_mem.mpr ⟨?_, fun e => ?_⟩
          · have := filter_lots (fun _ => true) (ordS ts).tail [[]] [] (by simp)
            rw [List.filter_eq_self.mpr (fun _ _ => rfl)] at this
            exact this
          · have l1 := (ordS_perm ts).length_eq
            have l2 := congrArg List.length e
            rw [List.length_tail, List.length_nil] at l2
            have := hn.lo
            omega
        exact List.length_pos_of_mem this
      have lotl : (parts (ordS ts)).length ≤ 32 := by
        refine Nat.le_trans (parts_len _) ?_
        have := hn.ord.1
        exact Nat.pow_le_pow_right (show 0 < 2 by decide) (show (ordS ts).length - 1 ≤ 5 by omega)
      refine (pick_ok h.toHasD (xs := (parts (ordS ts)).map tupL) (by simpa using lotm) (by simp; omega)).bind ?_
      intro lv hlv
      obtain ⟨lot, hlot, rfl⟩ := List.mem_map.mp hlv
      obtain ⟨s2, hs2⟩ := repr2 (p.sd lot)
      have hlot' : lot ∈ parts (ordS ts.reverse) := by rw [← ord_perm pr]; exact hlot
      have W2 := W (hn.perm pr) p hlot' (hp.mono fun t ht => List.mem_reverse.mpr ht) (by omega)
      simp [-M.ite_bind, lies_ok (n := n + 18) h.lies (show p.dep ≤ n + 18 by omega), W hn p hlot hp (by omega), pick, er, W2, hs2, ne_same]
      exact T.nx (hJ2 _ _ ⟨_, _, _, _, _, _, _, rfl⟩)
    · rintro fl ⟨y5, y6, y7, y8, y9, y10, y11, rfl⟩
      simp [-M.ite_bind]
      refine (take_ok h.toHasD 11 (by decide) (by decide)).bind ?_
      rintro v ⟨k, rfl, hk⟩
      simp [-M.ite_bind]
      rw [show (2 + (k : Int)) = (((k + 1) + 1 : Nat) : Int) by omega]
      refine (tree_ok h.toHasD h.mixed h.tree hn (m := k + 1) (s := 9) (by omega) (by decide) (by decide) hwf).bind ?_
      rintro tv ⟨par, rs, seat, hp, htv, hrs⟩
      rw [rngM_int (by omega), M.pure_bind]
      refine T.thru (fun fl => ∃ (y5 y6 y7 y8 y9 y11 : Slot), fl = .nx [some (false, .scr ns), some (false, .drw), some (false, x), some (false, .lst (strL ts)), some (false, .lst ((parts (ordS ts)).map tupL)), y5, y6, y7, y8, y9, some (false, tv), y11]) ?_ ?_
      · intro P' hP
        refine T.for (fun _ ls => ∃ (y5 y6 y7 y8 y9 y11 : Slot), ls = [some (false, .scr ns), some (false, .drw), some (false, x), some (false, .lst (strL ts)), some (false, .lst ((parts (ordS ts)).map tupL)), y5, y6, y7, y8, y9, some (false, tv), y11]) ⟨_, _, _, _, _, _, rfl⟩ ?_ (fun ls ⟨y5, y6, y7, y8, y9, y11, e⟩ => hP _ ⟨y5, y6, y7, y8, y9, y11, by rw [e]⟩)
        rintro J2 R2 hJ2 - y q ls hy ⟨y5, y6, y7, y8, y9, y11, rfl⟩
        rw [turnF_of (by simp; rfl)]
        simp [-M.ite_bind]
        refine (point_ok h.toHasD h.point h0 hn.hi 3 (n := n + 15) (by omega) (by omega)).bind ?_
        rintro _ ⟨p, rfl, ip, dp⟩
        have r1 : subF tv (.str (Str.ofString "rows")) = some (.lst (rs.map rowV)) := htv.rows
        have r2 : biF "len" [.lst (rs.map rowV)] = some (.int rs.length) := by simp [biF, bi1, lenF]
        simp [-M.ite_bind, r1, r2]
        have hfew := htv.few
        rw [rngM_int (by omega), M.pure_bind]
        refine T.thru (fun fl => ∃ (y7 y8 y11 : Slot), fl = .nx [some (false, .scr ns), some (false, .drw), some (false, x), some (false, .lst (strL ts)), some (false, .lst ((parts (ordS ts)).map tupL)), some (false, y), some (false, p.pv), y7, y8, y9, some (false, tv), y11]) ?_ ?_
        · intro P' hP
          refine T.for (fun _ ls => ∃ (y7 y8 y11 : Slot), ls = [some (false, .scr ns), some (false, .drw), some (false, x), some (false, .lst (strL ts)), some (false, .lst ((parts (ordS ts)).map tupL)), some (false, y), some (false, p.pv), y7, y8, y9, some (false, tv), y11]) ⟨_, _, _, rfl⟩ ?_ (fun ls ⟨y7, y8, y11, e⟩ => hP _ ⟨y7, y8, y11, by rw [e]⟩)
          rintro J3 R3 hJ3 - z q3 ls hz ⟨y7, y8, y11, rfl⟩
          obtain ⟨a, ha, rfl⟩ : ∃ a : Nat, a < rs.length ∧ z = .int a := by
            obtain ⟨i, hi, rfl⟩ := List.mem_map.mp hz
            exact ⟨i, by simpa using hi, by simp⟩
          rw [turnF_of (by simp; rfl)]
          simp [-M.ite_bind]
          refine (cut_off_ok (n := n + 17) h.path h.cut_off hn hp htv ha hwf2).bind ?_
          rintro _ rfl
          refine (behind_ok (n := n + 16) h.path h.behind h.knot hn hp htv ha hwf2 ip (by omega)).bind ?_
          rintro _ rfl
          have e1 := ne_unit (cutL_nm hn fun t => desc par hp a (seat t))
          by_cases hne : cutL ts (fun t => desc par hp a (seat t)) = []
          · simp [-M.ite_bind, e1, hne]
            exact T.nx (hJ3 _ _ ⟨_, _, _, rfl⟩)
          · have hpt := cutL_part _ hne
            have e3 : p.sd (cutL ts fun t => desc par hp a (seat t)) = (p.kd (fun t => desc par hp a (seat t)) != desc par hp a (seat (leastS ts))) := sd_kd (cutL_has _) ip
            simp [-M.ite_bind, e1, hne, W hn p hpt ip (by omega), e3]
            exact T.nx (hJ3 _ _ ⟨_, _, _, rfl⟩)
        · rintro fl ⟨y7, y8, y11, rfl⟩
          simp
          exact T.nx (hJ2 _ _ ⟨_, _, _, _, _, _, rfl⟩)
      · rintro fl ⟨y5, y6, y7, y8, y9, y11, rfl⟩
        simp
        exact T.nx (hJ _ _ ⟨_, _, _, _, _, _, _, _, _, _, rfl⟩)
  · rintro fl ⟨ls, rfl⟩
    simp
    exact T.pure hQ
end FL
namespace LW
open PySem PySem.Spec PyProof.Rows L2 FW
abbrev R : PySem.W.OpenRow := PySem.W.OpenLaw.row PySem.Challenge.rw_forkways_k08_points_beyond_partings
def top (i : Nat) : Stmt := PySem.Challenge.pw_forkways_k08_points_beyond_partings.main.body.getD i (.Pass ⟨0, 0, 0, 0⟩)
/-- is_list: thing -/
def d_is_list : FnD := ⟨1, 1,
 (Ss.cons (S.ret (E.isin (E.var 0) ["list", "tuple"]))
 Ss.nil)⟩
def i_d_is_list : DefI := ⟨(Str.ofString "is_list"), top 11, [(Str.ofString "thing")], [(Str.ofString "thing")], d_is_list⟩
/-- is_name: thing, sign -/
def d_is_name : FnD := ⟨1, 2,
 (Ss.cons (S.ife (E.or (E.not (E.isin (E.var 0) ["str"])) (E.not (E.chain .LtE .LtE (E.int 1) (E.bi "len" (Es.cons (E.var 0) Es.nil)) (E.glob (Str.ofString "MOST_LETTERS")))))
 (Ss.cons (S.ret (E.bl false))
 Ss.nil)
 Ss.nil)
 (Ss.cons (S.ret (E.bi "all" (Es.cons (E.lc (E.cmp .In (E.var 1) (E.glob (Str.ofString "LETTERS"))) (G.nm 1) (I.seq (E.var 0)) C.no [1]) Es.nil)))
 Ss.nil))⟩
def i_d_is_name : DefI := ⟨(Str.ofString "is_name"), top 12, [(Str.ofString "thing")], [(Str.ofString "thing"), (Str.ofString "sign")], d_is_name⟩
/-- is_places: thing, name -/
def d_is_places : FnD := ⟨1, 2,
 (Ss.cons (S.ife (E.or (E.not (E.call (Str.ofString "is_list") (Es.cons (E.var 0) Es.nil))) (E.not (E.chain .LtE .LtE (E.glob (Str.ofString "LEAST_PLACES")) (E.bi "len" (Es.cons (E.var 0) Es.nil)) (E.glob (Str.ofString "MOST_PLACES")))))
 (Ss.cons (S.ret (E.bl false))
 Ss.nil)
 Ss.nil)
 (Ss.cons (S.ret (E.and (E.bi "all" (Es.cons (E.lc (E.call (Str.ofString "is_name") (Es.cons (E.var 1) Es.nil)) (G.nm 1) (I.seq (E.var 0)) C.no [1]) Es.nil)) (E.cmp .Eq (E.lenset (E.var 0)) (E.bi "len" (Es.cons (E.var 0) Es.nil)))))
 Ss.nil))⟩
def i_d_is_places : DefI := ⟨(Str.ofString "is_places"), top 13, [(Str.ofString "thing")], [(Str.ofString "thing"), (Str.ofString "name")], d_is_places⟩
/-- ordered: places -/
def d_ordered : FnD := ⟨1, 1,
 (Ss.cons (S.ret (E.bi "tuple" (Es.cons (E.bi "sorted" (Es.cons (E.var 0) Es.nil)) Es.nil)))
 Ss.nil)⟩
def i_d_ordered : DefI := ⟨(Str.ofString "ordered"), top 14, [(Str.ofString "places")], [(Str.ofString "places")], d_ordered⟩
/-- need_places: places -/
def d_need_places : FnD := ⟨1, 1,
 (Ss.cons (S.ife (E.not (E.call (Str.ofString "is_places") (Es.cons (E.var 0) Es.nil)))
 (Ss.cons S.nev
 Ss.nil)
 Ss.nil)
 (Ss.cons (S.ret (E.call (Str.ofString "ordered") (Es.cons (E.var 0) Es.nil)))
 Ss.nil))⟩
def i_d_need_places : DefI := ⟨(Str.ofString "need_places"), top 15, [(Str.ofString "places")], [(Str.ofString "places")], d_need_places⟩
/-- is_point_of: names, thing, point -/
def d_is_point_of : FnD := ⟨2, 3,
 (Ss.cons (S.ife (E.isin (E.var 1) ["str"])
 (Ss.cons (S.ret (E.cmp .In (E.var 1) (E.var 0)))
 Ss.nil)
 Ss.nil)
 (Ss.cons (S.ife (E.or (E.not (E.isin (E.var 1) ["tuple"])) (E.or (E.cmp .NotEq (E.bi "len" (Es.cons (E.var 1) Es.nil)) (E.int 4)) (E.or (E.not (E.isin (E.sub (E.var 1) (E.int 0)) ["str"])) (E.cmp .NotEq (E.sub (E.var 1) (E.int 0)) (E.glob (Str.ofString "FORK"))))))
 (Ss.cons (S.ret (E.bl false))
 Ss.nil)
 Ss.nil)
 (Ss.cons (S.ret (E.bi "all" (Es.cons (E.lc (E.call (Str.ofString "is_point_of") (Es.cons (E.var 0) (Es.cons (E.var 2) Es.nil))) (G.nm 2) (I.seq (E.slc (E.var 1) (C.yes (E.int 1)) C.no)) C.no [2]) Es.nil)))
 Ss.nil)))⟩
def i_d_is_point_of : DefI := ⟨(Str.ofString "is_point_of"), top 16, [(Str.ofString "names"), (Str.ofString "thing")], [(Str.ofString "names"), (Str.ofString "thing"), (Str.ofString "point")], d_is_point_of⟩
/-- need_point: names, point -/
def d_need_point : FnD := ⟨2, 2,
 (Ss.cons (S.ife (E.not (E.call (Str.ofString "is_point_of") (Es.cons (E.var 0) (Es.cons (E.var 1) Es.nil))))
 (Ss.cons S.nev
 Ss.nil)
 Ss.nil)
 Ss.nil)⟩
def i_d_need_point : DefI := ⟨(Str.ofString "need_point"), top 17, [(Str.ofString "names"), (Str.ofString "point")], [(Str.ofString "names"), (Str.ofString "point")], d_need_point⟩
/-- is_parting_of: names, thing, name -/
def d_is_parting_of : FnD := ⟨2, 3,
 (Ss.cons (S.ife (E.or (E.not (E.isin (E.var 1) ["tuple"])) (E.cmp .Eq (E.bi "len" (Es.cons (E.var 1) Es.nil)) (E.int 0)))
 (Ss.cons (S.ret (E.bl false))
 Ss.nil)
 Ss.nil)
 (Ss.cons (S.ife (E.not (E.bi "all" (Es.cons (E.lc (E.and (E.isin (E.var 2) ["str"]) (E.cmp .In (E.var 2) (E.slc (E.var 0) (C.yes (E.int 1)) C.no))) (G.nm 2) (I.seq (E.var 1)) C.no [2]) Es.nil)))
 (Ss.cons (S.ret (E.bl false))
 Ss.nil)
 Ss.nil)
 (Ss.cons (S.ret (E.cmp .Eq (E.bi "list" (Es.cons (E.var 1) Es.nil)) (E.sortset (E.var 1))))
 Ss.nil)))⟩
def i_d_is_parting_of : DefI := ⟨(Str.ofString "is_parting_of"), top 19, [(Str.ofString "names"), (Str.ofString "thing")], [(Str.ofString "names"), (Str.ofString "thing"), (Str.ofString "name")], d_is_parting_of⟩
/-- need_parting: names, parting -/
def d_need_parting : FnD := ⟨2, 2,
 (Ss.cons (S.ife (E.not (E.call (Str.ofString "is_parting_of") (Es.cons (E.var 0) (Es.cons (E.var 1) Es.nil))))
 (Ss.cons S.nev
 Ss.nil)
 Ss.nil)
 Ss.nil)⟩
def i_d_need_parting : DefI := ⟨(Str.ofString "need_parting"), top 20, [(Str.ofString "names"), (Str.ofString "parting")], [(Str.ofString "names"), (Str.ofString "parting")], d_need_parting⟩
/-- is_side: parting, point, other -/
def d_is_side : FnD := ⟨2, 3,
 (Ss.cons (S.ife (E.isin (E.var 1) ["str"])
 (Ss.cons (S.ret (E.cmp .In (E.var 1) (E.var 0)))
 Ss.nil)
 Ss.nil)
 (Ss.cons (S.ret (E.cmp .Gt (E.bi "sum" (Es.cons (E.lc (E.bi "int" (Es.cons (E.call (Str.ofString "is_side") (Es.cons (E.var 0) (Es.cons (E.var 2) Es.nil))) Es.nil)) (G.nm 2) (I.seq (E.slc (E.var 1) (C.yes (E.int 1)) C.no)) C.no [2]) Es.nil)) (E.int 1)))
 Ss.nil))⟩
def i_d_is_side : DefI := ⟨(Str.ofString "is_side"), top 21, [(Str.ofString "parting"), (Str.ofString "point")], [(Str.ofString "parting"), (Str.ofString "point"), (Str.ofString "other")], d_is_side⟩
/-- is_beyond: places, parting, point, names -/
def d_is_beyond : FnD := ⟨3, 4,
 (Ss.cons (S.set (G.nm 3) (E.call (Str.ofString "need_places") (Es.cons (E.var 0) Es.nil)))
 (Ss.cons (S.expr (E.call (Str.ofString "need_parting") (Es.cons (E.var 3) (Es.cons (E.var 1) Es.nil))))
 (Ss.cons (S.expr (E.call (Str.ofString "need_point") (Es.cons (E.var 3) (Es.cons (E.var 2) Es.nil))))
 (Ss.cons (S.ret (E.call (Str.ofString "is_side") (Es.cons (E.var 1) (Es.cons (E.var 2) Es.nil))))
 Ss.nil))))⟩
def i_d_is_beyond : DefI := ⟨(Str.ofString "is_beyond"), top 22, [(Str.ofString "places"), (Str.ofString "parting"), (Str.ofString "point")], [(Str.ofString "places"), (Str.ofString "parting"), (Str.ofString "point"), (Str.ofString "names")], d_is_beyond⟩
/-- _law_begin: _law_script, _law_great, _law_cell -/
def d_law_begin : FnD := ⟨1, 3,
 (Ss.cons (S.own 1 (E.lc (E.bin .Sub (E.bi "abs" (Es.cons (E.var 2) Es.nil)) (E.bin .Pow (E.int 10) (E.int 18))) (G.nm 2) (I.seq (E.var 0)) (C.yes (E.cmp .GtE (E.bi "abs" (Es.cons (E.var 2) Es.nil)) (E.bin .Pow (E.int 10) (E.int 18)))) [2]))
 (Ss.cons (S.drnew 1 (E.lc (E.bi "abs" (Es.cons (E.var 2) Es.nil)) (G.nm 2) (I.seq (E.var 0)) C.no [2]))
 Ss.nil))⟩
def i_d_law_begin : DefI := ⟨(Str.ofString "_law_begin"), top 24, [(Str.ofString "_law_script")], [(Str.ofString "_law_script"), (Str.ofString "_law_great"), (Str.ofString "_law_cell")], d_law_begin⟩
/-- _law_blend: _law_draw, _law_turn, _law_found, _law_prime, _law_blend_here, _law_cell -/
def d_law_blend : FnD := ⟨1, 6,
 (Ss.cons (S.set (G.nm 1) (E.bin .Add (E.dr (E.var 0) 1) (E.int 1)))
 (Ss.cons (S.drset 0 1 (E.var 1))
 (Ss.cons (S.set (G.nm 2) (E.int 0))
 (Ss.cons (S.for_ (G.nm 3) (I.seq (E.lst (Es.cons (E.int 2147483629) (Es.cons (E.int 2147483587) (Es.cons (E.int 2147483579) (Es.cons (E.int 2147483563) Es.nil))))))
 (Ss.cons (S.set (G.nm 4) (E.bin .Mod (E.bi "int" (Es.cons (E.bin .Add (E.bin .Mult (E.var 1) (E.int 69621)) (E.bin .FloorDiv (E.var 3) (E.int 7))) Es.nil)) (E.var 3)))
 (Ss.cons (S.for_ (G.nm 5) (I.seq (E.dr (E.var 0) 2))
 (Ss.cons (S.set (G.nm 4) (E.bin .Mod (E.bi "int" (Es.cons (E.bin .Add (E.bin .Mult (E.var 4) (E.int 48271)) (E.var 5)) Es.nil)) (E.var 3)))
 Ss.nil))
 (Ss.cons (S.set (G.nm 2) (E.bin .Add (E.bin .Mult (E.var 2) (E.int 2147483647)) (E.bin .Mod (E.bi "int" (Es.cons (E.bin .Pow (E.var 4) (E.int 5)) Es.nil)) (E.var 3))))
 Ss.nil))))
 (Ss.cons (S.ret (E.var 2))
 Ss.nil)))))⟩
def i_d_law_blend : DefI := ⟨(Str.ofString "_law_blend"), top 25, [(Str.ofString "_law_draw")], [(Str.ofString "_law_draw"), (Str.ofString "_law_turn"), (Str.ofString "_law_found"), (Str.ofString "_law_prime"), (Str.ofString "_law_blend_here"), (Str.ofString "_law_cell")], d_law_blend⟩
/-- _law_take: _law_draw, _law_many, _law_found -/
def d_law_take : FnD := ⟨2, 3,
 (Ss.cons (S.ife (E.and (E.cmp .Eq (E.dr (E.var 0) 0) (E.int 0)) (E.drge (E.var 0)))
 (Ss.cons (S.drpop 0)
 Ss.nil)
 Ss.nil)
 (Ss.cons (S.ife (E.cmp .Eq (E.dr (E.var 0) 0) (E.int 0))
 (Ss.cons (S.drset 0 0 (E.call (Str.ofString "_law_blend") (Es.cons (E.var 0) Es.nil)))
 Ss.nil)
 Ss.nil)
 (Ss.cons (S.set (G.nm 2) (E.bin .Mod (E.bi "int" (Es.cons (E.dr (E.var 0) 0) Es.nil)) (E.var 1)))
 (Ss.cons (S.drset 0 0 (E.bin .FloorDiv (E.dr (E.var 0) 0) (E.var 1)))
 (Ss.cons (S.ret (E.var 2))
 Ss.nil)))))⟩
def i_d_law_take : DefI := ⟨(Str.ofString "_law_take"), top 26, [(Str.ofString "_law_draw"), (Str.ofString "_law_many")], [(Str.ofString "_law_draw"), (Str.ofString "_law_many"), (Str.ofString "_law_found")], d_law_take⟩
/-- _law_pick: _law_draw, _law_some -/
def d_law_pick : FnD := ⟨2, 2,
 (Ss.cons (S.ret (E.sub (E.var 1) (E.call (Str.ofString "_law_take") (Es.cons (E.var 0) (Es.cons (E.bi "len" (Es.cons (E.var 1) Es.nil)) Es.nil)))))
 Ss.nil)⟩
def i_d_law_pick : DefI := ⟨(Str.ofString "_law_pick"), top 27, [(Str.ofString "_law_draw"), (Str.ofString "_law_some")], [(Str.ofString "_law_draw"), (Str.ofString "_law_some")], d_law_pick⟩
/-- _law_mixed: _law_draw, _law_some, _law_left, _law_found -/
def d_law_mixed : FnD := ⟨2, 4,
 (Ss.cons (S.par [2, 3] [true, true] (Es.cons (E.bi "list" (Es.cons (E.var 1) Es.nil)) (Es.cons (E.lst Es.nil) Es.nil)))
 (Ss.cons (S.whl (E.cmp .NotEq (E.var 2) (E.lst Es.nil))
 (Ss.cons (S.appPop 3 2 (E.call (Str.ofString "_law_take") (Es.cons (E.var 0) (Es.cons (E.bi "len" (Es.cons (E.var 2) Es.nil)) Es.nil))))
 Ss.nil))
 (Ss.cons (S.ret (E.var 3))
 Ss.nil)))⟩
def i_d_law_mixed : DefI := ⟨(Str.ofString "_law_mixed"), top 28, [(Str.ofString "_law_draw"), (Str.ofString "_law_some")], [(Str.ofString "_law_draw"), (Str.ofString "_law_some"), (Str.ofString "_law_left"), (Str.ofString "_law_found")], d_law_mixed⟩
/-- _law_words: _law_draw, _law_count, _law_letters, _law_found, _law_some, _law_k, _law_word, _law_span, _law_near, _law_letter, _law_j, _law_uno -/
def d_law_words : FnD := ⟨2, 12,
 (Ss.cons (S.par [2, 3] [false, true] (Es.cons (E.str (Str.ofString "abcdefghijklmnopqrstuvwxyz")) (Es.cons (E.lst Es.nil) Es.nil)))
 (Ss.cons (S.set (G.nm 4) (E.lst (Es.cons (E.str (Str.ofString "a")) (Es.cons (E.str (Str.ofString "b")) (Es.cons (E.str (Str.ofString "fork")) (Es.cons (E.str (Str.ofString "forks")) (Es.cons (E.str (Str.ofString "f")) (Es.cons (E.str (Str.ofString "most")) (Es.cons (E.str (Str.ofString "tell")) (Es.cons (E.str (Str.ofString "none")) (Es.cons (E.str (Str.ofString "places")) (Es.cons (E.str (Str.ofString "zzzzzzzz")) Es.nil))))))))))))
 (Ss.cons (S.for_ (G.nm 5) (I.rng1 (E.var 1))
 (Ss.cons (S.set (G.nm 6) (E.call (Str.ofString "_law_pick") (Es.cons (E.var 0) (Es.cons (E.var 4) Es.nil))))
 (Ss.cons (S.ife (E.cmp .Gt (E.call (Str.ofString "_law_take") (Es.cons (E.var 0) (Es.cons (E.int 3) Es.nil))) (E.int 0))
 (Ss.cons (S.set (G.nm 7) (E.bin .Add (E.int 1) (E.call (Str.ofString "_law_take") (Es.cons (E.var 0) (Es.cons (E.call (Str.ofString "_law_pick") (Es.cons (E.var 0) (Es.cons (E.lst (Es.cons (E.int 1) (Es.cons (E.int 2) (Es.cons (E.int 8) Es.nil)))) Es.nil))) Es.nil)))))
 (Ss.cons (S.set (G.nm 6) (E.join (E.str (Str.ofString "")) (E.lc (E.call (Str.ofString "_law_pick") (Es.cons (E.var 0) (Es.cons (E.var 2) Es.nil))) (G.nm 10) (I.rng1 (E.var 7)) C.no [10])))
 Ss.nil))
 Ss.nil)
 (Ss.cons (S.set (G.nm 8) (E.bin .Add (E.lst (Es.cons (E.var 6) Es.nil)) (E.lc (E.bin .Add (E.slc (E.var 6) C.no (C.yes (E.int 7))) (E.var 9)) (G.nm 9) (I.seq (E.var 2)) C.no [9])))
 (Ss.cons (S.app 3 (E.sub (E.lc (E.var 11) (G.nm 11) (I.seq (E.var 8)) (C.yes (E.cmp .NotIn (E.var 11) (E.var 3))) [11]) (E.int 0)))
 Ss.nil)))))
 (Ss.cons (S.ret (E.var 3))
 Ss.nil))))⟩
def i_d_law_words : DefI := ⟨(Str.ofString "_law_words"), top 29, [(Str.ofString "_law_draw"), (Str.ofString "_law_count")], [(Str.ofString "_law_draw"), (Str.ofString "_law_count"), (Str.ofString "_law_letters"), (Str.ofString "_law_found"), (Str.ofString "_law_some"), (Str.ofString "_law_k"), (Str.ofString "_law_word"), (Str.ofString "_law_span"), (Str.ofString "_law_near"), (Str.ofString "_law_letter"), (Str.ofString "_law_j"), (Str.ofString "_law_uno")], d_law_words⟩
/-- _law_towns: _law_draw, _law_most -/
def d_law_towns : FnD := ⟨2, 2,
 (Ss.cons (S.ret (E.call (Str.ofString "_law_words") (Es.cons (E.var 0) (Es.cons (E.bin .Add (E.int 2) (E.call (Str.ofString "_law_take") (Es.cons (E.var 0) (Es.cons (E.bin .Sub (E.var 1) (E.int 1)) Es.nil)))) Es.nil))))
 Ss.nil)⟩
def i_d_law_towns : DefI := ⟨(Str.ofString "_law_towns"), top 30, [(Str.ofString "_law_draw"), (Str.ofString "_law_most")], [(Str.ofString "_law_draw"), (Str.ofString "_law_most")], d_law_towns⟩
/-- _law_lots: _law_names, _law_found, _law_word, _law_lot -/
def d_law_lots : FnD := ⟨1, 4,
 (Ss.cons (S.set (G.nm 1) (E.lst (Es.cons (E.lst Es.nil) Es.nil)))
 (Ss.cons (S.for_ (G.nm 2) (I.seq (E.slc (E.bi "sorted" (Es.cons (E.var 0) Es.nil)) (C.yes (E.int 1)) C.no))
 (Ss.cons (S.set (G.nm 1) (E.bin .Add (E.var 1) (E.lc (E.bin .Add (E.var 3) (E.lst (Es.cons (E.var 2) Es.nil))) (G.nm 3) (I.seq (E.var 1)) C.no [3])))
 Ss.nil))
 (Ss.cons (S.ret (E.bi "sorted" (Es.cons (E.lc (E.bi "tuple" (Es.cons (E.var 3) Es.nil)) (G.nm 3) (I.seq (E.var 1)) (C.yes (E.cmp .NotEq (E.var 3) (E.lst Es.nil))) [3]) Es.nil)))
 Ss.nil)))⟩
def i_d_law_lots : DefI := ⟨(Str.ofString "_law_lots"), top 31, [(Str.ofString "_law_names")], [(Str.ofString "_law_names"), (Str.ofString "_law_found"), (Str.ofString "_law_word"), (Str.ofString "_law_lot")], d_law_lots⟩
/-- _law_point: _law_draw, _law_names, _law_deep, _law_k -/
def d_law_point : FnD := ⟨3, 4,
 (Ss.cons (S.ife (E.or (E.cmp .Eq (E.var 2) (E.int 0)) (E.cmp .Eq (E.call (Str.ofString "_law_take") (Es.cons (E.var 0) (Es.cons (E.int 3) Es.nil))) (E.int 0)))
 (Ss.cons (S.ret (E.call (Str.ofString "_law_pick") (Es.cons (E.var 0) (Es.cons (E.var 1) Es.nil))))
 Ss.nil)
 Ss.nil)
 (Ss.cons (S.ret (E.bin .Add (E.tup (Es.cons (E.str (Str.ofString "fork")) Es.nil)) (E.bi "tuple" (Es.cons (E.lc (E.call (Str.ofString "_law_point") (Es.cons (E.var 0) (Es.cons (E.var 1) (Es.cons (E.bin .Sub (E.var 2) (E.int 1)) Es.nil)))) (G.nm 3) (I.rng1 (E.int 3)) C.no [3]) Es.nil))))
 Ss.nil))⟩
def i_d_law_point : DefI := ⟨(Str.ofString "_law_point"), top 32, [(Str.ofString "_law_draw"), (Str.ofString "_law_names"), (Str.ofString "_law_deep")], [(Str.ofString "_law_draw"), (Str.ofString "_law_names"), (Str.ofString "_law_deep"), (Str.ofString "_law_k")], d_law_point⟩
/-- _law_lies: _law_lot, _law_point_here, _law_kid -/
def d_law_lies : FnD := ⟨2, 3,
 (Ss.cons (S.ife (E.isin (E.var 1) ["str"])
 (Ss.cons (S.ret (E.cmp .In (E.var 1) (E.var 0)))
 Ss.nil)
 Ss.nil)
 (Ss.cons (S.ret (E.cmp .Gt (E.bi "len" (Es.cons (E.lc (E.int 1) (G.nm 2) (I.seq (E.slc (E.var 1) (C.yes (E.int 1)) C.no)) (C.yes (E.call (Str.ofString "_law_lies") (Es.cons (E.var 0) (Es.cons (E.var 2) Es.nil)))) [2]) Es.nil)) (E.int 1)))
 Ss.nil))⟩
def i_d_law_lies : DefI := ⟨(Str.ofString "_law_lies"), top 33, [(Str.ofString "_law_lot"), (Str.ofString "_law_point_here")], [(Str.ofString "_law_lot"), (Str.ofString "_law_point_here"), (Str.ofString "_law_kid")], d_law_lies⟩
/-- _law_tree: _law_draw, _law_names, _law_knots, _law_span, _law_rows, _law_knot_here, _law_pair, _law_word -/
def d_law_tree : FnD := ⟨4, 8,
 (Ss.cons (S.own 4 (E.lst Es.nil))
 (Ss.cons (S.for_ (G.nm 5) (I.rng2 (E.int 1) (E.var 2))
 (Ss.cons (S.set (G.nm 6) (E.call (Str.ofString "_law_mixed") (Es.cons (E.var 0) (Es.cons (E.lst (Es.cons (E.var 5) (Es.cons (E.call (Str.ofString "_law_take") (Es.cons (E.var 0) (Es.cons (E.var 5) Es.nil))) Es.nil))) Es.nil))))
 (Ss.cons (S.app 4 (E.tup (Es.cons (E.sub (E.var 6) (E.int 0)) (Es.cons (E.sub (E.var 6) (E.int 1)) (Es.cons (E.bin .Add (E.int 1) (E.call (Str.ofString "_law_take") (Es.cons (E.var 0) (Es.cons (E.var 3) Es.nil)))) Es.nil)))))
 Ss.nil)))
 (Ss.cons (S.ret (E.dct false (Es.cons (E.str (Str.ofString "seats")) (Es.cons (E.str (Str.ofString "rows")) Es.nil)) (Es.cons (E.bi "dict" (Es.cons (E.lc (E.tup (Es.cons (E.var 7) (Es.cons (E.call (Str.ofString "_law_take") (Es.cons (E.var 0) (Es.cons (E.var 2) Es.nil))) Es.nil))) (G.nm 7) (I.seq (E.var 1)) C.no [7]) Es.nil)) (Es.cons (E.var 4) Es.nil))))
 Ss.nil)))⟩
def i_d_law_tree : DefI := ⟨(Str.ofString "_law_tree"), top 34, [(Str.ofString "_law_draw"), (Str.ofString "_law_names"), (Str.ofString "_law_knots"), (Str.ofString "_law_span")], [(Str.ofString "_law_draw"), (Str.ofString "_law_names"), (Str.ofString "_law_knots"), (Str.ofString "_law_span"), (Str.ofString "_law_rows"), (Str.ofString "_law_knot_here"), (Str.ofString "_law_pair"), (Str.ofString "_law_word")], d_law_tree⟩
/-- _law_path: _law_rows, _law_begin_here, _law_goal, _law_line, _law_trail, _law_uno, _law_duo, _law_span, _law_here, _law_there -/
def d_law_path : FnD := ⟨3, 10,
 (Ss.cons (S.own 3 (E.lst (Es.cons (E.lst (Es.cons (E.var 1) Es.nil)) Es.nil)))
 (Ss.cons (S.whl (E.cmp .NotEq (E.var 3) (E.lst Es.nil))
 (Ss.cons (S.setPop 4 3)
 (Ss.cons (S.ife (E.cmp .Eq (E.sub (E.var 4) (E.neg (E.int 1))) (E.var 2))
 (Ss.cons (S.ret (E.var 4))
 Ss.nil)
 Ss.nil)
 (Ss.cons (S.for_ (G.tp [5, 6, 7]) (I.seq (E.var 0))
 (Ss.cons (S.for_ (G.tp [8, 9]) (I.seq (E.lst (Es.cons (E.tup (Es.cons (E.var 5) (Es.cons (E.var 6) Es.nil))) (Es.cons (E.tup (Es.cons (E.var 6) (Es.cons (E.var 5) Es.nil))) Es.nil))))
 (Ss.cons (S.ife (E.and (E.cmp .Eq (E.var 8) (E.sub (E.var 4) (E.neg (E.int 1)))) (E.cmp .NotIn (E.var 9) (E.var 4)))
 (Ss.cons (S.app 3 (E.bin .Add (E.var 4) (E.lst (Es.cons (E.var 9) Es.nil))))
 Ss.nil)
 Ss.nil)
 Ss.nil))
 Ss.nil))
 Ss.nil))))
 (Ss.cons (S.ret (E.lst Es.nil))
 Ss.nil)))⟩
def i_d_law_path : DefI := ⟨(Str.ofString "_law_path"), top 35, [(Str.ofString "_law_rows"), (Str.ofString "_law_begin_here"), (Str.ofString "_law_goal")], [(Str.ofString "_law_rows"), (Str.ofString "_law_begin_here"), (Str.ofString "_law_goal"), (Str.ofString "_law_line"), (Str.ofString "_law_trail"), (Str.ofString "_law_uno"), (Str.ofString "_law_duo"), (Str.ofString "_law_span"), (Str.ofString "_law_here"), (Str.ofString "_law_there")], d_law_path⟩
/-- _law_knot: _law_tree_here, _law_point_here, _law_uno, _law_two, _law_three, _law_first, _law_second, _law_last, _law_kid, _law_knot_here -/
def d_law_knot : FnD := ⟨2, 10,
 (Ss.cons (S.ife (E.isin (E.var 1) ["str"])
 (Ss.cons (S.ret (E.sub (E.sub (E.var 0) (E.str (Str.ofString "seats"))) (E.var 1)))
 Ss.nil)
 Ss.nil)
 (Ss.cons (S.set (G.tp [2, 3, 4]) (E.lc (E.call (Str.ofString "_law_knot") (Es.cons (E.var 0) (Es.cons (E.var 8) Es.nil))) (G.nm 8) (I.seq (E.slc (E.var 1) (C.yes (E.int 1)) C.no)) C.no [8]))
 (Ss.cons (S.par [5, 6] [false, false] (Es.cons (E.call (Str.ofString "_law_path") (Es.cons (E.sub (E.var 0) (E.str (Str.ofString "rows"))) (Es.cons (E.var 2) (Es.cons (E.var 3) Es.nil)))) (Es.cons (E.call (Str.ofString "_law_path") (Es.cons (E.sub (E.var 0) (E.str (Str.ofString "rows"))) (Es.cons (E.var 3) (Es.cons (E.var 4) Es.nil)))) Es.nil)))
 (Ss.cons (S.set (G.nm 7) (E.call (Str.ofString "_law_path") (Es.cons (E.sub (E.var 0) (E.str (Str.ofString "rows"))) (Es.cons (E.var 4) (Es.cons (E.var 2) Es.nil)))))
 (Ss.cons (S.ret (E.sub (E.lc (E.var 9) (G.nm 9) (I.seq (E.var 5)) (C.yes (E.and (E.cmp .In (E.var 9) (E.var 6)) (E.cmp .In (E.var 9) (E.var 7)))) [9]) (E.int 0)))
 Ss.nil)))))⟩
def i_d_law_knot : DefI := ⟨(Str.ofString "_law_knot"), top 36, [(Str.ofString "_law_tree_here"), (Str.ofString "_law_point_here")], [(Str.ofString "_law_tree_here"), (Str.ofString "_law_point_here"), (Str.ofString "_law_uno"), (Str.ofString "_law_two"), (Str.ofString "_law_three"), (Str.ofString "_law_first"), (Str.ofString "_law_second"), (Str.ofString "_law_last"), (Str.ofString "_law_kid"), (Str.ofString "_law_knot_here")], d_law_knot⟩
/-- _law_cut_off: _law_tree_here, _law_names, _law_at, _law_rows, _law_least, _law_word -/
def d_law_cut_off : FnD := ⟨3, 6,
 (Ss.cons (S.set (G.nm 3) (E.bin .Add (E.slc (E.sub (E.var 0) (E.str (Str.ofString "rows"))) C.no (C.yes (E.var 2))) (E.slc (E.sub (E.var 0) (E.str (Str.ofString "rows"))) (C.yes (E.bin .Add (E.var 2) (E.int 1))) C.no)))
 (Ss.cons (S.set (G.nm 4) (E.sub (E.sub (E.var 0) (E.str (Str.ofString "seats"))) (E.sub (E.bi "sorted" (Es.cons (E.var 1) Es.nil)) (E.int 0))))
 (Ss.cons (S.ret (E.bi "tuple" (Es.cons (E.lc (E.var 5) (G.nm 5) (I.seq (E.bi "sorted" (Es.cons (E.var 1) Es.nil))) (C.yes (E.cmp .Eq (E.call (Str.ofString "_law_path") (Es.cons (E.var 3) (Es.cons (E.var 4) (Es.cons (E.sub (E.sub (E.var 0) (E.str (Str.ofString "seats"))) (E.var 5)) Es.nil)))) (E.lst Es.nil))) [5]) Es.nil)))
 Ss.nil)))⟩
def i_d_law_cut_off : DefI := ⟨(Str.ofString "_law_cut_off"), top 37, [(Str.ofString "_law_tree_here"), (Str.ofString "_law_names"), (Str.ofString "_law_at")], [(Str.ofString "_law_tree_here"), (Str.ofString "_law_names"), (Str.ofString "_law_at"), (Str.ofString "_law_rows"), (Str.ofString "_law_least"), (Str.ofString "_law_word")], d_law_cut_off⟩
/-- _law_behind: _law_tree_here, _law_names, _law_at, _law_point_here, _law_rows, _law_least -/
def d_law_behind : FnD := ⟨4, 6,
 (Ss.cons (S.set (G.nm 4) (E.bin .Add (E.slc (E.sub (E.var 0) (E.str (Str.ofString "rows"))) C.no (C.yes (E.var 2))) (E.slc (E.sub (E.var 0) (E.str (Str.ofString "rows"))) (C.yes (E.bin .Add (E.var 2) (E.int 1))) C.no)))
 (Ss.cons (S.set (G.nm 5) (E.sub (E.sub (E.var 0) (E.str (Str.ofString "seats"))) (E.sub (E.bi "sorted" (Es.cons (E.var 1) Es.nil)) (E.int 0))))
 (Ss.cons (S.ret (E.cmp .Eq (E.call (Str.ofString "_law_path") (Es.cons (E.var 4) (Es.cons (E.var 5) (Es.cons (E.call (Str.ofString "_law_knot") (Es.cons (E.var 0) (Es.cons (E.var 3) Es.nil))) Es.nil)))) (E.lst Es.nil)))
 Ss.nil)))⟩
def i_d_law_behind : DefI := ⟨(Str.ofString "_law_behind"), top 38, [(Str.ofString "_law_tree_here"), (Str.ofString "_law_names"), (Str.ofString "_law_at"), (Str.ofString "_law_point_here")], [(Str.ofString "_law_tree_here"), (Str.ofString "_law_names"), (Str.ofString "_law_at"), (Str.ofString "_law_point_here"), (Str.ofString "_law_rows"), (Str.ofString "_law_least")], d_law_behind⟩
/-- law: _law_script, _law_draw, _law_turn, _law_names, _law_lots_here, _law_lap, _law_point_here, _law_lot, _law_due, _law_found, _law_tree_here, _law_at -/
def d_law : FnD := ⟨1, 12,
 (Ss.cons (S.set (G.nm 1) (E.call (Str.ofString "_law_begin") (Es.cons (E.var 0) Es.nil)))
 (Ss.cons (S.for_ (G.nm 2) (I.rng1 (E.bin .Add (E.int 4) (E.bi "min" (Es.cons (E.bi "len" (Es.cons (E.var 0) Es.nil)) (Es.cons (E.int 8) Es.nil)))))
 (Ss.cons (S.set (G.nm 3) (E.call (Str.ofString "_law_towns") (Es.cons (E.var 1) (Es.cons (E.int 6) Es.nil))))
 (Ss.cons (S.set (G.nm 4) (E.call (Str.ofString "_law_lots") (Es.cons (E.var 3) Es.nil)))
 (Ss.cons (S.for_ (G.nm 5) (I.rng1 (E.int 8))
 (Ss.cons (S.par [6, 7] [false, false] (Es.cons (E.call (Str.ofString "_law_point") (Es.cons (E.var 1) (Es.cons (E.var 3) (Es.cons (E.call (Str.ofString "_law_pick") (Es.cons (E.var 1) (Es.cons (E.lst (Es.cons (E.int 1) (Es.cons (E.int 2) (Es.cons (E.int 4) Es.nil)))) Es.nil))) Es.nil)))) (Es.cons (E.call (Str.ofString "_law_pick") (Es.cons (E.var 1) (Es.cons (E.var 4) Es.nil))) Es.nil)))
 (Ss.cons (S.set (G.nm 8) (E.call (Str.ofString "_law_lies") (Es.cons (E.var 7) (Es.cons (E.var 6) Es.nil))))
 (Ss.cons (S.set (G.nm 9) (E.lst (Es.cons (E.call (Str.ofString "is_beyond") (Es.cons (E.var 3) (Es.cons (E.var 7) (Es.cons (E.var 6) Es.nil)))) (Es.cons (E.callK (Str.ofString "is_beyond") Es.nil (Es.cons (E.var 6) (Es.cons (E.var 7) (Es.cons (E.rev (E.var 3)) Es.nil))) [(Str.ofString "point"), (Str.ofString "parting"), (Str.ofString "places")] [2, 1, 0]) Es.nil))))
 (Ss.cons (S.ife (E.cmp .NotEq (E.bi "repr" (Es.cons (E.var 9) Es.nil)) (E.bi "repr" (Es.cons (E.lst (Es.cons (E.var 8) (Es.cons (E.var 8) Es.nil))) Es.nil)))
 (Ss.cons (S.ret (E.bl false))
 Ss.nil)
 Ss.nil)
 Ss.nil)))))
 (Ss.cons (S.set (G.nm 10) (E.call (Str.ofString "_law_tree") (Es.cons (E.var 1) (Es.cons (E.var 3) (Es.cons (E.bin .Add (E.int 2) (E.call (Str.ofString "_law_take") (Es.cons (E.var 1) (Es.cons (E.int 11) Es.nil)))) (Es.cons (E.int 9) Es.nil))))))
 (Ss.cons (S.for_ (G.nm 5) (I.rng1 (E.int 3))
 (Ss.cons (S.set (G.nm 6) (E.call (Str.ofString "_law_point") (Es.cons (E.var 1) (Es.cons (E.var 3) (Es.cons (E.int 3) Es.nil)))))
 (Ss.cons (S.for_ (G.nm 11) (I.rng1 (E.bi "len" (Es.cons (E.sub (E.var 10) (E.str (Str.ofString "rows"))) Es.nil)))
 (Ss.cons (S.set (G.nm 7) (E.call (Str.ofString "_law_cut_off") (Es.cons (E.var 10) (Es.cons (E.var 3) (Es.cons (E.var 11) Es.nil)))))
 (Ss.cons (S.set (G.nm 8) (E.call (Str.ofString "_law_behind") (Es.cons (E.var 10) (Es.cons (E.var 3) (Es.cons (E.var 11) (Es.cons (E.var 6) Es.nil))))))
 (Ss.cons (S.ife (E.and (E.cmp .NotEq (E.var 7) (E.tup Es.nil)) (E.cmp .NotEq (E.call (Str.ofString "is_beyond") (Es.cons (E.var 3) (Es.cons (E.var 7) (Es.cons (E.var 6) Es.nil)))) (E.var 8)))
 (Ss.cons (S.ret (E.bl false))
 Ss.nil)
 Ss.nil)
 Ss.nil))))
 Ss.nil)))
 Ss.nil))))))
 (Ss.cons (S.ret (E.bl true))
 Ss.nil)))⟩
def i_d_law : DefI := ⟨(Str.ofString "law"), top 39, [(Str.ofString "_law_script")], [(Str.ofString "_law_script"), (Str.ofString "_law_draw"), (Str.ofString "_law_turn"), (Str.ofString "_law_names"), (Str.ofString "_law_lots_here"), (Str.ofString "_law_lap"), (Str.ofString "_law_point_here"), (Str.ofString "_law_lot"), (Str.ofString "_law_due"), (Str.ofString "_law_found"), (Str.ofString "_law_tree_here"), (Str.ofString "_law_at")], d_law⟩
def tbl : List DefI := [i_d_is_list, i_d_is_name, i_d_is_places, i_d_ordered, i_d_need_places, i_d_is_point_of, i_d_need_point, i_d_is_parting_of, i_d_need_parting, i_d_is_side, i_d_is_beyond, i_d_law_begin, i_d_law_blend, i_d_law_take, i_d_law_pick, i_d_law_mixed, i_d_law_words, i_d_law_towns, i_d_law_lots, i_d_law_point, i_d_law_lies, i_d_law_tree, i_d_law_path, i_d_law_knot, i_d_law_cut_off, i_d_law_behind, i_d_law]
def gls : List (Str × PV) := [((Str.ofString "LETTERS"), .str (Str.ofString "abcdefghijklmnopqrstuvwxyz")), ((Str.ofString "MOST_LETTERS"), .int 8), ((Str.ofString "LEAST_PLACES"), .int 2), ((Str.ofString "MOST_PLACES"), .int 6), ((Str.ofString "FORK"), .str (Str.ofString "fork"))]
def loose0 : List Str := [(Str.ofString "RiverError"), (Str.ofString "BadPlaces"), (Str.ofString "BadPoint"), (Str.ofString "BadParting"), (Str.ofString "LETTERS"), (Str.ofString "MOST_LETTERS"), (Str.ofString "LEAST_PLACES"), (Str.ofString "MOST_PLACES"), (Str.ofString "FORK"), (Str.ofString "is_list"), (Str.ofString "is_name"), (Str.ofString "is_places"), (Str.ofString "ordered"), (Str.ofString "need_places"), (Str.ofString "is_point_of"), (Str.ofString "need_point"), (Str.ofString "is_parting_of"), (Str.ofString "need_parting"), (Str.ofString "is_side"), (Str.ofString "is_beyond"), (Str.ofString "_law_begin"), (Str.ofString "_law_blend"), (Str.ofString "_law_take"), (Str.ofString "_law_pick"), (Str.ofString "_law_mixed"), (Str.ofString "_law_words"), (Str.ofString "_law_towns"), (Str.ofString "_law_lots"), (Str.ofString "_law_point"), (Str.ofString "_law_lies")]
def loose1 : List Str := [(Str.ofString "_law_tree"), (Str.ofString "_law_path"), (Str.ofString "_law_knot"), (Str.ofString "_law_cut_off"), (Str.ofString "_law_behind")]
def loose : List Str := loose0 ++ loose1
def lawAt : Nat := 39
def steps : Nat := 4000
end LW
namespace LW
open PySem PySem.Spec PyProof.Rows L2 FW
def fa : List He.Fa := fasOf tbl gls
def fn : List He.DefD := tbl.map defD
abbrev hk : PySem.W.Hook := He.hookD 5 fa fn
def ob (s : PySem.W.SharedT) : He.AlD := He.obsDG 5 fa fn (HandSHeadRun.getT s)
theorem ob_eq (s : PySem.W.SharedT) : ob s = hk.obs s.abs := He.obsDG_eq (HandSHeadRun.getT_eq s)
theorem run (w : World) : HandSHeadRun.RunEq R (PySem.W.view R.prog [lawAt]) hk ob steps loose w := by
  intro os
  kernel_rfl
end LW
namespace LW
open PySem PySem.Spec PyProof.Rows L2 FW
theorem chk_all : tbl.all (fun e => chkFn (psOf tbl) e) = true := by decide +kernel
theorem has : FL.Has08 (progOf tbl gls) where
  is_list := by kernel_rfl
  is_name := by kernel_rfl
  is_places := by kernel_rfl
  ordered := by kernel_rfl
  need_places := by kernel_rfl
  is_point_of := by kernel_rfl
  need_point := by kernel_rfl
  letters := by kernel_rfl
  most_letters := by kernel_rfl
  least_places := by kernel_rfl
  most_places := by kernel_rfl
  fork := by kernel_rfl
  pick := by kernel_rfl
  begin_ := by kernel_rfl
  blend := by kernel_rfl
  take := by kernel_rfl
  is_parting_of := by kernel_rfl
  need_parting := by kernel_rfl
  is_beyond := by kernel_rfl
  is_side := by kernel_rfl
  words := by kernel_rfl
  towns := by kernel_rfl
  point := by kernel_rfl
  mixed := by kernel_rfl
  tree := by kernel_rfl
  path := by kernel_rfl
  knot := by kernel_rfl
  lots' := by kernel_rfl
  lies := by kernel_rfl
  cut_off := by kernel_rfl
  behind := by kernel_rfl
  law := by kernel_rfl
theorem find_law : (tbl.find? fun e => decide (e.name = ("law" : Str))) = some i_d_law := by kernel_rfl
end LW
open PySem PySem.W PySem.Calls PyProof.Rows FW
theorem PySem.Challenge.cw_forkways_k08_points_beyond_partings_holds : PySem.Challenge.rw_forkways_k08_points_beyond_partings.Holds := by
  w_on; o_law
  refine HandSHeadRun.head_any (r := OpenLaw.row PySem.Challenge.rw_forkways_k08_points_beyond_partings) (q := view (OpenLaw.row PySem.Challenge.rw_forkways_k08_points_beyond_partings).prog [LW.lawAt]) (H := LW.hk) (ob := LW.ob) (M := LW.steps) (loose := LW.loose) (d := HandSHeadRun.topDef (OpenLaw.row PySem.Challenge.rw_forkways_k08_points_beyond_partings).prog LW.lawAt) (kwd := []) LW.ob_eq
    (by kernel_rfl) (fun s => by kernel_rfl) LW.run (by kernel_rfl) (by kernel_rfl) (by kernel_rfl) (by rfl) (by first | assumption | decide +kernel) (by decide +kernel) ⟨rfl, rfl, rfl, rfl, rfl, by decide +kernel⟩ ?hw ?hc
  case hw => w_witness2
  case hc =>
    refine FW.walk_g (l := PySem.Challenge.rw_forkways_k08_points_beyond_partings) (n := 63) (k := 20) (x := "_law_script") (CX := L2.CX0) rfl (by decide) (by kernel_rfl) ⟨rfl, by decide, by decide⟩ ?F (fun _ _ _ _ z => z)
    intro w mg fa h Y G hmg0
    obtain ⟨K, KX, c⟩ := Y
    have hmg : mg ("law" : PySem.Str) = some (.ref fa) := by
      have e : (HandSHeadRun.topDef (OpenLaw.row PySem.Challenge.rw_forkways_k08_points_beyond_partings).prog LW.lawAt).name = ("law" : PySem.Str) := by kernel_rfl
      rw [← e]
      exact hmg0
    obtain ⟨fd, sp, hb, hs, hF⟩ := FW.law_F (P := (PySem.Challenge.rw_forkways_k08_points_beyond_partings).prog) (w := w) (tbl := LW.tbl) (gls := LW.gls) (n := 20) (x := "_law_script") (e := LW.i_d_law) KX G hmg c (by decide +kernel) (List.all_eq_true.mp LW.chk_all) LW.find_law rfl
      fun ns hl => ⟨FL.Bp 13 + 5, FL.law08 (n := 0) LW.has (by omega) (by omega) ns hl⟩
    exact ⟨K, fd, sp, KX, hb, hs, hF⟩
