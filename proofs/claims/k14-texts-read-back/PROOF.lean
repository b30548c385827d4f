import PyProof.Rows.All
import Wide.All
import OpenK.AllK
import Wide.FinOn
import HandS.ForMost
import HandS.Exc
import HandS.HeadHook1
import HandS.Wide
import HandS.WideMore
import HandS.TupAny
import HandS.Deep
import HandS.SortInts
import HandS.Flow
import PyProof.StrOps2
import KE.GoesMore
import KE.GoesEnum
import HandS.IsInst
import HandS.WideBits
import HandS.StrMore
import HandS.Style
import HandS.Text
import HandS.Defaults
import HandS.HeadEnd
import HandS.HeadHook2
import HandS.Head2
import HandS.ExcInit
import HandS.ExcIs
import HandS.ExcField
import HandS.Small
import HandS.WordsExc
import HandS.TryMany
import KE.KExcIs
import PyProof.ListRange
import PyProof.CollectIter
import PyProof.FactsAll.range_iterator_1
import HandS.RevRange
import HandS.SetFor
import HandS.Strs
import HandS.Zip
import PySem.Challenge.RW_calmwires_k14_texts_read_back
set_option Elab.async false
set_option linter.all false
set_option maxRecDepth 100000
/-! CW: what a text of Python does, as plain functions over plain data. -/
namespace CW
open PySem PySem.Spec PyProof.Rows L2

abbrev St := L2.St
/-! ### data -/
inductive D where
  | non | bl (b : Bool) | int (i : Int) | str (s : Str)
  | tup (xs : List D) | lst (xs : List D)
  | dic (lk tt : Bool) (ks vs : List D)
  | exn (c : Str) (fs : List D)
  | scr (ns : List Int)
  | cst (zs : List Str)
  deriving Inhabited

abbrev Env := List (Option D)

/-- the answer of an expression, of a call -/
inductive Out (α : Type) where
  | ok (a : α) | exc (x : D) | stuck

namespace Out
variable {α β : Type}
def bind : Out α → (α → Out β) → Out β
  | .ok a, k => k a
  | .exc x, _ => .exc x
  | .stuck, _ => .stuck
@[simp] theorem bind_ok (a : α) (k : α → Out β) : (Out.ok a).bind k = k a := (rfl)
@[simp] theorem bind_exc (x : D) (k : α → Out β) : (Out.exc x).bind k = .exc x := (rfl)
@[simp] theorem bind_stuck (k : α → Out β) : (Out.stuck).bind k = .stuck := (rfl)
end Out

/-- the end of a statement -/
inductive Fl where
  | nx (r : Env) | ret (d : D) | bk (r : Env) | ct (r : Env) | exc (x : D) (r : Env) | stuck

/-! ### data in the heap -/
def fieldsOf (n : Str) : List Str :=
  if n = "NoText" then ["line"] else if n = "Broken" then ["way"] else if n = "Crowded" then ["way"]
  else if n = "CalledOff" then ["way", "lost", "by"] else if n = "Clash" then ["one", "other", "wire"] else []

/-- an exception of the class cls, its dict dd, stands at a -/
def exH (cls : Value) (dd : Option Addr) (a : Addr) : HO := .ext fun h => ∃ (oe : Obj) (vs : Array Value), h.get? a = some oe ∧ Zc cls dd oe ∧ oe.data = .fields vs
/-- where an exception's fields stand -/
def XDict (F : Hp) (n : Str) (dd : Option Addr) (vs : List V) : Prop := (fieldsOf n = [] ∧ dd = none) ∨ ∃ d, dd = some d ∧ Rd F d (.xd ((fieldsOf n).zip vs).reverse)

def keyD : Key → D
  | .inl i => .int i
  | .inr s => .str s

/-- a dict at a, perhaps locked -/
def DAt (F : Hp) (a : Addr) (u : HO) : Bool → Prop
  | true => ∃ o, F a = some (.frz o u)
  | false => Rd F a u
mutual
inductive DR (K : PySem.W.Frag) (F : Hp) : V → D → Prop
  | non : DR K F .non .non
  | bl (b : Bool) : DR K F (.bl b) (.bl b)
  | int (i : Int) : DR K F (.int i) (.int i)
  | str (s : Str) : DR K F (.str s) (.str s)
  | tup {a : Addr} {xs : List V} {ds : List D} : F a = some (.tup xs) → DRs K F xs ds → DR K F (.ref a) (.tup ds)
  | cst {a : Addr} {zs : List Str} : SqT K F a (zs.map V.str) → DR K F (.ref a) (.cst zs)
  | lst {a : Addr} {xs : List V} {ds : List D} : Rd F a (.lst xs) → DRs K F xs ds → DR K F (.ref a) (.lst ds)
  | scr {a : Addr} {ns : List Int} : SqL K F a (ns.map V.int) → DR K F (.ref a) (.scr ns)
  | dK {a : Addr} {kvs : List (Key × V)} {lk : Bool} {vs : List D} : DAt F a (.dK kvs) lk → DRs K F (kvs.map (·.2)) vs → DR K F (.ref a) (.dic lk false (kvs.map fun p => keyD p.1) vs)
  | dT {a : Addr} {kvs : List (List Key × V)} {lk : Bool} {vs : List D} : DAt F a (.dT kvs) lk → DRs K F (kvs.map (·.2)) vs → DR K F (.ref a) (.dic lk true (kvs.map fun p => .tup (p.1.map keyD)) vs)
  | exn {a : Addr} {n : Str} {dd : Option Addr} {vs : List V} {fs : List D} : Rd F a (exH (.ref (He.ga K n)) dd a) → XDict F n dd vs → vs.length = (fieldsOf n).length → DRs K F vs fs → DR K F (.ref a) (.exn n fs)
inductive DRs (K : PySem.W.Frag) (F : Hp) : List V → List D → Prop
  | nil : DRs K F [] []
  | cons {v : V} {vs : List V} {d : D} {ds : List D} : DR K F v d → DRs K F vs ds → DRs K F (v :: vs) (d :: ds)
end

/-- what can be read in F can be read in G -/
structure Sub (F G : Hp) : Prop where
  rd : ∀ a u, Rd F a u → Rd G a u
  tp : ∀ a xs, F a = some (.tup xs) → G a = some (.tup xs)
  fz : ∀ a o u, F a = some (.frz o u) → G a = some (.frz o u)
theorem Sub.refl (F : Hp) : Sub F F := ⟨fun _ _ h => h, fun _ _ h => h, fun _ _ _ h => h⟩
theorem Sub.of_same {F G : Hp} (h : Same F G) : Sub F G := ⟨fun a u r => by
  rcases r with r | ⟨o, r⟩
  · exact .inl (h _ _ r)
  · exact .inr ⟨o, h _ _ r⟩, fun _ _ r => h _ _ r, fun _ _ _ r => h _ _ r⟩
theorem Sub.dat {F G : Hp} {a : Addr} {u : HO} {lk : Bool} (s : Sub F G) (h : DAt F a u lk) : DAt G a u lk := by
  cases lk with
  | true => obtain ⟨o, h⟩ := h; exact ⟨o, s.fz _ _ _ h⟩
  | false => exact s.rd _ _ h
theorem DAt.rd {F : Hp} {a : Addr} {u : HO} {lk : Bool} (h : DAt F a u lk) : Rd F a u := by
  cases lk with
  | true => exact .inr h
  | false => exact h
theorem Sub.sqL {K : PySem.W.Frag} {F G : Hp} {a : Addr} {xs : List V} (s : Sub F G) (h : SqL K F a xs) : SqL K G a xs := by
  rcases h with h | h
  · exact .inl (s.rd _ _ h)
  · exact .inr h
theorem Sub.sqT {K : PySem.W.Frag} {F G : Hp} {a : Addr} {xs : List V} (s : Sub F G) (h : SqT K F a xs) : SqT K G a xs := by
  rcases h with h | h
  · exact .inl (s.rd _ _ h)
  · exact .inr h
theorem Sub.sqP {K : PySem.W.Frag} {F G : Hp} {a : Addr} {xs : List V} (s : Sub F G) (h : F a = some (.tup xs)) : SqT K G a xs := .inl (.inl (s.tp _ _ h))

mutual
theorem DR.mono {K : PySem.W.Frag} {F G : Hp} (s : Sub F G) : ∀ {d : D} {v : V}, DR K F v d → DR K G v d
  | .non, _, h => by cases h; exact .non
  | .bl b, _, h => by cases h; exact .bl b
  | .int i, _, h => by cases h; exact .int i
  | .str x, _, h => by cases h; exact .str x
  | .tup ds, _, h => by
    cases h with
    | tup h1 h2 => exact .tup (s.tp _ _ h1) (DRs.mono s h2)
  | .lst ds, _, h => by
    cases h with
    | lst h1 h2 => exact .lst (s.rd _ _ h1) (DRs.mono s h2)
  | .dic lk tt ks vs, _, h => by
    cases h with
    | dK h1 h2 => exact .dK (s.dat h1) (DRs.mono s h2)
    | dT h1 h2 => exact .dT (s.dat h1) (DRs.mono s h2)
  | .exn c fs, _, h => by
    cases h with
    | exn h1 h2 h3 h4 =>
      refine .exn (s.rd _ _ h1) ?_ h3 (DRs.mono s h4)
      rcases h2 with h2 | ⟨d, e, h2⟩
      · exact .inl h2
      · exact .inr ⟨d, e, s.rd _ _ h2⟩
  | .scr ns, _, h => by
    cases h with
    | scr h1 => exact .scr (s.sqL h1)
  | .cst zs, _, h => by
    cases h with
    | cst h1 => exact .cst (s.sqT h1)
theorem DRs.mono {K : PySem.W.Frag} {F G : Hp} (s : Sub F G) : ∀ {ds : List D} {vs : List V}, DRs K F vs ds → DRs K G vs ds
  | [], _, h => by cases h; exact .nil
  | d :: ds, _, h => by
    cases h with
    | cons h1 h2 => exact .cons (DR.mono s h1) (DRs.mono s h2)
end

section
variable {K : PySem.W.Frag} {F : Hp}
theorem DRs.length : ∀ {vs : List V} {ds : List D}, DRs K F vs ds → vs.length = ds.length
  | _, _, .nil => rfl
  | _, _, .cons _ h => by simp [DRs.length h]
theorem DRs.append : ∀ {vs ws : List V} {ds es : List D}, DRs K F vs ds → DRs K F ws es → DRs K F (vs ++ ws) (ds ++ es)
  | _, _, _, _, .nil, h => h
  | _, _, _, _, .cons h1 h2, h => .cons h1 (h2.append h)
theorem DRs.get : ∀ {vs : List V} {ds : List D} {i : Nat} {d : D}, DRs K F vs ds → ds[i]? = some d → ∃ v, vs[i]? = some v ∧ DR K F v d
  | _, _, _, _, .nil, e => by simp at e
  | _, _, 0, _, .cons h _, e => by simp at e; subst e; exact ⟨_, rfl, h⟩
  | _, _, i + 1, _, .cons _ t, e => by
    obtain ⟨v, h1, h2⟩ := t.get (i := i) (by simpa using e)
    exact ⟨v, by simpa using h1, h2⟩
theorem DRs.getV : ∀ {vs : List V} {ds : List D} {i : Nat} {v : V}, DRs K F vs ds → vs[i]? = some v → ∃ d, ds[i]? = some d ∧ DR K F v d
  | _, _, _, _, .nil, e => by simp at e
  | _, _, 0, _, .cons h _, e => by simp at e; subst e; exact ⟨_, rfl, h⟩
  | _, _, i + 1, _, .cons _ t, e => by
    obtain ⟨v, h1, h2⟩ := t.getV (i := i) (by simpa using e)
    exact ⟨v, by simpa using h1, h2⟩
theorem DRs.take : ∀ {vs : List V} {ds : List D} (n : Nat), DRs K F vs ds → DRs K F (vs.take n) (ds.take n)
  | _, _, 0, _ => .nil
  | _, _, _ + 1, .nil => .nil
  | _, _, n + 1, .cons h t => .cons h (t.take n)
theorem DRs.drop : ∀ {vs : List V} {ds : List D} (n : Nat), DRs K F vs ds → DRs K F (vs.drop n) (ds.drop n)
  | _, _, 0, r => r
  | _, _, _ + 1, .nil => .nil
  | _, _, n + 1, .cons _ t => t.drop n
theorem DRs.set {v : V} {d : D} (h : DR K F v d) : ∀ {vs : List V} {ds : List D} (i : Nat), DRs K F vs ds → DRs K F (vs.set i v) (ds.set i d)
  | _, _, _, .nil => .nil
  | _, _, 0, .cons _ t => .cons h t
  | _, _, i + 1, .cons q t => .cons q (DRs.set h i t)
theorem DRs.one {v : V} {d : D} (h : DR K F v d) : DRs K F [v] [d] := .cons h .nil
theorem DRs.reverse : ∀ {vs : List V} {ds : List D}, DRs K F vs ds → DRs K F vs.reverse ds.reverse
  | _, _, .nil => .nil
  | _, _, .cons h t => by
    rw [List.reverse_cons, List.reverse_cons]
    exact t.reverse.append (.one h)
theorem DRs.of_get : ∀ {vs : List V} {ds : List D}, vs.length = ds.length → (∀ (i : Nat) (v : V) (d : D), vs[i]? = some v → ds[i]? = some d → DR K F v d) → DRs K F vs ds
  | [], [], _, _ => .nil
  | v :: vs, d :: ds, hl, h => .cons (h 0 v d rfl rfl) (DRs.of_get (by simpa using hl) fun i w e h1 h2 => h (i + 1) w e (by simpa using h1) (by simpa using h2))
  | [], _ :: _, hl, _ => by simp at hl
  | _ :: _, [], hl, _ => by simp at hl
theorem DRs.erase : ∀ {vs : List V} {ds : List D} (i : Nat), DRs K F vs ds → DRs K F (vs.eraseIdx i) (ds.eraseIdx i)
  | _, _, _, .nil => .nil
  | _, _, 0, .cons _ t => t
  | _, _, i + 1, .cons q t => .cons q (DRs.erase i t)
theorem DRs.ints : ∀ (ns : List Int), DRs K F (ns.map V.int) (ns.map D.int)
  | [] => .nil
  | n :: ns => .cons (.int n) (DRs.ints ns)
end

/-! ### data without lists -/
mutual
def lf : D → Bool
  | .non => true | .bl _ => true | .int _ => true | .str _ => true
  | .tup ds => lfs ds
  | .lst _ => false
  | .dic _ _ _ _ => false
  | .cst _ => false
  | .exn _ _ => false
  | .scr _ => false
def lfs : List D → Bool
  | [] => true
  | d :: ds => lf d && lfs ds
end
@[simp] theorem lf_non : lf .non = true := by simp [lf]
@[simp] theorem lf_bl (b) : lf (.bl b) = true := by simp [lf]
@[simp] theorem lf_int (b) : lf (.int b) = true := by simp [lf]
@[simp] theorem lf_str (b) : lf (.str b) = true := by simp [lf]
@[simp] theorem lf_tup (b) : lf (.tup b) = lfs b := by simp [lf]
@[simp] theorem lf_lst (b) : lf (.lst b) = false := by simp [lf]
@[simp] theorem lf_dic (l t a b) : lf (.dic l t a b) = false := by simp [lf]
@[simp] theorem lf_cst (a) : lf (.cst a) = false := by simp [lf]
@[simp] theorem lf_exn (a b) : lf (.exn a b) = false := by simp [lf]
@[simp] theorem lf_scr (a) : lf (.scr a) = false := by simp [lf]
theorem lfs_eq : ∀ ds : List D, lfs ds = ds.all lf
  | [] => by simp [lfs]
  | d :: ds => by simp [lfs, lfs_eq ds]
@[simp] theorem lfs_nil : lfs [] = true := by simp [lfs]
@[simp] theorem lfs_cons (d ds) : lfs (d :: ds) = (lf d && lfs ds) := by simp [lfs]
@[simp] theorem lfs_append (a b) : lfs (a ++ b) = (lfs a && lfs b) := by simp [lfs_eq, List.all_append]
theorem lfs_map {α : Type} (f : α → D) (xs : List α) (h : ∀ x ∈ xs, lf (f x) = true) : lfs (xs.map f) = true := by
  rw [lfs_eq, List.all_map, List.all_eq_true]
  exact h
@[simp] theorem lfs_map' {α : Type} (f : α → D) (xs : List α) : lfs (xs.map f) = xs.all fun x => lf (f x) := by
  rw [lfs_eq, List.all_map]; rfl

/-- the tuples of F -/
def Tp (F G : Hp) : Prop := ∀ a xs, F a = some (.tup xs) → G a = some (.tup xs)
mutual
theorem DR.mono_lf {K : PySem.W.Frag} {F G : Hp} (s : Tp F G) : ∀ {d : D} {v : V}, lf d = true → DR K F v d → DR K G v d
  | .non, _, _, h => by cases h; exact .non
  | .bl b, _, _, h => by cases h; exact .bl b
  | .int i, _, _, h => by cases h; exact .int i
  | .str x, _, _, h => by cases h; exact .str x
  | .tup ds, _, l, h => by
    cases h with
    | tup h1 h2 => exact .tup (s _ _ h1) (DRs.mono_lf s (by simpa using l) h2)
  | .lst ds, _, l, h => by simp at l
  | .dic lk tt ks vs, _, l, h => by simp at l
  | .cst zs, _, l, h => by simp at l
  | .exn c fs, _, l, h => by simp at l
  | .scr ns, _, l, h => by simp at l
theorem DRs.mono_lf {K : PySem.W.Frag} {F G : Hp} (s : Tp F G) : ∀ {ds : List D} {vs : List V}, lfs ds = true → DRs K F vs ds → DRs K G vs ds
  | [], _, _, h => by cases h; exact .nil
  | d :: ds, _, l, h => by
    simp only [lfs_cons, Bool.and_eq_true] at l
    cases h with
    | cons h1 h2 => exact .cons (DR.mono_lf s l.1 h1) (DRs.mono_lf s l.2 h2)
end

/-! ### heaps: F the part that is never written again, H all that is tracked -/
structure Ext (F H F' H' : Hp) : Prop where
  ff : Same F F'
  fh : Same F' H'
  hh : Same H H'
  new : ∀ a, F' a ≠ none → F a ≠ none ∨ H a = none
theorem Ext.refl {F H : Hp} (h : Same F H) : Ext F H F H := ⟨Same.refl _, h, Same.refl _, fun _ h => .inl h⟩
theorem Ext.trans {F H F1 H1 F2 H2 : Hp} (a : Ext F H F1 H1) (b : Ext F1 H1 F2 H2) : Ext F H F2 H2 :=
  ⟨a.ff.trans b.ff, b.fh, a.hh.trans b.hh, fun x h => by
    rcases b.new x h with h | h
    · exact a.new x h
    · exact .inr (a.hh.free h)⟩
theorem same_new {H : Hp} {p : Addr} {o : HO} (h : H p = none) : Same H (upd H p o) := fun b x e => by
  rw [upd_ne (ne_of_none e h)]
  exact e
/-- a new object, never to be written -/
theorem Ext.put {F H : Hp} {p : Addr} {o : HO} (s : Same F H) (h : H p = none) : Ext F H (upd F p o) (upd H p o) := by
  have hf : F p = none := s.free h
  refine ⟨same_new hf, fun b x e => ?_, same_new h, fun a ha => ?_⟩
  · by_cases hb : b = p
    · subst hb; rw [upd_same] at e ⊢; exact e
    · rw [upd_ne hb] at e ⊢; exact s _ _ e
  · by_cases hb : a = p
    · subst hb; exact .inr h
    · rw [upd_ne hb] at ha; exact .inl ha
/-- a new object, left open -/
theorem Ext.open {F H : Hp} {p : Addr} {o : HO} (s : Same F H) (h : H p = none) : Ext F H F (upd H p o) :=
  ⟨Same.refl _, s.trans (same_new h), same_new h, fun _ h => .inl h⟩

/-- an exception: its name, its fields -/
def ExR (_mg : Str → Option Value) (K : PySem.W.Frag) (F : Hp) (x : D) (c : Value) (dd : Option Addr) : Prop :=
  ∃ n fs vs, x = .exn n fs ∧ c = .ref (He.ga K n) ∧ XDict F n dd vs ∧ vs.length = (fieldsOf n).length ∧ DRs K F vs fs
theorem XDict.mono {F G : Hp} {n : Str} {dd : Option Addr} {vs : List V} (s : Sub F G) (h : XDict F n dd vs) : XDict G n dd vs := by
  rcases h with h | ⟨d, e, h⟩
  · exact .inl h
  · exact .inr ⟨d, e, s.rd _ _ h⟩
theorem ExR.mono {mg : Str → Option Value} {K : PySem.W.Frag} {F G : Hp} {x : D} {c : Value} {dd : Option Addr} (s : Same F G) (h : ExR mg K F x c dd) : ExR mg K G x c dd := by
  obtain ⟨n, fs, vs, h1, h2, h3, h4, h5⟩ := h
  exact ⟨n, fs, vs, h1, h2, h3.mono (Sub.of_same s), h4, h5.mono (Sub.of_same s)⟩

/-! ### what is wanted behind an expression -/
section
variable {α β γ δ : Type}
def Post (K : PySem.W.Frag) (mg : Str → Option Value) (R : Hp → β → α → Prop) (W : WX) (F H : Hp) (σ : St) (Q : β → Hp → Prop) : Out α → Prop
  | .ok d => ∀ v F' H', Ext F H F' H' → R F' v d → Q v H'
  | .exc x => ∀ c dd F' H', Ext F H F' H' → ExR mg K F' x c dd → W c dd σ H'
  | .stuck => False
theorem Post.ext {K : PySem.W.Frag} {mg : Str → Option Value} {R : Hp → β → α → Prop} {W : WX} {F H F1 H1 : Hp} {σ : St} {Q : β → Hp → Prop} {o : Out α} (e : Ext F H F1 H1) (h : Post K mg R W F H σ Q o) : Post K mg R W F1 H1 σ Q o := by
  cases o with
  | ok d => exact fun v F' H' e' r => h v F' H' (e.trans e') r
  | exc x => exact fun c dd F' H' e' r => h c dd F' H' (e.trans e') r
  | stuck => exact h
theorem Post.bind {K : PySem.W.Frag} {mg : Str → Option Value} {R : Hp → β → α → Prop} {R' : Hp → δ → γ → Prop} {W : WX} {F H : Hp} {σ : St} {Q : β → Hp → Prop} {Q' : δ → Hp → Prop} {o : Out γ} {k : γ → Out α}
    (h : Post K mg R W F H σ Q (o.bind k)) (hk : ∀ d v F1 H1, Ext F H F1 H1 → R' F1 v d → Post K mg R W F1 H1 σ Q (k d) → Q' v H1) : Post K mg R' W F H σ Q' o := by
  cases o with
  | ok d => exact fun v F1 H1 e r => hk d v F1 H1 e r (Post.ext e h)
  | exc x => exact h
  | stuck => exact h
theorem Post.ok {K : PySem.W.Frag} {mg : Str → Option Value} {R : Hp → β → α → Prop} {W : WX} {F H : Hp} {σ : St} {Q : β → Hp → Prop} {d : α} {v : β} (h : Post K mg R W F H σ Q (.ok d)) (s : Same F H) (r : R F v d) : Q v H := h v F H (.refl s) r
end

/-- the frame's slots and the data in them, all frozen -/
def RF (K : PySem.W.Frag) (F H : Hp) (σ : St) (ρ : Env) : Prop :=
  Same F H ∧ σ.length = ρ.length ∧ ∀ (i : Nat) (d : D), ρ[i]? = some (some d) → ∃ v, σ[i]? = some (some v) ∧ DR K F v d
theorem RF.ext {K : PySem.W.Frag} {F H F' H' : Hp} {σ : St} {ρ : Env} (h : RF K F H σ ρ) (e : Ext F H F' H') : RF K F' H' σ ρ :=
  ⟨e.fh, h.2.1, fun i d hi => by
    obtain ⟨v, h1, h2⟩ := h.2.2 i d hi
    exact ⟨v, h1, h2.mono (Sub.of_same e.ff)⟩⟩

/-! ### the judgements: an expression, a list of arguments, a test -/
def dE (K : PySem.W.Frag) (mg : Str → Option Value) (W : WX) (ev : Env → Out D) : TE := fun σ H Q => ∃ F ρ, RF K F H σ ρ ∧ Post K mg (DR K) W F H σ Q (ev ρ)
def dA (K : PySem.W.Frag) (mg : Str → Option Value) (W : WX) (ev : Env → Out (List D)) : TA := fun σ H Q => ∃ F ρ, RF K F H σ ρ ∧ Post K mg (DRs K) W F H σ Q (ev ρ)
def dT (K : PySem.W.Frag) (mg : Str → Option Value) (W : WX) (ev : Env → Out Bool) : TT := fun σ H Q => ∃ F ρ, RF K F H σ ρ ∧ Post K mg (fun _ b c => b = c) W F H σ Q (ev ρ)
def SE (X : Cx) (W : WX) (e : Expr) (ev : Env → Out D) : Prop := PE X e (dE X.K X.mg W ev)
def SA (X : Cx) (W : WX) (es : List Expr) (ev : Env → Out (List D)) : Prop := PA X es (dA X.K X.mg W ev)
def ST (X : Cx) (W : WX) (e : Expr) (ev : Env → Out Bool) : Prop := PT X e (dT X.K X.mg W ev)
def SW (X : Cx) (W : WX) (e : Expr) (ev : Env → Out Bool) : Prop := PW X e (dT X.K X.mg W ev)

section
variable {X : Cx} {W : WX}
theorem SE.of {e : Expr} {t : TE} {ev : Env → Out D} (h : PE X e t) (hs : ∀ F H σ ρ Q, RF X.K F H σ ρ → Post X.K X.mg (DR X.K) W F H σ Q (ev ρ) → t σ H Q) : SE X W e ev :=
  ⟨fun pins s σ H Q I ⟨F, ρ, h1, h2⟩ => h.run pins s σ H Q I (hs F H σ ρ Q h1 h2)⟩
theorem SA.of {es : List Expr} {t : TA} {ev : Env → Out (List D)} (h : PA X es t) (hs : ∀ F H σ ρ Q, RF X.K F H σ ρ → Post X.K X.mg (DRs X.K) W F H σ Q (ev ρ) → t σ H Q) : SA X W es ev :=
  ⟨fun pos pins s σ H Q I ⟨F, ρ, h1, h2⟩ => h.run pos pins s σ H Q I (hs F H σ ρ Q h1 h2)⟩
theorem ST.of {e : Expr} {t : TT} {ev : Env → Out Bool} (h : PT X e t) (hs : ∀ F H σ ρ Q, RF X.K F H σ ρ → Post X.K X.mg (fun _ b c => b = c) W F H σ Q (ev ρ) → t σ H Q) : ST X W e ev :=
  ⟨fun pins s σ H Q I ⟨F, ρ, h1, h2⟩ => h.run pins s σ H Q I (hs F H σ ρ Q h1 h2)⟩
theorem SW.of {e : Expr} {t : TT} {ev : Env → Out Bool} (h : PW X e t) (hs : ∀ F H σ ρ Q, RF X.K F H σ ρ → Post X.K X.mg (fun _ b c => b = c) W F H σ Q (ev ρ) → t σ H Q) : SW X W e ev :=
  ⟨fun wh pins s σ H Q I ⟨F, ρ, h1, h2⟩ => h.run wh pins s σ H Q I (hs F H σ ρ Q h1 h2)⟩

/-! ### names, constants -/
def eV (i : Nat) : Env → Out D := fun ρ => match ρ[i]? with
  | some (some d) => .ok d
  | _ => .stuck
def eC (d : D) : Env → Out D := fun _ => .ok d
theorem se_var (i : Nat) {x : Str} {pos : Pos} (hN : X.N[i]? = some x := by rfl) (hv : Vis X.env.scope x := by first | exact Or.inl rfl | exact Or.inr (Or.inl rfl) | exact Or.inr (Or.inr rfl)) (hd : (x == ("__debug__" : Str)) = false := by decide)
    (hcd : (x == ("__classdict__" : Str)) = false := by decide) : SE X W (.Name x pos) (eV i) := by
  refine .of (pe_var (i := i) hN hv hd hcd) fun F H σ ρ Q h1 h2 => ?_
  unfold eV at h2
  split at h2
  · rename_i d hd
    obtain ⟨v, e, r⟩ := h1.2.2 i d hd
    exact ⟨v, e, h2.ok h1.1 r⟩
  · exact h2.elim
theorem se_C {e : Expr} {v : V} {d : D} (h : PE X e (tC v)) (r : ∀ F, DR X.K F v d) : SE X W e (eC d) :=
  .of h fun F H σ ρ Q h1 h2 => h2.ok h1.1 (r F)
theorem se_int {i j pos} : SE X W (.Constant (.int i) j pos) (eC (.int i)) := se_C pe_int fun _ => .int i
theorem se_bl {i j pos} : SE X W (.Constant (.bool i) j pos) (eC (.bl i)) := se_C pe_bl fun _ => .bl i
theorem se_str {i j pos} : SE X W (.Constant (.str i) j pos) (eC (.str i)) := se_C pe_str fun _ => .str i
theorem se_non {j pos} : SE X W (.Constant .none j pos) (eC .non) := se_C pe_non fun _ => .non

/-! ### operators -/
def eOp (g : D → D → Out D) (a b : Env → Out D) : Env → Out D := fun ρ => (a ρ).bind fun x => (b ρ).bind fun y => g x y
def eUn (g : D → Out D) (a : Env → Out D) : Env → Out D := fun ρ => (a ρ).bind g
/-- an operator on data is what the reading r asks -/
def OpD (K : PySem.W.Frag) (r : R2) (g : D → D → Out D) : Prop := ∀ (mg : Str → Option Value) (W : WX) (F H : Hp) (σ : St) (x y : V) (dx dy : D) (Q : VK), Same F H → DR K F x dx → DR K F y dy → Post K mg (DR K) W F H σ Q (g dx dy) → r x y H Q
def UnD (K : PySem.W.Frag) (r : V → Hp → VK → Prop) (g : D → Out D) : Prop := ∀ (mg : Str → Option Value) (W : WX) (F H : Hp) (σ : St) (x : V) (dx : D) (Q : VK), Same F H → DR K F x dx → Post K mg (DR K) W F H σ Q (g dx) → r x H Q
theorem OpR.or {f : Value → Value → Sem Value} {r r' : R2} (h : OpR X f r) (h' : OpR X f r') : OpR X f fun x y H Q => r x y H Q ∨ r' x y H Q := by
  intro pins s σ H x y v u Q I rx ry q
  rcases q with q | q
  · exact h pins s σ H x y v u Q I rx ry q
  · exact h' pins s σ H x y v u Q I rx ry q
theorem op_sub2 {r : R2} {g : D → D → Out D} (hg : OpD X.K r g) {ea eb : Env → Out D} {F H : Hp} {σ : St} {ρ : Env} {Q : VK} (h1 : RF X.K F H σ ρ) (h2 : Post X.K X.mg (DR X.K) W F H σ Q (eOp g ea eb ρ)) :
    tOp r (dE X.K X.mg W ea) (dE X.K X.mg W eb) σ H Q := by
  refine ⟨F, ρ, h1, Post.bind h2 fun d v F1 H1 e1 r1 q1 => ?_⟩
  refine ⟨F1, ρ, h1.ext e1, Post.bind q1 fun d2 v2 F2 H2 e2 r2 q2 => ?_⟩
  exact hg _ W F2 H2 σ v v2 d d2 Q e2.fh (r1.mono (Sub.of_same e2.ff)) r2 q2
theorem se_bin {op : Operator} {r : R2} {g : D → D → Out D} {a b : Expr} {ea eb : Env → Out D} {pos : Pos} (ho : OpR X (binaryOp op) r) (hg : OpD X.K r g) (ha : SE X W a ea) (hb : SE X W b eb) : SE X W (.BinOp a op b pos) (eOp g ea eb) :=
  .of (pe_op ho ha hb) fun F H σ ρ Q h1 h2 => op_sub2 hg h1 h2
theorem se_cmpG {op : CmpOp} {r : R2} {g : D → D → Out D} {a b : Expr} {ea eb : Env → Out D} {pos : Pos} (ho : OpR X (compareOp op) r) (hg : OpD X.K r g) (ha : SE X W a ea) (hb : SE X W b eb) (hm : behindInMarks op b = false) : SE X W (.Compare a [op] [b] pos) (eOp g ea eb) :=
  .of (pe_cmpR ho ha hb hm) fun F H σ ρ Q h1 h2 => op_sub2 hg h1 h2
theorem se_unG {op : UnaryOp} {r : V → Hp → VK → Prop} {g : D → Out D} {a : Expr} {ea : Env → Out D} {pos : Pos} (ho : UnR X (unaryOp op) r) (hg : UnD X.K r g) (ha : SE X W a ea) : SE X W (.UnaryOp op a pos) (eUn g ea) :=
  .of (pe_un ho ha) fun F H σ ρ Q h1 h2 => by
    refine ⟨F, ρ, h1, Post.bind h2 fun d v F1 H1 e1 r1 q1 => ?_⟩
    exact hg _ W F1 H1 σ v d Q e1.fh r1 q1
/-- an expression that gives a truth, as a test -/
def tB1 (a : Env → Out D) : Env → Out Bool := fun ρ => (a ρ).bind fun d => match d with
  | .bl b => .ok b
  | _ => .stuck
theorem st_cmpG {op : CmpOp} {r : R2} {g : D → D → Out D} {a b : Expr} {ea eb : Env → Out D} {pos : Pos} (ho : OpR X (compareOp op) r) (hg : OpD X.K r g) (ha : SE X W a ea) (hb : SE X W b eb) (hm : behindInMarks op b = false) : ST X W (.Compare a [op] [b] pos) (tB1 (eOp g ea eb)) :=
  .of (pt_cmpR ho ha hb hm) fun F H σ ρ Q h1 h2 => by
    refine op_sub2 (W := W) (ea := ea) (eb := eb) (ρ := ρ) hg h1 ?_
    refine Post.bind h2 fun d v F1 H1 e1 r1 q1 => ?_
    cases r1 with
    | bl c => exact ⟨c, rfl, q1.ok e1.fh rfl⟩
    | _ => exact False.elim q1
end
end CW
namespace CW
open PySem PySem.Spec PyProof.Rows L2

/-! ### equality of data -/
mutual
def py : D → PyData
  | .non => .none | .bl b => .bool b | .int i => .int i | .str s => .str s
  | .tup ds => .tuple (pys ds) | .lst ds => .list (pys ds)
  | .dic _ _ _ _ => .dict [] | .exn _ _ => .dict [] | .scr _ => .dict [] | .cst _ => .dict []
def pys : List D → List PyData
  | [] => []
  | d :: ds => py d :: pys ds
end
mutual
def eqD : D → D → Bool
  | .non, .non => true
  | .bl a, .bl b => a == b
  | .bl a, .int j => (if a then 1 else 0) == j
  | .int i, .bl b => i == (if b then 1 else 0)
  | .int i, .int j => i == j
  | .str x, .str y => x == y
  | .lst xs, .lst ys => eqDs xs ys
  | .tup xs, .tup ys => eqDs xs ys
  | _, _ => false
def eqDs : List D → List D → Bool
  | [], [] => true
  | x :: xs, y :: ys => eqD x y && eqDs xs ys
  | _, _ => false
end
mutual
/-- no deeper than n, no dicts, the texts of code points -/
def okD : Nat → D → Bool
  | _, .non => true | _, .bl _ => true | _, .int _ => true
  | _, .str s => PyData.strOk s
  | 0, .tup _ => false
  | 0, .lst _ => false
  | n + 1, .tup ds => okDs n ds
  | n + 1, .lst ds => okDs n ds
  | _, .dic _ _ _ _ => false | _, .exn _ _ => false | _, .scr _ => false | _, .cst _ => false
def okDs : Nat → List D → Bool
  | _, [] => true
  | n, d :: ds => okD n d && okDs n ds
end
mutual
theorem eqD_py : ∀ d e : D, ∀ n m, okD n d = true → okD m e = true → eqD d e = PyData.eqv (py d) (py e)
  | .non, e, n, m, h, h' => by cases e <;> simp [eqD, py, PyData.eqv, okD] at h' ⊢
  | .bl b, e, n, m, h, h' => by cases e <;> simp [eqD, py, PyData.eqv, okD] at h' ⊢
  | .int b, e, n, m, h, h' => by cases e <;> simp [eqD, py, PyData.eqv, okD] at h' ⊢
  | .str b, e, n, m, h, h' => by cases e <;> simp [eqD, py, PyData.eqv, okD] at h' ⊢
  | .tup ds, e, n, m, h, h' => by
    cases n with
    | zero => simp [okD] at h
    | succ n =>
      cases e with
      | tup es =>
        cases m with
        | zero => simp [okD] at h'
        | succ m =>
          simp only [eqD, py, PyData.eqv]
          exact eqDs_py ds es n m (by simpa [okD] using h) (by simpa [okD] using h')
      | _ => simp [eqD, py, PyData.eqv, okD] at h' ⊢
  | .lst ds, e, n, m, h, h' => by
    cases n with
    | zero => simp [okD] at h
    | succ n =>
      cases e with
      | lst es =>
        cases m with
        | zero => simp [okD] at h'
        | succ m =>
          simp only [eqD, py, PyData.eqv]
          exact eqDs_py ds es n m (by simpa [okD] using h) (by simpa [okD] using h')
      | _ => simp [eqD, py, PyData.eqv, okD] at h' ⊢
  | .dic _ _ _ _, e, n, m, h, h' => by cases n <;> simp [okD] at h
  | .cst _, e, n, m, h, h' => by cases n <;> simp [okD] at h
  | .exn _ _, e, n, m, h, h' => by cases n <;> simp [okD] at h
  | .scr _, e, n, m, h, h' => by cases n <;> simp [okD] at h
theorem eqDs_py : ∀ ds es : List D, ∀ n m, okDs n ds = true → okDs m es = true → eqDs ds es = PyData.eqvAll (pys ds) (pys es)
  | [], [], _, _, _, _ => by simp [eqDs, pys, PyData.eqvAll]
  | [], _ :: _, _, _, _, _ => by simp [eqDs, pys, PyData.eqvAll]
  | _ :: _, [], _, _, _, _ => by simp [eqDs, pys, PyData.eqvAll]
  | d :: ds, e :: es, n, m, h, h' => by
    simp only [okDs, Bool.and_eq_true] at h h'
    simp only [eqDs, pys, PyData.eqvAll]
    rw [eqD_py d e n m h.1 h'.1, eqDs_py ds es n m h.2 h'.2]
end
mutual
theorem okD_lay : ∀ d : D, ∀ n, okD n d = true → (py d).canLay0 = true ∧ (py d).depth ≤ n
  | .non, n, h => by simp [py, PyData.canLay0, PyData.depth]
  | .bl b, n, h => by simp [py, PyData.canLay0, PyData.depth]
  | .int i, n, h => by simp [py, PyData.canLay0, PyData.depth]
  | .str s, n, h => by
    have h' : PyData.strOk s = true := by cases n <;> simpa [okD] using h
    simp [py, PyData.canLay0, PyData.depth, h']
  | .tup ds, n, h => by
    cases n with
    | zero => simp [okD] at h
    | succ n =>
      obtain ⟨a, b⟩ := okDs_lay ds n (by simpa [okD] using h)
      simp only [py, PyData.canLay0, PyData.depth]
      exact ⟨a, by omega⟩
  | .lst ds, n, h => by
    cases n with
    | zero => simp [okD] at h
    | succ n =>
      obtain ⟨a, b⟩ := okDs_lay ds n (by simpa [okD] using h)
      simp only [py, PyData.canLay0, PyData.depth]
      exact ⟨a, by omega⟩
  | .dic _ _ _ _, n, h => by cases n <;> simp [okD] at h
  | .cst _, n, h => by cases n <;> simp [okD] at h
  | .exn _ _, n, h => by cases n <;> simp [okD] at h
  | .scr _, n, h => by cases n <;> simp [okD] at h
theorem okDs_lay : ∀ ds : List D, ∀ n, okDs n ds = true → PyData.canLayAll0 (pys ds) = true ∧ PyData.depthAll (pys ds) ≤ n
  | [], n, h => by simp [pys, PyData.canLayAll0, PyData.depthAll]
  | d :: ds, n, h => by
    simp only [okDs, Bool.and_eq_true] at h
    obtain ⟨a, b⟩ := okD_lay d n h.1
    obtain ⟨a', b'⟩ := okDs_lay ds n h.2
    simp only [pys, PyData.canLayAll0, PyData.depthAll, a, a', Bool.and_self, true_and]
    omega
end
mutual
theorem DR.dp {K : PySem.W.Frag} {F H : Hp} (s : Same F H) : ∀ {d : D} {v : V} (n : Nat), okD n d = true → DR K F v d → Dp K H v (py d)
  | .non, _, n, _, h => by cases h; simp only [py]; exact .non
  | .bl b, _, n, _, h => by cases h; simp only [py]; exact .bl b
  | .int i, _, n, _, h => by cases h; simp only [py]; exact .int i
  | .str x, _, n, _, h => by cases h; simp only [py]; exact .str x
  | .tup ds, _, n, l, h => by
    cases n with
    | zero => simp [okD] at l
    | succ n =>
      cases h with
      | tup h1 h2 =>
        simp only [py]
        exact .tup ((Sub.of_same s).sqP h1) (DRs.dp s n (by simpa [okD] using l) h2)
  | .lst ds, _, n, l, h => by
    cases n with
    | zero => simp [okD] at l
    | succ n =>
      cases h with
      | lst h1 h2 =>
        simp only [py]
        exact .lst (.inl ((Sub.of_same s).rd _ _ h1)) (DRs.dp s n (by simpa [okD] using l) h2)
  | .dic _ _ _ _, _, n, l, _ => by cases n <;> simp [okD] at l
  | .cst _, _, n, l, _ => by cases n <;> simp [okD] at l
  | .exn _ _, _, n, l, _ => by cases n <;> simp [okD] at l
  | .scr _, _, n, l, _ => by cases n <;> simp [okD] at l
theorem DRs.dp {K : PySem.W.Frag} {F H : Hp} (s : Same F H) : ∀ {ds : List D} {vs : List V} (n : Nat), okDs n ds = true → DRs K F vs ds → DpAll K H vs (pys ds)
  | [], _, n, _, h => by cases h; simp only [pys]; exact .nil
  | d :: ds, _, n, l, h => by
    simp only [okDs, Bool.and_eq_true] at l
    cases h with
    | cons h1 h2 =>
      simp only [pys]
      exact .cons (DR.dp s n l.1 h1) (DRs.dp s n l.2 h2)
end
theorem shaped_of {d : D} (h : okD 60 d = true) : SeqAt.shaped (py d) = true := by
  obtain ⟨a, b⟩ := okD_lay d 60 h
  unfold SeqAt.shaped
  rw [a, decide_eq_true (by omega), Bool.and_self]

section simps
@[simp] theorem eqD_int (i j : Int) : eqD (.int i) (.int j) = (i == j) := by simp [eqD]
@[simp] theorem eqD_bl (i j : Bool) : eqD (.bl i) (.bl j) = (i == j) := by simp [eqD]
@[simp] theorem eqD_str (i j : Str) : eqD (.str i) (.str j) = (i == j) := by simp [eqD]
@[simp] theorem eqD_non : eqD .non .non = true := by simp [eqD]
@[simp] theorem eqD_tup (i j) : eqD (.tup i) (.tup j) = eqDs i j := by simp [eqD]
@[simp] theorem eqD_lst (i j) : eqD (.lst i) (.lst j) = eqDs i j := by simp [eqD]
@[simp] theorem eqDs_nil : eqDs [] [] = true := by simp [eqDs]
@[simp] theorem eqDs_cons (a as b bs) : eqDs (a :: as) (b :: bs) = (eqD a b && eqDs as bs) := by simp [eqDs]
@[simp] theorem eqDs_nc (b bs) : eqDs [] (b :: bs) = false := by simp [eqDs]
@[simp] theorem eqDs_cn (b bs) : eqDs (b :: bs) [] = false := by simp [eqDs]
@[simp] theorem okD_int (n i) : okD n (.int i) = true := by cases n <;> simp [okD]
@[simp] theorem okD_bl (n i) : okD n (.bl i) = true := by cases n <;> simp [okD]
@[simp] theorem okD_non (n) : okD n .non = true := by cases n <;> simp [okD]
@[simp] theorem okD_str (n s) : okD n (.str s) = PyData.strOk s := by cases n <;> simp [okD]
@[simp] theorem okD_tup (n ds) : okD (n + 1) (.tup ds) = okDs n ds := by simp [okD]
@[simp] theorem okD_lst (n ds) : okD (n + 1) (.lst ds) = okDs n ds := by simp [okD]
theorem okDs_eq (n : Nat) : ∀ ds : List D, okDs n ds = ds.all (okD n)
  | [] => by simp [okDs]
  | d :: ds => by simp [okDs, okDs_eq n ds]
@[simp] theorem okDs_nil (n) : okDs n [] = true := by simp [okDs]
@[simp] theorem okDs_cons (n d ds) : okDs n (d :: ds) = (okD n d && okDs n ds) := by simp [okDs]
@[simp] theorem okDs_append (n a b) : okDs n (a ++ b) = (okDs n a && okDs n b) := by simp [okDs_eq, List.all_append]
@[simp] theorem okDs_map {α : Type} (n : Nat) (f : α → D) (xs : List α) : okDs n (xs.map f) = xs.all fun x => okD n (f x) := by
  rw [okDs_eq, List.all_map]; rfl
end simps

/-! ### operators on data -/
def mulOk (i j : Int) : Bool := decide (-(2 ^ 64) < i ∧ i < 2 ^ 64) || decide (-(2 ^ 64) < j ∧ j < 2 ^ 64)
def oAdd : D → D → Out D
  | .int i, .int j => .ok (.int (i + j))
  | .str x, .str y => if x.length + y.length ≤ sizeLine then .ok (.str (x ++ y)) else .stuck
  | .tup xs, .tup ys => if xs.length + ys.length ≤ sizeLine then .ok (.tup (xs ++ ys)) else .stuck
  | .lst xs, .lst ys => if xs.length + ys.length ≤ sizeLine then .ok (.lst (xs ++ ys)) else .stuck
  | _, _ => .stuck
def oI (g : Int → Int → Out D) : D → D → Out D
  | .int i, .int j => g i j
  | _, _ => .stuck
def oSub : D → D → Out D := oI fun i j => .ok (.int (i - j))
/-- a text n times -/
def repS (z : Str) (n : Nat) : Str := ⟨(List.replicate n z.cps).foldl (· ++ ·) #[]⟩
theorem repS_len (z : Str) (n : Nat) : (repS z n).length = n * z.length := by
  have key : ∀ (n : Nat) (a : Array Nat), ((List.replicate n z.cps).foldl (· ++ ·) a).size = a.size + n * z.cps.size := by
    intro n
    induction n with
    | zero => intro a; simp
    | succ n ih =>
      intro a
      rw [List.replicate_succ, List.foldl_cons, ih, Array.size_append, Nat.add_mul]
      omega
  show ((List.replicate n z.cps).foldl (· ++ ·) #[]).size = n * z.cps.size
  rw [key]
  simp
def oMul : D → D → Out D
  | .int i, .int j => if mulOk i j then .ok (.int (i * j)) else .stuck
  | .str z, .int k => if 2 ≤ k ∧ k ≤ 1000 ∧ 1 ≤ z.length ∧ z.length ≤ 1000 then .ok (.str (repS z k.toNat)) else .stuck
  | _, _ => .stuck
def oDiv : D → D → Out D := oI fun i j => if 0 < j ∧ j < 2 ^ 64 then .ok (.int (i / j)) else .stuck
def oMod : D → D → Out D := oI fun i j => if 0 < j then .ok (.int (i % j)) else .stuck
def oPow : D → D → Out D := oI fun i j => if 0 ≤ j ∧ j ≤ 1000000 ∧ i.natAbs < 2 ^ 64 then .ok (.int (i ^ j.toNat)) else .stuck
def oShl : D → D → Out D := oI fun i j => if 0 ≤ j ∧ j ≤ 1000000 ∧ i.natAbs < 2 ^ 64 then .ok (.int (i * 2 ^ j.toNat)) else .stuck
def oShr : D → D → Out D := oI fun i j => if 0 ≤ j then .ok (.int (i / 2 ^ j.toNat)) else .stuck
def oAnd : D → D → Out D := oI fun i j => .ok (.int (Builtin.bitAnd i j))
def oOr : D → D → Out D := oI fun i j => .ok (.int (Builtin.bitOr i j))
def oXor : D → D → Out D := oI fun i j => .ok (.int (Builtin.bitXor i j))
def oLt : D → D → Out D := oI fun i j => .ok (.bl (decide (i < j)))
def oLe : D → D → Out D := oI fun i j => .ok (.bl (decide (i ≤ j)))
def oGt : D → D → Out D := oI fun i j => .ok (.bl (decide (j < i)))
def oGe : D → D → Out D := oI fun i j => .ok (.bl (decide (j ≤ i)))
def scalD : D → D → Bool
  | .non, .non => true | .non, .int _ => true | .int _, .non => true | .non, .bl _ => true | .bl _, .non => true | .non, .str _ => true | .str _, .non => true
  | .int _, .int _ => true | .bl _, .bl _ => true | .str _, .str _ => true
  | .int _, .str _ => true | .str _, .int _ => true | .bl _, .str _ => true | .str _, .bl _ => true
  | _, _ => false
def eqOk (x y : D) : Bool := scalD x y || (okD 60 x && okD 60 y)
def oEq (x y : D) : Out D := if eqOk x y then .ok (.bl (eqD x y)) else .stuck
def oNe (x y : D) : Out D := if eqOk x y then .ok (.bl (!eqD x y)) else .stuck
def isNon : D → Bool
  | .non => true
  | _ => false
def oIsN (x y : D) : Out D := match y with
  | .non => .ok (.bl (isNon x))
  | _ => .stuck
def oNotN (x y : D) : Out D := match y with
  | .non => .ok (.bl (!isNon x))
  | _ => .stuck

section
variable {K : PySem.W.Frag} {mg : Str → Option Value} {W : WX} {F H : Hp} {σ : St} {Q : VK}
theorem rI_D {C : Int → Int → Prop} {g : Int → Int → V} {f : Int → Int → Out D} (h : ∀ i j, (f i j = .stuck) ∨ (C i j ∧ ∃ d, f i j = .ok d ∧ ∀ F, DR K F (g i j) d)) : OpD K (rI C g) (oI f) := by
  intro mg W F H σ x y dx dy Q s rx ry q
  cases rx with
  | int i =>
    cases ry with
    | int j =>
      rcases h i j with e | ⟨c, d, e, r⟩
      · have q' : Post K mg (DR K) W F H σ Q (f i j) := q
        rw [e] at q'; exact q'.elim
      · have q' : Post K mg (DR K) W F H σ Q (f i j) := q
        rw [e] at q'
        exact ⟨i, j, rfl, rfl, c, q'.ok s (r F)⟩
    | _ => exact False.elim q
  | _ => exact False.elim q
theorem rI0_D {g : Int → Int → V} {f : Int → Int → Out D} (h : ∀ i j, ∃ d, f i j = .ok d ∧ ∀ F, DR K F (g i j) d) : OpD K (rI0 g) (oI f) := by
  intro mg W F H σ x y dx dy Q s rx ry q
  have h2 : OpD K (rI (fun _ _ => True) g) (oI f) := rI_D fun i j => .inr ⟨trivial, h i j⟩
  obtain ⟨i, j, a, b, _, c⟩ := h2 mg W F H σ x y dx dy Q s rx ry q
  exact ⟨i, j, a, b, c⟩
theorem Post.tup {xs : List V} {ds : List D} (s : Same F H) (h : Post K mg (DR K) W F H σ Q (.ok (.tup ds))) (r : DRs K F xs ds) (p : Addr) (hp : H p = none) : Q (.ref p) (upd H p (.tup xs)) :=
  h _ _ _ (.put s hp) (.tup upd_same (r.mono (Sub.of_same (same_new (s.free hp)))))
theorem Post.lst {xs : List V} {ds : List D} (s : Same F H) (h : Post K mg (DR K) W F H σ Q (.ok (.lst ds))) (r : DRs K F xs ds) (p : Addr) (hp : H p = none) : Q (.ref p) (upd H p (.lst xs)) :=
  h _ _ _ (.put s hp) (.lst (.inl upd_same) (r.mono (Sub.of_same (same_new (s.free hp)))))
end

/-- + of lists, also of such as are locked -/
def rCatR : R2 := fun x y H Q => ∃ l b xs zs, x = .ref l ∧ y = .ref b ∧ Rd H l (.lst xs) ∧ Rd H b (.lst zs) ∧ xs.length + zs.length ≤ sizeLine ∧ ∀ p, H p = none → Q (.ref p) (upd H p (.lst (xs ++ zs)))
theorem op_catR {X : Cx} : OpR X (binaryOp .Add) rCatR := by
  intro pins s σ H x y v u Q I rx ry h
  obtain ⟨l, b, xs, zs, rfl, rfl, hH, hB, hz, q⟩ := h
  cases rx
  cases ry
  obtain ⟨z, its, n, r, e⟩ := hH.ok I.hok
  obtain ⟨z2, its2, n2, r2, e2⟩ := hB.ok I.hok
  have hl := r.length
  have hl2 := r2.length
  refine PySem.P.add_list e e2 ?_ (by rw [List.size_toArray, List.size_toArray]; omega)
  have ea : its.toArray ++ its2.toArray = (its ++ its2).toArray := by simp
  rw [ea]
  exact ⟨.ref _, _, I.lnew (t' := s.toks) (r.append r2) (by rw [List.length_append]; omega), rfl, q _ I.fresh⟩

theorem rd_of {F H : Hp} {a : Addr} {u : HO} (s : Same F H) (h : Rd F a u) : Rd H a u := (Sub.of_same s).rd a u h
section
variable {X : Cx} {W : WX} {a b : Expr} {ea eb : Env → Out D} {pos : Pos}
theorem se_add (ha : SE X W a ea) (hb : SE X W b eb) : SE X W (.BinOp a .Add b pos) (eOp oAdd ea eb) := by
  refine se_bin (OpR.or op_add (OpR.or op_add_str (OpR.or op_catA op_catR))) ?_ ha hb
  intro mg W F H σ x y dx dy Q s rx ry q
  cases rx with
  | int i =>
    cases ry with
    | int j => exact .inl ⟨i, j, rfl, rfl, q.ok s (.int _)⟩
    | _ => exact False.elim q
  | str i =>
    cases ry with
    | str j =>
      have q' : Post X.K mg (DR X.K) W F H σ Q (if i.length + j.length ≤ sizeLine then .ok (.str (i ++ j)) else .stuck) := q
      split at q'
      · rename_i hz
        exact .inr (.inl ⟨i, j, rfl, rfl, hz, q'.ok s (.str _)⟩)
      · exact q'.elim
    | _ => exact False.elim q
  | @tup a1 xs ds h1 h2 =>
    cases ry with
    | @tup b1 ys es g1 g2 =>
      have q' : Post X.K mg (DR X.K) W F H σ Q (if ds.length + es.length ≤ sizeLine then .ok (.tup (ds ++ es)) else .stuck) := q
      split at q'
      · rename_i hz
        have l1 := h2.length
        have l2 := g2.length
        refine .inr (.inr (.inl ⟨a1, b1, xs, ys, rfl, rfl, (Sub.of_same s).sqP h1, (Sub.of_same s).sqP g1, by rw [l1, l2]; exact hz, fun e => ?_, fun _ e => ?_, fun _ _ => Post.tup s q' (h2.append g2)⟩))
        · subst e
          cases h2
          exact q'.ok s (.tup g1 g2)
        · subst e
          cases g2
          rw [List.append_nil] at q'
          exact q'.ok s (.tup h1 h2)
      · exact q'.elim
    | _ => exact False.elim q
  | @lst a1 xs ds h1 h2 =>
    cases ry with
    | @lst b1 ys es g1 g2 =>
      have q' : Post X.K mg (DR X.K) W F H σ Q (if ds.length + es.length ≤ sizeLine then .ok (.lst (ds ++ es)) else .stuck) := q
      split at q'
      · rename_i hz
        have l1 := h2.length
        have l2 := g2.length
        exact .inr (.inr (.inr ⟨a1, b1, xs, ys, rfl, rfl, rd_of s h1, rd_of s g1, by rw [l1, l2]; exact hz, Post.lst s q' (h2.append g2)⟩))
      · exact q'.elim
    | _ => exact False.elim q
  | _ => exact False.elim q
theorem se_sub (ha : SE X W a ea) (hb : SE X W b eb) : SE X W (.BinOp a .Sub b pos) (eOp oSub ea eb) := se_bin op_sub (rI0_D fun i j => ⟨_, rfl, fun F => .int _⟩) ha hb
def rMulS : R2 := fun x y H Q => ∃ z k, x = .str z ∧ y = .int k ∧ (2 ≤ k ∧ k ≤ 1000 ∧ 1 ≤ z.length ∧ z.length ≤ 1000) ∧ Q (.str (repS z k.toNat)) H
theorem op_mul_str {X : Cx} : OpR X (binaryOp .Mult) rMulS := by
  intro pins s σ H x y v u Q I rx ry h
  obtain ⟨z, k, rfl, rfl, ⟨h1, h2, h3, h4⟩, q⟩ := h
  obtain ⟨t, rfl⟩ := rx
  obtain ⟨t', rfl⟩ := ry
  have hm : z.length * k.toNat ≤ 1000 * 1000 := Nat.mul_le_mul h4 (by omega)
  have hl := repS_len z k.toNat
  refine PySem.P.mul_str ?_ (fun _ _ => ?_) (fun _ _ => ?_) ?_
  · rw [decide_eq_false (by omega), decide_eq_false (by omega)]; rfl
  · have a1 : (1000 : Int) ≤ (2 ^ 63 - 1) / k := by
      rw [Int.le_ediv_iff_mul_le (by omega)]
      omega
    omega
  · unfold Builtin.Str.tooLong
    rw [sizeLine_eq]
    exact decide_eq_false (by omega)
  · rw [if_neg (by omega), if_neg (by
      rw [Bool.or_eq_true, beq_iff_eq, beq_iff_eq]
      omega)]
    refine ⟨?_, .str (repS z k.toNat), H, I.tok _, ⟨_, rfl⟩, q⟩
    show (repS z k.toNat).length ≤ sizeLine
    rw [hl, sizeLine_eq, Nat.mul_comm]
    omega
theorem se_mul (ha : SE X W a ea) (hb : SE X W b eb) : SE X W (.BinOp a .Mult b pos) (eOp oMul ea eb) := by
  refine se_bin (OpR.or op_mul op_mul_str) ?_ ha hb
  intro mg W F H σ x y dx dy Q s rx ry q
  cases rx with
  | int i =>
    cases ry with
    | int j =>
      have q' : Post X.K mg (DR X.K) W F H σ Q (if mulOk i j then .ok (.int (i * j)) else .stuck) := q
      split at q'
      · rename_i h
        refine .inl ⟨i, j, rfl, rfl, ?_, q'.ok s (.int _)⟩
        unfold mulOk at h
        rw [Bool.or_eq_true, decide_eq_true_eq, decide_eq_true_eq] at h
        exact h
      · exact q'.elim
    | _ => exact False.elim q
  | str z =>
    cases ry with
    | int k =>
      have q' : Post X.K mg (DR X.K) W F H σ Q (if 2 ≤ k ∧ k ≤ 1000 ∧ 1 ≤ z.length ∧ z.length ≤ 1000 then .ok (.str (repS z k.toNat)) else .stuck) := q
      split at q'
      · rename_i h
        exact .inr ⟨z, k, rfl, rfl, h, q'.ok s (.str _)⟩
      · exact q'.elim
    | _ => exact False.elim q
  | _ => exact False.elim q
theorem se_div (ha : SE X W a ea) (hb : SE X W b eb) : SE X W (.BinOp a .FloorDiv b pos) (eOp oDiv ea eb) := se_bin op_fdivW (rI_D fun i j => by
    split
    · rename_i h
      exact .inr ⟨wide_div (b := 64) h.1 (by omega) (by decide) (by decide), _, rfl, fun F => .int _⟩
    · exact .inl rfl) ha hb
theorem se_mod (ha : SE X W a ea) (hb : SE X W b eb) : SE X W (.BinOp a .Mod b pos) (eOp oMod ea eb) := se_bin op_mod (rI_D fun i j => by
    split
    · rename_i h
      exact .inr ⟨h, _, rfl, fun F => .int _⟩
    · exact .inl rfl) ha hb
theorem se_pow (ha : SE X W a ea) (hb : SE X W b eb) : SE X W (.BinOp a .Pow b pos) (eOp oPow ea eb) := se_bin op_pow (rI_D fun i j => by
    split
    · rename_i h
      exact .inr ⟨h, _, rfl, fun F => .int _⟩
    · exact .inl rfl) ha hb
theorem se_shl (ha : SE X W a ea) (hb : SE X W b eb) : SE X W (.BinOp a .LShift b pos) (eOp oShl ea eb) := se_bin op_shl (rI_D fun i j => by
    split
    · rename_i h
      exact .inr ⟨h, _, rfl, fun F => .int _⟩
    · exact .inl rfl) ha hb
theorem se_shr (ha : SE X W a ea) (hb : SE X W b eb) : SE X W (.BinOp a .RShift b pos) (eOp oShr ea eb) := se_bin op_shr (rI_D fun i j => by
    split
    · rename_i h
      exact .inr ⟨h, _, rfl, fun F => .int _⟩
    · exact .inl rfl) ha hb
theorem se_and (ha : SE X W a ea) (hb : SE X W b eb) : SE X W (.BinOp a .BitAnd b pos) (eOp oAnd ea eb) := se_bin op_and (rI0_D fun i j => ⟨_, rfl, fun F => .int _⟩) ha hb
theorem se_or (ha : SE X W a ea) (hb : SE X W b eb) : SE X W (.BinOp a .BitOr b pos) (eOp oOr ea eb) := se_bin op_or (rI0_D fun i j => ⟨_, rfl, fun F => .int _⟩) ha hb
theorem se_xor (ha : SE X W a ea) (hb : SE X W b eb) : SE X W (.BinOp a .BitXor b pos) (eOp oXor ea eb) := se_bin op_xor (rI0_D fun i j => ⟨_, rfl, fun F => .int _⟩) ha hb

/-! comparisons: the rule, then as a value and as a test -/
structure CmpD (X : Cx) (op : CmpOp) (g : D → D → Out D) : Prop where
  ex : ∃ r, OpR X (compareOp op) r ∧ OpD X.K r g
theorem cd_lt : CmpD X .Lt oLt := ⟨_, op_lt, rI0_D fun i j => ⟨_, rfl, fun F => .bl _⟩⟩
theorem cd_le : CmpD X .LtE oLe := ⟨_, op_le, rI0_D fun i j => ⟨_, rfl, fun F => .bl _⟩⟩
theorem cd_gt : CmpD X .Gt oGt := ⟨_, op_gt, rI0_D fun i j => ⟨_, rfl, fun F => .bl _⟩⟩
theorem cd_ge : CmpD X .GtE oGe := ⟨_, op_ge, rI0_D fun i j => ⟨_, rfl, fun F => .bl _⟩⟩
theorem scal_of {F : Hp} {x y : V} {dx dy : D} (h : scalD dx dy = true) (rx : DR X.K F x dx) (ry : DR X.K F y dy) : scal x y = true ∧ decide (x = y) = eqD dx dy := by
  cases rx <;> cases ry <;> simp [scalD] at h <;> first
    | exact ⟨rfl, decide_eq_false (by intro e; cases e)⟩
    | exact ⟨rfl, rfl⟩
    | exact ⟨rfl, by rw [eqD_int]; exact dec_int⟩
    | exact ⟨rfl, by rw [eqD_bl]; exact dec_bl⟩
    | exact ⟨rfl, by rw [eqD_str]; exact dec_str⟩
    | exact ⟨rfl, (decide_eq_false (by intro e; cases e)).trans (by simp [eqD])⟩
theorem cd_eq {k : Nat} (hr : Room k X.A) : CmpD X .Eq oEq := by
  refine ⟨_, OpR.or op_eq (op_eqD hr.units), ?_⟩
  intro mg W F H σ x y dx dy Q s rx ry q
  unfold oEq eqOk at q
  by_cases h : scalD dx dy = true
  · rw [h, Bool.true_or, if_pos rfl] at q
    obtain ⟨a, b⟩ := scal_of h rx ry
    exact .inl ⟨a, by rw [b]; exact q.ok s (.bl _)⟩
  · rw [eq_false_of_ne_true h, Bool.false_or] at q
    split at q
    · rename_i h2
      rw [Bool.and_eq_true] at h2
      refine .inr ⟨py dx, py dy, rx.dp s 60 h2.1, ry.dp s 60 h2.2, shaped_of h2.1, shaped_of h2.2, ?_⟩
      rw [← eqD_py dx dy 60 60 h2.1 h2.2]
      exact q.ok s (.bl _)
    · exact q.elim
theorem cd_ne {k : Nat} (hr : Room k X.A) : CmpD X .NotEq oNe := by
  refine ⟨_, OpR.or op_ne (op_neD hr.units), ?_⟩
  intro mg W F H σ x y dx dy Q s rx ry q
  unfold oNe eqOk at q
  by_cases h : scalD dx dy = true
  · rw [h, Bool.true_or, if_pos rfl] at q
    obtain ⟨a, b⟩ := scal_of h rx ry
    exact .inl ⟨a, by rw [b]; exact q.ok s (.bl _)⟩
  · rw [eq_false_of_ne_true h, Bool.false_or] at q
    split at q
    · rename_i h2
      rw [Bool.and_eq_true] at h2
      refine .inr ⟨py dx, py dy, rx.dp s 60 h2.1, ry.dp s 60 h2.2, shaped_of h2.1, shaped_of h2.2, ?_⟩
      rw [← eqD_py dx dy 60 60 h2.1 h2.2]
      exact q.ok s (.bl _)
    · exact q.elim
theorem isNon_of {F : Hp} {x : V} {dx : D} (rx : DR X.K F x dx) : decide (x = V.non) = isNon dx := by
  cases rx <;> simp [isNon]
theorem cd_isN : CmpD X .Is oIsN := by
  refine ⟨_, op_isN, ?_⟩
  intro mg W F H σ x y dx dy Q s rx ry q
  cases ry with
  | non => exact ⟨rfl, by rw [isNon_of rx]; exact q.ok s (.bl _)⟩
  | _ => exact False.elim q
theorem cd_notN : CmpD X .IsNot oNotN := by
  refine ⟨_, op_notN, ?_⟩
  intro mg W F H σ x y dx dy Q s rx ry q
  cases ry with
  | non => exact ⟨rfl, by rw [isNon_of rx]; exact q.ok s (.bl _)⟩
  | _ => exact False.elim q
theorem se_cmp {op : CmpOp} {g : D → D → Out D} (h : CmpD X op g) (ha : SE X W a ea) (hb : SE X W b eb) (hm : behindInMarks op b = false := by exact nomark _) : SE X W (.Compare a [op] [b] pos) (eOp g ea eb) := by
  obtain ⟨r, h1, h2⟩ := h.ex
  exact se_cmpG h1 h2 ha hb hm
theorem st_cmp {op : CmpOp} {g : D → D → Out D} (h : CmpD X op g) (ha : SE X W a ea) (hb : SE X W b eb) (hm : behindInMarks op b = false := by exact nomark _) : ST X W (.Compare a [op] [b] pos) (tB1 (eOp g ea eb)) := by
  obtain ⟨r, h1, h2⟩ := h.ex
  exact st_cmpG h1 h2 ha hb hm

/-! in, not in -/
def flatD : D → Bool
  | .non => true | .bl _ => true | .int _ => true | .str _ => true
  | _ => false
def inD (x : D) (ds : List D) : Bool := ds.any fun y => eqD y x
def oIn (neg : Bool) : D → D → Out D
  | x, .lst ds => if (flatD x && ds.all flatD) || (okD 60 x && okDs 59 ds) then .ok (.bl (neg != inD x ds)) else .stuck
  | x, .tup ds => if flatD x && ds.all flatD then .ok (.bl (neg != inD x ds)) else .stuck
  | .str x, .cst zs => .ok (.bl (neg != decide (x ∈ zs)))
  | .str x, .str z => match x.cps.toList with
    | [c] => .ok (.bl (neg != decide (c ∈ z.cps.toList)))
    | _ => .stuck
  | _, _ => .stuck
theorem flat_of {F : Hp} {x : V} {d : D} (r : DR X.K F x d) (h : flatD d = true) : flatV x = true := by
  cases r <;> simp [flatD] at h <;> rfl
theorem eqV_of {F : Hp} {x y : V} {dx dy : D} (rx : DR X.K F x dx) (ry : DR X.K F y dy) (h : flatD dx = true) (h' : flatD dy = true) : eqV x y = eqD dx dy := by
  cases rx <;> simp [flatD] at h <;> cases ry <;> simp [flatD] at h' <;> simp [eqV, eqD]
theorem inV_of {F : Hp} {x : V} {dx : D} (rx : DR X.K F x dx) (hx : flatD dx = true) : ∀ {vs : List V} {ds : List D}, DRs X.K F vs ds → ds.all flatD = true → vs.all flatV = true ∧ inV x vs = inD dx ds
  | _, _, .nil, _ => ⟨rfl, rfl⟩
  | _, _, .cons r t, h => by
    rw [List.all_cons, Bool.and_eq_true] at h
    obtain ⟨a, b⟩ := inV_of rx hx t h.2
    refine ⟨by rw [List.all_cons, flat_of r h.1, a]; rfl, ?_⟩
    unfold inV inD at b ⊢
    rw [List.any_cons, List.any_cons, b, eqV_of r rx h.1 hx]
theorem inD_py (x : D) (hx : okD 60 x = true) : ∀ ds : List D, okDs 59 ds = true → ((pys ds).any fun z => PyData.eqv z (py x)) = inD x ds
  | [], _ => by simp [pys, inD]
  | d :: ds, h => by
    simp only [okDs_cons, Bool.and_eq_true] at h
    have ih := inD_py x hx ds h.2
    unfold inD at ih ⊢
    rw [List.any_cons, ← ih, pys, List.any_cons, eqD_py d x 59 60 h.1 hx]
theorem str_one {x : Str} {c : Nat} (h : x.cps.toList = [c]) : x = ⟨#[c]⟩ := by
  obtain ⟨a⟩ := x
  have : a = #[c] := by
    apply Array.toList_inj.mp
    exact h
  rw [this]
theorem inV_cst (x : Str) : ∀ zs : List Str, (zs.map V.str).all flatV = true ∧ inV (.str x) (zs.map V.str) = decide (x ∈ zs)
  | [] => ⟨rfl, rfl⟩
  | z :: zs => by
    obtain ⟨a, b⟩ := inV_cst x zs
    refine ⟨by rw [List.map_cons, List.all_cons, a]; rfl, ?_⟩
    unfold inV at b ⊢
    rw [List.map_cons, List.any_cons, b, Bool.eq_iff_iff, Bool.or_eq_true, decide_eq_true_eq, decide_eq_true_eq, List.mem_cons]
    constructor
    · rintro (h | h)
      · refine .inl ?_
        have h' : (z == x) = true := by simpa [eqV] using h
        exact (beq_iff_eq.mp h').symm
      · exact .inr h
    · rintro (h | h)
      · subst h; exact .inl (by simp [eqV])
      · exact .inr h
theorem cd_in {k : Nat} (hr : Room k X.A) : CmpD X .In (oIn false) := by
  refine ⟨_, OpR.or op_in_seq (OpR.or (op_inD (by have := hr.un; omega)) op_in_sign), ?_⟩
  intro mg W F H σ x y dx dy Q s rx ry q
  cases ry with
  | @lst p vs ds h1 h2 =>
    have q' : Post X.K mg (DR X.K) W F H σ Q (if (flatD dx && ds.all flatD) || (okD 60 dx && okDs 59 ds) then .ok (.bl (false != inD dx ds)) else .stuck) := by cases dx <;> exact q
    by_cases hf : (flatD dx && ds.all flatD) = true
    · rw [hf, Bool.true_or, if_pos rfl] at q'
      rw [Bool.and_eq_true] at hf
      obtain ⟨a, b⟩ := inV_of rx hf.1 h2 hf.2
      exact .inl ⟨p, vs, rfl, .inl (.inl (rd_of s h1)), flat_of rx hf.1, a, by rw [b]; simpa using q'.ok s (.bl _)⟩
    · rw [eq_false_of_ne_true hf, Bool.false_or] at q'
      split at q'
      · rename_i h3
        rw [Bool.and_eq_true] at h3
        have h4 : okD 60 (.lst ds) = true := by simpa using h3.2
        refine .inr (.inl ⟨py dx, pys ds, rx.dp s 60 h3.1, ?_, shaped_of h3.1, ?_, ?_⟩)
        · have := DR.dp (K := X.K) (v := .ref p) s 60 h4 (.lst h1 h2)
          simpa only [py] using this
        · have := shaped_of h4
          simpa only [py] using this
        · rw [inD_py dx h3.1 ds h3.2]
          simpa using q'.ok s (.bl _)
      · exact q'.elim
  | @tup p vs ds h1 h2 =>
    have q' : Post X.K mg (DR X.K) W F H σ Q (if flatD dx && ds.all flatD then .ok (.bl (false != inD dx ds)) else .stuck) := by cases dx <;> exact q
    split at q'
    · rename_i hf
      rw [Bool.and_eq_true] at hf
      obtain ⟨a, b⟩ := inV_of rx hf.1 h2 hf.2
      exact .inl ⟨p, vs, rfl, .inr ((Sub.of_same s).sqP h1), flat_of rx hf.1, a, by rw [b]; simpa using q'.ok s (.bl _)⟩
    · exact q'.elim
  | @cst p zs h1 =>
    cases rx with
    | str x =>
      have q' : Post X.K mg (DR X.K) W F H σ Q (.ok (.bl (false != decide (x ∈ zs)))) := q
      obtain ⟨c1, c2⟩ := inV_cst x zs
      exact .inl ⟨p, _, rfl, .inr ((Sub.of_same s).sqT h1), rfl, c1, by rw [c2]; simpa using q'.ok s (.bl _)⟩
    | _ => exact False.elim q
  | str z =>
    cases rx with
    | str x =>
      have q' : Post X.K mg (DR X.K) W F H σ Q (match x.cps.toList with
        | [c] => .ok (.bl (false != decide (c ∈ z.cps.toList)))
        | _ => .stuck) := q
      split at q'
      · rename_i c hc
        exact .inr (.inr ⟨c, z, by rw [str_one hc], rfl, by simpa using q'.ok s (.bl _)⟩)
      · exact q'.elim
    | _ => exact False.elim q
  | _ => cases rx <;> exact False.elim q
theorem cd_nin {k : Nat} (hr : Room k X.A) : CmpD X .NotIn (oIn true) := by
  refine ⟨_, OpR.or op_notIn_seq (OpR.or (op_notInD (by have := hr.un; omega)) op_notIn_sign), ?_⟩
  intro mg W F H σ x y dx dy Q s rx ry q
  cases ry with
  | @lst p vs ds h1 h2 =>
    have q' : Post X.K mg (DR X.K) W F H σ Q (if (flatD dx && ds.all flatD) || (okD 60 dx && okDs 59 ds) then .ok (.bl (true != inD dx ds)) else .stuck) := by cases dx <;> exact q
    by_cases hf : (flatD dx && ds.all flatD) = true
    · rw [hf, Bool.true_or, if_pos rfl] at q'
      rw [Bool.and_eq_true] at hf
      obtain ⟨a, b⟩ := inV_of rx hf.1 h2 hf.2
      exact .inl ⟨p, vs, rfl, .inl (.inl (rd_of s h1)), flat_of rx hf.1, a, by rw [b]; simpa using q'.ok s (.bl _)⟩
    · rw [eq_false_of_ne_true hf, Bool.false_or] at q'
      split at q'
      · rename_i h3
        rw [Bool.and_eq_true] at h3
        have h4 : okD 60 (.lst ds) = true := by simpa using h3.2
        refine .inr (.inl ⟨py dx, pys ds, rx.dp s 60 h3.1, ?_, shaped_of h3.1, ?_, ?_⟩)
        · have := DR.dp (K := X.K) (v := .ref p) s 60 h4 (.lst h1 h2)
          simpa only [py] using this
        · have := shaped_of h4
          simpa only [py] using this
        · rw [inD_py dx h3.1 ds h3.2]
          simpa using q'.ok s (.bl _)
      · exact q'.elim
  | @tup p vs ds h1 h2 =>
    have q' : Post X.K mg (DR X.K) W F H σ Q (if flatD dx && ds.all flatD then .ok (.bl (true != inD dx ds)) else .stuck) := by cases dx <;> exact q
    split at q'
    · rename_i hf
      rw [Bool.and_eq_true] at hf
      obtain ⟨a, b⟩ := inV_of rx hf.1 h2 hf.2
      exact .inl ⟨p, vs, rfl, .inr ((Sub.of_same s).sqP h1), flat_of rx hf.1, a, by rw [b]; simpa using q'.ok s (.bl _)⟩
    · exact q'.elim
  | @cst p zs h1 =>
    cases rx with
    | str x =>
      have q' : Post X.K mg (DR X.K) W F H σ Q (.ok (.bl (true != decide (x ∈ zs)))) := q
      obtain ⟨c1, c2⟩ := inV_cst x zs
      exact .inl ⟨p, _, rfl, .inr ((Sub.of_same s).sqT h1), rfl, c1, by rw [c2]; simpa using q'.ok s (.bl _)⟩
    | _ => exact False.elim q
  | str z =>
    cases rx with
    | str x =>
      have q' : Post X.K mg (DR X.K) W F H σ Q (match x.cps.toList with
        | [c] => .ok (.bl (true != decide (c ∈ z.cps.toList)))
        | _ => .stuck) := q
      split at q'
      · rename_i c hc
        exact .inr (.inr ⟨c, z, by rw [str_one hc], rfl, by simpa using q'.ok s (.bl _)⟩)
      · exact q'.elim
    | _ => exact False.elim q
  | _ => cases rx <;> exact False.elim q
theorem behindInMarks_rfl {op : CmpOp} {b : Expr} (h : behindInMarks op b = false) : behindInMarks op b = false := h

/-! unary -/
def oNeg : D → Out D
  | .int i => .ok (.int (-i))
  | _ => .stuck
theorem se_neg (ha : SE X W a ea) : SE X W (.UnaryOp .USub a pos) (eUn oNeg ea) := se_unG un_neg (by
  intro mg W F H σ x dx Q s rx q
  cases rx with
  | int i => exact ⟨i, rfl, q.ok s (.int _)⟩
  | _ => exact False.elim q) ha
end
end CW
namespace CW
open PySem PySem.Spec PyProof.Rows L2

/-! ### a new list, owned by the one who asked -/
section
variable {α : Type}
def PostO (K : PySem.W.Frag) (mg : Str → Option Value) (W : WX) (F H : Hp) (σ : St) (Q : VK) : Out (List D) → Prop
  | .ok ds => ∀ p vs F' H', Ext F H F' H' → H p = none → F' p = none → H' p = some (.lst vs) → DRs K F' vs ds → Q (.ref p) H'
  | .exc x => ∀ c dd F' H', Ext F H F' H' → ExR mg K F' x c dd → W c dd σ H'
  | .stuck => False
theorem PostO.ext {K : PySem.W.Frag} {mg : Str → Option Value} {W : WX} {F H F1 H1 : Hp} {σ : St} {Q : VK} {o : Out (List D)} (e : Ext F H F1 H1) (h : PostO K mg W F H σ Q o) : PostO K mg W F1 H1 σ Q o := by
  cases o with
  | ok d => exact fun p vs F' H' e' hp => h p vs F' H' (e.trans e') (e.hh.free hp)
  | exc x => exact fun c dd F' H' e' r => h c dd F' H' (e.trans e') r
  | stuck => exact h
theorem PostO.bind {γ δ : Type} {K : PySem.W.Frag} {mg : Str → Option Value} {R' : Hp → δ → γ → Prop} {W : WX} {F H : Hp} {σ : St} {Q : VK} {Q' : δ → Hp → Prop} {o : Out γ} {k : γ → Out (List D)}
    (h : PostO K mg W F H σ Q (o.bind k)) (hk : ∀ d v F1 H1, Ext F H F1 H1 → R' F1 v d → PostO K mg W F1 H1 σ Q (k d) → Q' v H1) : Post K mg R' W F H σ Q' o := by
  cases o with
  | ok d => exact fun v F1 H1 e r => hk d v F1 H1 e r (PostO.ext e h)
  | exc x => exact h
  | stuck => exact h
theorem PostO.lst {K : PySem.W.Frag} {mg : Str → Option Value} {W : WX} {F H : Hp} {σ : St} {Q : VK} {xs : List V} {ds : List D} (h : PostO K mg W F H σ Q (.ok ds)) (s : Same F H) (r : DRs K F xs ds) (p : Addr) (hp : H p = none) : Q (.ref p) (upd H p (.lst xs)) :=
  h p xs F _ (.open s hp) hp (s.free hp) upd_same r
/-- behind an owned list that is taken as any data -/
theorem Post.frozen {K : PySem.W.Frag} {mg : Str → Option Value} {W : WX} {F H : Hp} {σ : St} {Q : VK} {o : Out (List D)} (h : Post K mg (DR K) W F H σ Q (o.bind fun ds => .ok (.lst ds))) : PostO K mg W F H σ Q o := by
  cases o with
  | ok ds =>
    intro p vs F' H' e hp hf hl r
    have s2 : Same F' (upd F' p (.lst vs)) := same_new hf
    refine h _ (upd F' p (.lst vs)) H' ⟨e.ff.trans s2, fun b o q => ?_, e.hh, fun a ha => ?_⟩ (.lst (.inl upd_same) (r.mono (Sub.of_same s2)))
    · by_cases hb : b = p
      · subst hb; rw [upd_same] at q; rw [hl]; exact q
      · rw [upd_ne hb] at q; exact e.fh _ _ q
    · by_cases hb : a = p
      · subst hb; exact .inr hp
      · rw [upd_ne hb] at ha; exact e.new a ha
  | exc x => exact h
  | stuck => exact h
end
def dO (K : PySem.W.Frag) (mg : Str → Option Value) (W : WX) (ev : Env → Out (List D)) : TE := fun σ H Q => ∃ F ρ, RF K F H σ ρ ∧ PostO K mg W F H σ Q (ev ρ)
def SO (X : Cx) (W : WX) (e : Expr) (ev : Env → Out (List D)) : Prop := PE X e (dO X.K X.mg W ev)
def eL (ev : Env → Out (List D)) : Env → Out D := fun ρ => (ev ρ).bind fun ds => .ok (.lst ds)

def noX {α : Type} : Out α → Out α
  | .ok a => .ok a
  | _ => .stuck
@[simp] theorem noX_ok {α : Type} (a : α) : noX (.ok a) = .ok a := (rfl)
@[simp] theorem noX_stuck {α : Type} : noX (.stuck : Out α) = .stuck := (rfl)

section
variable {X : Cx} {W : WX} {a b c e : Expr} {es : List Expr} {ea eb ec : Env → Out D} {pos : Pos}
theorem SO.of {t : TE} {ev : Env → Out (List D)} (h : PE X e t) (hs : ∀ F H σ ρ Q, RF X.K F H σ ρ → PostO X.K X.mg W F H σ Q (ev ρ) → t σ H Q) : SO X W e ev :=
  ⟨fun pins s σ H Q I ⟨F, ρ, h1, h2⟩ => h.run pins s σ H Q I (hs F H σ ρ Q h1 h2)⟩
theorem SE.ofO {ev : Env → Out (List D)} (h : SO X W e ev) : SE X W e (eL ev) :=
  .of h fun F H σ ρ Q h1 h2 => ⟨F, ρ, h1, Post.frozen h2⟩

/-! ### arguments, displays -/
def aN : Env → Out (List D) := fun _ => .ok []
def aC (a : Env → Out D) (r : Env → Out (List D)) : Env → Out (List D) := fun ρ => (a ρ).bind fun x => (r ρ).bind fun xs => .ok (x :: xs)
theorem sa_nil : SA X W [] aN := .of pa_nil fun F H σ ρ Q h1 h2 => h2.ok h1.1 .nil
theorem sa_cons {er : Env → Out (List D)} (ha : SE X W a ea) (hr : SA X W es er) (hs : starEach (a :: es) X.env = (false, eval a X.env) :: starEach es X.env := by rfl) : SA X W (a :: es) (aC ea er) :=
  .of (pa_cons ha hr hs) fun F H σ ρ Q h1 h2 => by
    refine ⟨F, ρ, h1, Post.bind h2 fun d v F1 H1 e1 r1 q1 => ?_⟩
    refine ⟨F1, ρ, h1.ext e1, Post.bind q1 fun d2 v2 F2 H2 e2 r2 q2 => ?_⟩
    exact q2.ok e2.fh (.cons (r1.mono (Sub.of_same e2.ff)) r2)
def eTup (ea : Env → Out (List D)) : Env → Out D := fun ρ => (ea ρ).bind fun ds => if ds.length ≤ sizeLine then .ok (.tup ds) else .stuck
theorem se_tup {x1} {er : Env → Out (List D)} (h : SA X W es er) : SE X W (.Tuple es x1 pos) (eTup er) :=
  .of (pe_tup h) fun F H σ ρ Q h1 h2 => by
    refine ⟨F, ρ, h1, Post.bind h2 fun d v F1 H1 e1 r1 q1 => ?_⟩
    split at q1
    · rename_i hz
      exact ⟨by rw [r1.length]; exact hz, Post.tup e1.fh q1 r1⟩
    · exact q1.elim
def oLst (ea : Env → Out (List D)) : Env → Out (List D) := fun ρ => (ea ρ).bind fun ds => if ds.length ≤ sizeLine then .ok ds else .stuck
theorem so_lst {er : Env → Out (List D)} (h : SA X W es er) : SO X W (.List es pos) (oLst er) :=
  .of (pe_lst h) fun F H σ ρ Q h1 h2 => by
    refine ⟨F, ρ, h1, PostO.bind h2 fun d v F1 H1 e1 r1 q1 => ?_⟩
    split at q1
    · rename_i hz
      exact ⟨by rw [r1.length]; exact hz, PostO.lst q1 e1.fh r1⟩
    · exact q1.elim

/-! ### items -/
def oIx : D → D → Out D
  | .lst ds, .int i => match atI ds i with
    | some d => .ok d
    | none => .stuck
  | .tup ds, .int i => match atI ds i with
    | some d => .ok d
    | none => .stuck
  | .scr ns, .int i => match atI ns i with
    | some n => .ok (.int n)
    | none => .stuck
  | .str z, .int i => if z.length ≤ sizeLine then match atI z.cps.toList i with
    | some c => .ok (.str ⟨#[c]⟩)
    | none => .stuck else .stuck
  | _, _ => .stuck
theorem atI_DR {K : PySem.W.Frag} {F : Hp} {vs : List V} {ds : List D} {i : Int} {d : D} (h : DRs K F vs ds) (e : atI ds i = some d) : ∃ v, atI vs i = some v ∧ DR K F v d := by
  unfold atI at e ⊢
  rw [h.length]
  cases q : ixN ds.length i with
  | none => rw [q] at e; cases e
  | some j =>
    rw [q] at e
    exact h.get e
theorem se_ix (ha : SE X W a ea) (hb : SE X W b eb) (hs : PlainIx b := by exact fun _ _ => rfl) : SE X W (.Subscript a b pos) (eOp oIx ea eb) := by
  refine .of (pe_ix ix_seq ha hb hs) fun F H σ ρ Q h1 h2 => op_sub2 ?_ h1 h2
  intro mg W F H σ x y dx dy Q s rx ry q
  cases ry with
  | int i =>
    cases rx with
    | @lst p vs ds g1 g2 =>
      have q' : Post X.K mg (DR X.K) W F H σ Q (match atI ds i with | some d => .ok d | none => .stuck) := q
      split at q'
      · rename_i d hd
        obtain ⟨v, hv, r⟩ := atI_DR g2 hd
        exact .inl ⟨p, vs, i, v, rfl, rfl, .inl (rd_of s g1), hv, q'.ok s r⟩
      · exact q'.elim
    | @tup p vs ds g1 g2 =>
      have q' : Post X.K mg (DR X.K) W F H σ Q (match atI ds i with | some d => .ok d | none => .stuck) := q
      split at q'
      · rename_i d hd
        obtain ⟨v, hv, r⟩ := atI_DR g2 hd
        exact .inr (.inl ⟨p, vs, i, v, rfl, rfl, (Sub.of_same s).sqP g1, hv, q'.ok s r⟩)
      · exact q'.elim
    | @scr p ns g1 =>
      have q' : Post X.K mg (DR X.K) W F H σ Q (match atI ns i with | some n => .ok (.int n) | none => .stuck) := q
      split at q'
      · rename_i n hn
        refine .inl ⟨p, _, i, .int n, rfl, rfl, (Sub.of_same s).sqL g1, ?_, q'.ok s (.int n)⟩
        unfold atI at hn ⊢
        rw [List.length_map]
        cases e : ixN ns.length i with
        | none => rw [e] at hn; cases hn
        | some j =>
          rw [e] at hn
          show (ns.map V.int)[j]? = _
          rw [List.getElem?_map, show ns[j]? = some n from hn]; rfl
      · exact q'.elim
    | str z =>
      have q' : Post X.K mg (DR X.K) W F H σ Q (if z.length ≤ sizeLine then match atI z.cps.toList i with | some c => .ok (.str ⟨#[c]⟩) | none => .stuck else .stuck) := q
      split at q'
      · rename_i hz
        split at q'
        · rename_i c hc
          exact .inr (.inr ⟨z, i, c, rfl, rfl, hz, hc, q'.ok s (.str _)⟩)
        · exact q'.elim
      · exact q'.elim
    | _ => exact False.elim q
  | _ => cases rx <;> exact False.elim q

/-! ### slices -/
def dP (K : PySem.W.Frag) (mg : Str → Option Value) (W : WX) (ev : Env → Out (Option Int)) : TO := fun σ H Q => ∃ F ρ, RF K F H σ ρ ∧ Post K mg (fun _ b c => b = c) W F H σ Q (ev ρ)
def SP' (X : Cx) (W : WX) (e : Option Expr) (ev : Env → Out (Option Int)) : Prop := PO X e (dP X.K X.mg W ev)
def pN : Env → Out (Option Int) := fun _ => .ok none
def pS (a : Env → Out D) : Env → Out (Option Int) := fun ρ => (a ρ).bind fun d => match d with
  | .int i => .ok (some i)
  | _ => .stuck
theorem SP'.of {o : Option Expr} {t : TO} {ev : Env → Out (Option Int)} (h : PO X o t) (hs : ∀ F H σ ρ Q, RF X.K F H σ ρ → Post X.K X.mg (fun _ b c => b = c) W F H σ Q (ev ρ) → t σ H Q) : SP' X W o ev :=
  ⟨fun pins s σ H Q I ⟨F, ρ, h1, h2⟩ => h.run pins s σ H Q I (hs F H σ ρ Q h1 h2)⟩
theorem sp_none : SP' X W none pN := .of po_none fun F H σ ρ Q h1 h2 => h2.ok h1.1 rfl
theorem sp_some (ha : SE X W a ea) : SP' X W (some a) (pS ea) := .of (po_some ha) fun F H σ ρ Q h1 h2 => by
  refine ⟨F, ρ, h1, Post.bind h2 fun d v F1 H1 e1 r1 q1 => ?_⟩
  cases r1 with
  | int i => exact ⟨i, rfl, q1.ok e1.fh rfl⟩
  | _ => exact False.elim q1
def cutL {α : Type} (xs : List α) (lo hi : Option Int) : List α := (xs.drop (HT.sIx xs.length 0 lo)).take (HT.sIx xs.length xs.length hi - HT.sIx xs.length 0 lo)
theorem cutL_V (xs : List V) (lo hi : Option Int) : cutV xs lo hi = cutL xs lo hi := rfl
theorem DRs.cut {K : PySem.W.Frag} {F : Hp} {vs : List V} {ds : List D} (h : DRs K F vs ds) (lo hi : Option Int) : DRs K F (cutV vs lo hi) (cutL ds lo hi) := by
  unfold cutV cutL
  rw [h.length]
  exact (h.drop _).take _
def oSl (lo hi : Option Int) : D → Out D
  | .lst ds => .ok (.lst (cutL ds lo hi))
  | .scr ns => .ok (.lst ((cutL ns lo hi).map D.int))
  | .tup ds => .ok (.tup (cutL ds lo hi))
  | .str z => if z.length ≤ sizeLine then .ok (.str (cutS z lo hi)) else .stuck
  | _ => .stuck
def eSl (a : Env → Out D) (lo hi : Env → Out (Option Int)) : Env → Out D := fun ρ => (a ρ).bind fun x => (lo ρ).bind fun l => (hi ρ).bind fun h => oSl l h x
theorem cut_all {α : Type} {xs : List α} {lo hi : Option Int} (h : HT.sIx xs.length 0 lo = 0 ∧ HT.sIx xs.length xs.length hi = xs.length) : cutL xs lo hi = xs := by
  unfold cutL
  rw [h.1, h.2]
  simp
theorem cutL_map {α β : Type} (f : α → β) (xs : List α) (lo hi : Option Int) : cutL (xs.map f) lo hi = (cutL xs lo hi).map f := by
  unfold cutL
  rw [List.length_map, List.map_take, List.map_drop]
def oSlO (lo hi : Option Int) : D → Out (List D)
  | .lst ds => .ok (cutL ds lo hi)
  | .scr ns => .ok ((cutL ns lo hi).map D.int)
  | _ => .stuck
def oSlL (a : Env → Out D) (lo hi : Env → Out (Option Int)) : Env → Out (List D) := fun ρ => (a ρ).bind fun x => (lo ρ).bind fun l => (hi ρ).bind fun h => oSlO l h x
theorem se_sl {lo hi : Option Expr} {el eh : Env → Out (Option Int)} {p2 : Pos} (ha : SE X W a ea) (hl : SP' X W lo el) (hh : SP' X W hi eh) : SE X W (.Subscript a (.Slice lo hi none p2) pos) (eSl ea el eh) := by
  refine .of (pe_slice (SlR.or sl_list (SlR.or sl_tupA sl_str)) ha hl hh) fun F H σ ρ Q h1 h2 => ?_
  refine ⟨F, ρ, h1, Post.bind h2 fun d v F1 H1 e1 r1 q1 => ?_⟩
  refine ⟨F1, ρ, h1.ext e1, Post.bind q1 fun l l' F2 H2 e2 r2 q2 => ?_⟩
  cases r2
  refine ⟨F2, ρ, (h1.ext e1).ext e2, Post.bind q2 fun u u' F3 H3 e3 r3 q3 => ?_⟩
  cases r3
  have r := r1.mono (Sub.of_same (e2.ff.trans e3.ff))
  have s := e3.fh
  cases r with
  | @lst p vs ds g1 g2 => exact .inl ⟨p, vs, rfl, .inl (rd_of s g1), Post.lst s q3 (g2.cut _ _)⟩
  | @scr p ns g1 => exact .inl ⟨p, _, rfl, (Sub.of_same s).sqL g1, by rw [cutL_V, cutL_map]; exact Post.lst s q3 (DRs.ints _)⟩
  | @tup p vs ds g1 g2 =>
    refine .inr (.inl ⟨p, vs, rfl, (Sub.of_same s).sqP g1, fun hw => ?_, fun _ => Post.tup s q3 (g2.cut _ _)⟩)
    rw [g2.length] at hw
    have q3' : Post X.K X.mg (DR X.K) W F3 H3 σ Q (.ok (.tup (cutL ds l u))) := q3
    rw [cut_all hw] at q3'
    exact q3'.ok s (.tup g1 g2)
  | str z =>
    have q3' : Post X.K X.mg (DR X.K) W F3 H3 σ Q (if z.length ≤ sizeLine then .ok (.str (cutS z l u)) else .stuck) := q3
    split at q3'
    · rename_i hz
      exact .inr (.inr ⟨z, rfl, hz, q3'.ok s (.str _)⟩)
    · exact q3'.elim
  | _ => exact False.elim q3
theorem so_sl {lo hi : Option Expr} {el eh : Env → Out (Option Int)} {p2 : Pos} (ha : SE X W a ea) (hl : SP' X W lo el) (hh : SP' X W hi eh) : SO X W (.Subscript a (.Slice lo hi none p2) pos) (oSlL ea el eh) := by
  refine .of (pe_slice sl_list ha hl hh) fun F H σ ρ Q h1 h2 => ?_
  refine ⟨F, ρ, h1, PostO.bind h2 fun d v F1 H1 e1 r1 q1 => ?_⟩
  refine ⟨F1, ρ, h1.ext e1, PostO.bind q1 fun l l' F2 H2 e2 r2 q2 => ?_⟩
  cases r2
  refine ⟨F2, ρ, (h1.ext e1).ext e2, PostO.bind q2 fun u u' F3 H3 e3 r3 q3 => ?_⟩
  cases r3
  have r := r1.mono (Sub.of_same (e2.ff.trans e3.ff))
  have s := e3.fh
  cases r with
  | @lst p vs ds g1 g2 => exact ⟨p, vs, rfl, .inl (rd_of s g1), PostO.lst q3 s (g2.cut _ _)⟩
  | @scr p ns g1 => exact ⟨p, _, rfl, (Sub.of_same s).sqL g1, by rw [cutL_V, cutL_map]; exact PostO.lst q3 s (DRs.ints _)⟩
  | _ => exact False.elim q3

/-! ### calls of builtins by values -/
/-- a builtin on data -/
def CallD (K : PySem.W.Frag) (r : List V → Hp → VK → Prop) (g : List D → Out D) : Prop := ∀ (mg : Str → Option Value) (W : WX) (F H : Hp) (σ : St) (xs : List V) (ds : List D) (Q : VK), Same F H → DRs K F xs ds → Post K mg (DR K) W F H σ Q (g ds) → r xs H Q
def CallO (K : PySem.W.Frag) (r : List V → Hp → VK → Prop) (g : List D → Out (List D)) : Prop := ∀ (mg : Str → Option Value) (W : WX) (F H : Hp) (σ : St) (xs : List V) (ds : List D) (Q : VK), Same F H → DRs K F xs ds → PostO K mg W F H σ Q (g ds) → r xs H Q
def eB (g : List D → Out D) (ea : Env → Out (List D)) : Env → Out D := fun ρ => (ea ρ).bind g
def oB (g : List D → Out (List D)) (ea : Env → Out (List D)) : Env → Out (List D) := fun ρ => (ea ρ).bind g
structure BltD (X : Cx) (x : Str) (g : List D → Out D) : Prop where
  ex : ∃ r, CallD X.K r g ∧ ((∃ id, CallR X (.builtin id) r ∧ bootBuiltins x = some (.builtin id)) ∨ ∃ T, CallR X (.type T) r ∧ bootBuiltins x = some (.type T))
structure BltO (X : Cx) (x : Str) (g : List D → Out (List D)) : Prop where
  ex : ∃ r, CallO X.K r g ∧ ((∃ id, CallR X (.builtin id) r ∧ bootBuiltins x = some (.builtin id)) ∨ ∃ T, CallR X (.type T) r ∧ bootBuiltins x = some (.type T))
variable {x : Str} {p : Pos}
theorem se_blt {g : List D → Out D} {er : Env → Out (List D)} (h : BltD X x g) (hm : X.mg x = none) (ha : SA X W (e :: es) er) (hg : Gl X x := by rfl) (hn : x ≠ "__name__" := by decide) (hdb : (x == ("__debug__" : Str)) = false := by decide)
    (he : starEach (e :: es) X.env = (false, eval e X.env) :: starEach es X.env := by rfl) (hpl : (backTo pos (starEach es X.env)).any (·.1) = false := by rfl) : SE X W (.Call (.Name x p) (e :: es) [] pos) (eB g er) := by
  obtain ⟨r, h1, h2⟩ := h.ex
  have key : ∀ F H σ ρ Q, RF X.K F H σ ρ → Post X.K X.mg (DR X.K) W F H σ Q (eB g er ρ) → tCB r (dA X.K X.mg W er) σ H Q := fun F H σ ρ Q g1 g2 => by
    refine ⟨F, ρ, g1, Post.bind g2 fun d v F1 H1 e1 r1 q1 => h1 _ W F1 H1 σ v d Q e1.fh r1 q1⟩
  rcases h2 with ⟨id, hc, hv⟩ | ⟨T, hc, hv⟩
  · exact .of (pe_callB hc hg hm hv ha hn hdb he hpl) key
  · exact .of (pe_callTy hc hg hm hv ha hn hdb he hpl) key
theorem so_blt {g : List D → Out (List D)} {er : Env → Out (List D)} (h : BltO X x g) (hm : X.mg x = none) (ha : SA X W (e :: es) er) (hg : Gl X x := by rfl) (hn : x ≠ "__name__" := by decide) (hdb : (x == ("__debug__" : Str)) = false := by decide)
    (he : starEach (e :: es) X.env = (false, eval e X.env) :: starEach es X.env := by rfl) (hpl : (backTo pos (starEach es X.env)).any (·.1) = false := by rfl) : SO X W (.Call (.Name x p) (e :: es) [] pos) (oB g er) := by
  obtain ⟨r, h1, h2⟩ := h.ex
  have key : ∀ F H σ ρ Q, RF X.K F H σ ρ → PostO X.K X.mg W F H σ Q (oB g er ρ) → tCB r (dA X.K X.mg W er) σ H Q := fun F H σ ρ Q g1 g2 => by
    refine ⟨F, ρ, g1, PostO.bind g2 fun d v F1 H1 e1 r1 q1 => h1 _ W F1 H1 σ v d Q e1.fh r1 q1⟩
  rcases h2 with ⟨id, hc, hv⟩ | ⟨T, hc, hv⟩
  · exact .of (pe_callB hc hg hm hv ha hn hdb he hpl) key
  · exact .of (pe_callTy hc hg hm hv ha hn hdb he hpl) key

/-! len -/
def bLen : List D → Out D
  | [.lst ds] => .ok (.int ds.length)
  | [.tup ds] => .ok (.int ds.length)
  | [.scr ns] => .ok (.int ns.length)
  | [.str z] => if z.length ≤ sizeLine then .ok (.int z.length) else .stuck
  | _ => .stuck
theorem one_of {K : PySem.W.Frag} {F : Hp} {xs : List V} {d : D} (h : DRs K F xs [d]) : ∃ v, xs = [v] ∧ DR K F v d := by
  cases h with
  | cons h1 h2 => cases h2; exact ⟨_, rfl, h1⟩
theorem two_of {K : PySem.W.Frag} {F : Hp} {xs : List V} {d e : D} (h : DRs K F xs [d, e]) : ∃ v w, xs = [v, w] ∧ DR K F v d ∧ DR K F w e := by
  cases h with
  | cons h1 h2 =>
    obtain ⟨w, rfl, h3⟩ := one_of h2
    exact ⟨_, _, rfl, h1, h3⟩
theorem bd_len : BltD X "len" bLen := by
  refine ⟨_, ?_, .inl ⟨"len", call_len, PySem.boot_len⟩⟩
  intro mg W F H σ xs ds Q s r q
  unfold bLen at q
  split at q
  · obtain ⟨v, rfl, r1⟩ := one_of r
    cases r1 with
    | @lst p vs ds g1 g2 => exact ⟨_, _, rfl, .inl ⟨vs, .inl (rd_of s g1), rfl⟩, by rw [g2.length]; exact q.ok s (.int _)⟩
  · obtain ⟨v, rfl, r1⟩ := one_of r
    cases r1 with
    | @tup p vs ds g1 g2 => exact ⟨_, _, rfl, .inr ⟨vs, (Sub.of_same s).sqP g1, rfl⟩, by rw [g2.length]; exact q.ok s (.int _)⟩
  · obtain ⟨v, rfl, r1⟩ := one_of r
    cases r1 with
    | @scr p ns g1 => exact ⟨_, _, rfl, .inl ⟨_, (Sub.of_same s).sqL g1, rfl⟩, by rw [List.length_map]; exact q.ok s (.int _)⟩
  · obtain ⟨v, rfl, r1⟩ := one_of r
    cases r1 with
    | str z =>
      split at q
      · rename_i hz
        exact ⟨_, _, rfl, ⟨hz, rfl⟩, q.ok s (.int _)⟩
      · exact q.elim
  · exact q.elim
/-! list, tuple -/
def bList : List D → Out (List D)
  | [.lst ds] => .ok ds
  | [.tup ds] => .ok ds
  | [.scr ns] => .ok (ns.map D.int)
  | _ => .stuck
theorem bo_list : BltO X "list" bList := by
  refine ⟨_, ?_, .inr ⟨"list", call_list_of, by decide +kernel⟩⟩
  intro mg W F H σ xs ds Q s r q
  unfold bList at q
  split at q
  · obtain ⟨v, rfl, r1⟩ := one_of r
    cases r1 with
    | @lst p vs ds g1 g2 => exact ⟨p, vs, rfl, .inl (.inl (rd_of s g1)), PostO.lst q s g2⟩
  · obtain ⟨v, rfl, r1⟩ := one_of r
    cases r1 with
    | @tup p vs ds g1 g2 => exact ⟨p, vs, rfl, .inr ((Sub.of_same s).sqP g1), PostO.lst q s g2⟩
  · obtain ⟨v, rfl, r1⟩ := one_of r
    cases r1 with
    | @scr p ns g1 => exact ⟨p, _, rfl, .inl ((Sub.of_same s).sqL g1), PostO.lst q s (DRs.ints _)⟩
  · exact q.elim
def bTuple : List D → Out D
  | [.lst ds] => .ok (.tup ds)
  | [.tup ds] => .ok (.tup ds)
  | [.scr ns] => .ok (.tup (ns.map D.int))
  | _ => .stuck
theorem bd_tuple : BltD X "tuple" bTuple := by
  refine ⟨_, ?_, .inr ⟨"tuple", call_tuple_of, by decide +kernel⟩⟩
  intro mg W F H σ xs ds Q s r q
  unfold bTuple at q
  split at q
  · obtain ⟨v, rfl, r1⟩ := one_of r
    cases r1 with
    | @lst p vs ds g1 g2 => exact ⟨p, vs, rfl, .inl ⟨.inl (rd_of s g1), Post.tup s q g2⟩⟩
  · obtain ⟨v, rfl, r1⟩ := one_of r
    cases r1 with
    | @tup p vs ds g1 g2 => exact ⟨p, vs, rfl, .inr ⟨(Sub.of_same s).sqP g1, q.ok s (.tup g1 g2)⟩⟩
  · obtain ⟨v, rfl, r1⟩ := one_of r
    cases r1 with
    | @scr p ns g1 => exact ⟨p, _, rfl, .inl ⟨(Sub.of_same s).sqL g1, Post.tup s q (DRs.ints _)⟩⟩
  · exact q.elim

/-! lists of one kind -/
def intsOf : List D → Option (List Int)
  | [] => some []
  | .int i :: r => (intsOf r).map (i :: ·)
  | _ => none
def blsOf : List D → Option (List Bool)
  | [] => some []
  | .bl i :: r => (blsOf r).map (i :: ·)
  | _ => none
@[simp] theorem intsOf_map (ns : List Int) : intsOf (ns.map D.int) = some ns := by
  induction ns with
  | nil => rfl
  | cons n ns ih => simp [intsOf, ih]
@[simp] theorem blsOf_map (ns : List Bool) : blsOf (ns.map D.bl) = some ns := by
  induction ns with
  | nil => rfl
  | cons n ns ih => simp [blsOf, ih]
@[simp] theorem intsOf_map' {α : Type} (f : α → Int) (xs : List α) : intsOf (xs.map fun x => D.int (f x)) = some (xs.map f) := by
  have := intsOf_map (xs.map f)
  rwa [List.map_map] at this
@[simp] theorem blsOf_map' {α : Type} (f : α → Bool) (xs : List α) : blsOf (xs.map fun x => D.bl (f x)) = some (xs.map f) := by
  have := blsOf_map (xs.map f)
  rwa [List.map_map] at this
theorem intsOf_eq : ∀ {ds : List D} {ns : List Int}, intsOf ds = some ns → ds = ns.map D.int
  | [], ns, h => by cases h; rfl
  | d :: ds, ns, h => by
    cases d with
    | int i =>
      cases e : intsOf ds with
      | none => simp [intsOf, e] at h
      | some ms =>
        simp [intsOf, e] at h
        rw [← h, intsOf_eq e]; rfl
    | _ => cases h
theorem blsOf_eq : ∀ {ds : List D} {ns : List Bool}, blsOf ds = some ns → ds = ns.map D.bl
  | [], ns, h => by cases h; rfl
  | d :: ds, ns, h => by
    cases d with
    | bl i =>
      cases e : blsOf ds with
      | none => simp [blsOf, e] at h
      | some ms =>
        simp [blsOf, e] at h
        rw [← h, blsOf_eq e]; rfl
    | _ => cases h
theorem DRs.ints_inv {K : PySem.W.Frag} {F : Hp} : ∀ {vs : List V} {ns : List Int}, DRs K F vs (ns.map D.int) → vs = ns.map V.int
  | _, [], h => by cases h; rfl
  | _, n :: ns, h => by
    cases h with
    | cons h1 h2 => cases h1; rw [DRs.ints_inv h2]; rfl
theorem DRs.bls_inv {K : PySem.W.Frag} {F : Hp} : ∀ {vs : List V} {ns : List Bool}, DRs K F vs (ns.map D.bl) → vs = ns.map V.bl
  | _, [], h => by cases h; rfl
  | _, n :: ns, h => by
    cases h with
    | cons h1 h2 => cases h1; rw [DRs.bls_inv h2]; rfl
theorem intsOf_DR {K : PySem.W.Frag} {F : Hp} {vs : List V} {ds : List D} {ns : List Int} (h : DRs K F vs ds) (e : intsOf ds = some ns) : vs = ns.map V.int ∧ ds = ns.map D.int := by
  have := intsOf_eq e
  subst this
  exact ⟨h.ints_inv, rfl⟩
theorem blsOf_DR {K : PySem.W.Frag} {F : Hp} {vs : List V} {ds : List D} {ns : List Bool} (h : DRs K F vs ds) (e : blsOf ds = some ns) : vs = ns.map V.bl ∧ ds = ns.map D.bl := by
  have := blsOf_eq e
  subst this
  exact ⟨h.bls_inv, rfl⟩
def bSum : List D → Out D
  | [.lst ds] => match intsOf ds with
    | some ns => .ok (.int ns.sum)
    | none => .stuck
  | _ => .stuck
theorem bd_sum (hc : X.calm = true) : BltD X "sum" bSum := by
  refine ⟨_, ?_, .inl ⟨"sum", cr_sum hc, by decide +kernel⟩⟩
  intro mg W F H σ xs ds Q s r q
  unfold bSum at q
  split at q
  · obtain ⟨v, rfl, r1⟩ := one_of r
    cases r1 with
    | @lst p vs ds g1 g2 =>
      split at q
      · rename_i ns hns
        obtain ⟨rfl, rfl⟩ := intsOf_DR g2 hns
        exact ⟨p, ns, rfl, .inl (rd_of s g1), q.ok s (.int _)⟩
      · exact q.elim
  · exact q.elim
def bAny : List D → Out D
  | [.lst ds] => match blsOf ds with
    | some ns => .ok (.bl (ns.any id))
    | none => .stuck
  | _ => .stuck
theorem bd_any (hc : X.calm = true) : BltD X "any" bAny := by
  refine ⟨_, ?_, .inl ⟨"any", cr_any hc, by decide +kernel⟩⟩
  intro mg W F H σ xs ds Q s r q
  unfold bAny at q
  split at q
  · obtain ⟨v, rfl, r1⟩ := one_of r
    cases r1 with
    | @lst p vs ds g1 g2 =>
      split at q
      · rename_i ns hns
        obtain ⟨rfl, rfl⟩ := blsOf_DR g2 hns
        exact ⟨p, ns, rfl, .inl (rd_of s g1), q.ok s (.bl _)⟩
      · exact q.elim
  · exact q.elim
def bAll : List D → Out D
  | [.lst ds] => match blsOf ds with
    | some ns => .ok (.bl (ns.all id))
    | none => .stuck
  | _ => .stuck
theorem bd_all (hc : X.calm = true) : BltD X "all" bAll := by
  refine ⟨_, ?_, .inl ⟨"all", cr_all hc, by decide +kernel⟩⟩
  intro mg W F H σ xs ds Q s r q
  unfold bAll at q
  split at q
  · obtain ⟨v, rfl, r1⟩ := one_of r
    cases r1 with
    | @lst p vs ds g1 g2 =>
      split at q
      · rename_i ns hns
        obtain ⟨rfl, rfl⟩ := blsOf_DR g2 hns
        exact ⟨p, ns, rfl, .inl (rd_of s g1), q.ok s (.bl _)⟩
      · exact q.elim
  · exact q.elim
def bMax2 : List D → Out D
  | [.int i, .int j] => .ok (.int (if j > i then j else i))
  | _ => .stuck
theorem bd_max2 (hc : X.calm = true) : BltD X "max" bMax2 := by
  refine ⟨_, ?_, .inl ⟨"max", call_max2 hc, by decide +kernel⟩⟩
  intro mg W F H σ xs ds Q s r q
  unfold bMax2 at q
  split at q
  · obtain ⟨v, w, rfl, r1, r2⟩ := two_of r
    cases r1
    cases r2
    exact ⟨_, _, rfl, q.ok s (.int _)⟩
  · exact q.elim
def bMin2 : List D → Out D
  | [.int i, .int j] => .ok (.int (if j < i then j else i))
  | _ => .stuck
theorem bd_min2 (hc : X.calm = true) : BltD X "min" bMin2 := by
  refine ⟨_, ?_, .inl ⟨"min", call_min2 hc, by decide +kernel⟩⟩
  intro mg W F H σ xs ds Q s r q
  unfold bMin2 at q
  split at q
  · obtain ⟨v, w, rfl, r1, r2⟩ := two_of r
    cases r1
    cases r2
    exact ⟨_, _, rfl, q.ok s (.int _)⟩
  · exact q.elim
def bAbs : List D → Out D
  | [.int i] => .ok (.int (if i < 0 then -i else i))
  | _ => .stuck
theorem bd_abs : BltD X "abs" bAbs := by
  refine ⟨_, ?_, .inl ⟨"abs", call_abs, by decide +kernel⟩⟩
  intro mg W F H σ xs ds Q s r q
  unfold bAbs at q
  split at q
  · obtain ⟨v, rfl, r1⟩ := one_of r
    cases r1
    exact ⟨_, rfl, q.ok s (.int _)⟩
  · exact q.elim
def bInt : List D → Out D
  | [.int i] => .ok (.int i)
  | [.bl b] => .ok (.int (if b then 1 else 0))
  | _ => .stuck
theorem bd_int : BltD X "int" bInt := by
  refine ⟨_, ?_, .inr ⟨"int", call_int1, by decide +kernel⟩⟩
  intro mg W F H σ xs ds Q s r q
  unfold bInt at q
  split at q
  · obtain ⟨v, rfl, r1⟩ := one_of r
    cases r1
    exact .inl ⟨_, rfl, q.ok s (.int _)⟩
  · obtain ⟨v, rfl, r1⟩ := one_of r
    cases r1
    exact .inr ⟨_, rfl, q.ok s (.int _)⟩
  · exact q.elim
def bStr : List D → Out D
  | [.int i] => if i.natAbs.log2 < 1920 then .ok (.str (toString i)) else .stuck
  | _ => .stuck
theorem bd_str : BltD X "str" bStr := by
  refine ⟨_, ?_, .inr ⟨"str", call_str_int, by decide +kernel⟩⟩
  intro mg W F H σ xs ds Q s r q
  unfold bStr at q
  split at q
  · obtain ⟨v, rfl, r1⟩ := one_of r
    cases r1
    split at q
    · rename_i hz
      exact ⟨_, rfl, hz, q.ok s (.str _)⟩
    · exact q.elim
  · exact q.elim
/-! sorted of ints -/
def insI (x : Int) : List Int → List Int
  | [] => [x]
  | y :: ys => if x ≤ y then x :: y :: ys else y :: insI x ys
def sortI : List Int → List Int
  | [] => []
  | x :: xs => insI x (sortI xs)
theorem insI_perm (x : Int) : ∀ ys, (insI x ys).Perm (x :: ys)
  | [] => .refl _
  | y :: ys => by
    unfold insI
    split
    · exact .refl _
    · exact ((insI_perm x ys).cons y).trans (.swap x y ys)
theorem sortI_perm : ∀ xs, (sortI xs).Perm xs
  | [] => .refl _
  | x :: xs => (insI_perm x _).trans ((sortI_perm xs).cons x)
theorem insI_sorted (x : Int) : ∀ {ys}, List.Pairwise (· ≤ ·) ys → List.Pairwise (· ≤ ·) (insI x ys)
  | [], _ => by simp [insI]
  | y :: ys, h => by
    unfold insI
    split
    · rename_i hx
      refine .cons (fun z hz => ?_) h
      rcases List.mem_cons.mp hz with rfl | hz
      · exact hx
      · exact Int.le_trans hx ((List.pairwise_cons.mp h).1 z hz)
    · rename_i hx
      refine .cons (fun z hz => ?_) (insI_sorted x (List.pairwise_cons.mp h).2)
      rcases List.mem_cons.mp ((insI_perm x ys).mem_iff.mp hz) with rfl | hz
      · omega
      · exact (List.pairwise_cons.mp h).1 z hz
theorem sortI_sorted : ∀ xs, List.Pairwise (· ≤ ·) (sortI xs)
  | [] => .nil
  | x :: xs => insI_sorted x (sortI_sorted xs)
theorem sort_uniq : ∀ {xs ys : List Int}, xs.Perm ys → List.Pairwise (· ≤ ·) xs → List.Pairwise (· ≤ ·) ys → xs = ys
  | [], ys, h, _, _ => (List.nil_perm.mp h).symm
  | x :: xs, [], h, _, _ => absurd h.length_eq (by simp)
  | x :: xs, y :: ys, h, hx, hy => by
    have hx' := List.pairwise_cons.mp hx
    have hy' := List.pairwise_cons.mp hy
    have e : x = y := by
      have a : x ∈ y :: ys := h.mem_iff.mp List.mem_cons_self
      have b : y ∈ x :: xs := h.mem_iff.mpr List.mem_cons_self
      rcases List.mem_cons.mp a with a | a
      · exact a
      · rcases List.mem_cons.mp b with b | b
        · exact b.symm
        · exact Int.le_antisymm (hx'.1 y b) (hy'.1 x a)
    subst e
    rw [sort_uniq (List.perm_cons x |>.mp h) hx'.2 hy'.2]
def bSortI : List D → Out (List D)
  | [.lst ds] => match intsOf ds with
    | some ns => .ok ((sortI ns).map D.int)
    | none => .stuck
  | _ => .stuck
theorem bo_sortI : BltO X "sorted" bSortI := by
  refine ⟨_, ?_, .inl ⟨"sorted", cr_sortedI, by decide +kernel⟩⟩
  intro mg W F H σ xs ds Q s r q
  unfold bSortI at q
  split at q
  · obtain ⟨v, rfl, r1⟩ := one_of r
    cases r1 with
    | @lst p vs ds g1 g2 =>
      split at q
      · rename_i ns hns
        obtain ⟨rfl, rfl⟩ := intsOf_DR g2 hns
        refine ⟨p, ns, rfl, .inl (rd_of s g1), fun ns' p' hp hs hn => ?_⟩
        rw [sort_uniq (hp.trans (sortI_perm ns).symm) hs (sortI_sorted ns)]
        exact PostO.lst q s (DRs.ints _) p' hn
      · exact q.elim
  · exact q.elim

/-! ### a def of one's own -/
def spF (mg : Str → Option Value) (K : PySem.W.Frag) (fn : List D → Out D) : Sp := fun vs H Q E => ∃ F ds, Same F H ∧ DRs K F vs ds ∧ Post K mg (DR K) (fun c d _ H => E c d H) F H [] Q (fn ds)
def spO (mg : Str → Option Value) (K : PySem.W.Frag) (fn : List D → Out (List D)) : Sp := fun vs H Q E => ∃ F ds, Same F H ∧ DRs K F vs ds ∧ PostO K mg (fun c d _ H => E c d H) F H [] Q (fn ds)
/-- the def that stands at x keeps fn, by at most level k; nothing is raised -/
structure FnD (P : Program) (w : World) (K : PySem.W.Frag) (mg : Str → Option Value) (base : Heap) (k : Nat) (x : Str) (fn : List D → Out D) : Prop where
  ex : ∃ f fd ps, FnOk P w K mg base CX0 k f fd ps (spF mg K fn) ∧ mg x = some (.ref f) ∧ PySem.W.keepIn K (.ref f) = true ∧ Binds K fd ps []
structure FnL (P : Program) (w : World) (K : PySem.W.Frag) (mg : Str → Option Value) (base : Heap) (k : Nat) (x : Str) (fn : List D → Out (List D)) : Prop where
  ex : ∃ f fd ps, FnOk P w K mg base CX0 k f fd ps (spO mg K fn) ∧ mg x = some (.ref f) ∧ PySem.W.keepIn K (.ref f) = true ∧ Binds K fd ps []
def eCall (fn : List D → Out D) (ea : Env → Out (List D)) : Env → Out D := fun ρ => (ea ρ).bind fun ds => noX (fn ds)
def oCall (fn : List D → Out (List D)) (ea : Env → Out (List D)) : Env → Out (List D) := fun ρ => (ea ρ).bind fun ds => noX (fn ds)
theorem Post.noX {α β : Type} {K : PySem.W.Frag} {mg : Str → Option Value} {R : Hp → β → α → Prop} {W W' : WX} {F H : Hp} {σ σ' : St} {Q : β → Hp → Prop} {o : Out α} (h : Post K mg R W F H σ Q (noX o)) : Post K mg R W' F H σ' Q o := by
  cases o with
  | ok d => exact h
  | exc x => exact h.elim
  | stuck => exact h
theorem PostO.noX {K : PySem.W.Frag} {mg : Str → Option Value} {W W' : WX} {F H : Hp} {σ σ' : St} {Q : VK} {o : Out (List D)} (h : PostO K mg W F H σ Q (noX o)) : PostO K mg W' F H σ' Q o := by
  cases o with
  | ok d => exact h
  | exc x => exact h.elim
  | stuck => exact h
theorem se_call {k : Nat} {fn : List D → Out D} {er : Env → Out (List D)} (G : FnD X.prog X.w X.K X.mg X.base k x fn) (hr : Room k X.A) (ha : SA X W (e :: es) er) (hg : Gl X x := by rfl) (hdb : (x == ("__debug__" : Str)) = false := by decide)
    (he : starEach (e :: es) X.env = (false, eval e X.env) :: starEach es X.env := by rfl) (hpl : (backTo pos (starEach es X.env)).any (·.1) = false := by rfl) : SE X W (.Call (.Name x p) (e :: es) [] pos) (eCall fn er) := by
  obtain ⟨f, fd, ps, F, hm, hk, hb⟩ := G.ex
  refine .of (pe_call F hr hg hm hk hb .nil pass0 ha hdb he hpl) fun F H σ ρ Q h1 h2 => ?_
  refine ⟨F, ρ, h1, Post.bind h2 fun d v F1 H1 e1 r1 q1 => ?_⟩
  rw [List.append_nil]
  exact ⟨F1, d, e1.fh, r1, q1.noX⟩
theorem so_call {k : Nat} {fn : List D → Out (List D)} {er : Env → Out (List D)} (G : FnL X.prog X.w X.K X.mg X.base k x fn) (hr : Room k X.A) (ha : SA X W (e :: es) er) (hg : Gl X x := by rfl) (hdb : (x == ("__debug__" : Str)) = false := by decide)
    (he : starEach (e :: es) X.env = (false, eval e X.env) :: starEach es X.env := by rfl) (hpl : (backTo pos (starEach es X.env)).any (·.1) = false := by rfl) : SO X W (.Call (.Name x p) (e :: es) [] pos) (oCall fn er) := by
  obtain ⟨f, fd, ps, F, hm, hk, hb⟩ := G.ex
  refine .of (pe_call F hr hg hm hk hb .nil pass0 ha hdb he hpl) fun F H σ ρ Q h1 h2 => ?_
  refine ⟨F, ρ, h1, PostO.bind h2 fun d v F1 H1 e1 r1 q1 => ?_⟩
  rw [List.append_nil]
  exact ⟨F1, d, e1.fh, r1, q1.noX⟩

/-! ### tests -/
theorem st_not {t : Env → Out Bool} (ha : ST X W a t) : ST X W (.UnaryOp .Not a pos) (fun ρ => (t ρ).bind fun b => .ok (!b)) :=
  .of (pt_not ha) fun F H σ ρ Q h1 h2 => ⟨F, ρ, h1, Post.bind h2 fun d v F1 H1 e1 r1 q1 => by cases r1; exact q1.ok e1.fh rfl⟩
def tAnd' (t u : Env → Out Bool) : Env → Out Bool := fun ρ => (t ρ).bind fun b => if b then u ρ else .ok false
def tOr' (t u : Env → Out Bool) : Env → Out Bool := fun ρ => (t ρ).bind fun b => if b then .ok true else u ρ
def tNot' (t : Env → Out Bool) : Env → Out Bool := fun ρ => (t ρ).bind fun b => .ok (!b)
theorem st_not' {t : Env → Out Bool} (ha : ST X W a t) : ST X W (.UnaryOp .Not a pos) (tNot' t) := st_not ha
variable {t u : Env → Out Bool} {rest : List Expr}
theorem sw_and1 (ha : ST X W a t) : SW X W (.BoolOp .And [a] pos) t := ⟨(pw_and1 ha).run⟩
theorem sw_or1 (ha : ST X W a t) : SW X W (.BoolOp .Or [a] pos) t := ⟨(pw_or1 ha).run⟩
theorem sw_and (ha : ST X W a t) (hb : SW X W (.BoolOp .And (b :: rest) pos) u) : SW X W (.BoolOp .And (a :: b :: rest) pos) (tAnd' t u) :=
  .of (pw_and ha hb) fun F H σ ρ Q h1 h2 => ⟨F, ρ, h1, Post.bind h2 fun d v F1 H1 e1 r1 q1 => by
    cases r1
    cases d with
    | true => exact iteT ⟨F1, ρ, h1.ext e1, q1⟩
    | false => exact iteF (q1.ok e1.fh rfl)⟩
theorem sw_or (ha : ST X W a t) (hb : SW X W (.BoolOp .Or (b :: rest) pos) u) : SW X W (.BoolOp .Or (a :: b :: rest) pos) (tOr' t u) :=
  .of (pw_or ha hb) fun F H σ ρ Q h1 h2 => ⟨F, ρ, h1, Post.bind h2 fun d v F1 H1 e1 r1 q1 => by
    cases r1
    cases d with
    | false => exact iteF ⟨F1, ρ, h1.ext e1, q1⟩
    | true => exact iteT (q1.ok e1.fh rfl)⟩
theorem SW.st {t : Env → Out Bool} (h : SW X W a t) : ST X W a t := ⟨h.run _⟩
/-- the truth of data -/
def truD : D → Out Bool
  | .non => .ok false
  | .bl b => .ok b
  | .int i => .ok (i != 0)
  | .str z => if z.length ≤ sizeLine then .ok ((z.length : Int) != 0) else .stuck
  | .lst ds => .ok (!ds.isEmpty)
  | .tup ds => .ok (!ds.isEmpty)
  | .scr ds => .ok (!ds.isEmpty)
  | _ => .stuck
def tTru (a : Env → Out D) : Env → Out Bool := fun ρ => (a ρ).bind truD
theorem isEmpty_DR {K : PySem.W.Frag} {F : Hp} {vs : List V} {ds : List D} (h : DRs K F vs ds) : vs.isEmpty = ds.isEmpty := by
  cases h <;> rfl
theorem st_tru (ha : SE X W a ea) (he : ∀ whole, isTrue a X.env whole = (do let v ← whole; standAt a.pos; holding [v] (truthy v)) := by intro _; rfl) : ST X W a (tTru ea) := by
  refine .of (pt_truth ha he) fun F H σ ρ Q h1 h2 => ⟨F, ρ, h1, Post.bind h2 fun d v F1 H1 e1 r1 q1 => ?_⟩
  have s := e1.fh
  cases r1 with
  | non => exact ⟨false, rfl, q1.ok s rfl⟩
  | bl b => exact ⟨b, rfl, q1.ok s rfl⟩
  | int b => exact ⟨_, rfl, q1.ok s rfl⟩
  | str z =>
    have q' : Post X.K X.mg (fun _ b c => b = c) W F1 H1 σ Q (if z.length ≤ sizeLine then .ok ((z.length : Int) != 0) else .stuck) := q1
    split at q'
    · rename_i hz
      exact ⟨_, ⟨hz, rfl⟩, q'.ok s rfl⟩
    · exact q'.elim
  | @lst p vs ds g1 g2 => exact ⟨_, .inl ⟨vs, .inl (rd_of s g1), rfl⟩, q1.ok s (by rw [isEmpty_DR g2])⟩
  | @tup p vs ds g1 g2 => exact ⟨_, .inr (.inl ⟨vs, (Sub.of_same s).sqP g1, rfl⟩), q1.ok s (by rw [isEmpty_DR g2])⟩
  | @scr p ns g1 => exact ⟨_, .inl ⟨_, (Sub.of_same s).sqL g1, rfl⟩, q1.ok s (by cases ns <;> rfl)⟩
  | dK _ _ => exact False.elim q1
  | dT _ _ => exact False.elim q1
  | exn _ _ _ _ => exact False.elim q1
  | cst _ => exact False.elim q1

/-! ### and, or, not, if as values -/
def eAnd (a b : Env → Out D) : Env → Out D := fun ρ => (a ρ).bind fun d => match d with
  | .bl true => b ρ
  | .bl false => .ok (.bl false)
  | _ => .stuck
def eOr (a b : Env → Out D) : Env → Out D := fun ρ => (a ρ).bind fun d => match d with
  | .bl false => b ρ
  | .bl true => .ok (.bl true)
  | _ => .stuck
def eNot (a : Env → Out D) : Env → Out D := fun ρ => (a ρ).bind fun d => match d with
  | .bl c => .ok (.bl (!c))
  | _ => .stuck
def eIf (t : Env → Out Bool) (a b : Env → Out D) : Env → Out D := fun ρ => (t ρ).bind fun c => if c then a ρ else b ρ
theorem se_one {op} (ha : SE X W a ea) : SE X W (.BoolOp op [a] pos) ea := pe_one ha
theorem se_and2 (ha : SE X W a ea) (hb : SE X W (.BoolOp .And (b :: rest) pos) eb) : SE X W (.BoolOp .And (a :: b :: rest) pos) (eAnd ea eb) :=
  .of (pe_and ha hb) fun F H σ ρ Q h1 h2 => ⟨F, ρ, h1, Post.bind h2 fun d v F1 H1 e1 r1 q1 => by
    cases r1 with
    | bl c =>
      refine ⟨c, rfl, ?_⟩
      cases c with
      | true => exact iteT ⟨F1, ρ, h1.ext e1, q1⟩
      | false => exact iteF (q1.ok e1.fh (.bl _))
    | _ => exact False.elim q1⟩
theorem se_or2 (ha : SE X W a ea) (hb : SE X W (.BoolOp .Or (b :: rest) pos) eb) : SE X W (.BoolOp .Or (a :: b :: rest) pos) (eOr ea eb) :=
  .of (pe_or ha hb) fun F H σ ρ Q h1 h2 => ⟨F, ρ, h1, Post.bind h2 fun d v F1 H1 e1 r1 q1 => by
    cases r1 with
    | bl c =>
      refine ⟨c, rfl, ?_⟩
      cases c with
      | false => exact iteF ⟨F1, ρ, h1.ext e1, q1⟩
      | true => exact iteT (q1.ok e1.fh (.bl _))
    | _ => exact False.elim q1⟩
theorem se_not (ha : SE X W a ea) : SE X W (.UnaryOp .Not a pos) (eNot ea) :=
  .of (pe_not ha) fun F H σ ρ Q h1 h2 => ⟨F, ρ, h1, Post.bind h2 fun d v F1 H1 e1 r1 q1 => by
    cases r1 with
    | bl c => exact ⟨c, rfl, q1.ok e1.fh (.bl _)⟩
    | _ => exact False.elim q1⟩
theorem se_ifx (hc : ST X W c t) (ha : SE X W a ea) (hb : SE X W b eb) : SE X W (.IfExp c a b pos) (eIf t ea eb) :=
  .of (pe_ifExp hc ha hb) fun F H σ ρ Q h1 h2 => ⟨F, ρ, h1, Post.bind h2 fun d v F1 H1 e1 r1 q1 => by
    cases r1
    cases d with
    | true => exact iteT ⟨F1, ρ, h1.ext e1, q1⟩
    | false => exact iteF ⟨F1, ρ, h1.ext e1, q1⟩⟩
end
end CW
namespace CW
open PySem PySem.Spec PyProof.Rows L2

/-! ### who owns what a slot holds -/
inductive OK where
  | fz | ol | od
  deriving DecidableEq
/-- a dict's content -/
inductive DicR (K : PySem.W.Frag) (F : Hp) : HO → D → Prop
  | k {kvs : List (Key × V)} {vs : List D} : DRs K F (kvs.map (·.2)) vs → DicR K F (.dK kvs) (.dic false false (kvs.map fun p => keyD p.1) vs)
  | t {kvs : List (List Key × V)} {vs : List D} : DRs K F (kvs.map (·.2)) vs → DicR K F (.dT kvs) (.dic false true (kvs.map fun p => .tup (p.1.map keyD)) vs)
theorem DicR.mono {K : PySem.W.Frag} {F G : Hp} {u : HO} {d : D} (s : Sub F G) (h : DicR K F u d) : DicR K G u d := by
  cases h with
  | k h => exact .k (h.mono s)
  | t h => exact .t (h.mono s)
theorem DicR.dr {K : PySem.W.Frag} {F : Hp} {u : HO} {d : D} {a : Addr} (h : DicR K F u d) (e : F a = some u) : DR K F (.ref a) d := by
  cases h with
  | k h => exact .dK (lk := false) (.inl e) h
  | t h => exact .dT (lk := false) (.inl e) h
theorem DicR.mut {K : PySem.W.Frag} {F : Hp} {u : HO} {d : D} (h : DicR K F u d) : Mut (some u) := by
  cases h <;> exact True.intro
def SlotR (K : PySem.W.Frag) (F H : Hp) : OK → V → D → List Addr → Prop
  | .fz, v, d, fp => fp = [] ∧ DR K F v d
  | .ol, v, d, fp => ∃ a vs ds, v = .ref a ∧ d = .lst ds ∧ fp = [a] ∧ H a = some (.lst vs) ∧ DRs K F vs ds
  | .od, v, d, fp => ∃ a u, v = .ref a ∧ fp = [a] ∧ H a = some u ∧ DicR K F u d
theorem SlotR.stable {K : PySem.W.Frag} {F H F' H' : Hp} {k : OK} {v : V} {d : D} {fp : List Addr} (h : SlotR K F H k v d fp) (s : Same F F') (hh : ∀ a ∈ fp, H' a = H a) : SlotR K F' H' k v d fp := by
  cases k with
  | fz => exact ⟨h.1, h.2.mono (Sub.of_same s)⟩
  | ol =>
    obtain ⟨a, vs, ds, h1, h2, h3, h4, h5⟩ := h
    subst h3
    exact ⟨a, vs, ds, h1, h2, rfl, by rw [hh a (by simp)]; exact h4, h5.mono (Sub.of_same s)⟩
  | od =>
    obtain ⟨a, u, h1, h3, h4, h5⟩ := h
    subst h3
    exact ⟨a, u, h1, rfl, by rw [hh a (by simp)]; exact h4, h5.mono (Sub.of_same s)⟩
theorem SlotR.freeze {K : PySem.W.Frag} {F H G : Hp} {k : OK} {v : V} {d : D} {fp : List Addr} (h : SlotR K F H k v d fp) (s : Same F G) (hh : ∀ a ∈ fp, G a = H a) : DR K G v d := by
  cases k with
  | fz => exact h.2.mono (Sub.of_same s)
  | ol =>
    obtain ⟨a, vs, ds, rfl, rfl, rfl, h4, h5⟩ := h
    exact .lst (.inl (by rw [hh a (by simp)]; exact h4)) (h5.mono (Sub.of_same s))
  | od =>
    obtain ⟨a, u, rfl, rfl, h4, h5⟩ := h
    exact (h5.mono (Sub.of_same s)).dr (by rw [hh a (by simp)]; exact h4)
def kd (O : List OK) (i : Nat) : OK := O.getD i .fz
structure Rep (K : PySem.W.Frag) (F0 H0 : Hp) (O : List OK) (F H : Hp) (σ : St) (ρ : Env) : Prop where
  ext : Ext F0 H0 F H
  len : σ.length = ρ.length
  sl : ∃ fp : Nat → List Addr, (∀ (i : Nat) (d : D), ρ[i]? = some (some d) → ∃ v, σ[i]? = some (some v) ∧ SlotR K F H (kd O i) v d (fp i)) ∧
    (∀ i, ∀ a ∈ fp i, F a = none ∧ H0 a = none ∧ Mut (H a)) ∧ ∀ i j a, a ∈ fp i → a ∈ fp j → i = j

theorem mut_some {o : Option HO} (h : Mut o) : ∃ u, o = some u ∧ (∀ xs, u ≠ .tup xs) ∧ ∀ b w, u ≠ .frz b w := by
  cases o with
  | none => exact h.elim
  | some u =>
    refine ⟨u, rfl, fun xs e => ?_, fun b w e => ?_⟩
    · subst e; exact h.elim
    · subst e; exact h.elim

section
variable {K : PySem.W.Frag} {F0 H0 F H F' H' : Hp} {O O' : List OK} {σ : St} {ρ : Env}
theorem Rep.same (r : Rep K F0 H0 O F H σ ρ) : Same F H := r.ext.fh
/-- the heaps grow, what is owned stands -/
theorem Rep.grow (r : Rep K F0 H0 O F H σ ρ) (e : Ext F H F' H') : Rep K F0 H0 O F' H' σ ρ := by
  obtain ⟨fp, h1, h2, h3⟩ := r.sl
  have hl : ∀ i, ∀ a ∈ fp i, H' a = H a := fun i a ha => by
    obtain ⟨_, _, m⟩ := h2 i a ha
    obtain ⟨u, hu, _⟩ := mut_some m
    rw [hu]; exact e.hh _ _ hu
  refine ⟨r.ext.trans e, r.len, fp, fun i d hi => ?_, fun i a ha => ?_, h3⟩
  · obtain ⟨v, hv, hs⟩ := h1 i d hi
    exact ⟨v, hv, hs.stable e.ff (hl i)⟩
  · obtain ⟨a1, a2, m⟩ := h2 i a ha
    refine ⟨?_, a2, by rw [hl i a ha]; exact m⟩
    cases q : F' a with
    | none => rfl
    | some o =>
      rcases e.new a (by rw [q]; simp) with z | z
      · exact absurd a1 z
      · rw [z] at m; exact m.elim
def hide : List OK → Env → Env
  | [], ρ => ρ
  | _ :: _, [] => []
  | .fz :: O, x :: ρ => x :: hide O ρ
  | .ol :: O, _ :: ρ => none :: hide O ρ
  | .od :: O, _ :: ρ => none :: hide O ρ
theorem hide_len : ∀ (O : List OK) (ρ : Env), (hide O ρ).length = ρ.length
  | [], _ => rfl
  | _ :: _, [] => rfl
  | .fz :: O, x :: ρ => by simp [hide, hide_len O ρ]
  | .ol :: O, x :: ρ => by simp [hide, hide_len O ρ]
  | .od :: O, x :: ρ => by simp [hide, hide_len O ρ]
theorem hide_get : ∀ (O : List OK) (ρ : Env) (i : Nat) (d : D), (hide O ρ)[i]? = some (some d) → ρ[i]? = some (some d) ∧ kd O i = .fz
  | [], ρ, i, d, h => ⟨h, by simp [kd]⟩
  | _ :: _, [], i, d, h => by simp [hide] at h
  | .fz :: O, x :: ρ, 0, d, h => ⟨by simpa [hide] using h, rfl⟩
  | .fz :: O, x :: ρ, i + 1, d, h => by
    have := hide_get O ρ i d (by simpa [hide] using h)
    exact ⟨by simpa using this.1, by simpa [kd] using this.2⟩
  | .ol :: O, x :: ρ, 0, d, h => by simp [hide] at h
  | .ol :: O, x :: ρ, i + 1, d, h => by
    have := hide_get O ρ i d (by simpa [hide] using h)
    exact ⟨by simpa using this.1, by simpa [kd] using this.2⟩
  | .od :: O, x :: ρ, 0, d, h => by simp [hide] at h
  | .od :: O, x :: ρ, i + 1, d, h => by
    have := hide_get O ρ i d (by simpa [hide] using h)
    exact ⟨by simpa using this.1, by simpa [kd] using this.2⟩
theorem Rep.hid (r : Rep K F0 H0 O F H σ ρ) : RF K F H σ (hide O ρ) := by
  obtain ⟨fp, h1, h2, h3⟩ := r.sl
  refine ⟨r.same, by rw [hide_len]; exact r.len, fun i d hi => ?_⟩
  obtain ⟨a, b⟩ := hide_get O ρ i d hi
  obtain ⟨v, hv, hs⟩ := h1 i d a
  rw [b] at hs
  exact ⟨v, hv, hs.2⟩
open Classical in
/-- everything frozen for a while -/
theorem Rep.lend (r : Rep K F0 H0 O F H σ ρ) : ∃ G, RF K G H σ ρ ∧ Same F G ∧ ∀ G' H', Ext G H G' H' → Rep K F0 H0 [] G' H' σ ρ ∧
    ∃ F', Rep K F0 H0 O F' H' σ ρ ∧ Same F' G' ∧ (∀ v d, lf d = true → DR K G' v d → DR K F' v d) ∧ (∀ vs ds, lfs ds = true → DRs K G' vs ds → DRs K F' vs ds) ∧ ∀ a, G' a = none → F' a = none := by
  obtain ⟨fp, h1, h2, h3⟩ := r.sl
  let own : Addr → Prop := fun a => ∃ i, a ∈ fp i
  let G : Hp := fun b => if own b then H b else F b
  have gO : ∀ b, own b → G b = H b := fun b hb => if_pos hb
  have gN : ∀ b, ¬ own b → G b = F b := fun b hb => if_neg hb
  have sFG : Same F G := fun b o e => by
    by_cases hb : own b
    · obtain ⟨i, hi⟩ := hb
      rw [(h2 i b hi).1] at e; cases e
    · rw [gN b hb]; exact e
  have sGH : Same G H := fun b o e => by
    by_cases hb : own b
    · rw [gO b hb] at e; exact e
    · rw [gN b hb] at e; exact r.same _ _ e
  have rf : RF K G H σ ρ := ⟨sGH, r.len, fun i d hi => by
    obtain ⟨v, hv, hs⟩ := h1 i d hi
    exact ⟨v, hv, hs.freeze sFG fun a ha => gO a ⟨i, ha⟩⟩⟩
  have e0 : Ext F0 H0 G H := ⟨r.ext.ff.trans sFG, sGH, r.ext.hh, fun a ha => by
    by_cases hb : own a
    · obtain ⟨i, hi⟩ := hb
      exact .inr (h2 i a hi).2.1
    · rw [gN a hb] at ha; exact r.ext.new a ha⟩
  refine ⟨G, rf, sFG, fun G' H' e => ⟨?_, ?_⟩⟩
  · have rf' := rf.ext e
    exact ⟨e0.trans e, r.len, fun _ => [], fun i d hi => by
      obtain ⟨v, hv, hs⟩ := rf'.2.2 i d hi
      exact ⟨v, hv, by simp [kd, SlotR, hs]⟩, fun i a ha => by simp at ha, fun i j a ha => by simp at ha⟩
  · let F' : Hp := fun b => if own b then none else G' b
    have fO : ∀ b, own b → F' b = none := fun b hb => if_pos hb
    have fN : ∀ b, ¬ own b → F' b = G' b := fun b hb => if_neg hb
    have hH : ∀ b, own b → H' b = H b ∧ G' b = H b := fun b hb => by
      obtain ⟨i, hi⟩ := hb
      obtain ⟨_, _, m⟩ := h2 i b hi
      obtain ⟨u, hu, _⟩ := mut_some m
      rw [hu]
      exact ⟨e.hh _ _ hu, e.ff _ _ (by rw [gO b ⟨i, hi⟩]; exact hu)⟩
    have sF'G' : Same F' G' := fun b o q => by
      by_cases hb : own b
      · rw [fO b hb] at q; cases q
      · rw [fN b hb] at q; exact q
    have sFF' : Same F F' := fun b o q => by
      have hb : ¬ own b := fun ⟨i, hi⟩ => by rw [(h2 i b hi).1] at q; cases q
      rw [fN b hb]
      exact e.ff _ _ (sFG _ _ q)
    have tp : Tp G' F' := fun a xs hr => by
      have hb : ¬ own a := fun hb => by
        obtain ⟨i, hi⟩ := id hb
        obtain ⟨_, _, m⟩ := h2 i a hi
        obtain ⟨u, hu, n1, n2⟩ := mut_some m
        have hg := (hH a hb).2
        rw [hu, hr] at hg
        exact n1 _ (Option.some.inj hg).symm
      rw [fN a hb]
      exact hr
    refine ⟨F', ⟨⟨r.ext.ff.trans sFF', sF'G'.trans e.fh, r.ext.hh.trans e.hh, fun a ha => ?_⟩, r.len, fp, fun i d hi => ?_, fun i a ha => ?_, h3⟩, sF'G', fun v d l q => q.mono_lf tp l, fun v d l q => q.mono_lf tp l, fun a ha => ?_⟩
    · by_cases hb : own a
      · exact absurd (fO a hb) ha
      · rw [fN a hb] at ha
        rcases e.new a ha with z | z
        · rw [gN a hb] at z; exact r.ext.new a z
        · exact .inr (r.ext.hh.free z)
    · obtain ⟨v, hv, hs⟩ := h1 i d hi
      exact ⟨v, hv, hs.stable sFF' fun a ha => (hH a ⟨i, ha⟩).1⟩
    · obtain ⟨_, a2, m⟩ := h2 i a ha
      exact ⟨fO a ⟨i, ha⟩, a2, by rw [(hH a ⟨i, ha⟩).1]; exact m⟩
    · by_cases hb : own a
      · exact fO a hb
      · rw [fN a hb]; exact ha
theorem getD_set {O : List OK} {i j : Nat} {k : OK} : kd (O.set i k) j = if j = i ∧ i < O.length then k else kd O j := by
  unfold kd
  simp only [List.getD_eq_getElem?_getD, List.getElem?_set]
  by_cases h : i = j
  · subst h
    by_cases h2 : i < O.length
    · simp [h2]
    · simp [h2]
  · simp [h, Ne.symm h]
/-- a slot gets frozen data -/
theorem Rep.set (r : Rep K F0 H0 O F H σ ρ) {v : V} {d : D} (i : Nat) (h : DR K F v d) : Rep K F0 H0 (O.set i .fz) F H (σ.set i (some v)) (ρ.set i (some d)) := by
  obtain ⟨fp, h1, h2, h3⟩ := r.sl
  obtain ⟨fq, hqT, hqF⟩ : ∃ fq : Nat → List Addr, fq i = [] ∧ ∀ j, j ≠ i → fq j = fp j := ⟨fun j => if j = i then [] else fp j, if_pos rfl, fun j hj => if_neg hj⟩
  refine ⟨r.ext, by rw [List.length_set, List.length_set]; exact r.len, fq, fun j e hj => ?_, fun j a ha => ?_, fun j l a ha hb => ?_⟩
  · by_cases hji : j = i
    · subst hji
      by_cases hl : j < ρ.length
      · rw [List.getElem?_set_self hl] at hj
        cases hj
        refine ⟨v, by rw [List.getElem?_set_self (by rw [r.len]; exact hl)], ?_⟩
        have : kd (O.set j .fz) j = .fz := by
          rw [getD_set]
          split
          · rfl
          · rename_i hn
            unfold kd
            rw [List.getD_eq_getElem?_getD, List.getElem?_eq_none (by omega)]; rfl
        rw [this, hqT]
        exact ⟨rfl, h⟩
      · rw [List.getElem?_eq_none (by rw [List.length_set]; omega)] at hj; cases hj
    · rw [List.getElem?_set_ne (Ne.symm hji)] at hj
      obtain ⟨w, hw, hs⟩ := h1 j e hj
      refine ⟨w, by rw [List.getElem?_set_ne (Ne.symm hji)]; exact hw, ?_⟩
      rw [hqF j hji, getD_set, if_neg (fun z => hji z.1)]
      exact hs
  · by_cases hji : j = i
    · rw [hji, hqT] at ha; simp at ha
    · rw [hqF j hji] at ha; exact h2 j a ha
  · by_cases hji : j = i
    · rw [hji, hqT] at ha; simp at ha
    · rw [hqF j hji] at ha
      by_cases hli : l = i
      · rw [hli, hqT] at hb; simp at hb
      · rw [hqF l hli] at hb; exact h3 j l a ha hb
/-- a slot gets a new list of its own -/
theorem Rep.setO (r : Rep K F0 H0 O F H σ ρ) {p : Addr} {vs : List V} {ds : List D} (i : Nat) (hi : i < O.length) (hf : F p = none) (h0 : H0 p = none) (hp : H p = some (.lst vs)) (hn : ∀ (j : Nat) (a : Addr) (d : D) (v : V), j ≠ i → ρ[j]? = some (some d) → σ[j]? = some (some v) → kd O j ≠ .fz → v ≠ .ref p) (h : DRs K F vs ds) :
    Rep K F0 H0 (O.set i .ol) F H (σ.set i (some (.ref p))) (ρ.set i (some (.lst ds))) := by
  obtain ⟨fp, h1, h2, h3⟩ := r.sl
  -- footprints of unset slots are forgotten
  obtain ⟨fg, gS, gN⟩ : ∃ fg : Nat → List Addr, (∀ (j : Nat) (d : D), ρ[j]? = some (some d) → fg j = fp j) ∧ ∀ j a, a ∈ fg j → ∃ d : D, ρ[j]? = some (some d) := by
    refine ⟨fun j => match ρ[j]? with | some (some _) => fp j | _ => [], fun j d e => by simp only [e], fun j a ha => ?_⟩
    cases q : ρ[j]? with
    | none => simp [q] at ha
    | some o =>
      cases o with
      | none => simp [q] at ha
      | some d => exact ⟨d, rfl⟩
  obtain ⟨fq, hqT, hqF⟩ : ∃ fq : Nat → List Addr, fq i = [p] ∧ ∀ j, j ≠ i → fq j = fg j := ⟨fun j => if j = i then [p] else fg j, if_pos rfl, fun j hj => if_neg hj⟩
  refine ⟨r.ext, by rw [List.length_set, List.length_set]; exact r.len, fq, fun j e hj => ?_, fun j a ha => ?_, fun j l a ha hb => ?_⟩
  · by_cases hji : j = i
    · subst hji
      by_cases hl : j < ρ.length
      · rw [List.getElem?_set_self hl] at hj
        cases hj
        refine ⟨_, by rw [List.getElem?_set_self (by rw [r.len]; exact hl)], ?_⟩
        rw [getD_set, if_pos ⟨rfl, hi⟩, hqT]
        exact ⟨p, vs, ds, rfl, rfl, rfl, hp, h⟩
      · rw [List.getElem?_eq_none (by rw [List.length_set]; omega)] at hj; cases hj
    · rw [List.getElem?_set_ne (Ne.symm hji)] at hj
      obtain ⟨w, hw, hs⟩ := h1 j e hj
      refine ⟨w, by rw [List.getElem?_set_ne (Ne.symm hji)]; exact hw, ?_⟩
      rw [hqF j hji, getD_set, if_neg (fun z => hji z.1), gS j e hj]
      exact hs
  · by_cases hji : j = i
    · rw [hji, hqT] at ha
      have : a = p := by simpa using ha
      subst this
      exact ⟨hf, h0, by rw [hp]; trivial⟩
    · rw [hqF j hji] at ha
      obtain ⟨d, hd⟩ := gN j a ha
      rw [gS j d hd] at ha
      exact h2 j a ha
  · have key : ∀ (j : Nat) (a : Addr), j ≠ i → a ∈ fg j → a ∈ fp j ∧ a ≠ p := fun j a hji ha => by
      obtain ⟨d, hd⟩ := gN j a ha
      rw [gS j d hd] at ha
      refine ⟨ha, ?_⟩
      obtain ⟨w, hw, hs⟩ := h1 j d hd
      cases hk : kd O j with
      | fz =>
        rw [hk] at hs
        rw [hs.1] at ha; simp at ha
      | ol =>
        have hne := hn j a d w hji hd hw (by rw [hk]; intro z; cases z)
        rw [hk] at hs
        obtain ⟨b, _, _, e1, _, e3, _⟩ := hs
        rw [e3] at ha
        have e5 : a = b := by simpa using ha
        intro z
        rw [e1, ← e5, z] at hne
        exact hne rfl
      | od =>
        have hne := hn j a d w hji hd hw (by rw [hk]; intro z; cases z)
        rw [hk] at hs
        obtain ⟨b, _, e1, e3, _⟩ := hs
        rw [e3] at ha
        have e5 : a = b := by simpa using ha
        intro z
        rw [e1, ← e5, z] at hne
        exact hne rfl
    by_cases hji : j = i
    · rw [hji, hqT] at ha
      have e1 : a = p := by simpa using ha
      by_cases hli : l = i
      · rw [hji, hli]
      · rw [hqF l hli] at hb
        exact absurd e1 (key l a hli hb).2
    · rw [hqF j hji] at ha
      have k1 := key j a hji ha
      by_cases hli : l = i
      · rw [hli, hqT] at hb
        have e1 : a = p := by simpa using hb
        exact absurd e1 k1.2
      · rw [hqF l hli] at hb
        exact h3 j l a k1.1 (key l a hli hb).1
/-- a new list is nobody's yet -/
theorem Rep.setNew (r : Rep K F0 H0 O F H σ ρ) {p : Addr} {vs : List V} {ds : List D} {F' H' : Hp} (i : Nat) (hi : i < O.length) (e : Ext F H F' H') (hn : H p = none) (hf : F' p = none) (hp : H' p = some (.lst vs)) (h : DRs K F' vs ds) :
    Rep K F0 H0 (O.set i .ol) F' H' (σ.set i (some (.ref p))) (ρ.set i (some (.lst ds))) := by
  refine (r.grow e).setO i hi hf (r.ext.hh.free hn) hp (fun j a d v hj hd hv hk z => ?_) h
  subst z
  obtain ⟨fp, h1, h2, h3⟩ := r.sl
  obtain ⟨w, hw, hs⟩ := h1 j d hd
  rw [hv] at hw
  cases hw
  cases hk2 : kd O j with
  | fz => exact hk hk2
  | ol =>
    rw [hk2] at hs
    obtain ⟨b, _, _, e1, _, _, e4, _⟩ := hs
    cases e1
    rw [hn] at e4; cases e4
  | od =>
    rw [hk2] at hs
    obtain ⟨b, _, e1, _, e4, _⟩ := hs
    cases e1
    rw [hn] at e4; cases e4
def leB : List OK → List OK → Bool
  | _, [] => true
  | [], k :: O' => decide (k = .fz) && leB [] O'
  | k :: O, k' :: O' => (decide (k' = .fz) || decide (k' = k)) && leB O O'
theorem leB_get : ∀ {O O' : List OK}, leB O O' = true → ∀ i, kd O' i = .fz ∨ kd O' i = kd O i
  | _, [], _, i => .inl (by simp [kd])
  | [], k :: O', h, 0 => by
    simp only [leB, Bool.and_eq_true, decide_eq_true_eq] at h
    exact .inl (by simp [kd, h.1])
  | [], k :: O', h, i + 1 => by
    simp only [leB, Bool.and_eq_true] at h
    have := leB_get h.2 i
    simpa [kd] using this
  | k :: O, k' :: O', h, 0 => by
    simp only [leB, Bool.and_eq_true, Bool.or_eq_true, decide_eq_true_eq] at h
    simpa [kd] using h.1
  | k :: O, k' :: O', h, i + 1 => by
    simp only [leB, Bool.and_eq_true] at h
    have := leB_get h.2 i
    simpa [kd] using this
open Classical in
/-- some slots are frozen for good -/
theorem Rep.weak (r : Rep K F0 H0 O F H σ ρ) (h : leB O O' = true) : ∃ F', Same F F' ∧ Rep K F0 H0 O' F' H σ ρ := by
  obtain ⟨fp, h1, h2, h3⟩ := r.sl
  let fr : Addr → Prop := fun a => ∃ i, a ∈ fp i ∧ kd O' i = .fz
  let G : Hp := fun b => if fr b then H b else F b
  have gO : ∀ b, fr b → G b = H b := fun b hb => if_pos hb
  have gN : ∀ b, ¬ fr b → G b = F b := fun b hb => if_neg hb
  have sFG : Same F G := fun b o e => by
    by_cases hb : fr b
    · obtain ⟨i, hi, _⟩ := hb
      rw [(h2 i b hi).1] at e; cases e
    · rw [gN b hb]; exact e
  have sGH : Same G H := fun b o e => by
    by_cases hb : fr b
    · rw [gO b hb] at e; exact e
    · rw [gN b hb] at e; exact r.same _ _ e
  obtain ⟨fq, hqT, hqF⟩ : ∃ fq : Nat → List Addr, (∀ i, kd O' i = .fz → fq i = []) ∧ ∀ i, kd O' i ≠ .fz → fq i = fp i := ⟨fun i => if kd O' i = .fz then [] else fp i, fun i h => if_pos h, fun i h => if_neg h⟩
  refine ⟨G, sFG, ⟨⟨r.ext.ff.trans sFG, sGH, r.ext.hh, fun a ha => ?_⟩, r.len, fq, fun i d hi => ?_, fun i a ha => ?_, fun i j a ha hb => ?_⟩⟩
  · by_cases hb : fr a
    · obtain ⟨i, hi, _⟩ := hb
      exact .inr (h2 i a hi).2.1
    · rw [gN a hb] at ha; exact r.ext.new a ha
  · obtain ⟨v, hv, hs⟩ := h1 i d hi
    refine ⟨v, hv, ?_⟩
    by_cases hk : kd O' i = .fz
    · rw [hqT i hk, hk]
      exact ⟨rfl, hs.freeze sFG fun a ha => gO a ⟨i, ha, hk⟩⟩
    · rw [hqF i hk]
      rcases leB_get h i with z | z
      · exact absurd z hk
      · rw [z]; exact hs.stable sFG fun _ _ => rfl
  · by_cases hk : kd O' i = .fz
    · rw [hqT i hk] at ha; simp at ha
    · rw [hqF i hk] at ha
      obtain ⟨a1, a2, m⟩ := h2 i a ha
      refine ⟨?_, a2, m⟩
      rw [gN a fun ⟨j, hj, hkj⟩ => ?_]
      · exact a1
      · rw [h3 i j a ha hj] at hk; exact hk hkj
  · by_cases hk : kd O' i = .fz
    · rw [hqT i hk] at ha; simp at ha
    · rw [hqF i hk] at ha
      by_cases hk2 : kd O' j = .fz
      · rw [hqT j hk2] at hb; simp at hb
      · rw [hqF j hk2] at hb; exact h3 i j a ha hb
/-- the list in an owned slot is written -/
theorem Rep.write (r : Rep K F0 H0 O F H σ ρ) {i : Nat} {ds : List D} (hk : kd O i = .ol) (hd : ρ[i]? = some (some (.lst ds))) :
    ∃ p vs, σ[i]? = some (some (.ref p)) ∧ H p = some (.lst vs) ∧ F p = none ∧ H0 p = none ∧ DRs K F vs ds ∧ ∀ ws es, DRs K F ws es → Rep K F0 H0 O F (upd H p (.lst ws)) σ (ρ.set i (some (.lst es))) := by
  obtain ⟨fp, h1, h2, h3⟩ := r.sl
  obtain ⟨v, hv, hs⟩ := h1 i _ hd
  rw [hk] at hs
  obtain ⟨p, vs, ds', rfl, hds, hfp, hp, hr⟩ := hs
  cases hds
  have hm : p ∈ fp i := by rw [hfp]; simp
  obtain ⟨a1, a2, m⟩ := h2 i p hm
  have hlt : i < ρ.length := (List.getElem?_eq_some_iff.mp hd).1
  refine ⟨p, vs, hv, hp, a1, a2, hr, fun ws es hw => ⟨⟨r.ext.ff, fun b o e => ?_, fun b o e => ?_, r.ext.new⟩, by rw [List.length_set]; exact r.len, fp, fun j d hj => ?_, fun j a ha => ?_, h3⟩⟩
  · rw [upd_ne (fun z => by rw [z, a1] at e; cases e)]; exact r.same _ _ e
  · rw [upd_ne (fun z => by rw [z, a2] at e; cases e)]; exact r.ext.hh _ _ e
  · by_cases hji : j = i
    · subst hji
      rw [List.getElem?_set_self hlt] at hj
      cases hj
      refine ⟨_, hv, ?_⟩
      rw [hk]
      exact ⟨p, ws, es, rfl, rfl, hfp, upd_same, hw⟩
    · rw [List.getElem?_set_ne (Ne.symm hji)] at hj
      obtain ⟨w, hw', hs⟩ := h1 j d hj
      refine ⟨w, hw', hs.stable (Same.refl _) fun a ha => upd_ne fun z => ?_⟩
      subst z
      exact hji (h3 j i a ha hm)
  · obtain ⟨b1, b2, b3⟩ := h2 j a ha
    refine ⟨b1, b2, ?_⟩
    by_cases hap : a = p
    · subst hap; rw [upd_same]; trivial
    · rw [upd_ne hap]; exact b3
end

/-! ### what is wanted behind a statement -/
structure OX where
  nx : List OK
  bk : List OK
  ct : List OK
  ex : List OK
def RetR (ro : Bool) (K : PySem.W.Frag) (H0 F H : Hp) (v : V) (d : D) : Prop :=
  match ro with
  | true => ∃ a vs ds, v = .ref a ∧ d = .lst ds ∧ H a = some (.lst vs) ∧ F a = none ∧ H0 a = none ∧ DRs K F vs ds
  | false => DR K F v d
def PostS (K : PySem.W.Frag) (mg : Str → Option Value) (W : WX) (F0 H0 : Hp) (P : OX) (ro : Bool) (T : Ends) : Fl → Prop
  | .nx ρ => ∀ F H σ, Rep K F0 H0 P.nx F H σ ρ → T.nx σ H
  | .bk ρ => ∀ F H σ, Rep K F0 H0 P.bk F H σ ρ → T.bk σ H
  | .ct ρ => ∀ F H σ, Rep K F0 H0 P.ct F H σ ρ → T.ct σ H
  | .ret d => ∀ v F H, Ext F0 H0 F H → RetR ro K H0 F H v d → T.rt v H
  | .exc x ρ => ∀ c dd F H σ, Rep K F0 H0 P.ex F H σ ρ → ExR mg K F x c dd → W c dd σ H
  | .stuck => False
def dS (K : PySem.W.Frag) (mg : Str → Option Value) (W : WX) (O : List OK) (P : OX) (ro : Bool) (f : Env → Fl) : TS := fun T σ H => ∃ F0 H0 F ρ, Rep K F0 H0 O F H σ ρ ∧ PostS K mg W F0 H0 P ro T (f ρ)
def SS (X : Cx) (W : WX) (O : List OK) (P : OX) (ro : Bool) (st : Stmt) (f : Env → Fl) : Prop := PS X st (dS X.K X.mg W O P ro f)
def SB (X : Cx) (W : WX) (O : List OK) (P : OX) (ro : Bool) (sts : List Stmt) (f : Env → Fl) : Prop := PSs X sts (dS X.K X.mg W O P ro f)

section
variable {X : Cx} {W : WX} {O O1 : List OK} {P : OX} {ro : Bool} {st : Stmt} {sts : List Stmt} {f g : Env → Fl} {e c : Expr} {es : List Expr} {pos : Pos} {ev ew : Env → Out D} {t : Env → Out Bool}
theorem SS.of {r : TS} (h : PS X st r) (hs : ∀ F0 H0 F H σ ρ T, Rep X.K F0 H0 O F H σ ρ → PostS X.K X.mg W F0 H0 P ro T (f ρ) → r T σ H) : SS X W O P ro st f :=
  ⟨fun pins s σ H T I ⟨F0, H0, F, ρ, h1, h2⟩ => h.run pins s σ H T I (hs F0 H0 F H σ ρ T h1 h2)⟩
theorem SB.of {r : TS} (h : PSs X sts r) (hs : ∀ F0 H0 F H σ ρ T, Rep X.K F0 H0 O F H σ ρ → PostS X.K X.mg W F0 H0 P ro T (f ρ) → r T σ H) : SB X W O P ro sts f :=
  ⟨fun pins s σ H T I ⟨F0, H0, F, ρ, h1, h2⟩ => h.run pins s σ H T I (hs F0 H0 F H σ ρ T h1 h2)⟩
/-- freeze slots ahead -/
theorem SB.fre (h : SB X W O1 P ro sts f) (hl : leB O O1 = true := by rfl) : SB X W O P ro sts f := .of h fun F0 H0 F H σ ρ T r q => by
  obtain ⟨F', s, r'⟩ := r.weak hl
  exact ⟨F0, H0, F', ρ, r', q⟩
theorem SS.fre (h : SS X W O1 P ro st f) (hl : leB O O1 = true := by rfl) : SS X W O P ro st f := .of h fun F0 H0 F H σ ρ T r q => by
  obtain ⟨F', s, r'⟩ := r.weak hl
  exact ⟨F0, H0, F', ρ, r', q⟩
def fNx : Env → Fl := fun ρ => .nx ρ
def fSeq (f g : Env → Fl) : Env → Fl := fun ρ => match f ρ with
  | .nx ρ' => g ρ'
  | o => o
theorem sb_nil (hl : leB O P.nx = true := by rfl) : SB X W O P ro [] fNx := .of pss_nil fun F0 H0 F H σ ρ T r q => by
  obtain ⟨F', s, r'⟩ := r.weak hl
  exact q F' H σ r'
theorem sb_cons (h1 : SS X W O { P with nx := O1 } ro st f) (h2 : SB X W O1 P ro sts g) : SB X W O P ro (st :: sts) (fSeq f g) := .of (pss_cons h1 h2) fun F0 H0 F H σ ρ T r q => by
  refine ⟨F0, H0, F, ρ, r, ?_⟩
  unfold fSeq at q
  cases e : f ρ with
  | nx ρ' =>
    rw [e] at q
    exact fun F H σ r' => ⟨F0, H0, F, ρ', r', q⟩
  | ret d => rw [e] at q; exact q
  | bk d => rw [e] at q; exact q
  | ct d => rw [e] at q; exact q
  | exc x d => rw [e] at q; exact q
  | stuck => rw [e] at q; exact q
theorem sb_one (h1 : SS X W O P ro st f) : SB X W O P ro [st] f := .of (pss_one h1) fun F0 H0 F H σ ρ T r q => ⟨F0, H0, F, ρ, r, q⟩

/-! expressions within statements -/
/-- the owned slots are not looked at -/
theorem Rep.post {K : PySem.W.Frag} {mg : Str → Option Value} {α β : Type} {R : Hp → β → α → Prop} {F0 H0 F H : Hp} {σ : St} {ρ : Env} {Q : β → Hp → Prop} {o : Out α} (r : Rep K F0 H0 O F H σ ρ) (hns : o ≠ .stuck)
    (hok : ∀ d v F' H', o = .ok d → Ext F H F' H' → Rep K F0 H0 O F' H' σ ρ → R F' v d → Q v H')
    (hex : ∀ x c dd F' H', o = .exc x → Rep K F0 H0 O F' H' σ ρ → ExR mg K F' x c dd → W c dd σ H') : Post K mg R W F H σ Q o := by
  cases o with
  | ok d => exact fun v F' H' e q => hok d v F' H' rfl e (r.grow e) q
  | exc x => exact fun c dd F' H' e q => hex x c dd F' H' rfl (r.grow e) q
  | stuck => exact hns rfl
theorem Rep.postO {K : PySem.W.Frag} {mg : Str → Option Value} {F0 H0 F H : Hp} {σ : St} {ρ : Env} {Q : VK} {o : Out (List D)} (r : Rep K F0 H0 O F H σ ρ) (hns : o ≠ .stuck)
    (hok : ∀ ds p vs F' H', o = .ok ds → Ext F H F' H' → H p = none → F' p = none → H' p = some (.lst vs) → DRs K F' vs ds → Q (.ref p) H')
    (hex : ∀ x c dd F' H', o = .exc x → Rep K F0 H0 O F' H' σ ρ → ExR mg K F' x c dd → W c dd σ H') : PostO K mg W F H σ Q o := by
  cases o with
  | ok d => exact fun p vs F' H' e a b c r => hok d p vs F' H' rfl e a b c r
  | exc x => exact fun c dd F' H' e q => hex x c dd F' H' rfl (r.grow e) q
  | stuck => exact hns rfl
/-- what is made of an answer by a statement -/
def fE {α : Type} (o : Out α) (ρ : Env) (k : α → Fl) : Fl := match o with
  | .ok d => k d
  | .exc x => .exc x ρ
  | .stuck => .stuck
@[simp] theorem fE_ok {α : Type} (a : α) (ρ : Env) (k : α → Fl) : fE (.ok a) ρ k = k a := (rfl)
@[simp] theorem fE_exc {α : Type} (x : D) (ρ : Env) (k : α → Fl) : fE (.exc x : Out α) ρ k = .exc x ρ := (rfl)
@[simp] theorem fE_stuck {α : Type} (ρ : Env) (k : α → Fl) : fE (.stuck : Out α) ρ k = .stuck := (rfl)
/-- data without lists is handed on while lists are owned -/
def lfO : Out D → Out D
  | .ok d => if lf d then .ok d else .stuck
  | .exc x => .exc x
  | .stuck => .stuck
@[simp] theorem lfO_ok (d : D) : lfO (.ok d) = if lf d then .ok d else .stuck := (rfl)
@[simp] theorem lfO_exc (d : D) : lfO (.exc d) = .exc d := (rfl)
@[simp] theorem lfO_stuck : lfO .stuck = .stuck := (rfl)
def lfsO : Out (List D) → Out (List D)
  | .ok d => if lfs d then .ok d else .stuck
  | .exc x => .exc x
  | .stuck => .stuck
@[simp] theorem lfsO_ok (d : List D) : lfsO (.ok d) = if lfs d then .ok d else .stuck := (rfl)
@[simp] theorem lfsO_exc (d : D) : lfsO (.exc d) = .exc d := (rfl)
@[simp] theorem lfsO_stuck : lfsO .stuck = .stuck := (rfl)
theorem PostS.exc {K : PySem.W.Frag} {mg : Str → Option Value} {F0 H0 F H : Hp} {σ : St} {ρ : Env} {T : Ends} {x : D} {c : Value} {dd : Option Addr} (q : PostS K mg W F0 H0 P ro T (.exc x ρ)) (r : Rep K F0 H0 O F H σ ρ) (hl : leB O P.ex = true) (hx : ExR mg K F x c dd) : W c dd σ H := by
  obtain ⟨F', s, r'⟩ := r.weak hl
  exact q c dd F' H σ r' (hx.mono s)
theorem PostS.nxt {K : PySem.W.Frag} {mg : Str → Option Value} {F0 H0 F H : Hp} {σ : St} {ρ : Env} {T : Ends} (q : PostS K mg W F0 H0 P ro T (.nx ρ)) (r : Rep K F0 H0 O F H σ ρ) (hl : leB O P.nx = true) : T.nx σ H := by
  obtain ⟨F', s, r'⟩ := r.weak hl
  exact q F' H σ r'

/-! tests -/
def fIf (t : Env → Out Bool) (f g : Env → Fl) : Env → Fl := fun ρ => fE (t ρ) ρ fun b => if b then f ρ else g ρ
theorem ss_if {a b : List Stmt} (hc : ST X W c t) (ha : SB X W O P ro a f) (hb : SB X W O P ro b g) (hx : leB [] P.ex = true := by rfl) : SS X W O P ro (.If c a b pos) (fIf t f g) := .of (ps_if hc ha hb) fun F0 H0 F H σ ρ T r q => by
  obtain ⟨G, rf, sFG, back⟩ := r.lend
  refine ⟨G, ρ, rf, ?_⟩
  unfold fIf at q
  cases e : t ρ with
  | ok v =>
    rw [e] at q
    intro v' G' H' e' hv
    cases hv
    obtain ⟨_, F', r', _⟩ := back G' H' e'
    cases v with
    | true => exact iteT ⟨F0, H0, F', ρ, r', q⟩
    | false => exact iteF ⟨F0, H0, F', ρ, r', q⟩
  | exc x =>
    rw [e] at q
    intro c dd G' H' e' hx'
    exact PostS.exc q (back G' H' e').1 hx hx'
  | stuck => rw [e] at q; exact q.elim

/-! an expression by itself; return -/
def fDrop (ev : Env → Out D) : Env → Fl := fun ρ => fE (ev ρ) ρ fun _ => .nx ρ
theorem ss_expr (he : SE X W e ev) (hl : leB O P.nx = true := by rfl) (hx : leB [] P.ex = true := by rfl) (hs : swapsWith e none pos.line X.env = pure false := by rfl) : SS X W O P ro (.Expr e pos) (fDrop ev) := .of (ps_expr he hs) fun F0 H0 F H σ ρ T r q => by
  obtain ⟨G, rf, sFG, back⟩ := r.lend
  refine ⟨G, ρ, rf, ?_⟩
  unfold fDrop at q
  cases e1 : ev ρ with
  | ok v =>
    rw [e1] at q
    intro v' G' H' e' hv
    obtain ⟨_, F', r', _⟩ := back G' H' e'
    exact PostS.nxt q r' hl
  | exc x =>
    rw [e1] at q
    intro c dd G' H' e' hx'
    exact PostS.exc q (back G' H' e').1 hx hx'
  | stuck => rw [e1] at q; exact q.elim
def fRet (ev : Env → Out D) : Env → Fl := fun ρ => fE (ev ρ) ρ fun d => .ret d
theorem ss_ret (he : SE X W e ev) (hx : leB [] P.ex = true := by rfl) : SS X W O P false (.Return (some e) pos) (fRet ev) := .of (ps_ret he) fun F0 H0 F H σ ρ T r q => by
  obtain ⟨G, rf, sFG, back⟩ := r.lend
  refine ⟨G, ρ, rf, ?_⟩
  unfold fRet at q
  cases e1 : ev ρ with
  | ok v =>
    rw [e1] at q
    intro v' G' H' e' hv
    exact q v' G' H' (back G' H' e').1.ext hv
  | exc x =>
    rw [e1] at q
    intro c dd G' H' e' hx'
    exact PostS.exc q (back G' H' e').1 hx hx'
  | stuck => rw [e1] at q; exact q.elim
def fRetN : Env → Fl := fun _ => .ret .non
theorem ss_retN : SS X W O P false (.Return none pos) fRetN := .of ps_retN fun F0 H0 F H σ ρ T r q => q _ F H r.ext .non
def fRetO (ev : Env → Out (List D)) : Env → Fl := fun ρ => fE (ev ρ) ρ fun d => .ret (.lst d)
theorem ss_retO {eo : Env → Out (List D)} (he : SO X W e eo) (hx : leB [] P.ex = true := by rfl) : SS X W O P true (.Return (some e) pos) (fRetO eo) := .of (ps_ret he) fun F0 H0 F H σ ρ T r q => by
  obtain ⟨G, rf, sFG, back⟩ := r.lend
  refine ⟨G, ρ, rf, ?_⟩
  unfold fRetO at q
  cases e1 : eo ρ with
  | ok v =>
    rw [e1] at q
    intro p vs G' H' e' hp hf hl hr
    have x := (back G' H' e').1.ext
    exact q _ G' H' x ⟨p, vs, v, rfl, rfl, hl, hf, r.ext.hh.free hp, hr⟩
  | exc x =>
    rw [e1] at q
    intro c dd G' H' e' hx'
    exact PostS.exc q (back G' H' e').1 hx hx'
  | stuck => rw [e1] at q; exact q.elim
def fRetV (i : Nat) : Env → Fl := fun ρ => match ρ[i]? with
  | some (some (.lst ds)) => .ret (.lst ds)
  | _ => .stuck
theorem ss_retV (i : Nat) {x : Str} {p : Pos} (hk : kd O i = .ol := by rfl) (hN : X.N[i]? = some x := by rfl) (hv : Vis X.env.scope x := by first | exact Or.inl rfl | exact Or.inr (Or.inl rfl) | exact Or.inr (Or.inr rfl)) (hd : (x == ("__debug__" : Str)) = false := by decide)
    (hcd : (x == ("__classdict__" : Str)) = false := by decide) : SS X W O P true (.Return (some (.Name x p)) pos) (fRetV i) := .of (ps_ret (pe_var (i := i) hN hv hd hcd)) fun F0 H0 F H σ ρ T r q => by
  unfold fRetV at q
  split at q
  · rename_i ds hds
    obtain ⟨p, vs, e1, e2, e3, e4, e5, _⟩ := r.write hk hds
    exact ⟨_, e1, q _ F H r.ext ⟨p, vs, ds, rfl, rfl, e2, e3, e4, e5⟩⟩
  · exact q.elim

/-! assignment -/
/-- x = e, e looks at no owned slot -/
def fAsg (O : List OK) (i : Nat) (ev : Env → Out D) : Env → Fl := fun ρ => fE (ev (hide O ρ)) ρ fun d => .nx (ρ.set i (some d))
theorem ss_asg (i : Nat) {x : Str} {p : Pos} (hN : X.N.Nodup) (he : SE X W e ev) (hl : leB (O.set i .fz) P.nx = true := by rfl) (hx : leB O P.ex = true := by rfl) (hi : X.N[i]? = some x := by rfl) (hL : Loc X.env.scope x := by first | exact Or.inl rfl | exact Or.inr rfl)
    (hs : swapsWith e (some (.Name x p)) pos.line X.env = pure false := by rfl) (hf : X.fn x = true ∨ X.env.scope.names.lookup x = some .local := by first | exact .inl rfl | exact .inr rfl) : SS X W O P ro (.Assign [.Name x p] e pos) (fAsg O i ev) :=
  .of (ps_set hN hi hL he hs hf) fun F0 H0 F H σ ρ T r q => by
  refine ⟨F, hide O ρ, r.hid, ?_⟩
  unfold fAsg at q
  refine r.post (fun z => by rw [z] at q; exact q.elim) (fun d v F' H' eo e' r' rd => ?_) (fun x c dd F' H' eo r' hx' => ?_)
  · rw [eo] at q
    exact PostS.nxt q (r'.set i rd) hl
  · rw [eo] at q
    exact PostS.exc q r' hx hx'
/-- .. e may look at owned slots, but its data holds no list -/
def fAsgB (i : Nat) (ev : Env → Out D) : Env → Fl := fun ρ => fE (lfO (ev ρ)) ρ fun d => .nx (ρ.set i (some d))
theorem ss_asgB (i : Nat) {x : Str} {p : Pos} (hN : X.N.Nodup) (he : SE X W e ev) (hl : leB (O.set i .fz) P.nx = true := by rfl) (hx : leB [] P.ex = true := by rfl) (hi : X.N[i]? = some x := by rfl) (hL : Loc X.env.scope x := by first | exact Or.inl rfl | exact Or.inr rfl)
    (hs : swapsWith e (some (.Name x p)) pos.line X.env = pure false := by rfl) (hf : X.fn x = true ∨ X.env.scope.names.lookup x = some .local := by first | exact .inl rfl | exact .inr rfl) : SS X W O P ro (.Assign [.Name x p] e pos) (fAsgB i ev) :=
  .of (ps_set hN hi hL he hs hf) fun F0 H0 F H σ ρ T r q => by
  obtain ⟨G, rf, sFG, back⟩ := r.lend
  refine ⟨G, ρ, rf, ?_⟩
  unfold fAsgB at q
  cases e1 : ev ρ with
  | ok d =>
    rw [e1, lfO_ok] at q
    split at q
    · rename_i hlf
      intro v' G' H' e' hv
      obtain ⟨_, F', r', _, b1, _⟩ := back G' H' e'
      exact PostS.nxt q (r'.set i (b1 v' d hlf hv)) hl
    · exact q.elim
  | exc x =>
    rw [e1] at q
    intro c dd G' H' e' hx'
    exact PostS.exc q (back G' H' e').1 hx hx'
  | stuck => rw [e1] at q; exact q.elim
/-- x = a new list, owned from here on -/
def fAsgO (O : List OK) (i : Nat) (ev : Env → Out (List D)) : Env → Fl := fun ρ => fE (ev (hide O ρ)) ρ fun d => .nx (ρ.set i (some (.lst d)))
theorem ss_asgO (i : Nat) {x : Str} {p : Pos} {eo : Env → Out (List D)} (hN : X.N.Nodup) (he : SO X W e eo) (hiO : i < O.length := by decide) (hl : leB (O.set i .ol) P.nx = true := by rfl) (hx : leB O P.ex = true := by rfl) (hi : X.N[i]? = some x := by rfl) (hL : Loc X.env.scope x := by first | exact Or.inl rfl | exact Or.inr rfl)
    (hs : swapsWith e (some (.Name x p)) pos.line X.env = pure false := by rfl) (hf : X.fn x = true ∨ X.env.scope.names.lookup x = some .local := by first | exact .inl rfl | exact .inr rfl) : SS X W O P ro (.Assign [.Name x p] e pos) (fAsgO O i eo) :=
  .of (ps_set hN hi hL he hs hf) fun F0 H0 F H σ ρ T r q => by
  refine ⟨F, hide O ρ, r.hid, ?_⟩
  unfold fAsgO at q
  refine r.postO (fun z => by rw [z] at q; exact q.elim) (fun ds p vs F' H' eo e' hp hf hl' rd => ?_) (fun x c dd F' H' eo r' hx' => ?_)
  · rw [eo] at q
    exact PostS.nxt q (r.setNew i hiO e' hp hf hl' rd) hl
  · rw [eo] at q
    exact PostS.exc q r' hx hx'
def fAsgOB (i : Nat) (ev : Env → Out (List D)) : Env → Fl := fun ρ => fE (lfsO (ev ρ)) ρ fun d => .nx (ρ.set i (some (.lst d)))
theorem ss_asgOB (i : Nat) {x : Str} {p : Pos} {eo : Env → Out (List D)} (hN : X.N.Nodup) (he : SO X W e eo) (hiO : i < O.length := by decide) (hl : leB (O.set i .ol) P.nx = true := by rfl) (hx : leB [] P.ex = true := by rfl) (hi : X.N[i]? = some x := by rfl) (hL : Loc X.env.scope x := by first | exact Or.inl rfl | exact Or.inr rfl)
    (hs : swapsWith e (some (.Name x p)) pos.line X.env = pure false := by rfl) (hf : X.fn x = true ∨ X.env.scope.names.lookup x = some .local := by first | exact .inl rfl | exact .inr rfl) : SS X W O P ro (.Assign [.Name x p] e pos) (fAsgOB i eo) :=
  .of (ps_set hN hi hL he hs hf) fun F0 H0 F H σ ρ T r q => by
  obtain ⟨G, rf, sFG, back⟩ := r.lend
  refine ⟨G, ρ, rf, ?_⟩
  unfold fAsgOB at q
  cases e1 : eo ρ with
  | ok d =>
    rw [e1, lfsO_ok] at q
    split at q
    · rename_i hlf
      intro p vs G' H' e' hp hf hl' hr
      obtain ⟨_, F', r', s', _, b2, b3⟩ := back G' H' e'
      have hr' : Rep X.K F0 H0 (O.set i .ol) F' H' (σ.set i (some (.ref p))) (ρ.set i (some (.lst d))) := by
        refine r'.setO i hiO (b3 p hf) (r.ext.hh.free hp) hl' (fun j a d v hj hd hv hk z => ?_) (b2 vs d hlf hr)
        subst z
        obtain ⟨fp, h1, h2, h3⟩ := r.sl
        obtain ⟨w, hw, hs⟩ := h1 j d hd
        rw [hv] at hw
        cases hw
        cases hk2 : kd O j with
        | fz => exact hk hk2
        | ol =>
          rw [hk2] at hs
          obtain ⟨b, _, _, e1, _, _, e4, _⟩ := hs
          cases e1
          rw [hp] at e4; cases e4
        | od =>
          rw [hk2] at hs
          obtain ⟨b, _, e1, _, e4, _⟩ := hs
          cases e1
          rw [hp] at e4; cases e4
      exact PostS.nxt q hr' hl
    · exact q.elim
  | exc x =>
    rw [e1] at q
    intro c dd G' H' e' hx'
    exact PostS.exc q (back G' H' e').1 hx hx'
  | stuck => rw [e1] at q; exact q.elim

/-! targets -/
def setsS (σ : St) : List (Nat × V) → St
  | [] => σ
  | (i, v) :: r => setsS (σ.set i (some v)) r
def setsE (ρ : Env) : List (Nat × D) → Env
  | [] => ρ
  | (i, v) :: r => setsE (ρ.set i (some v)) r
@[simp] theorem setsE_nil (ρ : Env) : setsE ρ [] = ρ := (rfl)
@[simp] theorem setsE_cons (ρ : Env) (i d r) : setsE ρ ((i, d) :: r) = setsE (ρ.set i (some d)) r := (rfl)
def dG (K : PySem.W.Frag) (is : List Nat) (asg : D → Option (List D)) : TG := fun v σ H Q => ∃ F d ds, Same F H ∧ DR K F v d ∧ asg d = some ds ∧ ∀ us : List V, DRs K F us ds → Q (setsS σ (is.zip us)) H
def SG (X : Cx) (tg : Expr) (is : List Nat) (asg : D → Option (List D)) : Prop := PG X tg (dG X.K is asg)
def gN : D → Option (List D) := fun d => some [d]
theorem sg_name (i : Nat) {x : Str} (hN : X.N.Nodup) (hi : X.N[i]? = some x := by rfl) (hL : Loc X.env.scope x := by first | exact Or.inl rfl | exact Or.inr rfl) (hf : X.fn x = true ∨ X.env.scope.names.lookup x = some .local := by first | exact .inl rfl | exact .inr rfl) : SG X (.Name x pos) [i] gN :=
  ⟨fun pins s σ H v u Q I r h => (pg_name hN hi hL hf).run pins s σ H v u Q I r (by
    obtain ⟨F, d, ds, hs, hd, ha, q⟩ := h
    cases ha
    exact q [v] (.one hd))⟩
def gT (n : Nat) : D → Option (List D) := fun d => match d with
  | .tup ds => if ds.length = n then some ds else none
  | _ => none
inductive Names' (X : Cx) : List Expr → List Nat → Prop
  | nil : Names' X [] []
  | cons {i : Nat} {x : Str} {p : Pos} {es : List Expr} {is : List Nat} : X.N[i]? = some x → Loc X.env.scope x → (X.fn x = true ∨ X.env.scope.names.lookup x = some .local) → Names' X es is → Names' X (.Name x p :: es) (i :: is)
end
end CW
/-! enumerate of a tuple -/
namespace CW
open PySem PySem.Spec PyProof.Rows L2
theorem meets_enumerate_newT (l : Addr) (items : Array Value) (n : Nat) (dct : Option Addr) (sl : Array (Option Value)) :
    Meets (Builtin.«enumerate.__new__» ⟨[.type "enumerate", .ref l], []⟩) (fun _ R s => s.heap.get? l = some { cls := .type "tuple", dict := dct, data := .seq items n, slots := sl } ∧
      R (.ok (.ret (.ref (s.heap.push { cls := .type "tuple_iterator", data := .fields #[.ref l, .int 0 0] }).objs.size)))
        { s with heap := (s.heap.push { cls := .type "tuple_iterator", data := .fields #[.ref l, .int 0 0] }).push { cls := .type "enumerate", data := .fields #[.none, .bool false, .ref s.heap.objs.size, rawInt 0, .none, .none] } }) :=
  .of_wp fun prog w A R s h => by
    obtain ⟨hp, g, d, tk, os⟩ := s; obtain ⟨hl, h⟩ := h
    have hsub := sub_enumerate
    have hL : Heap.IsTuple (Shared.heap ⟨hp, g, d, tk, os⟩) l items := ⟨_, hl, rfl, n, rfl⟩
    wp_walk using AutoSeq1.wpAny_loadPart' hl
    refine wpAny_stack_any fun st => wpAny_pure ?_
    split
    · rename_i c _ _ _ _ _
      cases (c == Value.type "enumerate")
      · wp_walk using AutoSeq1.wpAny_loadPart' hl, wpAny_pyIter_tuple hL
        exact ⟨_, rfl, h⟩
      · wp_walk using AutoSeq1.wpAny_loadPart' hl, wpAny_pyIter_tuple hL
        exact ⟨_, rfl, h⟩
    · wp_walk using AutoSeq1.wpAny_loadPart' hl, wpAny_pyIter_tuple hL
      exact ⟨_, rfl, h⟩
section
variable {prog : Program} {w : World} {A : Around} {E : Value → Shared → Prop} {s : Shared}
theorem call_enumerate_tuple {l : Addr} {items : Array Value} {Q : Value → Shared → Prop} (hL : s.heap.IsTuple l items)
    (h : ∀ h', IsEnum h' (s.heap.objs.size + 1) s.heap.objs.size 0 .none → h'.IsTupleIter s.heap.objs.size l 0 → h'.objs.size = s.heap.objs.size + 2 →
      (∀ b o, s.heap.get? b = some o → h'.get? b = some o) → Q (.ref (s.heap.objs.size + 1)) { s with heap := h' }) :
    wpAny (model prog w) A (call (.type "enumerate") [.ref l]) Q E s := by
  obtain ⟨⟨c, dct, dt, sl⟩, hl, hc, n, hd⟩ := hL
  replace hc : c = .type "tuple" := hc
  replace hd : dt = .seq items n := hd
  subst hc hd
  refine callType_new F.called_enumerate (by decide) (F.typeCall_enumerate_1 _) (F.newCall_enumerate_1 _) (fun obj => F.args_object_init_2 obj _) F.entry_enumerate_new
    (meets_enumerate_newT l items n dct sl) ⟨hl, ?_⟩
  have hz : (s.heap.push { cls := .type "tuple_iterator", data := .fields #[.ref l, .int 0 0] }).objs.size = s.heap.objs.size + 1 := Heap.size_push ..
  show _ ∧ _
  rw [hz]
  have he : IsEnum ((s.heap.push { cls := .type "tuple_iterator", data := .fields #[.ref l, .int 0 0] }).push
      { cls := .type "enumerate", data := .fields #[.none, .bool false, .ref s.heap.objs.size, rawInt 0, .none, .none] }) (s.heap.objs.size + 1) s.heap.objs.size 0 .none := by
    have := Heap.get?_push_size (s.heap.push { cls := .type "tuple_iterator", data := .fields #[.ref l, .int 0 0] })
      (o := { cls := .type "enumerate", data := .fields #[.none, .bool false, .ref s.heap.objs.size, rawInt 0, .none, .none] }) rfl
    rw [hz] at this; exact this
  refine ⟨⟨_, he, rfl⟩, h _ he ⟨_, Heap.get?_push_of_some _ (Heap.get?_push_size _ rfl), rfl, rfl⟩ (by rw [Heap.size_push, hz]) fun b o x => Heap.get?_push_of_some _ (Heap.get?_push_of_some _ x)⟩
end
/-- the tuple at a, its items counted -/
def IteT (K : PySem.W.Frag) (a : Addr) : It :=
  ⟨fun i H => ∃ (xs : List V) (x : V), SqT K H a xs ∧ xs[i]? = some x, fun i H v H' => ∃ T x, v = .ref T ∧ H T = none ∧ H' = upd H T (.tup [.int (i : Nat), x]) ∧ ∀ xs, SqT K H a xs → xs[i]? = some x, fun i H => ∃ xs : List V, SqT K H a xs ∧ xs.length ≤ i⟩
theorem turn_enumT {P : Program} {w : World} {K : PySem.W.Frag} {elts : List Expr} {kk : Nat} {tpos : Pos} (a e it : Addr) (hai : a ≠ it) (hae : a ≠ e) :
    Turn P w K (.Tuple elts kk tpos) (IteT K a) [e, it] e (fun i h => (∃ old, IsEnum h e it ((i : Nat) : Int) old) ∧ h.IsTupleIter it a i ∧ e ≠ it) where
  mem := by simp
  obj := fun i h st b hb => by
    obtain ⟨⟨old, he⟩, ⟨o, ho, hc, hd⟩, _⟩ := st
    have e' : b = e ∨ b = it := by simpa using hb
    rcases e' with z | z
    · rw [z]; exact ⟨_, he, fun v q => nomatch q⟩
    · rw [z]; exact ⟨o, ho, fun v q => by rw [hd] at q; cases q⟩
  keep := fun i h h' st k => let ⟨⟨old, he⟩, hi, hne⟩ := st; ⟨⟨old, k e (by simp) _ he⟩, hi.at fun o q => k it (by simp) o q, hne⟩
  item := by
    intro X hP hw hK hc i pins s σ H E I hf st hg
    subst hP hw hK
    obtain ⟨⟨old, he⟩, hit, hne⟩ := st
    obtain ⟨xs, x, hq, hx⟩ := hg
    obtain ⟨its, rv, p, hz⟩ := I.tuple hq
    obtain ⟨u, hu, ru⟩ := rv.get hx
    have hel : e < s.heap.objs.size := Heap.lt_size he
    have hil : it < s.heap.objs.size := by obtain ⟨_, q, _⟩ := hit; exact Heap.lt_size q
    have hp : s.heap.IsTuple a its.toArray := p
    have hlt : i < its.toArray.size := by
      have := (List.getElem?_eq_some_iff.mp hu).1
      simpa using this
    refine wpAny_pyNext_enum_itemD (Draws.tuple (A := X.A.in1) (I.ok.hd hc) it a hai its.toArray) he ⟨hit, hp⟩ hlt hne (by simp [hne, Ne.symm hae]) fun x' h' tk hxe ho hit' hT hsz hk => ?_
    have exu : x' = u := by
      have h1 : its.toArray[i]? = some x' := hxe
      have h2 : its.toArray[i]? = some u := by simpa using hu
      rw [h2] at h1
      exact (Option.some.inj h1).symm
    subst exu
    refine ⟨_, rfl, wpAny_letOwnedTupleGo_enum (s := { s with heap := h', toks := tk + 1 }) ho fun h'' he' sb => ?_⟩
    have hT2 : h''.get? s.heap.objs.size = some { cls := .type "tuple", data := .seq #[.int i tk, x'] } := (sb.2 _ (Nat.ne_of_gt hel)).trans hT
    have new : ObjOk X.prog X.w (upd H s.heap.objs.size (.tup [.int (i : Nat), x])) h'' s.heap.objs.size (.tup [.int (i : Nat), x]) :=
      ⟨by show 2 ≤ sizeLine; decide, [.int i tk, x'], .cons ⟨_, rfl⟩ (.cons ru .nil), ⟨_, hT2, rfl, _, rfl⟩⟩
    have I1 : Inv X pins σ (upd H s.heap.objs.size (.tup [.int (i : Nat), x])) { s with heap := h'', toks := tk + 1 } :=
      I.turnedNew (ch := [e, it]) (fun b ob hb q => (sb.2 b (fun z => hb (by simp [z]))).trans (hk b ob (fun z => hb (by simp [z])) (fun z => hb (by simp [z])) q)) hf (Nat.le_refl _) new
    refine ⟨.ref s.heap.objs.size, _, I1, rfl, ⟨_, x, rfl, I.hok.fresh (Nat.le_refl _), rfl, fun ys hy => by rw [I.tuple_inj hy hq]; exact hx⟩, ⟨⟨x', ?_⟩, hit'.1.at fun o q => (sb.2 it (Ne.symm hne)).trans q, hne⟩, fun b hb => ?_⟩
    · have e1 : ((i + 1 : Nat) : Int) = (i : Int) + 1 := by omega
      rw [e1]; exact he'
    · have hb' : b < s.heap.objs.size := by
        have e' : b = e ∨ b = it := by simpa using hb
        rcases e' with z | z
        · rw [z]; exact hel
        · rw [z]; exact hil
      rw [upd_ne (Nat.ne_of_lt hb')]
      exact (hf b hb).1
  done := by
    intro X hP hw hK hc i pins s σ H E I hf st hg
    subst hP hw hK
    obtain ⟨⟨old, he⟩, hit, hne⟩ := st
    obtain ⟨xs, hq, hx⟩ := hg
    obtain ⟨its, rv, p, hz⟩ := I.tuple hq
    obtain ⟨f0, f1, f2, f3, f4, f5⟩ := hf it (by simp)
    have hl := rv.length
    have hT : s.TypeIs (.ref e) "enumerate" := ⟨_, he, rfl⟩
    unfold pyNext
    refine wpAny_bind (wpAny_attempt (wpAny_callSpecial?_slot (name := Str.ofString "__next__") hT F.slot_enumerate_next
      (wpAny_call_entry F.slot_enumerate_next hT F.entry_enumerate_next ?_ (F.args_enumerate_next_1 _))))
    show wpAny _ _ (field (.ref e) 2 >>= _) _ _ _
    refine wpAny_bind (wpAny_field he rfl (x := .ref it) rfl ?_)
    refine wpAny_bind (wpAny_nextOf_tuple_end (A := X.A.in1) (I.ok.hd hc) hit (show s.heap.IsTuple a its.toArray from p) (by simp; omega) fun h' x he' hx' => ?_)
    obtain ⟨o, ho, hc'⟩ := hx'
    refine wpAny_bind (wpAny_isInstance (T := "StopIteration") (b := true) ⟨o, ho, hc'⟩ isSubtype_stop ?_)
    exact wpAny_pure ⟨rfl, I.turned (t' := s.toks) (fun b o hb q => he' b o hb q) f0 f1 f3 f4 f5⟩
  self := fun A i s Q E st h => let ⟨⟨_, he⟩, _⟩ := st; wpAny_pyIter_enum he h
def iEnumT (K : PySem.W.Frag) (ta : TA) : TI := fun σ H R => ta σ H fun vs H1 => ∃ a xs, vs = [.ref a] ∧ SqT K H1 a xs ∧ R (IteT K a) H1
theorem pi_enumT {X : Cx} {e : Expr} {ta : TA} {p pos tpos : Pos} {elts : List Expr} {kk : Nat} (hg : Gl X "enumerate") (hm : X.mg "enumerate" = none) (ha : PA X [e] ta) (hs : starEach [e] X.env = [(false, eval e X.env)] := by rfl) :
    PI X (.Tuple elts kk tpos) (.Call (.Name "enumerate" p) [e] [] pos) (iEnumT X.K ta) := by
  refine ⟨fun pins s σ H R I h => ?_⟩
  refine Call_ (ld_blt I hg hm boot_enumerate (PyProof.Rows.callWith_type1 (thn (ha.run pos pins s σ H _ I h) fun us s1 ⟨vs, H1, I1, r1, q1⟩ => ?_) hs rfl))
  obtain ⟨a, xs, ex, hq, q⟩ := q1
  subst ex
  cases r1 with
  | cons r rr =>
    cases rr
    cases r
    obtain ⟨its, rv, p', hz⟩ := I1.tuple hq
    have hal : a < s1.heap.objs.size := p'.lt
    refine call_enumerate_tuple (show s1.heap.IsTuple a its.toArray from p') fun h' he hit hsz hk => wpAny_pyIter_enum he ?_
    have I2 : Inv X pins σ H1 { s1 with heap := h' } := I1.kept (t' := s1.toks) hk
    refine ⟨s1.heap.objs.size + 1, [s1.heap.objs.size + 1, s1.heap.objs.size], _, _, H1, rfl, I2, turn_enumT a (s1.heap.objs.size + 1) s1.heap.objs.size (Nat.ne_of_lt hal) (Nat.ne_of_lt (Nat.lt_succ_of_lt hal)), ⟨⟨.none, he⟩, hit, Nat.succ_ne_self _⟩, fun b hb => ?_, q⟩
    have e' : b = s1.heap.objs.size + 1 ∨ b = s1.heap.objs.size := by simpa using hb
    have hle : s1.heap.objs.size ≤ b := by
      rcases e' with z | z
      · rw [z]; exact Nat.le_add_right _ _
      · rw [z]; exact Nat.le_refl _
    exact I1.fpOk hle (I1.hok.fresh hle)
end CW
namespace CW
open PySem PySem.Spec PyProof.Rows L2

section
variable {X : Cx} {W : WX} {O O1 : List OK} {P : OX} {ro : Bool} {st : Stmt} {sts : List Stmt} {f g : Env → Fl} {e c : Expr} {es : List Expr} {pos : Pos} {ev ew : Env → Out D} {t : Env → Out Bool}
/-! ### targets -/
theorem setsS_ok {K : PySem.W.Frag} {F0 H0 F H : Hp} : ∀ {is : List Nat} {us : List V} {ds : List D} {O : List OK} {σ : St} {ρ : Env}, Rep K F0 H0 O F H σ ρ → DRs K F us ds → (∀ i ∈ is, kd O i = .fz) → Rep K F0 H0 O F H (setsS σ (is.zip us)) (setsE ρ (is.zip ds))
  | [], us, ds, O, σ, ρ, r, h, hk => by simpa [setsS, setsE] using r
  | i :: is, [], ds, O, σ, ρ, r, h, hk => by cases h; simpa [setsS, setsE] using r
  | i :: is, u :: us, ds, O, σ, ρ, r, h, hk => by
    cases h with
    | cons h1 h2 =>
      rename_i d ds
      have r1 := r.set i h1
      have e : O.set i .fz = O := by
        by_cases hi : i < O.length
        · have := hk i List.mem_cons_self
          unfold kd at this
          rw [List.getD_eq_getElem?_getD, List.getElem?_eq_getElem hi] at this
          exact List.ext_getElem (by simp) fun j h1 h2 => by
            rw [List.getElem_set]
            split
            · rename_i hij; subst hij; exact this.symm
            · rfl
        · rw [List.set_eq_of_length_le (by omega)]
      rw [e] at r1
      show Rep K F0 H0 O F H (setsS (σ.set i (some u)) (is.zip us)) (setsE (ρ.set i (some d)) (is.zip ds))
      exact setsS_ok r1 h2 fun j hj => hk j (List.mem_cons_of_mem _ hj)
theorem setsS_rf {K : PySem.W.Frag} {F H : Hp} : ∀ {is : List Nat} {us : List V} {ds : List D} {σ : St} {ρ : Env}, RF K F H σ ρ → DRs K F us ds → RF K F H (setsS σ (is.zip us)) (setsE ρ (is.zip ds))
  | [], us, ds, σ, ρ, r, h => by simpa [setsS, setsE] using r
  | i :: is, [], ds, σ, ρ, r, h => by cases h; simpa [setsS, setsE] using r
  | i :: is, u :: us, ds, σ, ρ, r, h => by
    cases h with
    | cons h1 h2 =>
      rename_i d ds
      refine setsS_rf (σ := σ.set i (some u)) (ρ := ρ.set i (some d)) ⟨r.1, by rw [List.length_set, List.length_set]; exact r.2.1, fun j x hj => ?_⟩ h2
      by_cases hji : j = i
      · subst hji
        by_cases hl : j < ρ.length
        · rw [List.getElem?_set_self hl] at hj
          cases hj
          exact ⟨u, by rw [List.getElem?_set_self (by rw [r.2.1]; exact hl)], h1⟩
        · rw [List.getElem?_eq_none (by rw [List.length_set]; omega)] at hj; cases hj
      · rw [List.getElem?_set_ne (Ne.symm hji)] at hj
        obtain ⟨w, a, b⟩ := r.2.2 j x hj
        exact ⟨w, by rw [List.getElem?_set_ne (Ne.symm hji)]; exact a, b⟩
/-- names only, in a tuple -/
inductive Nms (X : Cx) : List Expr → List Nat → Prop
  | nil : Nms X [] []
  | cons {i : Nat} {x : Str} {p : Pos} {es : List Expr} {is : List Nat} (hi : X.N[i]? = some x) (hL : Loc X.env.scope x) (hf : X.fn x = true ∨ X.env.scope.names.lookup x = some .local)
      (hs : (assignEach (.Name x p :: es) X.env).map (·.2) = assign (.Name x p) X.env :: (assignEach es X.env).map (·.2)) (r : Nms X es is) : Nms X (.Name x p :: es) (i :: is)
theorem nm_cons (i : Nat) {x : Str} {p : Pos} {es : List Expr} {is : List Nat} (r : Nms X es is) (hi : X.N[i]? = some x := by rfl) (hL : Loc X.env.scope x := by first | exact Or.inl rfl | exact Or.inr rfl) (hf : X.fn x = true ∨ X.env.scope.names.lookup x = some .local := by first | exact .inl rfl | exact .inr rfl)
    (hs : (assignEach (.Name x p :: es) X.env).map (·.2) = assign (.Name x p) X.env :: (assignEach es X.env).map (·.2) := by rfl) : Nms X (.Name x p :: es) (i :: is) := .cons hi hL hf hs r
def gNs : List Nat → TGs := fun is vs σ H Q => vs.length = is.length ∧ Q (setsS σ (is.zip vs)) H
theorem Nms.pgs (hN : X.N.Nodup) : ∀ {es : List Expr} {is : List Nat}, Nms X es is → PGs X es (gNs is)
  | _, _, .nil => ⟨fun pins s σ H vs us Q I r h => pgs_nil.run pins s σ H vs us Q I r ⟨List.length_eq_zero_iff.mp h.1, by have e := List.length_eq_zero_iff.mp h.1; subst e; exact h.2⟩⟩
  | _, _, .cons (i := i) hi hL hf hs r => ⟨fun pins s σ H vs us Q I rr h => (pgs_cons (pg_name hN hi hL hf) (Nms.pgs hN r) hs).run pins s σ H vs us Q I rr (by
      cases vs with
      | nil => exact absurd h.1 (by simp)
      | cons v vs => exact ⟨v, vs, rfl, by simpa using h.1, h.2⟩)⟩
theorem sg_tup {k : Nat} {is : List Nat} {n : Nat} (hN : X.N.Nodup) (hc : X.calm = true) (h : Nms X es is) (hn : (assignEach es X.env).length = n := by rfl) (hst : (assignEach es X.env).findIdx? (·.1) = none := by rfl) (hl : is.length = n := by rfl) : SG X (.Tuple es k pos) is (gT n) :=
  ⟨fun pins s σ H v u Q I r hw => (pg_tup hc (h.pgs hN) hn hst).run pins s σ H v u Q I r (by
    obtain ⟨F, d, ds, hs, hd, ha, q⟩ := hw
    cases hd with
    | @tup a xs ds' h1 h2 =>
      have ha' : (if ds'.length = n then some ds' else none) = some ds := ha
      split at ha'
      · rename_i hz
        cases ha'
        exact ⟨a, xs, rfl, (Sub.of_same hs).sqP h1, by rw [h2.length]; exact hz, by rw [h2.length, hl]; exact hz, q xs h2⟩
      · cases ha'
    | _ => cases ha)⟩
def allFz (O : List OK) (is : List Nat) : Bool := is.all fun i => decide (kd O i = .fz)
theorem allFz_get {O : List OK} {is : List Nat} (h : allFz O is = true) : ∀ i ∈ is, kd O i = .fz := fun i hi => by
  unfold allFz at h
  rw [List.all_eq_true] at h
  simpa using h i hi
/-- targets = e -/
def fAsgT (O : List OK) (is : List Nat) (asg : D → Option (List D)) (ev : Env → Out D) : Env → Fl := fun ρ => fE (ev (hide O ρ)) ρ fun d => match asg d with
  | some ds => .nx (setsE ρ (is.zip ds))
  | none => .stuck
theorem ss_asgT {tg : Expr} {is : List Nat} {asg : D → Option (List D)} (hg : SG X tg is asg) (he : SE X W e ev) (hk : allFz O is = true := by rfl) (hl : leB O P.nx = true := by rfl) (hx : leB O P.ex = true := by rfl)
    (hs : swapsWithSole [tg] e pos.line X.env = pure false := by rfl) (hw : swappedStores [tg] e X.env = pure none := by rfl) (h1 : (assignEach [tg] X.env).map (·.2) = [assign tg X.env] := by rfl) : SS X W O P ro (.Assign [tg] e pos) (fAsgT O is asg ev) :=
  .of (ps_asg he hg hs hw h1) fun F0 H0 F H σ ρ T r q => by
  refine ⟨F, hide O ρ, r.hid, ?_⟩
  unfold fAsgT at q
  refine r.post (fun z => by rw [z] at q; exact q.elim) (fun d v F' H' eo e' r' rd => ?_) (fun x c dd F' H' eo r' hx' => ?_)
  · rw [eo, fE_ok] at q
    cases ha : asg d with
    | none => rw [ha] at q; exact q.elim
    | some ds =>
      rw [ha] at q
      exact ⟨F', d, ds, e'.fh, rd, ha, fun us hu => PostS.nxt q (setsS_ok r' hu (allFz_get hk)) hl⟩
  · rw [eo] at q
    exact PostS.exc q r' hx hx'
def fAsgTB (is : List Nat) (asg : D → Option (List D)) (ev : Env → Out D) : Env → Fl := fun ρ => fE (lfO (ev ρ)) ρ fun d => match asg d with
  | some ds => .nx (setsE ρ (is.zip ds))
  | none => .stuck
theorem ss_asgTB {tg : Expr} {is : List Nat} {asg : D → Option (List D)} (hg : SG X tg is asg) (he : SE X W e ev) (hk : allFz O is = true := by rfl) (hl : leB O P.nx = true := by rfl) (hx : leB [] P.ex = true := by rfl)
    (hs : swapsWithSole [tg] e pos.line X.env = pure false := by rfl) (hw : swappedStores [tg] e X.env = pure none := by rfl) (h1 : (assignEach [tg] X.env).map (·.2) = [assign tg X.env] := by rfl) : SS X W O P ro (.Assign [tg] e pos) (fAsgTB is asg ev) :=
  .of (ps_asg he hg hs hw h1) fun F0 H0 F H σ ρ T r q => by
  obtain ⟨G, rf, sFG, back⟩ := r.lend
  refine ⟨G, ρ, rf, ?_⟩
  unfold fAsgTB at q
  cases e1 : ev ρ with
  | ok d =>
    rw [e1, lfO_ok] at q
    split at q
    · rename_i hlf
      rw [fE_ok] at q
      intro v' G' H' e' hv
      obtain ⟨_, F', r', _, b1, _⟩ := back G' H' e'
      cases ha : asg d with
      | none => rw [ha] at q; exact q.elim
      | some ds =>
        rw [ha] at q
        exact ⟨F', d, ds, r'.same, b1 v' d hlf hv, ha, fun us hu => PostS.nxt q (setsS_ok r' hu (allFz_get hk)) hl⟩
    · exact q.elim
  | exc x =>
    rw [e1] at q
    intro c dd G' H' e' hx'
    exact PostS.exc q (back G' H' e').1 hx hx'
  | stuck => rw [e1] at q; exact q.elim

/-! ### what is walked -/
def ItOk (K : PySem.W.Frag) (F : Hp) (J : It) (ds : List D) : Prop := ∀ (i : Nat) (Fi H : Hp), Same F Fi → Same Fi H →
  (∀ d, ds[i]? = some d → J.go i H ∧ ∀ x H', J.yld i H x H' → ∃ Fx, Ext Fi H Fx H' ∧ DR K Fx x d) ∧ (i = ds.length → J.stop i H)
def PostI (K : PySem.W.Frag) (mg : Str → Option Value) (W : WX) (F H : Hp) (σ : St) (R : It → Hp → Prop) : Out (List D) → Prop
  | .ok ds => ∀ J F' H', Ext F H F' H' → ItOk K F' J ds → R J H'
  | .exc x => ∀ c dd F' H', Ext F H F' H' → ExR mg K F' x c dd → W c dd σ H'
  | .stuck => False
def dI (K : PySem.W.Frag) (mg : Str → Option Value) (W : WX) (ev : Env → Out (List D)) : TI := fun σ H R => ∃ F ρ, RF K F H σ ρ ∧ PostI K mg W F H σ R (ev ρ)
def SI (X : Cx) (W : WX) (tg e : Expr) (ev : Env → Out (List D)) : Prop := PI X tg e (dI X.K X.mg W ev)
variable {tg : Expr}
theorem SI.of {r : TI} {ei : Env → Out (List D)} (h : PI X tg e r) (hs : ∀ F H σ ρ R, RF X.K F H σ ρ → PostI X.K X.mg W F H σ R (ei ρ) → r σ H R) : SI X W tg e ei :=
  ⟨fun pins s σ H R I ⟨F, ρ, h1, h2⟩ => h.run pins s σ H R I (hs F H σ ρ R h1 h2)⟩
theorem PI.or {r r' : TI} (h : PI X tg e r) (h' : PI X tg e r') : PI X tg e fun σ H R => r σ H R ∨ r' σ H R :=
  ⟨fun pins s σ H R I q => q.elim (h.run pins s σ H R I) (h'.run pins s σ H R I)⟩
theorem PostI.bind {γ δ : Type} {K : PySem.W.Frag} {mg : Str → Option Value} {R' : Hp → δ → γ → Prop} {F H : Hp} {σ : St} {R : It → Hp → Prop} {Q' : δ → Hp → Prop} {o : Out γ} {k : γ → Out (List D)}
    (h : PostI K mg W F H σ R (o.bind k)) (hk : ∀ d v F1 H1, o = .ok d → Ext F H F1 H1 → R' F1 v d → PostI K mg W F1 H1 σ R (k d) → Q' v H1) : Post K mg R' W F H σ Q' o := by
  cases o with
  | ok d =>
    intro v F1 H1 e r
    refine hk d v F1 H1 rfl e r ?_
    have h' : PostI K mg W F H σ R (k d) := h
    revert h'
    cases k d with
    | ok ds => exact fun h J F' H' e' => h J F' H' (e.trans e')
    | exc x => exact fun h c dd F' H' e' r => h c dd F' H' (e.trans e') r
    | stuck => exact id
  | exc x => exact h
  | stuck => exact h
def iSeq : D → Out (List D)
  | .lst ds => .ok ds
  | .tup ds => .ok ds
  | .scr ns => .ok (ns.map D.int)
  | .str z => .ok (z.cps.toList.map fun c => .str ⟨#[c]⟩)
  | _ => .stuck
def eI (ea : Env → Out D) : Env → Out (List D) := fun ρ => (ea ρ).bind iSeq
theorem itOk_list {K : PySem.W.Frag} {F : Hp} {a : Addr} {vs : List V} {ds : List D} (h : SqL K F a vs) (r : DRs K F vs ds) : ItOk K F (Itl K a) ds := fun i Fi H s1 s2 => by
  have hH := (Sub.of_same (s1.trans s2)).sqL h
  refine ⟨fun d hd => ?_, fun hi => ⟨vs, hH, by rw [r.length, hi]; exact Nat.le_refl _⟩⟩
  obtain ⟨v, hv, rv⟩ := r.get hd
  refine ⟨⟨vs, v, hH, hv⟩, fun x H' hy => ?_⟩
  obtain ⟨rfl, hx⟩ := hy
  have := hx vs hH
  rw [hv] at this
  cases this
  exact ⟨Fi, .refl s2, rv.mono (Sub.of_same s1)⟩
theorem itOk_tup {K : PySem.W.Frag} {F : Hp} {a : Addr} {vs : List V} {ds : List D} (h : SqT K F a vs) (r : DRs K F vs ds) : ItOk K F (Itt K a) ds := fun i Fi H s1 s2 => by
  have hH := (Sub.of_same (s1.trans s2)).sqT h
  refine ⟨fun d hd => ?_, fun hi => ⟨vs, hH, by rw [r.length, hi]; exact Nat.le_refl _⟩⟩
  obtain ⟨v, hv, rv⟩ := r.get hd
  refine ⟨⟨vs, v, hH, hv⟩, fun x H' hy => ?_⟩
  obtain ⟨rfl, hx⟩ := hy
  have := hx vs hH
  rw [hv] at this
  cases this
  exact ⟨Fi, .refl s2, rv.mono (Sub.of_same s1)⟩
theorem si_seq (he : SE X W e ev) : SI X W tg e (eI ev) := by
  refine .of (PI.or (pi_list he) (PI.or (pi_tup he) (pi_str he))) fun F H σ ρ R h1 h2 => ?_
  have key : ∀ d, ev ρ = .ok d → PostI X.K X.mg W F H σ R (iSeq d) := fun d hd => by
    unfold eI at h2; rw [hd] at h2; exact h2
  cases hd : ev ρ with
  | ok d =>
    have k := key d hd
    cases d with
    | lst ds => exact .inl ⟨F, ρ, h1, PostI.bind (R' := DR X.K) h2 fun d' v F1 H1 ed e1 r1 q1 => by
        rw [hd] at ed; cases ed
        cases r1 with
        | @lst p vs ds g1 g2 => exact ⟨p, rfl, ⟨vs, .inl (rd_of e1.fh g1)⟩, q1 _ F1 H1 (.refl e1.fh) (itOk_list (.inl g1) g2)⟩⟩
    | scr ns => exact .inl ⟨F, ρ, h1, PostI.bind (R' := DR X.K) h2 fun d' v F1 H1 ed e1 r1 q1 => by
        rw [hd] at ed; cases ed
        cases r1 with
        | @scr p ns g1 => exact ⟨p, rfl, ⟨_, (Sub.of_same e1.fh).sqL g1⟩, q1 _ F1 H1 (.refl e1.fh) (itOk_list g1 (DRs.ints _))⟩⟩
    | tup ds => exact .inr (.inl ⟨F, ρ, h1, PostI.bind (R' := DR X.K) h2 fun d' v F1 H1 ed e1 r1 q1 => by
        rw [hd] at ed; cases ed
        cases r1 with
        | @tup p vs ds g1 g2 => exact ⟨p, rfl, ⟨vs, (Sub.of_same e1.fh).sqP g1⟩, q1 _ F1 H1 (.refl e1.fh) (itOk_tup (.inl (.inl g1)) g2)⟩⟩)
    | str z => exact .inr (.inr ⟨F, ρ, h1, PostI.bind (R' := DR X.K) h2 fun d' v F1 H1 ed e1 r1 q1 => by
        rw [hd] at ed; cases ed
        cases r1
        refine ⟨z, rfl, q1 _ F1 H1 (.refl e1.fh) fun i Fi H s1 s2 => ⟨fun d hd => ?_, fun hi => ?_⟩⟩
        · rw [List.getElem?_map] at hd
          cases hc : z.cps.toList[i]? with
          | none => rw [hc] at hd; cases hd
          | some c =>
            rw [hc] at hd
            cases hd
            have hc' : z.cps[i]? = some c := by rw [← hc]; simp
            refine ⟨(Array.getElem?_eq_some_iff.mp hc').1, fun x H' hy => ?_⟩
            obtain ⟨rfl, c', h1, rfl⟩ := hy
            rw [hc'] at h1
            cases h1
            exact ⟨Fi, .refl s2, .str _⟩
        · show z.cps.size ≤ i
          rw [hi]; simp⟩)
    | _ => exact False.elim k
  | exc x => exact .inl ⟨F, ρ, h1, PostI.bind (R' := DR X.K) h2 fun d' v F1 H1 ed => by rw [hd] at ed; cases ed⟩
  | stuck => unfold eI at h2; rw [hd] at h2; exact h2.elim
def rngL (lo hi : Int) : List D := (List.range (hi - lo).toNat).map fun (k : Nat) => .int (lo + (k : Int))
def iRg1 (ea : Env → Out (List D)) : Env → Out (List D) := fun ρ => (ea ρ).bind fun ds => match ds with
  | [.int n] => if -(2 ^ 62) ≤ n ∧ n < 2 ^ 62 then .ok (rngL 0 n) else .stuck
  | _ => .stuck
def iRg2 (ea : Env → Out (List D)) : Env → Out (List D) := fun ρ => (ea ρ).bind fun ds => match ds with
  | [.int m, .int n] => if -(2 ^ 62) ≤ m ∧ m < 2 ^ 62 ∧ -(2 ^ 62) ≤ n ∧ n < 2 ^ 62 then .ok (rngL m n) else .stuck
  | _ => .stuck
theorem itOk_rng {K : PySem.W.Frag} {F : Hp} (lo hi : Int) : ItOk K F (Itr lo (hi - lo).toNat) (rngL lo hi) := fun i Fi H s1 s2 => by
  refine ⟨fun d hd => ?_, fun hi => ?_⟩
  · unfold rngL at hd
    rw [List.getElem?_map] at hd
    by_cases h : i < (hi - lo).toNat
    · rw [List.getElem?_eq_getElem (by simpa using h)] at hd
      simp at hd
      subst hd
      refine ⟨h, fun x H' hy => ?_⟩
      obtain ⟨rfl, rfl⟩ := hy
      exact ⟨Fi, .refl s2, .int _⟩
    · rw [List.getElem?_eq_none (by simpa using h)] at hd
      cases hd
  · unfold rngL at hi
    rw [hi]
    show _ ≤ _
    simp
theorem si_rng1 {a : Expr} {p : Pos} {ea : Env → Out (List D)} (hm : X.mg "range" = none) (ha : SA X W [a] ea) (hg : Gl X "range" := by rfl) (hs : starEach [a] X.env = [(false, eval a X.env)] := by rfl) : SI X W tg (.Call (.Name "range" p) [a] [] pos) (iRg1 ea) :=
  .of (pi_range1 hg hm ha hs) fun F H σ ρ R h1 h2 => ⟨F, ρ, h1, PostI.bind h2 fun ds vs F1 H1 ed e1 r1 q1 => by
    split at q1
    · rename_i n
      obtain ⟨v, rfl, r2⟩ := one_of r1
      cases r2
      split at q1
      · rename_i hb
        refine ⟨n, rfl, hb.1, hb.2, q1 _ F1 H1 (.refl e1.fh) ?_⟩
        have := itOk_rng (K := X.K) (F := F1) 0 n
        rwa [Int.sub_zero] at this
      · exact q1.elim
    · exact q1.elim⟩
theorem si_rng2 {a b : Expr} {p : Pos} {ea : Env → Out (List D)} (hm : X.mg "range" = none) (ha : SA X W [a, b] ea) (hg : Gl X "range" := by rfl)
    (hs : starEach [a, b] X.env = [(false, eval a X.env), (false, eval b X.env)] := by rfl) (hs2 : starEach [b] X.env = [(false, eval b X.env)] := by rfl) : SI X W tg (.Call (.Name "range" p) [a, b] [] pos) (iRg2 ea) :=
  .of (pi_range2 hg hm ha hs hs2) fun F H σ ρ R h1 h2 => ⟨F, ρ, h1, PostI.bind h2 fun ds vs F1 H1 ed e1 r1 q1 => by
    split at q1
    · rename_i m n
      obtain ⟨v, w, rfl, r2, r3⟩ := two_of r1
      cases r2
      cases r3
      split at q1
      · rename_i hb
        exact ⟨m, n, rfl, hb, q1 _ F1 H1 (.refl e1.fh) (itOk_rng m n)⟩
      · exact q1.elim
    · exact q1.elim⟩
def enumL (ds : List D) : List D := ds.zipIdx.map fun p => .tup [.int (p.2 : Int), p.1]
def enumD : List D → Out (List D)
  | [.lst es] => .ok (enumL es)
  | [.tup es] => .ok (enumL es)
  | _ => .stuck
def iEn (ea : Env → Out (List D)) : Env → Out (List D) := fun ρ => (ea ρ).bind enumD
theorem enumL_get {ds : List D} {i : Nat} {d : D} (h : (enumL ds)[i]? = some d) : ∃ x, ds[i]? = some x ∧ d = .tup [.int (i : Int), x] := by
  unfold enumL at h
  rw [List.getElem?_map, List.getElem?_zipIdx] at h
  cases e : ds[i]? with
  | none => rw [e] at h; cases h
  | some x =>
    rw [e] at h
    refine ⟨x, rfl, ?_⟩
    simp at h
    exact h.symm
theorem enumL_len (ds : List D) : (enumL ds).length = ds.length := by simp [enumL]
theorem ext_tup {F H : Hp} {T : Addr} {xs : List V} (s : Same F H) (n : H T = none) : Ext F H (upd F T (.tup xs)) (upd H T (.tup xs)) := .put s n
theorem itOk_enum {K : PySem.W.Frag} {F : Hp} {a : Addr} {vs : List V} {ds : List D} (h : SqL K F a vs) (r : DRs K F vs ds) : ItOk K F (Ite K a) (enumL ds) := fun i Fi H s1 s2 => by
  have hH := (Sub.of_same (s1.trans s2)).sqL h
  refine ⟨fun d hd => ?_, fun hi => ⟨vs, hH, by rw [r.length, hi, enumL_len]; exact Nat.le_refl _⟩⟩
  obtain ⟨x, hx, rfl⟩ := enumL_get hd
  obtain ⟨v, hv, rv⟩ := r.get hx
  refine ⟨⟨vs, v, hH, hv⟩, fun y H' hy => ?_⟩
  obtain ⟨T, x', rfl, nT, rfl, hx'⟩ := hy
  have := hx' vs hH
  rw [hv] at this
  cases this
  have nF := s2.free nT
  refine ⟨_, ext_tup s2 nT, .tup upd_same (.cons (.int _) (.one ((rv.mono (Sub.of_same s1)).mono (Sub.of_same (same_new nF)))))⟩
theorem itOk_enumT {K : PySem.W.Frag} {F : Hp} {a : Addr} {vs : List V} {ds : List D} (h : SqT K F a vs) (r : DRs K F vs ds) : ItOk K F (IteT K a) (enumL ds) := fun i Fi H s1 s2 => by
  have hH := (Sub.of_same (s1.trans s2)).sqT h
  refine ⟨fun d hd => ?_, fun hi => ⟨vs, hH, by rw [r.length, hi, enumL_len]; exact Nat.le_refl _⟩⟩
  obtain ⟨x, hx, rfl⟩ := enumL_get hd
  obtain ⟨v, hv, rv⟩ := r.get hx
  refine ⟨⟨vs, v, hH, hv⟩, fun y H' hy => ?_⟩
  obtain ⟨T, x', rfl, nT, rfl, hx'⟩ := hy
  have := hx' vs hH
  rw [hv] at this
  cases this
  have nF := s2.free nT
  refine ⟨_, ext_tup s2 nT, .tup upd_same (.cons (.int _) (.one ((rv.mono (Sub.of_same s1)).mono (Sub.of_same (same_new nF)))))⟩
theorem si_enum {a : Expr} {p tpos : Pos} {kk : Nat} {elts : List Expr} {ea : Env → Out (List D)} (hm : X.mg "enumerate" = none) (ha : SA X W [a] ea) (hg : Gl X "enumerate" := by rfl) (hs : starEach [a] X.env = [(false, eval a X.env)] := by rfl) :
    SI X W (.Tuple elts kk tpos) (.Call (.Name "enumerate" p) [a] [] pos) (iEn ea) := by
  refine .of (PI.or (pi_enum hg hm ha hs) (pi_enumT hg hm ha hs)) fun F H σ ρ R h1 h2 => ?_
  unfold iEn at h2
  cases hd : ea ρ with
  | ok ds =>
    have h3 := h2
    rw [hd] at h3
    have k : PostI X.K X.mg W F H σ R (enumD ds) := h3
    unfold enumD at k
    split at k
    · rename_i es
      exact .inl ⟨F, ρ, h1, PostI.bind (R' := DRs X.K) h2 fun d' v F1 H1 ed e1 r1 q1 => by
        rw [hd] at ed; cases ed
        obtain ⟨v, rfl, r2⟩ := one_of r1
        cases r2 with
        | @lst p vs ds g1 g2 => exact ⟨p, vs, rfl, .inl (rd_of e1.fh g1), q1 _ F1 H1 (.refl e1.fh) (itOk_enum (.inl g1) g2)⟩⟩
    · rename_i es
      exact .inr ⟨F, ρ, h1, PostI.bind (R' := DRs X.K) h2 fun d' v F1 H1 ed e1 r1 q1 => by
        rw [hd] at ed; cases ed
        obtain ⟨v, rfl, r2⟩ := one_of r1
        cases r2 with
        | @tup p vs ds g1 g2 => exact ⟨p, vs, rfl, (Sub.of_same e1.fh).sqP g1, q1 _ F1 H1 (.refl e1.fh) (itOk_enumT (.inl (.inl g1)) g2)⟩⟩
    · exact k.elim
  | exc x => exact .inl ⟨F, ρ, h1, PostI.bind (R' := DRs X.K) h2 fun d' v F1 H1 ed => by rw [hd] at ed; cases ed⟩
  | stuck => rw [hd] at h2; exact h2.elim
def iRv (ea : Env → Out (List D)) : Env → Out (List D) := fun ρ => (ea ρ).bind fun ds => match ds with
  | [.lst es] => .ok es.reverse
  | _ => .stuck
theorem si_rev {a : Expr} {p : Pos} {ea : Env → Out (List D)} (hm : X.mg "reversed" = none) (ha : SA X W [a] ea) (hg : Gl X "reversed" := by rfl) (hs : starEach [a] X.env = [(false, eval a X.env)] := by rfl) : SI X W tg (.Call (.Name "reversed" p) [a] [] pos) (iRv ea) :=
  .of (pi_reversed hg hm ha hs) fun F H σ ρ R h1 h2 => ⟨F, ρ, h1, PostI.bind h2 fun ds vs F1 H1 ed e1 r1 q1 => by
    split at q1
    · obtain ⟨v, rfl, r2⟩ := one_of r1
      cases r2 with
      | @lst p vs ds g1 g2 =>
        refine ⟨p, vs, rfl, .inl (rd_of e1.fh g1), q1 _ F1 H1 (.refl e1.fh) fun i Fi H s1 s2 => ?_⟩
        have hH : SqL X.K H p vs := .inl (rd_of (s1.trans s2) g1)
        refine ⟨fun d hd => ?_, fun hi => by show vs.length ≤ i; rw [g2.length, hi, List.length_reverse]; exact Nat.le_refl _⟩
        have hil : i < vs.length := by
          have h' := (List.getElem?_eq_some_iff.mp hd).1
          rw [List.length_reverse, ← g2.length] at h'
          exact h'
        rw [List.getElem?_reverse (by rw [← g2.length]; exact hil)] at hd
        obtain ⟨w, hw, rw'⟩ := g2.get hd
        rw [← g2.length] at hw
        refine ⟨⟨hil, vs, w, hH, hw⟩, fun x H' hy => ?_⟩
        obtain ⟨rfl, hx⟩ := hy
        have := hx vs hH
        rw [hw] at this
        cases this
        exact ⟨Fi, .refl s2, rw'.mono (Sub.of_same s1)⟩
    · exact q1.elim⟩
def zipL : List D → List D → List D
  | x :: xs, y :: ys => .tup [x, y] :: zipL xs ys
  | _, _ => []
theorem zipL_get : ∀ {xs ys : List D} {i : Nat} {d : D}, (zipL xs ys)[i]? = some d → ∃ x y, xs[i]? = some x ∧ ys[i]? = some y ∧ d = .tup [x, y]
  | [], _, _, _, h => by simp [zipL] at h
  | _ :: _, [], _, _, h => by simp [zipL] at h
  | x :: xs, y :: ys, 0, d, h => ⟨x, y, rfl, rfl, by simpa [zipL] using h.symm⟩
  | x :: xs, y :: ys, i + 1, d, h => by
    obtain ⟨a, b, h1, h2, h3⟩ := zipL_get (xs := xs) (ys := ys) (i := i) (by simpa [zipL] using h)
    exact ⟨a, b, by simpa using h1, by simpa using h2, h3⟩
theorem zipL_len : ∀ (xs ys : List D), (zipL xs ys).length = min xs.length ys.length
  | [], ys => by simp [zipL]
  | _ :: _, [] => by simp [zipL]
  | x :: xs, y :: ys => by
    have := zipL_len xs ys
    simp only [zipL, List.length_cons, this]
    omega
def iZp (ea : Env → Out (List D)) : Env → Out (List D) := fun ρ => (ea ρ).bind fun ds => match ds with
  | [.lst es, .lst fs] => .ok (zipL es fs)
  | _ => .stuck
theorem si_zip {a b : Expr} {p tpos : Pos} {kk : Nat} {elts : List Expr} {ea : Env → Out (List D)} (hm : X.mg "zip" = none) (ha : SA X W [a, b] ea) (hg : Gl X "zip" := by rfl)
    (hs : starEach [a, b] X.env = (false, eval a X.env) :: starEach [b] X.env := by rfl) (hpl : (backTo pos (starEach [b] X.env)).any (·.1) = false := by rfl) :
    SI X W (.Tuple elts kk tpos) (.Call (.Name "zip" p) [a, b] [] pos) (iZp ea) :=
  .of (pi_zip hg hm ha hs hpl) fun F H σ ρ R h1 h2 => ⟨F, ρ, h1, PostI.bind h2 fun ds vs F1 H1 ed e1 r1 q1 => by
    split at q1
    · obtain ⟨v, w, rfl, r2, r3⟩ := two_of r1
      cases r2 with
      | @lst p vs ds g1 g2 =>
        cases r3 with
        | @lst p' vs' ds' g1' g2' =>
          refine ⟨p, p', vs, vs', rfl, .inl (rd_of e1.fh g1), .inl (rd_of e1.fh g1'), q1 _ F1 H1 (.refl e1.fh) fun i Fi H s1 s2 => ?_⟩
          have hH : SqL X.K H p vs := .inl (rd_of (s1.trans s2) g1)
          have hH' : SqL X.K H p' vs' := .inl (rd_of (s1.trans s2) g1')
          refine ⟨fun d hd => ?_, fun hi => ⟨vs, vs', hH, hH', ?_⟩⟩
          · obtain ⟨x, y, hx, hy, rfl⟩ := zipL_get hd
            obtain ⟨v1, hv1, rv1⟩ := g2.get hx
            obtain ⟨v2, hv2, rv2⟩ := g2'.get hy
            refine ⟨⟨vs, vs', v1, v2, hH, hH', hv1, hv2⟩, fun z H' hz => ?_⟩
            obtain ⟨T, x', y', rfl, nT, rfl, k1, k2⟩ := hz
            have z1 := k1 vs hH
            have z2 := k2 vs' hH'
            rw [hv1] at z1
            rw [hv2] at z2
            cases z1
            cases z2
            have nF := s2.free nT
            have mn := fun {v : V} {d : D} (h : DR X.K F1 v d) => (h.mono (Sub.of_same s1)).mono (Sub.of_same (same_new (o := .tup [v1, v2]) nF))
            exact ⟨_, ext_tup s2 nT, .tup upd_same (.cons (mn rv1) (.one (mn rv2)))⟩
          · rw [g2.length, g2'.length]
            rw [zipL_len] at hi
            omega
    · exact q1.elim⟩

/-! ### for -/
theorem Ext.rebase {F0 H0 F H F' H' : Hp} (a : Ext F0 H0 F H) (b : Ext F H0 F' H') : Ext F0 H0 F' H' := ⟨a.ff.trans b.ff, b.fh, b.hh, fun x h => by
  rcases b.new x h with h | h
  · exact a.new x h
  · exact .inr h⟩
theorem Rep.toBase {K : PySem.W.Frag} {F0 H0 F H F' H' : Hp} {σ : St} {ρ : Env} (a : Ext F0 H0 F H) (r : Rep K F H0 O F' H' σ ρ) : Rep K F0 H0 O F' H' σ ρ := ⟨a.rebase r.ext, r.len, r.sl⟩
theorem Rep.atBase {K : PySem.W.Frag} {F0 H0 F H : Hp} {σ : St} {ρ : Env} (r : Rep K F0 H0 O F H σ ρ) : Rep K F H0 O F H σ ρ := ⟨⟨Same.refl _, r.ext.fh, r.ext.hh, fun _ h => .inl h⟩, r.len, r.sl⟩

def forL (is : List Nat) (asg : D → Option (List D)) (b : Env → Fl) : List D → Env → Fl
  | [], ρ => .nx ρ
  | d :: r, ρ => match asg d with
    | none => .stuck
    | some ds => match b (setsE ρ (is.zip ds)) with
      | .nx ρ' => forL is asg b r ρ'
      | .ct ρ' => forL is asg b r ρ'
      | .bk ρ' => .nx ρ'
      | o => o
def fFor (O : List OK) (is : List Nat) (asg : D → Option (List D)) (ei : Env → Out (List D)) (b : Env → Fl) : Env → Fl := fun ρ => fE (ei (hide O ρ)) ρ fun ds => forL is asg b ds ρ
theorem ss_for {body : List Stmt} {is : List Nat} {asg : D → Option (List D)} {ei : Env → Out (List D)} {b : Env → Fl} (hp : PassesOwn (model X.prog X.w) X.A X.env X.xe) (hc : X.calm = true) (hi : SI X W tg e ei) (hg : SG X tg is asg)
    (hb : SB X W O { nx := O, bk := P.nx, ct := O, ex := P.ex } ro body b) (hk : allFz O is = true := by rfl) (hl : leB O P.nx = true := by rfl) (hx : leB O P.ex = true := by rfl) (hs : ∀ x, foldedSetIterable e X.env x = pure x := by intro _; rfl) :
    SS X W O P ro (.For tg e body [] pos) (fFor O is asg ei b) := .of (ps_for hp hc hi hg hb hs) fun F0 H0 F H σ ρ T r q => by
  refine ⟨F, hide O ρ, r.hid, ?_⟩
  unfold fFor at q
  cases e1 : ei (hide O ρ) with
  | stuck => rw [e1] at q; exact q.elim
  | exc x =>
    rw [e1] at q
    intro c dd F' H' e' hx'
    exact PostS.exc q (r.grow e') hx hx'
  | ok ds =>
    rw [e1, fE_ok] at q
    intro J Fl H1 e' hJ
    refine ⟨fun i m σ' H' => ∃ Fi ρi, i + m = ds.length ∧ Same Fl Fi ∧ Rep X.K F0 H0 O Fi H' σ' ρi ∧ PostS X.K X.mg W F0 H0 P ro T (forL is asg b (ds.drop i) ρi), ⟨ds.length, Fl, ρ, by omega, Same.refl _, r.grow e', q⟩, ?_⟩
    rintro i m σ' H' ⟨Fi, ρi, him, sF, ri, qi⟩
    obtain ⟨j1, j2⟩ := hJ i Fi H' sF ri.same
    by_cases hlt : i < ds.length
    · obtain ⟨go, yl⟩ := j1 ds[i] (List.getElem?_eq_getElem hlt)
      refine .inr ⟨go, fun σ2 H2 => ∃ F2 ρ2, Same Fl F2 ∧ Rep X.K F0 H0 O F2 H2 σ2 ρ2 ∧ PostS X.K X.mg W F0 H0 P ro T (forL is asg b (ds.drop (i + 1)) ρ2), ?_, fun x H2 hy => ?_⟩
      · rintro σ2 H2 ⟨F2, ρ2, s2, r2, q2⟩
        exact ⟨m - 1, by omega, F2, ρ2, by omega, s2, r2, q2⟩
      · obtain ⟨Fx, ex, rx⟩ := yl x H2 hy
        have hd : ds.drop i = ds[i] :: ds.drop (i + 1) := List.drop_eq_getElem_cons hlt
        rw [hd] at qi
        unfold forL at qi
        cases ha : asg ds[i] with
        | none => rw [ha] at qi; exact qi.elim
        | some as =>
          rw [ha] at qi
          refine ⟨Fx, ds[i], as, ex.fh, rx, ha, fun us hu => ?_⟩
          have rx2 := ri.grow ex
          refine ⟨Fx, H0, Fx, _, (setsS_ok rx2 hu (allFz_get hk)).atBase, ?_⟩
          have qi' : PostS X.K X.mg W F0 H0 P ro T (match b (setsE ρi (is.zip as)) with
            | .nx ρ' => forL is asg b (ds.drop (i + 1)) ρ'
            | .ct ρ' => forL is asg b (ds.drop (i + 1)) ρ'
            | .bk ρ' => .nx ρ'
            | o => o) := qi
          have sx : Same Fl Fx := sF.trans ex.ff
          cases hb' : b (setsE ρi (is.zip as)) with
          | nx ρ' => rw [hb'] at qi'; exact fun F3 H3 σ3 r3 => ⟨F3, ρ', sx.trans r3.ext.ff, r3.toBase rx2.ext, qi'⟩
          | ct ρ' => rw [hb'] at qi'; exact fun F3 H3 σ3 r3 => ⟨F3, ρ', sx.trans r3.ext.ff, r3.toBase rx2.ext, qi'⟩
          | bk ρ' => rw [hb'] at qi'; exact fun F3 H3 σ3 r3 => qi' F3 H3 σ3 (r3.toBase rx2.ext)
          | ret d => rw [hb'] at qi'; exact fun v F3 H3 e3 h3 => qi' v F3 H3 (rx2.ext.rebase e3) h3
          | exc x ρ' => rw [hb'] at qi'; exact fun c dd F3 H3 σ3 r3 h3 => qi' c dd F3 H3 σ3 (r3.toBase rx2.ext) h3
          | stuck => rw [hb'] at qi'; exact qi'
    · have hie : i = ds.length := by omega
      refine .inl ⟨j2 hie, ?_⟩
      rw [hie, List.drop_length] at qi
      exact PostS.nxt qi ri hl
end
end CW
namespace CW
open PySem PySem.Spec PyProof.Rows L2

/-! ### while, by fuel, then without -/
def whN (t : Env → Out Bool) (b : Env → Fl) : Nat → Env → Fl
  | 0, _ => .stuck
  | n + 1, ρ => fE (t ρ) ρ fun c => match c with
    | true => match b ρ with
      | .nx ρ' => whN t b n ρ'
      | .ct ρ' => whN t b n ρ'
      | .bk ρ' => .nx ρ'
      | o => o
    | false => .nx ρ
theorem whN_succ (t : Env → Out Bool) (b : Env → Fl) (n : Nat) (ρ : Env) : whN t b (n + 1) ρ = fE (t ρ) ρ fun c => match c with
    | true => match b ρ with
      | .nx ρ' => whN t b n ρ'
      | .ct ρ' => whN t b n ρ'
      | .bk ρ' => .nx ρ'
      | o => o
    | false => .nx ρ := rfl
theorem whN_mono (t : Env → Out Bool) (b : Env → Fl) : ∀ (n : Nat) (ρ : Env), whN t b n ρ ≠ .stuck → whN t b (n + 1) ρ = whN t b n ρ
  | 0, ρ, h => absurd rfl h
  | n + 1, ρ, h => by
    rw [whN_succ] at h
    rw [whN_succ t b (n + 1), whN_succ t b n]
    cases ht : t ρ with
    | ok c =>
      rw [ht] at h
      cases c with
      | false => rfl
      | true =>
        simp only [fE_ok] at h ⊢
        cases hb : b ρ with
        | nx ρ' => rw [hb] at h; exact whN_mono t b n ρ' h
        | ct ρ' => rw [hb] at h; exact whN_mono t b n ρ' h
        | _ => rfl
    | _ => rfl
theorem whN_le {t : Env → Out Bool} {b : Env → Fl} {n : Nat} {ρ : Env} (h : whN t b n ρ ≠ .stuck) : ∀ m, whN t b (n + m) ρ = whN t b n ρ
  | 0 => rfl
  | m + 1 => by
    have ih := whN_le h m
    rw [← Nat.add_assoc, whN_mono t b (n + m) ρ (by rw [ih]; exact h), ih]
open Classical in
noncomputable def wh (t : Env → Out Bool) (b : Env → Fl) (ρ : Env) : Fl := if h : ∃ n, whN t b n ρ ≠ .stuck then whN t b h.choose ρ else .stuck
theorem wh_of {t : Env → Out Bool} {b : Env → Fl} {n : Nat} {ρ : Env} (h : whN t b n ρ ≠ .stuck) : wh t b ρ = whN t b n ρ := by
  have hx : ∃ n, whN t b n ρ ≠ .stuck := ⟨n, h⟩
  unfold wh
  rw [dif_pos hx]
  have hc := hx.choose_spec
  rcases Nat.le_total hx.choose n with hl | hl
  · obtain ⟨m, rfl⟩ := Nat.exists_eq_add_of_le hl
    exact (whN_le hc m).symm
  · obtain ⟨m, hm⟩ := Nat.exists_eq_add_of_le hl
    rw [hm] at hc ⊢
    exact whN_le h m
theorem wh_ex {t : Env → Out Bool} {b : Env → Fl} {ρ : Env} (h : wh t b ρ ≠ .stuck) : ∃ n, wh t b ρ = whN t b n ρ := by
  unfold wh at h ⊢
  split at h
  · rename_i hx; rw [dif_pos hx]; exact ⟨_, rfl⟩
  · exact absurd rfl h
/-- one turn -/
theorem wh_eq (t : Env → Out Bool) (b : Env → Fl) (ρ : Env) : wh t b ρ = fE (t ρ) ρ fun c => match c with
    | true => match b ρ with
      | .nx ρ' => wh t b ρ'
      | .ct ρ' => wh t b ρ'
      | .bk ρ' => .nx ρ'
      | o => o
    | false => .nx ρ := by
  cases ht : t ρ with
  | exc x => rw [wh_of (n := 1) (by rw [whN, ht]; simp)]; rw [whN, ht]; rfl
  | stuck =>
    have : ∀ n, whN t b n ρ = .stuck := fun n => by cases n <;> simp [whN, ht]
    unfold wh
    rw [dif_neg (fun ⟨n, h⟩ => h (this n))]; rfl
  | ok c =>
    cases c with
    | false => rw [wh_of (n := 1) (by rw [whN, ht]; simp)]; rw [whN, ht]; rfl
    | true =>
      simp only [fE_ok]
      have key : ∀ ρ', (∀ n, whN t b (n + 1) ρ = whN t b n ρ') → wh t b ρ = wh t b ρ' := fun ρ' hk => by
        by_cases hx : ∃ n, whN t b n ρ' ≠ .stuck
        · obtain ⟨n, hn⟩ := hx
          rw [wh_of hn, wh_of (n := n + 1) (by rw [hk]; exact hn), hk]
        · have h1 : ¬ ∃ n, whN t b n ρ ≠ .stuck := fun ⟨n, hn⟩ => by
            cases n with
            | zero => exact hn rfl
            | succ n => rw [hk] at hn; exact hx ⟨n, hn⟩
          unfold wh
          rw [dif_neg hx, dif_neg h1]
      cases hb : b ρ with
      | nx ρ' => exact key ρ' fun n => by rw [whN, ht]; simp [hb]
      | ct ρ' => exact key ρ' fun n => by rw [whN, ht]; simp [hb]
      | bk ρ' => rw [wh_of (n := 1) (by rw [whN, ht]; simp [hb])]; rw [whN, ht]; simp [hb]
      | ret d => rw [wh_of (n := 1) (by rw [whN, ht]; simp [hb])]; rw [whN, ht]; simp [hb]
      | exc x d => rw [wh_of (n := 1) (by rw [whN, ht]; simp [hb])]; rw [whN, ht]; simp [hb]
      | stuck =>
        have : ∀ n, whN t b n ρ = .stuck := fun n => by cases n <;> simp [whN, ht, hb]
        unfold wh
        rw [dif_neg (fun ⟨n, h⟩ => h (this n))]

section
variable {X : Cx} {W : WX} {O O1 : List OK} {P : OX} {ro : Bool} {st : Stmt} {sts : List Stmt} {f g : Env → Fl} {e c : Expr} {es : List Expr} {pos : Pos} {ev ew : Env → Out D} {t : Env → Out Bool}
theorem ss_while {body : List Stmt} {b : Env → Fl} (hp : PassesOwn (model X.prog X.w) X.A X.env X.xe) (hc : ST X W c t) (hb : SB X W O { nx := O, bk := P.nx, ct := O, ex := P.ex } ro body b)
    (hl : leB O P.nx = true := by rfl) (hx : leB [] P.ex = true := by rfl) : SS X W O P ro (.While c body [] pos) (wh t b) := .of (ps_while hp hc hb) fun F0 H0 F H σ ρ T r q => by
  obtain ⟨n0, hn0⟩ := wh_ex (t := t) (b := b) (ρ := ρ) (fun z => by rw [z] at q; exact q.elim)
  rw [hn0] at q
  refine ⟨fun m σ' H' => ∃ Fi ρi, Rep X.K F0 H0 O Fi H' σ' ρi ∧ PostS X.K X.mg W F0 H0 P ro T (whN t b m ρi), ⟨n0, F, ρ, r, q⟩, ?_⟩
  rintro m σ' H' ⟨Fi, ρi, ri, qi⟩
  cases m with
  | zero => exact qi.elim
  | succ m =>
    obtain ⟨G, rf, sFG, back⟩ := ri.lend
    refine ⟨G, ρi, rf, ?_⟩
    rw [whN] at qi
    cases ht : t ρi with
    | stuck => rw [ht] at qi; exact qi.elim
    | exc x =>
      rw [ht] at qi
      intro c dd G' H2 e' hx'
      exact PostS.exc qi (back G' H2 e').1 hx hx'
    | ok v =>
      rw [ht, fE_ok] at qi
      intro v' G' H2 e' hv
      cases hv
      obtain ⟨_, F', r', _⟩ := back G' H2 e'
      cases v with
      | false => exact iteF (PostS.nxt qi r' hl)
      | true =>
        refine iteT ⟨fun σ2 H2 => ∃ F2 ρ2, Rep X.K F0 H0 O F2 H2 σ2 ρ2 ∧ PostS X.K X.mg W F0 H0 P ro T (whN t b m ρ2), ?_, F0, H0, F', ρi, r', ?_⟩
        · rintro σ2 H2 ⟨F2, ρ2, r2, q2⟩
          exact ⟨m, Nat.lt_succ_self _, F2, ρ2, r2, q2⟩
        · have qi' : PostS X.K X.mg W F0 H0 P ro T (match b ρi with
            | .nx ρ' => whN t b m ρ'
            | .ct ρ' => whN t b m ρ'
            | .bk ρ' => .nx ρ'
            | o => o) := qi
          cases hb' : b ρi with
          | nx ρ' => rw [hb'] at qi'; exact fun F3 H3 σ3 r3 => ⟨F3, ρ', r3, qi'⟩
          | ct ρ' => rw [hb'] at qi'; exact fun F3 H3 σ3 r3 => ⟨F3, ρ', r3, qi'⟩
          | bk ρ' => rw [hb'] at qi'; exact qi'
          | ret d => rw [hb'] at qi'; exact qi'
          | exc x ρ' => rw [hb'] at qi'; exact qi'
          | stuck => rw [hb'] at qi'; exact qi'
/-! small statements -/
theorem ss_pass (hl : leB O P.nx = true := by rfl) : SS X W O P ro (.Pass pos) fNx := .of ps_pass fun F0 H0 F H σ ρ T r q => PostS.nxt q r hl
def fBk : Env → Fl := fun ρ => .bk ρ
def fCt : Env → Fl := fun ρ => .ct ρ
theorem ss_break (hl : leB O P.bk = true := by rfl) : SS X W O P ro (.Break pos) fBk := .of ps_break fun F0 H0 F H σ ρ T r q => by
  obtain ⟨F', s, r'⟩ := r.weak hl
  exact q F' H σ r'
theorem ss_cont (hl : leB O P.ct = true := by rfl) : SS X W O P ro (.Continue pos) fCt := .of ps_continue fun F0 H0 F H σ ρ T r q => by
  obtain ⟨F', s, r'⟩ := r.weak hl
  exact q F' H σ r'
def fStuck : Env → Fl := fun _ => .stuck
theorem ss_never : SS X W O P ro st fStuck := .of (ps_never) fun F0 H0 F H σ ρ T r q => q.elim
/-- x += e, ints -/
def fAug (i : Nat) (ev : Env → Out D) : Env → Fl := fun ρ => match ρ[i]? with
  | some (some (.int a)) => fE (ev ρ) ρ fun d => match d with
    | .int b => .nx (ρ.set i (some (.int (a + b))))
    | _ => .stuck
  | _ => .stuck
theorem ss_aug (i : Nat) {x : Str} {p : Pos} (hN : X.N.Nodup) (he : SE X W e ev) (hk : kd O i = .fz := by rfl) (hl : leB O P.nx = true := by rfl) (hx : leB [] P.ex = true := by rfl) (hi : X.N[i]? = some x := by rfl) (hL : Loc X.env.scope x := by first | exact Or.inl rfl | exact Or.inr rfl)
    (hf : X.fn x = true ∨ X.env.scope.names.lookup x = some .local := by first | exact .inl rfl | exact .inr rfl) : SS X W O P ro (.AugAssign (.Name x p) .Add e pos) (fAug i ev) :=
  .of (ps_aug hN hi hL he ip_add hf) fun F0 H0 F H σ ρ T r q => by
  unfold fAug at q
  split at q
  · rename_i a ha
    obtain ⟨G, rf, sFG, back⟩ := r.lend
    obtain ⟨v, hv, rv⟩ := rf.2.2 i _ ha
    cases rv
    refine ⟨_, hv, G, ρ, rf, ?_⟩
    cases e1 : ev ρ with
    | ok d =>
      rw [e1, fE_ok] at q
      cases d with
      | int b =>
        intro v' G' H' e' hv'
        cases hv'
        obtain ⟨_, F', r', _⟩ := back G' H' e'
        refine ⟨a, b, rfl, rfl, ?_⟩
        have r2 := r'.set i (.int (a + b))
        have e2 : O.set i .fz = O := by
          by_cases hi : i < O.length
          · unfold kd at hk
            rw [List.getD_eq_getElem?_getD, List.getElem?_eq_getElem hi] at hk
            exact List.ext_getElem (by simp) fun j h1 h2 => by
              rw [List.getElem_set]
              split
              · rename_i hij; subst hij; exact hk.symm
              · rfl
          · rw [List.set_eq_of_length_le (by omega)]
        rw [e2] at r2
        exact PostS.nxt q r2 hl
      | _ => exact q.elim
    | exc x =>
      rw [e1] at q
      intro c dd G' H' e' hx'
      exact PostS.exc q (back G' H' e').1 hx hx'
    | stuck => rw [e1] at q; exact q.elim
  · exact q.elim

/-! ### lists that are changed -/
/-- x.append(e) -/
def fApp (O : List OK) (i : Nat) (ev : Env → Out D) : Env → Fl := fun ρ => match ρ[i]? with
  | some (some (.lst ds)) => fE (ev (hide O ρ)) ρ fun d => if ds.length < sizeLine then .nx (ρ.set i (some (.lst (ds ++ [d])))) else .stuck
  | _ => .stuck
def fAppB (i : Nat) (ev : Env → Out D) : Env → Fl := fun ρ => match ρ[i]? with
  | some (some (.lst ds)) => fE (lfO (ev ρ)) ρ fun d => if ds.length < sizeLine then .nx (ρ.set i (some (.lst (ds ++ [d])))) else .stuck
  | _ => .stuck
theorem rep_slot {K : PySem.W.Frag} {F0 H0 F H : Hp} {σ : St} {ρ : Env} {i : Nat} {ds : List D} (r : Rep K F0 H0 O F H σ ρ) (hk : kd O i = .ol) (h : ρ[i]? = some (some (.lst ds))) : ∃ p vs, σ[i]? = some (some (.ref p)) ∧ H p = some (.lst vs) ∧ F p = none ∧ H0 p = none ∧ DRs K F vs ds := by
  obtain ⟨p, vs, a, b, c, d, e, _⟩ := r.write hk h
  exact ⟨p, vs, a, b, c, d, e⟩
theorem ss_app (i : Nat) {x : Str} {p apos cpos : Pos} (he : SE X W e ev) (hk : kd O i = .ol := by rfl) (hl : leB O P.nx = true := by rfl) (hx : leB O P.ex = true := by rfl) (hN : X.N[i]? = some x := by rfl) (hv : Vis X.env.scope x := by first | exact Or.inl rfl | exact Or.inr (Or.inl rfl) | exact Or.inr (Or.inr rfl))
    (hd : (x == ("__debug__" : Str)) = false := by decide) (hcd : (x == ("__classdict__" : Str)) = false := by decide)
    (hbase : attributeBase (.Name x p) "append" X.env (eval (.Name x p) X.env) = eval (.Name x p) X.env := by rfl)
    (hfew : ((backTo cpos (starEach [e] X.env)).all (fun x => !x.1) && (backToKw cpos (keywordEach [] X.env)).all (fun x => x.1.isSome)
      && decide (([e] : List Expr).length + ([] : List Keyword).length + (if ([] : List Keyword).isEmpty then 0 else 1) < 30)) = true := by rfl)
    (hline : (apos.endLine == cpos.line) = true := by rfl) (hs : starEach [e] X.env = (false, eval e X.env) :: starEach [] X.env := by rfl) (hplain : (backTo cpos (starEach [] X.env)).any (·.1) = false := by rfl)
    (hsw : swapsWith (.Call (.Attribute (.Name x p) "append" apos) [e] [] cpos) none pos.line X.env = pure false := by rfl) :
    SS X W O P ro (.Expr (.Call (.Attribute (.Name x p) "append" apos) [e] [] cpos) pos) (fApp O i ev) :=
  .of (ps_expr (pe_bm PySem.F.plainAttrs_list PySem.F.slot_list_append PySem.F.type_list_append mt_append (pe_var (i := i) hN hv hd hcd) (pa_cons he pa_nil hs) hbase hfew hline hs hplain) hsw) fun F0 H0 F H σ ρ T r q => by
  unfold fApp at q
  split at q
  · rename_i ds hds
    obtain ⟨p, vs, a1, a2, a3, a4, a5⟩ := rep_slot r hk hds
    refine ⟨_, a1, .inl ⟨rfl, vs, .inl (.inl a2)⟩, F, hide O ρ, r.hid, ?_⟩
    cases e1 : ev (hide O ρ) with
    | stuck => rw [e1] at q; exact q.elim
    | exc x' =>
      rw [e1] at q
      intro c dd F' H' e' hx'
      exact PostS.exc q (r.grow e') hx hx'
    | ok d =>
      rw [e1, fE_ok] at q
      split at q
      · rename_i hz
        intro v F' H' e' rv
        have r' := r.grow e'
        obtain ⟨p', vs', b1, b2, b3, b4, b5, bw⟩ := r'.write hk hds
        rw [a1] at b1
        cases b1
        refine ⟨p, vs', v, rfl, rfl, b2, by rw [b5.length]; exact hz, ?_⟩
        exact PostS.nxt q (bw _ _ (b5.append (.one rv))) hl
      · exact q.elim
  · exact q.elim
theorem ss_appB (i : Nat) {x : Str} {p apos cpos : Pos} (he : SE X W e ev) (hk : kd O i = .ol := by rfl) (hl : leB O P.nx = true := by rfl) (hx : leB [] P.ex = true := by rfl) (hN : X.N[i]? = some x := by rfl) (hv : Vis X.env.scope x := by first | exact Or.inl rfl | exact Or.inr (Or.inl rfl) | exact Or.inr (Or.inr rfl))
    (hd : (x == ("__debug__" : Str)) = false := by decide) (hcd : (x == ("__classdict__" : Str)) = false := by decide)
    (hbase : attributeBase (.Name x p) "append" X.env (eval (.Name x p) X.env) = eval (.Name x p) X.env := by rfl)
    (hfew : ((backTo cpos (starEach [e] X.env)).all (fun x => !x.1) && (backToKw cpos (keywordEach [] X.env)).all (fun x => x.1.isSome)
      && decide (([e] : List Expr).length + ([] : List Keyword).length + (if ([] : List Keyword).isEmpty then 0 else 1) < 30)) = true := by rfl)
    (hline : (apos.endLine == cpos.line) = true := by rfl) (hs : starEach [e] X.env = (false, eval e X.env) :: starEach [] X.env := by rfl) (hplain : (backTo cpos (starEach [] X.env)).any (·.1) = false := by rfl)
    (hsw : swapsWith (.Call (.Attribute (.Name x p) "append" apos) [e] [] cpos) none pos.line X.env = pure false := by rfl) :
    SS X W O P ro (.Expr (.Call (.Attribute (.Name x p) "append" apos) [e] [] cpos) pos) (fAppB i ev) :=
  .of (ps_expr (pe_bm PySem.F.plainAttrs_list PySem.F.slot_list_append PySem.F.type_list_append mt_append (pe_var (i := i) hN hv hd hcd) (pa_cons he pa_nil hs) hbase hfew hline hs hplain) hsw) fun F0 H0 F H σ ρ T r q => by
  unfold fAppB at q
  split at q
  · rename_i ds hds
    obtain ⟨p, vs, a1, a2, a3, a4, a5⟩ := rep_slot r hk hds
    obtain ⟨G, rf, sFG, back⟩ := r.lend
    refine ⟨_, a1, .inl ⟨rfl, vs, .inl (.inl a2)⟩, G, ρ, rf, ?_⟩
    cases e1 : ev ρ with
    | stuck => rw [e1] at q; exact q.elim
    | exc x' =>
      rw [e1] at q
      intro c dd G' H' e' hx'
      exact PostS.exc q (back G' H' e').1 hx hx'
    | ok d =>
      rw [e1, lfO_ok] at q
      split at q
      · rename_i hlf
        rw [fE_ok] at q
        split at q
        · rename_i hz
          intro v G' H' e' rv
          obtain ⟨_, F', r', _, b1', _⟩ := back G' H' e'
          obtain ⟨p', vs', b1, b2, b3, b4, b5, bw⟩ := r'.write hk hds
          rw [a1] at b1
          cases b1
          refine ⟨p, vs', v, rfl, rfl, b2, by rw [b5.length]; exact hz, ?_⟩
          exact PostS.nxt q (bw _ _ (b5.append (.one (b1' v d hlf rv)))) hl
        · exact q.elim
      · exact q.elim
  · exact q.elim
end
end CW
namespace CW
open PySem PySem.Spec PyProof.Rows L2

abbrev W0 : WX := fun _ _ _ _ => False
def wipeE (ρ : Env) : List Nat → Env
  | [] => ρ
  | v :: vs => (wipeE ρ vs).set v none
@[simp] theorem wipeE_nil (ρ : Env) : wipeE ρ [] = ρ := (rfl)
@[simp] theorem wipeE_cons (ρ : Env) (v vs) : wipeE ρ (v :: vs) = (wipeE ρ vs).set v none := (rfl)
theorem wipeE_len (ρ : Env) : ∀ vs : List Nat, (wipeE ρ vs).length = ρ.length
  | [] => rfl
  | v :: vs => by simp [wipeE_len ρ vs]
theorem RF.wipe {K : PySem.W.Frag} {F H : Hp} {σ : St} {ρ : Env} (r : RF K F H σ ρ) : ∀ vs : List Nat, RF K F H (wipe σ vs) (wipeE ρ vs)
  | [] => r
  | v :: vs => by
    have ih := r.wipe vs
    refine ⟨ih.1, by rw [wipe_length, wipeE_len]; exact r.2.1, fun i d hi => ?_⟩
    by_cases hiv : i = v
    · subst hiv
      rw [wipeE_cons] at hi
      by_cases hl : i < (wipeE ρ vs).length
      · rw [List.getElem?_set_self hl] at hi; cases hi
      · rw [List.getElem?_eq_none (by rw [List.length_set]; omega)] at hi; cases hi
    · rw [wipeE_cons, List.getElem?_set_ne (Ne.symm hiv)] at hi
      obtain ⟨w, a, b⟩ := ih.2.2 i d hi
      refine ⟨w, ?_, b⟩
      show ((L2.wipe σ vs).set v none)[i]? = _
      rw [List.getElem?_set_ne (Ne.symm hiv)]; exact a
theorem wipe_set {σ : St} {x : Option V} {i : Nat} : ∀ {vs : List Nat}, i ∈ vs → L2.wipe (σ.set i x) vs = L2.wipe σ vs
  | [], h => by simp at h
  | v :: vs, h => by
    show (L2.wipe (σ.set i x) vs).set v none = (L2.wipe σ vs).set v none
    by_cases hm : i ∈ vs
    · rw [wipe_set hm]
    · have hv : i = v := by
        rcases List.mem_cons.mp h with e | e
        · exact e
        · exact absurd e hm
      subst hv
      have : ∀ ws : List Nat, i ∉ ws → L2.wipe (σ.set i x) ws = (L2.wipe σ ws).set i x := fun ws => by
        induction ws with
        | nil => intro _; rfl
        | cons u us ih =>
          intro hn
          simp only [List.mem_cons, not_or] at hn
          show (L2.wipe (σ.set i x) us).set u none = ((L2.wipe σ us).set u none).set i x
          rw [ih hn.2, List.set_comm _ _ hn.1]
      rw [this vs hm, List.set_set]
theorem wipe_sets {vs : List Nat} : ∀ {is : List Nat} {us : List V} {σ : St}, (∀ i ∈ is, i ∈ vs) → L2.wipe (setsS σ (is.zip us)) vs = L2.wipe σ vs
  | [], us, σ, h => by simp [setsS]
  | i :: is, [], σ, h => by simp [setsS]
  | i :: is, u :: us, σ, h => by
    show L2.wipe (setsS (σ.set i (some u)) (is.zip us)) vs = _
    rw [wipe_sets fun j hj => h j (List.mem_cons_of_mem _ hj), wipe_set (h i List.mem_cons_self)]
def compL (is : List Nat) (asg : D → Option (List D)) (c : Env → Out Bool) (ev : Env → Out D) (ρ : Env) : List D → Out (List D)
  | [] => .ok []
  | d :: r => match asg d with
    | none => .stuck
    | some ds => (noX (c (setsE ρ (is.zip ds)))).bind fun b => match b with
      | true => (noX (ev (setsE ρ (is.zip ds)))).bind fun y => (compL is asg c ev ρ r).bind fun ys => .ok (y :: ys)
      | false => compL is asg c ev ρ r
def oLc (vs is : List Nat) (ei : Env → Out (List D)) (asg : D → Option (List D)) (c : Env → Out Bool) (ev : Env → Out D) : Env → Out (List D) := fun ρ => (ei ρ).bind fun ds => if ds.length ≤ sizeLine then compL is asg c ev (wipeE ρ vs) ds else .stuck
theorem compL_exc {is : List Nat} {asg : D → Option (List D)} {c : Env → Out Bool} {ev : Env → Out D} {ρ : Env} {x : D} : ∀ {ds : List D}, compL is asg c ev ρ ds ≠ .exc x
  | [], h => by simp [compL] at h
  | d :: r, h => by
    unfold compL at h
    cases ha : asg d with
    | none => rw [ha] at h; cases h
    | some ds =>
      rw [ha] at h
      simp only at h
      cases hc : c (setsE ρ (is.zip ds)) with
      | ok b =>
        rw [hc] at h
        simp only [noX_ok, Out.bind_ok] at h
        cases b with
        | false => exact compL_exc h
        | true =>
          simp only at h
          cases he : ev (setsE ρ (is.zip ds)) with
          | ok y =>
            rw [he] at h
            simp only [noX_ok, Out.bind_ok] at h
            cases hr : compL is asg c ev ρ r with
            | ok ys => rw [hr] at h; cases h
            | exc z => exact compL_exc hr
            | stuck => rw [hr] at h; cases h
          | exc z => rw [he] at h; cases h
          | stuck => rw [he] at h; cases h
      | exc z => rw [hc] at h; cases h
      | stuck => rw [hc] at h; cases h
def STs (X : Cx) (W : WX) (ifs : List Expr) (c : Env → Out Bool) : Prop := PTs X ifs (dT X.K X.mg W c)
def cYes : Env → Out Bool := fun _ => .ok true
section
variable {X : Cx} {W : WX}
theorem sts_nil : STs X W [] cYes := ⟨fun pins s σ H Q I ⟨F, ρ, h1, h2⟩ => pts_nil.run pins s σ H Q I (h2.ok h1.1 rfl)⟩
theorem sts_one {a : Expr} {c : Env → Out Bool} (h : ST X W a c) : STs X W [a] c := pts_one h
theorem lc_sub {K : PySem.W.Frag} {mg : Str → Option Value} {vs is : List Nat} {ei : Env → Out (List D)} {asg : D → Option (List D)} {c : Env → Out Bool} {ev : Env → Out D} (hio' : ∀ i ∈ is, i ∈ vs) {F H : Hp} {σ : St} {ρ : Env} {Q : VK} (h1 : RF K F H σ ρ) (h2 : PostO K mg W F H σ Q (oLc vs is ei asg c ev ρ)) :
    tLc (dI K mg W ei) (dG K is asg) (dT K mg W0 c) (dE K mg W0 ev) vs σ H Q := by
  refine ⟨F, ρ, h1, ?_⟩
  unfold oLc at h2
  cases e1 : ei ρ with
  | exc x => rw [e1] at h2; exact h2
  | stuck => rw [e1] at h2; exact h2.elim
  | ok ds =>
    rw [e1] at h2
    have h3 : PostO K mg W F H σ Q (if ds.length ≤ sizeLine then compL is asg c ev (wipeE ρ vs) ds else .stuck) := h2
    split at h3
    · rename_i hz
      intro J Fl H1 e' hJ D0 hD
      cases hr : compL is asg c ev (wipeE ρ vs) ds with
      | exc x => exact absurd hr compL_exc
      | stuck => rw [hr] at h3; exact h3.elim
      | ok ys =>
        rw [hr] at h3
        have rw0 : RF K Fl H1 (L2.wipe σ vs) (wipeE ρ vs) := (h1.ext e').wipe vs
        have hDF : Fl D0 = none := rw0.1.free hD
        refine ⟨fun i m H' => ∃ Fi accV accD rest, i + m = ds.length ∧ Ext Fl H1 Fi H' ∧ Fi D0 = none ∧ H' D0 = some (.lst accV) ∧ DRs K Fi accV accD ∧ accD.length ≤ i ∧ compL is asg c ev (wipeE ρ vs) (ds.drop i) = .ok rest ∧ accD ++ rest = ys,
          ⟨ds.length, Fl, [], [], ys, by omega, ⟨Same.refl _, rw0.1.trans (same_new hD), same_new hD, fun _ h => .inl h⟩, hDF, upd_same, .nil, by simp, by simpa using hr, rfl⟩, ?_⟩
        rintro i m H' ⟨Fi, accV, accD, rest, him, ei', hFD, hHD, hacc, hlen, hrest, hys⟩
        obtain ⟨j1, j2⟩ := hJ i Fi H' ei'.ff ei'.fh
        by_cases hlt : i < ds.length
        · obtain ⟨go, yl⟩ := j1 ds[i] (List.getElem?_eq_getElem hlt)
          refine .inr ⟨go, fun H2 => ∃ F2 accV accD rest, Ext Fl H1 F2 H2 ∧ F2 D0 = none ∧ H2 D0 = some (.lst accV) ∧ DRs K F2 accV accD ∧ accD.length ≤ i + 1 ∧ compL is asg c ev (wipeE ρ vs) (ds.drop (i + 1)) = .ok rest ∧ accD ++ rest = ys, ?_, fun x H2 hy => ?_⟩
          · rintro H2 ⟨F2, aV, aD, r2, q1, q2, q3, q4, q5, q6, q7⟩
            exact ⟨m - 1, by omega, F2, aV, aD, r2, by omega, q1, q2, q3, q4, q5, q6, q7⟩
          · obtain ⟨Fx, ex, rx⟩ := yl x H2 hy
            have hd : ds.drop i = ds[i] :: ds.drop (i + 1) := List.drop_eq_getElem_cons hlt
            rw [hd] at hrest
            unfold compL at hrest
            cases ha : asg ds[i] with
            | none => rw [ha] at hrest; cases hrest
            | some as =>
              rw [ha] at hrest
              simp only at hrest
              refine ⟨Fx, ds[i], as, ex.fh, rx, ha, fun us hu => ⟨?_, ?_⟩⟩
              · rw [wipe_sets hio']
                have : ∀ σ : St, L2.wipe (L2.wipe σ vs) vs = L2.wipe σ vs := fun σ => by
                  have key : ∀ (us ws : List Nat) (σ : St), (∀ v ∈ us, v ∈ ws) → L2.wipe (L2.wipe σ us) ws = L2.wipe σ ws := fun us => by
                    induction us with
                    | nil => intro ws σ _; rfl
                    | cons u us ih =>
                      intro ws σ h
                      show L2.wipe ((L2.wipe σ us).set u none) ws = _
                      rw [wipe_set (h u List.mem_cons_self), ih ws σ fun v hv => h v (List.mem_cons_of_mem _ hv)]
                  exact key vs vs σ fun _ h => h
                exact this σ
              · have rfx : RF K Fx H2 (setsS (L2.wipe σ vs) (is.zip us)) (setsE (wipeE ρ vs) (is.zip as)) := setsS_rf ((rw0.ext ei').ext ex) hu
                refine ⟨Fx, _, rfx, ?_⟩
                cases hcc : c (setsE (wipeE ρ vs) (is.zip as)) with
                | exc z => rw [hcc] at hrest; cases hrest
                | stuck => rw [hcc] at hrest; cases hrest
                | ok b =>
                  rw [hcc, noX_ok, Out.bind_ok] at hrest
                  intro b' F3 H3 e3 hb
                  subst hb
                  have xt : Ext Fl H1 F3 H3 := ei'.trans (ex.trans e3)
                  have xi : Ext Fi H' F3 H3 := ex.trans e3
                  have hFD3 : F3 D0 = none := by
                    cases q : F3 D0 with
                    | none => rfl
                    | some o =>
                      rcases xi.new D0 (by rw [q]; simp) with z | z
                      · exact absurd hFD z
                      · rw [hHD] at z; cases z
                  cases b' with
                  | false => exact iteF ⟨F3, accV, accD, rest, xt, hFD3, xi.hh _ _ hHD, hacc.mono (Sub.of_same xi.ff), by omega, hrest, hys⟩
                  | true =>
                    refine iteT ⟨F3, _, rfx.ext e3, ?_⟩
                    simp only at hrest
                    cases hev : ev (setsE (wipeE ρ vs) (is.zip as)) with
                    | exc z => rw [hev] at hrest; cases hrest
                    | stuck => rw [hev] at hrest; cases hrest
                    | ok y =>
                      rw [hev, noX_ok, Out.bind_ok] at hrest
                      intro v F4 H4 e4 rv
                      cases hr2 : compL is asg c ev (wipeE ρ vs) (ds.drop (i + 1)) with
                      | exc z => exact absurd hr2 compL_exc
                      | stuck => rw [hr2] at hrest; cases hrest
                      | ok ys' =>
                        have hr2' := hr2
                        rw [hr2, Out.bind_ok] at hrest
                        cases hrest
                        have xi4 : Ext Fi H' F4 H4 := xi.trans e4
                        have xt4 : Ext Fl H1 F4 H4 := xt.trans e4
                        have hFD4 : F4 D0 = none := by
                          cases q : F4 D0 with
                          | none => rfl
                          | some o =>
                            rcases xi4.new D0 (by rw [q]; simp) with z | z
                            · exact absurd hFD z
                            · rw [hHD] at z; cases z
                        have hac4 := hacc.mono (Sub.of_same xi4.ff)
                        refine ⟨accV, xi4.hh _ _ hHD, ?_, F4, accV ++ [v], accD ++ [y], ys', ⟨xt4.ff, fun b o q => ?_, fun b o q => ?_, xt4.new⟩, hFD4, upd_same, hac4.append (.one rv), by simp; omega, rfl, by simpa using hys⟩
                        · rw [hacc.length]; omega
                        · rw [upd_ne (fun z => by rw [z, hFD4] at q; cases q)]; exact xt4.fh _ _ q
                        · rw [upd_ne (fun z => by rw [z, hD] at q; cases q)]; exact xt4.hh _ _ q
        · have hie : i = ds.length := by omega
          refine .inl ⟨j2 hie, ?_⟩
          rw [hie, List.drop_length] at hrest
          simp only [compL, Out.ok.injEq] at hrest
          subst hrest
          rw [List.append_nil] at hys
          subst hys
          exact h3 D0 accV Fi H' (e'.trans ei') (e'.hh.free hD) hFD hHD hacc
    · exact h3.elim
/-- [elt for target in iter if ..] -/
theorem so_lc {elt tg iter : Expr} {ifs : List Expr} {scope : Scope} (own : List (Str × Nat)) {pos : Pos} {is : List Nat} {asg : D → Option (List D)} {ei : Env → Out (List D)} {c : Env → Out Bool} {ev : Env → Out D}
    (hc : X.calm = true) (hN : X.N.Nodup) (hi : SI X W tg iter ei) (ok : BlkOk X.N X.env.scope scope own)
    (hg : ∀ (s : Shared) (H : Hp) (C : Addr) (cl : List (Str × Addr)) (fp : List Addr), SG (X.blk s H scope (compEnvC scope cl C X.env) fp) tg is asg)
    (ht : ∀ (s : Shared) (H : Hp) (C : Addr) (cl : List (Str × Addr)) (fp : List Addr), STs (X.blk s H scope (compEnvC scope cl C X.env) fp) W0 ifs c)
    (he : ∀ (s : Shared) (H : Hp) (C : Addr) (cl : List (Str × Addr)) (fp : List Addr), SE (X.blk s H scope (compEnvC scope cl C X.env) fp) W0 elt ev)
    (hio : (is.all fun i => decide (i ∈ own.map (·.2))) = true := by decide) (hs : ∀ x, foldedSetIterable iter X.env x = pure x := by intro _; rfl) :
    SO X W (.ListComp elt [⟨tg, iter, ifs, 0⟩] scope pos) (oLc (own.map (·.2)) is ei asg c ev) := by
  refine .of (pe_lc (te := dE X.K X.mg W0 ev) (tt := dT X.K X.mg W0 c) (g := dG X.K is asg) hc hN hi ok hg ht he hs) fun F H σ ρ Q h1 h2 => ?_
  have hio' : ∀ i ∈ is, i ∈ own.map (·.2) := fun i hi => by
    rw [List.all_eq_true] at hio
    simpa using hio i hi
  exact lc_sub hio' h1 h2
/-- x = [..] on one line, x a local -/
theorem soa_lc (i : Nat) {y : Str} {py spos : Pos} {elt tg iter : Expr} {ifs : List Expr} {scope : Scope} (own : List (Str × Nat)) {pos : Pos} {is : List Nat} {asg : D → Option (List D)} {ei : Env → Out (List D)} {c : Env → Out Bool} {ev : Env → Out D}
    (hc : X.calm = true) (hN : X.N.Nodup) (hi : SI X W tg iter ei) (ok : BlkOk X.N X.env.scope scope own)
    (hg : ∀ (s : Shared) (H : Hp) (C : Addr) (cl : List (Str × Addr)) (fp : List Addr), SG (X.blk s H scope (compEnvC scope cl C X.env) fp) tg is asg)
    (ht : ∀ (s : Shared) (H : Hp) (C : Addr) (cl : List (Str × Addr)) (fp : List Addr), STs (X.blk s H scope (compEnvC scope cl C X.env) fp) W0 ifs c)
    (he : ∀ (s : Shared) (H : Hp) (C : Addr) (cl : List (Str × Addr)) (fp : List Addr), SE (X.blk s H scope (compEnvC scope cl C X.env) fp) W0 elt ev)
    (hio : (is.all fun i => decide (i ∈ own.map (·.2))) = true := by decide) (hs : ∀ x, foldedSetIterable iter X.env x = pure x := by intro _; rfl)
    (hy : X.N[i]? = some y := by rfl) (hyl : X.env.scope.names.lookup y = some .local := by rfl) (hk : X.env.scope.kind = .function := by rfl) (hln : (py.line == pos.line) = true := by rfl) (hln2 : (py.line == spos.line) = true := by rfl)
    (hsa : (scope.names.any fun (n, k) => n == y && (k == .local || k == .cell)) = false := by decide +kernel) :
    PS X (.Assign [.Name y py] (.ListComp elt [⟨tg, iter, ifs, 0⟩] scope pos) spos) (tAsg (dO X.K X.mg W (oLc (own.map (·.2)) is ei asg c ev)) (gName i)) := by
  have hio' : ∀ i ∈ is, i ∈ own.map (·.2) := fun i hi => by
    rw [List.all_eq_true] at hio
    simpa using hio i hi
  refine ⟨fun pins s σ H D I h => (ps_setLc (te := dE X.K X.mg W0 ev) (tt := dT X.K X.mg W0 c) (g := dG X.K is asg) hc hN hy hyl (sw_true hk hyl hln hsa) hi ok hg ht he hs).run pins s σ H D I ?_⟩
  obtain ⟨F, ρ, h1, h2⟩ := h
  exact lc_sub hio' h1 h2
end

/-! ### a def -/
def runF (n p : Nat) (den : Env → Fl) : List D → Out D := fun ds => if ds.length = p then match den (ds.map some ++ List.replicate (n - p) none) with
  | .nx _ => .ok .non
  | .ret d => .ok d
  | _ => .stuck else .stuck
def runL (n p : Nat) (den : Env → Fl) : List D → Out (List D) := fun ds => if ds.length = p then match den (ds.map some ++ List.replicate (n - p) none) with
  | .ret (.lst es) => .ok es
  | _ => .stuck else .stuck
def fzs (O : List OK) : Bool := O.all fun k => decide (k = .fz)
theorem start_get {vs : List V} {n : Nat} {ds : List D} {N : List Str} (hl : vs.length = ds.length) {i : Nat} {d : D} (h : (ds.map some ++ List.replicate (n - ds.length) none)[i]? = some (some d)) : i < ds.length ∧ ds[i]? = some d ∧ (L2.start N vs)[i]? = vs[i]?.map some := by
  by_cases hi : i < ds.length
  · rw [List.getElem?_append_left (by simpa using hi), List.getElem?_map] at h
    refine ⟨hi, ?_, ?_⟩
    · cases e : ds[i]? with
      | none => rw [e] at h; cases h
      | some x => rw [e] at h; simpa using h
    · unfold L2.start
      rw [List.getElem?_append_left (by simp; omega), List.getElem?_map]
  · rw [List.getElem?_append_right (by simp; omega), List.getElem?_replicate] at h
    split at h <;> cases h
theorem rep_start {K : PySem.W.Frag} {F H : Hp} {vs : List V} {ds : List D} {N : List Str} {O : List OK} (s : Same F H) (r : DRs K F vs ds) (hz : fzs (O.take ds.length) = true) (hn : ds.length ≤ N.length) :
    Rep K F H O F H (L2.start N vs) (ds.map some ++ List.replicate (N.length - ds.length) none) := by
  refine ⟨⟨Same.refl _, s, Same.refl _, fun _ h => .inl h⟩, ?_, fun _ => [], fun i d hi => ?_, fun i a ha => by simp at ha, fun i j a ha => by simp at ha⟩
  · unfold L2.start
    simp [r.length]
  · obtain ⟨h1, h2, h3⟩ := start_get (N := N) r.length hi
    obtain ⟨v, hv, rv⟩ := r.get h2
    refine ⟨v, by rw [h3, hv]; rfl, ?_⟩
    have hk : kd O i = .fz := by
      unfold fzs at hz
      rw [List.all_eq_true] at hz
      unfold kd
      rw [List.getD_eq_getElem?_getD]
      by_cases hO : i < O.length
      · rw [List.getElem?_eq_getElem hO]
        have := hz O[i] (List.mem_iff_getElem.mpr ⟨i, by simp; omega, by simp⟩)
        simpa using this
      · rw [List.getElem?_eq_none (by omega)]; rfl
    rw [hk]
    exact ⟨rfl, rv⟩
/-- a def's place in the text -/
structure DefAt (K : PySem.W.Frag) (mg : Str → Option Value) (x : Str) (st : Stmt) (ps : List Str) : Prop where
  ex : ∃ f fd, Fun K x x st f fd ∧ mg x = some (.ref f) ∧ Binds K fd ps []
section
variable {P : Program} {w : World} {K : PySem.W.Frag} {mg : Str → Option Value} {base : Heap} {x : Str} {st : Stmt} {N ps : List Str} {k : Nat} {Pp : OX} {den : Env → Fl}
theorem fnD_of (O : List OK) (Df : DefAt K mg x st ps) (S : FnScope N ps (defScope st)) (hz : fzs (O.take ps.length) = true)
    (body : ∀ (f : Addr) (cdv : Value) (A : Around) (outer : List PySem.Env) (s : Shared) (H : Hp) (E : XK), Room k (A.deeper (envOfC x (defScope st) s.heap.objs.size f cdv)) →
      SB ((cxOf CX0 P w K mg base N x (defScope st) f cdv A outer s H E).nox) W0 O Pp false (defBody st) den) : FnD P w K mg base (k + 1) x (runF N.length ps.length den) := by
  obtain ⟨f, fd, F, hm, hb⟩ := Df.ex
  have hpl : ps.length ≤ N.length := by have := congrArg List.length S.pre; rw [List.length_take] at this; omega
  refine ⟨f, fd, ps, F.ok S (fun vs H Q E h => ?_) (fun cdv A outer s H vs Q E hr h => ?_), hm, F.kp, hb⟩
  · obtain ⟨F, ds, h1, h2, h3⟩ := h
    unfold runF at h3
    split at h3
    · rename_i hl; rw [h2.length, hl]
    · exact h3.elim
  · obtain ⟨F1, ds, h1, h2, h3⟩ := h
    unfold runF at h3
    split at h3
    · rename_i hl
      refine ⟨_, body f cdv A outer s H E hr, F1, H, F1, _, rep_start h1 h2 (by rw [hl]; exact hz) (by rw [hl]; exact hpl), ?_⟩
      rw [hl]
      cases e : den (ds.map some ++ List.replicate (N.length - ps.length) none) with
      | nx ρ => rw [e] at h3; exact fun F2 H2 σ2 r2 => h3 _ F2 H2 r2.ext .non
      | ret d => rw [e] at h3; exact fun v F2 H2 e2 rv => h3 v F2 H2 e2 rv
      | exc y ρ => rw [e] at h3; exact h3.elim
      | bk ρ => rw [e] at h3; exact h3.elim
      | ct ρ => rw [e] at h3; exact h3.elim
      | stuck => rw [e] at h3; exact h3.elim
    · exact h3.elim
theorem fnL_of (O : List OK) (Df : DefAt K mg x st ps) (S : FnScope N ps (defScope st)) (hz : fzs (O.take ps.length) = true)
    (body : ∀ (f : Addr) (cdv : Value) (A : Around) (outer : List PySem.Env) (s : Shared) (H : Hp) (E : XK), Room k (A.deeper (envOfC x (defScope st) s.heap.objs.size f cdv)) →
      SB ((cxOf CX0 P w K mg base N x (defScope st) f cdv A outer s H E).nox) W0 O Pp true (defBody st) den) : FnL P w K mg base (k + 1) x (runL N.length ps.length den) := by
  obtain ⟨f, fd, F, hm, hb⟩ := Df.ex
  have hpl : ps.length ≤ N.length := by have := congrArg List.length S.pre; rw [List.length_take] at this; omega
  refine ⟨f, fd, ps, F.ok S (fun vs H Q E h => ?_) (fun cdv A outer s H vs Q E hr h => ?_), hm, F.kp, hb⟩
  · obtain ⟨F, ds, h1, h2, h3⟩ := h
    unfold runL at h3
    split at h3
    · rename_i hl; rw [h2.length, hl]
    · exact h3.elim
  · obtain ⟨F1, ds, h1, h2, h3⟩ := h
    unfold runL at h3
    split at h3
    · rename_i hl
      refine ⟨_, body f cdv A outer s H E hr, F1, H, F1, _, rep_start h1 h2 (by rw [hl]; exact hz) (by rw [hl]; exact hpl), ?_⟩
      rw [hl]
      cases e : den (ds.map some ++ List.replicate (N.length - ps.length) none) with
      | nx ρ => rw [e] at h3; exact h3.elim
      | ret d =>
        rw [e] at h3
        intro v F2 H2 e2 rv
        obtain ⟨a, vs2, ds2, rfl, rfl, q1, q2, q3, q4⟩ := rv
        exact h3 a vs2 F2 H2 e2 q3 q2 q1 q4
      | exc y ρ => rw [e] at h3; exact h3.elim
      | bk ρ => rw [e] at h3; exact h3.elim
      | ct ρ => rw [e] at h3; exact h3.elim
      | stuck => rw [e] at h3; exact h3.elim
    · exact h3.elim
theorem FnD.mono {k' : Nat} {fn : List D → Out D} (h : FnD P w K mg base k x fn) (hk : k ≤ k') : FnD P w K mg base k' x fn := by
  obtain ⟨f, fd, ps, F, r⟩ := h.ex
  exact ⟨f, fd, ps, F.mono hk, r⟩
theorem FnL.mono {k' : Nat} {fn : List D → Out (List D)} (h : FnL P w K mg base k x fn) (hk : k ≤ k') : FnL P w K mg base k' x fn := by
  obtain ⟨f, fd, ps, F, r⟩ := h.ex
  exact ⟨f, fd, ps, F.mono hk, r⟩
end
end CW
namespace CW
open PySem PySem.Spec PyProof.Rows L2

theorem leB_refl : ∀ O : List OK, leB O O = true
  | [] => rfl
  | k :: O => by simp [leB, leB_refl O]
theorem leB_weak : ∀ {O Q : List OK} {i : Nat}, leB (O.set i .fz) Q = true → leB (O.set i .ol) Q = true
  | [], Q, i, h => by simpa using h
  | k :: O, [], i, h => by cases i <;> rfl
  | k :: O, q :: Q, 0, h => by
    simp only [List.set_cons_zero, leB, Bool.and_eq_true, Bool.or_eq_true, decide_eq_true_eq] at h ⊢
    refine ⟨?_, h.2⟩
    rcases h.1 with e | e
    · exact .inl e
    · exact .inl e
  | k :: O, q :: Q, i + 1, h => by
    simp only [List.set_cons_succ, leB, Bool.and_eq_true] at h ⊢
    exact ⟨h.1, leB_weak h.2⟩
section
variable {X : Cx} {W : WX} {O O1 : List OK} {P : OX} {ro : Bool} {a b c e : Expr} {es : List Expr} {ea eb ec : Env → Out D} {pos : Pos}
/-! ### isinstance of a builtin class -/
inductive Ty where
  | bool | int | str | tuple | list | dict
  deriving DecidableEq
def Ty.nm : Ty → String
  | .bool => "bool" | .int => "int" | .str => "str" | .tuple => "tuple" | .list => "list" | .dict => "dict"
def tyOf : D → Option String
  | .non => some "NoneType" | .bl _ => some "bool" | .int _ => some "int" | .str _ => some "str" | .tup _ => some "tuple"
  | .lst _ => some "list" | .dic _ _ _ _ => none | .exn _ _ => none | .scr _ => some "list" | .cst _ => none
def isTy (t : Ty) (d : D) : Option Bool := match tyOf d with
  | some n => kitB n t.nm
  | none => none
def isD (t : Ty) : D → Out D := fun d => match isTy t d with
  | some b => .ok (.bl b)
  | none => .stuck
theorem tyX_of {K : PySem.W.Frag} {F H : Hp} {v : V} {d : D} {n : String} (s : Same F H) (r : DR K F v d) (h : tyOf d = some n) : TyX K H v (.type n) := by
  cases r with
  | non => cases h; exact .base .non
  | bl b => cases h; exact .base (.bl b)
  | int b => cases h; exact .base (.int b)
  | str b => cases h; exact .base (.str b)
  | @tup p xs ds h1 h2 =>
    have e : n = "tuple" := (Option.some.inj h).symm
    subst e
    exact .base (.tup (s _ _ h1))
  | @lst p xs ds h1 h2 =>
    cases h
    rcases rd_of s h1 with q | ⟨o, q⟩
    · exact .base (.lst q)
    · exact .base (.frz q)
  | @scr p ns h1 =>
    cases h
    rcases h1 with h1 | ⟨_, _, _, h1, h2, _⟩
    · rcases rd_of s h1 with q | ⟨o, q⟩
      · exact .base (.lst q)
      · exact .base (.frz q)
    · exact .kList h1 h2
  | dK _ _ => cases h
  | dT _ _ => cases h
  | exn _ _ _ _ => cases h
  | cst _ => cases h
theorem se_isi {t : Ty} {p p2 : Pos} {x : Str} (h1 : X.mg "isinstance" = none) (h2 : X.mg x = none) (ha : SE X W a ea) (hx : bootBuiltins x = some (.type t.nm) := by decide +kernel) (hg : Gl X "isinstance" := by rfl) (hg2 : Gl X x := by rfl)
    (hn : x ≠ "__name__" := by decide) (hd : (x == ("__debug__" : Str)) = false := by decide)
    (he : starEach [a, .Name x p2] X.env = (false, eval a X.env) :: starEach [.Name x p2] X.env := by rfl) (hpl : (backTo pos (starEach [.Name x p2] X.env)).any (·.1) = false := by rfl)
    (he2 : starEach [.Name x p2] X.env = (false, eval (.Name x p2) X.env) :: starEach [] X.env := by rfl) :
    SE X W (.Call (.Name "isinstance" p) [a, .Name x p2] [] pos) (eUn (isD t) ea) := by
  refine .of (pe_callB call_isi hg h1 (by decide +kernel) (pa_cons ha (pa_cons (pe_bltn (v := .ty t.nm) hg2 h2 hx rfl hn hd) pa_nil he2) he) (by decide) (by decide) he hpl) fun F H σ ρ Q h1 h2 => ?_
  refine ⟨F, ρ, h1, Post.bind h2 fun d v F1 H1 e1 r1 q1 => ?_⟩
  unfold isD isTy at q1
  cases ht : tyOf d with
  | none => rw [ht] at q1; exact q1.elim
  | some n =>
    rw [ht] at q1
    have q2 : Post X.K X.mg (DR X.K) W F1 H1 σ Q (match kitB n t.nm with | some b => .ok (.bl b) | none => .stuck) := q1
    cases hk : kitB n t.nm with
    | none => rw [hk] at q2; exact q2.elim
    | some b =>
      rw [hk] at q2
      exact ⟨v, .ty t.nm, .type n, .type t.nm, b, rfl, .ty _, tyX_of e1.fh r1 ht, kit_ty hk, q2.ok e1.fh (.bl b)⟩

/-! ### more operators -/
theorem dec_bl' {a b : Bool} : decide (a = b) = (a == b) := by cases a <;> cases b <;> rfl
def oIsB (x y : D) : Out D := match x, y with
  | .bl a, .bl b => .ok (.bl (a == b))
  | _, _ => .stuck
def oNotB (x y : D) : Out D := match x, y with
  | .bl a, .bl b => .ok (.bl (!(a == b)))
  | _, _ => .stuck
theorem cd_isB : CmpD X .Is oIsB := by
  refine ⟨_, op_isBl, ?_⟩
  intro mg W F H σ x y dx dy Q s rx ry q
  cases rx with
  | bl i =>
    cases ry with
    | bl j => exact ⟨i, j, rfl, rfl, by rw [dec_bl']; exact q.ok s (.bl _)⟩
    | _ => exact False.elim q
  | _ => cases ry <;> exact False.elim q
theorem cd_notB : CmpD X .IsNot oNotB := by
  refine ⟨_, op_notBl, ?_⟩
  intro mg W F H σ x y dx dy Q s rx ry q
  cases rx with
  | bl i =>
    cases ry with
    | bl j => exact ⟨i, j, rfl, rfl, by rw [dec_bl']; exact q.ok s (.bl _)⟩
    | _ => exact False.elim q
  | _ => cases ry <;> exact False.elim q
/-- a < b < c -/
def eChain (g g' : D → D → Out D) (a b c : Env → Out D) : Env → Out D := fun ρ => (a ρ).bind fun x => (b ρ).bind fun y => (g x y).bind fun z => match z with
  | .bl true => (c ρ).bind fun w => g' y w
  | .bl false => .ok (.bl false)
  | _ => .stuck
theorem chain_sub {r r' : R2} {g g' : D → D → Out D} (hg : OpD X.K r g) (hg' : OpD X.K r' g') {F H : Hp} {σ : St} {ρ : Env} {Q : VK} (h1 : RF X.K F H σ ρ) (h2 : Post X.K X.mg (DR X.K) W F H σ Q (eChain g g' ea eb ec ρ)) :
    tChain r r' (dE X.K X.mg W ea) (dE X.K X.mg W eb) (dE X.K X.mg W ec) σ H Q := by
  refine ⟨F, ρ, h1, Post.bind h2 fun d v F1 H1 e1 r1 q1 => ?_⟩
  refine ⟨F1, ρ, h1.ext e1, Post.bind q1 fun d2 v2 F2 H2 e2 r2 q2 => ?_⟩
  refine hg _ W F2 H2 σ v v2 d d2 _ e2.fh (r1.mono (Sub.of_same e2.ff)) r2 (Post.bind q2 fun d3 v3 F3 H3 e3 r3 q3 => ?_)
  cases r3 with
  | bl k =>
    refine ⟨k, rfl, ?_⟩
    cases k with
    | true =>
      refine iteT ⟨F3, ρ, (h1.ext e1).ext e2 |>.ext e3, Post.bind q3 fun d4 v4 F4 H4 e4 r4 q4 => ?_⟩
      exact hg' _ W F4 H4 σ v2 v4 d2 d4 Q e4.fh ((r2.mono (Sub.of_same e3.ff)).mono (Sub.of_same e4.ff)) r4 q4
    | false => exact iteF (q3.ok e3.fh (.bl _))
  | _ => exact False.elim q3
theorem se_chain {op op' : CmpOp} {g g' : D → D → Out D} (h : CmpD X op g) (h' : CmpD X op' g') (ha : SE X W a ea) (hb : SE X W b eb) (hc : SE X W c ec) (hm : lastMarks [op, op'] [b, c] = false := by with_unfolding_all rfl) :
    SE X W (.Compare a [op, op'] [b, c] pos) (eChain g g' ea eb ec) := by
  obtain ⟨r, h1, h2⟩ := h.ex
  obtain ⟨r', h1', h2'⟩ := h'.ex
  exact .of (pe_chain h1 h1' ha hb hc hm) fun F H σ ρ Q k1 k2 => chain_sub h2 h2' k1 k2
/-- an expression that is a truth, as a test -/
theorem st_chain {op op' : CmpOp} {g g' : D → D → Out D} (h : CmpD X op g) (h' : CmpD X op' g') (ha : SE X W a ea) (hb : SE X W b eb) (hc : SE X W c ec) (hm : lastMarks [op, op'] [b, c] = false := by with_unfolding_all rfl) :
    ST X W (.Compare a [op, op'] [b, c] pos) (tB1 (eChain g g' ea eb ec)) := by
  obtain ⟨r, h1, h2⟩ := h.ex
  obtain ⟨r', h1', h2'⟩ := h'.ex
  refine .of (pt_chain h1 h1' ha hb hc hm) fun F H σ ρ Q k1 k2 => ?_
  refine chain_sub (W := W) (ea := ea) (eb := eb) (ec := ec) (ρ := ρ) h2 h2' k1 (Post.bind k2 fun d v F1 H1 e1 r1 q1 => ?_)
  cases r1 with
  | bl k => exact ⟨k, rfl, q1.ok e1.fh rfl⟩
  | _ => exact False.elim q1

/-! ### x = [..], where the target is stored within -/
section
variable {st : Stmt} {eo : Env → Out (List D)}
theorem ss_asgOC (i : Nat) (h : PS X st (tAsg (dO X.K X.mg W eo) (gName i))) (hiO : i < O.length := by decide) (hl : leB (O.set i .ol) P.nx = true := by rfl) (hx : leB O P.ex = true := by rfl) : SS X W O P ro st (fAsgO O i eo) :=
  .of h fun F0 H0 F H σ ρ T r q => by
  refine ⟨F, hide O ρ, r.hid, ?_⟩
  unfold fAsgO at q
  refine r.postO (fun z => by rw [z] at q; exact q.elim) (fun ds p vs F' H' eo e' hp hf hl' rd => ?_) (fun x c dd F' H' eo r' hx' => ?_)
  · rw [eo] at q
    exact PostS.nxt q (r.setNew i hiO e' hp hf hl' rd) hl
  · rw [eo] at q
    exact PostS.exc q r' hx hx'
theorem ss_asgC (i : Nat) (h : PS X st (tAsg (dO X.K X.mg W eo) (gName i))) (hl : leB (O.set i .fz) P.nx = true := by rfl) (hx : leB O P.ex = true := by rfl) : SS X W O P ro st (fAsg O i (eL eo)) :=
  .of h fun F0 H0 F H σ ρ T r q => by
  refine ⟨F, hide O ρ, r.hid, Post.frozen ?_⟩
  unfold fAsg at q
  refine r.post (fun z => by unfold eL at q; rw [z] at q; exact q.elim) (fun d v F' H' eo e' r' rd => ?_) (fun x c dd F' H' eo r' hx' => ?_)
  · unfold eL at q
    rw [eo] at q
    exact PostS.nxt q (r'.set i rd) hl
  · unfold eL at q
    rw [eo] at q
    exact PostS.exc q r' hx hx'
theorem ss_asgOCB (i : Nat) (h : PS X st (tAsg (dO X.K X.mg W eo) (gName i))) (hiO : i < O.length := by decide) (hl : leB (O.set i .ol) P.nx = true := by rfl) (hx : leB [] P.ex = true := by rfl) : SS X W O P ro st (fAsgOB i eo) :=
  .of h fun F0 H0 F H σ ρ T r q => by
  obtain ⟨G, rf, sFG, back⟩ := r.lend
  refine ⟨G, ρ, rf, ?_⟩
  unfold fAsgOB at q
  cases e1 : eo ρ with
  | ok d =>
    rw [e1, lfsO_ok] at q
    split at q
    · rename_i hlf
      intro p vs G' H' e' hp hf hl' hr
      obtain ⟨_, F', r', s', _, b2, b3⟩ := back G' H' e'
      have hr' : Rep X.K F0 H0 (O.set i .ol) F' H' (σ.set i (some (.ref p))) (ρ.set i (some (.lst d))) := by
        refine r'.setO i hiO (b3 p hf) (r.ext.hh.free hp) hl' (fun j a d v hj hd hv hk z => ?_) (b2 vs d hlf hr)
        subst z
        obtain ⟨fp, h1, h2, h3⟩ := r.sl
        obtain ⟨w, hw, hs⟩ := h1 j d hd
        rw [hv] at hw
        cases hw
        cases hk2 : kd O j with
        | fz => exact hk hk2
        | ol =>
          rw [hk2] at hs
          obtain ⟨b, _, _, e1, _, _, e4, _⟩ := hs
          cases e1
          rw [hp] at e4; cases e4
        | od =>
          rw [hk2] at hs
          obtain ⟨b, _, e1, _, e4, _⟩ := hs
          cases e1
          rw [hp] at e4; cases e4
      exact PostS.nxt q hr' hl
    · exact q.elim
  | exc x =>
    rw [e1] at q
    intro c dd G' H' e' hx'
    exact PostS.exc q (back G' H' e').1 hx hx'
  | stuck => rw [e1] at q; exact q.elim
/-- .. its items without lists, then frozen -/
theorem ss_asgCB (i : Nat) (h : PS X st (tAsg (dO X.K X.mg W eo) (gName i))) (hiO : i < O.length := by decide) (hl : leB (O.set i .fz) P.nx = true := by rfl) (hx : leB [] P.ex = true := by rfl) : SS X W O P ro st (fAsgOB i eo) := by
  have h2 : SS X W O { P with nx := O.set i .ol } ro st (fAsgOB i eo) := ss_asgOCB i h hiO (leB_refl _) hx
  refine .of h2 fun F0 H0 F H σ ρ T r q => ⟨F0, H0, F, ρ, r, ?_⟩
  have key : ∀ {f : Fl}, PostS X.K X.mg W F0 H0 P ro T f → (∀ r, f ≠ .bk r) → PostS X.K X.mg W F0 H0 { P with nx := O.set i .ol } ro T f := fun {f} q _ => by
    cases f with
    | nx ρ' => exact fun F2 H2 σ2 r2 => PostS.nxt q r2 (leB_weak hl)
    | ret d => exact q
    | bk d => exact q
    | ct d => exact q
    | exc x d => exact q
    | stuck => exact q
  refine key q fun r e => ?_
  unfold fAsgOB at e
  cases e1 : lfsO (eo ρ) with
  | ok d => rw [e1] at e; cases e
  | exc x => rw [e1] at e; cases e
  | stuck => rw [e1] at e; cases e
end
/-! ### constants of the module -/
def GInt (mg : Str → Option Value) (x : Str) (i : Int) : Prop := ∃ t, mg x = some (.int i t)
def GStr (mg : Str → Option Value) (x : Str) (z : Str) : Prop := ∃ t, mg x = some (.str z t)
/-- a tuple of texts -/
def GTup (K : PySem.W.Frag) (mg : Str → Option Value) (x : Str) (zs : List Str) : Prop := ∃ p, mg x = some (.ref p) ∧ ∀ H, SqT K H p (zs.map V.str)
theorem se_gint {x : Str} {i : Int} (h : GInt X.mg x i) (hg : Gl X x := by rfl) (hd : (x == ("__debug__" : Str)) = false := by decide) : SE X W (.Name x pos) (eC (.int i)) := by
  obtain ⟨t, h⟩ := h
  exact se_C (pe_glob (v := .int i) hg h ⟨t, rfl⟩ hd) fun _ => .int i
theorem se_gstr {x : Str} {i : Str} (h : GStr X.mg x i) (hg : Gl X x := by rfl) (hd : (x == ("__debug__" : Str)) = false := by decide) : SE X W (.Name x pos) (eC (.str i)) := by
  obtain ⟨t, h⟩ := h
  exact se_C (pe_glob (v := .str i) hg h ⟨t, rfl⟩ hd) fun _ => .str i
theorem DRs.strs {K : PySem.W.Frag} {F : Hp} : ∀ (zs : List Str), DRs K F (zs.map V.str) (zs.map D.str)
  | [] => .nil
  | n :: ns => .cons (.str n) (DRs.strs ns)
theorem se_gtup {x : Str} {zs : List Str} (h : GTup X.K X.mg x zs) (hg : Gl X x := by rfl) (hd : (x == ("__debug__" : Str)) = false := by decide) : SE X W (.Name x pos) (eC (.cst zs)) := by
  obtain ⟨p, h, q⟩ := h
  exact se_C (pe_glob (v := .ref p) hg h rfl hd) fun F => .cst (q F)

/-! ### methods of ints, texts, lists that are read -/
def mBitLen : D → Out D
  | .int i => .ok (.int (Builtin.Int.intBits i : Nat))
  | _ => .stuck
theorem se_bitlen {apos : Pos} (ha : SE X W a ea) (hbase : attributeBase a "bit_length" X.env (eval a X.env) = eval a X.env := by rfl) (hline : (apos.endLine == pos.line) = true := by rfl) :
    SE X W (.Call (.Attribute a "bit_length" apos) [] [] pos) (eUn mBitLen ea) :=
  .of (pe_bits ha hbase hline) fun F H σ ρ Q h1 h2 => ⟨F, ρ, h1, Post.bind h2 fun d v F1 H1 e1 r1 q1 => by
    cases r1 with
    | int i => exact ⟨i, rfl, q1.ok e1.fh (.int _)⟩
    | _ => exact False.elim q1⟩
def strsOf : List D → Option (List Str)
  | [] => some []
  | .str i :: r => (strsOf r).map (i :: ·)
  | _ => none
@[simp] theorem strsOf_nil : strsOf [] = some [] := (rfl)
@[simp] theorem strsOf_cons (i r) : strsOf (.str i :: r) = (strsOf r).map (i :: ·) := (rfl)
theorem strsOf_eq : ∀ {ds : List D} {ns : List Str}, strsOf ds = some ns → ds = ns.map D.str
  | [], ns, h => by cases h; rfl
  | d :: ds, ns, h => by
    cases d with
    | str i =>
      cases e : strsOf ds with
      | none => simp [strsOf, e] at h
      | some ms =>
        simp [strsOf, e] at h
        rw [← h, strsOf_eq e]; rfl
    | _ => cases h
@[simp] theorem strsOf_map (ns : List Str) : strsOf (ns.map D.str) = some ns := by
  induction ns with
  | nil => rfl
  | cons n ns ih => simp [strsOf, ih]
@[simp] theorem strsOf_map' {α : Type} (f : α → Str) (xs : List α) : strsOf (xs.map fun x => D.str (f x)) = some (xs.map f) := by
  have := strsOf_map (xs.map f)
  rwa [List.map_map] at this
theorem DRs.strs_inv {K : PySem.W.Frag} {F : Hp} : ∀ {vs : List V} {ns : List Str}, DRs K F vs (ns.map D.str) → vs = ns.map V.str
  | _, [], h => by cases h; rfl
  | _, n :: ns, h => by
    cases h with
    | cons h1 h2 => cases h1; rw [DRs.strs_inv h2]; rfl
def joinD (a : Str) (ds : List D) : Out D := match strsOf ds with
  | some ys => if (ys.map (·.length)).sum + ys.length * a.length ≤ 16777216 then .ok (.str (Txt.join a ys)) else .stuck
  | none => .stuck
def mJoin : D → D → Out D
  | .str a, .lst ds => joinD a ds
  | .str a, .tup ds => joinD a ds
  | _, _ => .stuck
def isStrD : D → Bool
  | .str _ => true
  | _ => false
def isLstD : D → Bool
  | .lst _ => true
  | _ => false
/-- a method with one argument: k the receiver's kind -/
def eM (k : D → Bool) (g : D → D → Out D) (a b : Env → Out D) : Env → Out D := fun ρ => (a ρ).bind fun x => if k x then (b ρ).bind fun y => g x y else .stuck
def oM (k : D → Bool) (g : D → D → Out (List D)) (a b : Env → Out D) : Env → Out (List D) := fun ρ => (a ρ).bind fun x => if k x then (b ρ).bind fun y => g x y else .stuck
theorem se_join {apos : Pos} (ha : SE X W a ea) (hb : SE X W b eb) (hs : starEach [b] X.env = [(false, eval b X.env)] := by rfl) (hbase : attributeBase a "join" X.env (eval a X.env) = eval a X.env := by rfl) (hline : (apos.endLine == pos.line) = true := by rfl) :
    SE X W (.Call (.Attribute a "join" apos) [b] [] pos) (eM isStrD mJoin ea eb) :=
  .of (pe_join ha hb hs hbase hline) fun F H σ ρ Q h1 h2 => ⟨F, ρ, h1, Post.bind h2 fun d v F1 H1 e1 r1 q1 => by
    cases r1 with
    | str z =>
      refine ⟨⟨z, rfl⟩, F1, ρ, h1.ext e1, Post.bind q1 fun d2 v2 F2 H2 e2 r2 q2 => ?_⟩
      have key : ∀ ds, Post X.K X.mg (DR X.K) W F2 H2 σ Q (joinD z ds) → ∃ ys : List Str, ds = ys.map D.str ∧ (ys.map (·.length)).sum + ys.length * z.length ≤ 16777216 ∧ Q (.str (Txt.join z ys)) H2 := fun ds q => by
        unfold joinD at q
        split at q
        · rename_i ys hys
          split at q
          · rename_i hz
            exact ⟨ys, strsOf_eq hys, hz, q.ok e2.fh (.str _)⟩
          · exact q.elim
        · exact q.elim
      cases r2 with
      | @lst p vs ds g1 g2 =>
        obtain ⟨ys, rfl, hz, k⟩ := key ds q2
        exact ⟨z, p, ys, rfl, rfl, .inl (by rw [← g2.strs_inv]; exact .inl (rd_of e2.fh g1)), hz, k⟩
      | @tup p vs ds g1 g2 =>
        obtain ⟨ys, rfl, hz, k⟩ := key ds q2
        exact ⟨z, p, ys, rfl, rfl, .inr (by rw [← g2.strs_inv]; exact (Sub.of_same e2.fh).sqP g1), hz, k⟩
      | _ => exact False.elim q2
    | _ => exact False.elim q1⟩
/-- s.index(t) -/
def mSIndex : D → D → Out D
  | .str s, .str t => match Txt.index0 s t with
    | some k => .ok (.int k)
    | none => .stuck
  | _, _ => .stuck
theorem takes00 : Takes X (fun _ _ _ _ => False) := fun _ _ ⟨_, _, _, _, _, _, _, _, _, _, _, _, _, _, _, _, w⟩ => w.elim
theorem se_sindex {apos : Pos} (hc : X.calm = true) (ha : SE X W a ea) (hb : SE X W b eb)
    (hbase : attributeBase a "index" X.env (eval a X.env) = eval a X.env := by rfl)
    (hfew : ((backTo pos (starEach [b] X.env)).all (fun x => !x.1) && (backToKw pos (keywordEach [] X.env)).all (fun x => x.1.isSome)
      && decide (([b] : List Expr).length + ([] : List Keyword).length + (if ([] : List Keyword).isEmpty then 0 else 1) < 30)) = true := by rfl)
    (hline : (apos.endLine == pos.line) = true := by rfl) (hs : starEach [b] X.env = (false, eval b X.env) :: starEach [] X.env := by rfl) (hplain : (backTo pos (starEach [] X.env)).any (·.1) = false := by rfl) :
    SE X W (.Call (.Attribute a "index" apos) [b] [] pos) (eM isStrD mSIndex ea eb) :=
  .of (pe_bmS PySem.F.plainAttrs_str PySem.F.slot_str_index PySem.F.type_str_index (mt_indexX hc takes00) ha (pa_cons hb pa_nil hs) hbase hfew hline hs hplain) fun F H σ ρ Q h1 h2 => ⟨F, ρ, h1, Post.bind h2 fun d v F1 H1 e1 r1 q1 => by
    cases r1 with
    | str z =>
      refine ⟨rfl, F1, ρ, h1.ext e1, Post.bind q1 fun d2 v2 F2 H2 e2 r2 q2 => ?_⟩
      cases r2 with
      | str y =>
        have q3 : Post X.K X.mg (DR X.K) W F2 H2 σ Q (match Txt.index0 z y with | some k => .ok (.int k) | none => .stuck) := q2
        refine ⟨z, y, rfl, rfl, fun k hk => ?_, fun hk => ?_⟩
        · rw [hk] at q3; exact q3.ok e2.fh (.int _)
        · rw [hk] at q3; exact q3.elim
      | _ => exact False.elim q2
    | _ => exact False.elim q1⟩
/-- x.index(y): the first place -/
def idxD (y : D) : List D → Option Nat
  | [] => none
  | d :: ds => if eqD d y then some 0 else (idxD y ds).map (· + 1)
def mIndex : D → D → Out D
  | .lst ds, y => if flatD y && ds.all flatD then match idxD y ds with
    | some j => .ok (.int j)
    | none => .stuck else .stuck
  | _, _ => .stuck
theorem idxD_DR {F : Hp} {y : V} {dy : D} (ry : DR X.K F y dy) (fy : flatD dy = true) : ∀ {vs : List V} {ds : List D} {j : Nat}, DRs X.K F vs ds → ds.all flatD = true → idxD dy ds = some j → ∃ z, vs[j]? = some z ∧ eqV z y = true ∧ ∀ (m : Nat) (z' : V), m < j → vs[m]? = some z' → eqV z' y = false
  | _, _, _, .nil, _, h => by cases h
  | v :: vs, d :: ds, j, .cons r t, hf, h => by
    rw [List.all_cons, Bool.and_eq_true] at hf
    unfold idxD at h
    have e := eqV_of r ry hf.1 fy
    split at h
    · rename_i he
      cases h
      exact ⟨v, rfl, by rw [e]; exact he, fun m z' hm => absurd hm (Nat.not_lt_zero m)⟩
    · rename_i he
      cases hi : idxD dy ds with
      | none => rw [hi] at h; cases h
      | some i =>
        rw [hi] at h
        cases h
        obtain ⟨z, h1, h2, h3⟩ := idxD_DR ry fy t hf.2 hi
        refine ⟨z, by simpa using h1, h2, fun m z' hm hz => ?_⟩
        cases m with
        | zero =>
          simp at hz
          subst hz
          rw [e]; exact eq_false_of_ne_true he
        | succ m => exact h3 m z' (Nat.lt_of_succ_lt_succ hm) (by simpa using hz)
theorem all_flat {F : Hp} : ∀ {vs : List V} {ds : List D}, DRs X.K F vs ds → ds.all flatD = true → vs.all flatV = true
  | _, _, .nil, _ => rfl
  | _, _, .cons r t, h => by
    rw [List.all_cons, Bool.and_eq_true] at h
    rw [List.all_cons, flat_of r h.1, all_flat t h.2]; rfl
theorem se_index {apos : Pos} (ha : SE X W a ea) (hb : SE X W b eb)
    (hbase : attributeBase a "index" X.env (eval a X.env) = eval a X.env := by rfl)
    (hfew : ((backTo pos (starEach [b] X.env)).all (fun x => !x.1) && (backToKw pos (keywordEach [] X.env)).all (fun x => x.1.isSome)
      && decide (([b] : List Expr).length + ([] : List Keyword).length + (if ([] : List Keyword).isEmpty then 0 else 1) < 30)) = true := by rfl)
    (hline : (apos.endLine == pos.line) = true := by rfl) (hs : starEach [b] X.env = (false, eval b X.env) :: starEach [] X.env := by rfl) (hplain : (backTo pos (starEach [] X.env)).any (·.1) = false := by rfl) :
    SE X W (.Call (.Attribute a "index" apos) [b] [] pos) (eM isLstD mIndex ea eb) :=
  .of (pe_bm PySem.F.plainAttrs_list PySem.F.slot_list_index PySem.F.type_list_index mt_index ha (pa_cons hb pa_nil hs) hbase hfew hline hs hplain) fun F H σ ρ Q h1 h2 => ⟨F, ρ, h1, Post.bind h2 fun d v F1 H1 e1 r1 q1 => by
    cases r1 with
    | @lst p vs ds g1 g2 =>
      refine ⟨.inl ⟨rfl, vs, .inl (rd_of e1.fh g1)⟩, F1, ρ, h1.ext e1, Post.bind q1 fun d2 v2 F2 H2 e2 r2 q2 => ?_⟩
      have q3 : Post X.K X.mg (DR X.K) W F2 H2 σ Q (if flatD d2 && ds.all flatD then match idxD d2 ds with | some j => .ok (.int j) | none => .stuck else .stuck) := q2
      split at q3
      · rename_i hf
        rw [Bool.and_eq_true] at hf
        split at q3
        · rename_i j hj
          have g2' := g2.mono (Sub.of_same e2.ff)
          obtain ⟨z, k1, k2, k3⟩ := idxD_DR r2 hf.1 g2' hf.2 hj
          exact ⟨p, vs, v2, j, z, rfl, rfl, .inl (rd_of e2.fh (rd_of e2.ff g1)), flat_of r2 hf.1, all_flat g2' hf.2, k1, k2, k3, q3.ok e2.fh (.int _)⟩
        · exact q3.elim
      · exact q3.elim
    | _ => exact False.elim q1⟩

/-! ### an owned list emptied, lengthened -/
def fClr (i : Nat) : Env → Fl := fun ρ => match ρ[i]? with
  | some (some (.lst _)) => .nx (ρ.set i (some (.lst [])))
  | _ => .stuck
theorem ss_clear (i : Nat) {x : Str} {p apos cpos : Pos} (hk : kd O i = .ol := by rfl) (hl : leB O P.nx = true := by rfl) (hN : X.N[i]? = some x := by rfl) (hv : Vis X.env.scope x := by first | exact Or.inl rfl | exact Or.inr (Or.inl rfl) | exact Or.inr (Or.inr rfl))
    (hd : (x == ("__debug__" : Str)) = false := by decide) (hcd : (x == ("__classdict__" : Str)) = false := by decide)
    (hbase : attributeBase (.Name x p) "clear" X.env (eval (.Name x p) X.env) = eval (.Name x p) X.env := by rfl) (hline : (apos.endLine == cpos.line) = true := by rfl)
    (hsw : swapsWith (.Call (.Attribute (.Name x p) "clear" apos) [] [] cpos) none pos.line X.env = pure false := by rfl) :
    SS X W O P ro (.Expr (.Call (.Attribute (.Name x p) "clear" apos) [] [] cpos) pos) (fClr i) :=
  .of (ps_expr (pe_bm0 PySem.F.plainAttrs_list PySem.F.slot_list_clear PySem.F.type_list_clear mt_clear (pe_var (i := i) hN hv hd hcd) hbase hline) hsw) fun F0 H0 F H σ ρ T r q => by
  unfold fClr at q
  split at q
  · rename_i ds hds
    obtain ⟨p, vs, a1, a2, a3, a4, a5, bw⟩ := r.write hk hds
    exact ⟨_, a1, .inl ⟨rfl, vs, .inl (.inl a2)⟩, p, vs, rfl, rfl, a2, PostS.nxt q (bw [] [] .nil) hl⟩
  · exact q.elim

/-- x.extend(a new list) -/
def fExt (O : List OK) (i : Nat) (ev : Env → Out (List D)) : Env → Fl := fun ρ => match ρ[i]? with
  | some (some (.lst ds)) => fE (ev (hide O ρ)) ρ fun es => if ds.length + es.length ≤ sizeLine then .nx (ρ.set i (some (.lst (ds ++ es)))) else .stuck
  | _ => .stuck
theorem ss_ext (i : Nat) {eo : Env → Out (List D)} {x : Str} {p apos cpos : Pos} (he : SO X W e eo) (hk : kd O i = .ol := by rfl) (hl : leB O P.nx = true := by rfl) (hx : leB O P.ex = true := by rfl) (hN : X.N[i]? = some x := by rfl) (hv : Vis X.env.scope x := by first | exact Or.inl rfl | exact Or.inr (Or.inl rfl) | exact Or.inr (Or.inr rfl))
    (hd : (x == ("__debug__" : Str)) = false := by decide) (hcd : (x == ("__classdict__" : Str)) = false := by decide)
    (hbase : attributeBase (.Name x p) "extend" X.env (eval (.Name x p) X.env) = eval (.Name x p) X.env := by rfl)
    (hfew : ((backTo cpos (starEach [e] X.env)).all (fun x => !x.1) && (backToKw cpos (keywordEach [] X.env)).all (fun x => x.1.isSome)
      && decide (([e] : List Expr).length + ([] : List Keyword).length + (if ([] : List Keyword).isEmpty then 0 else 1) < 30)) = true := by rfl)
    (hline : (apos.endLine == cpos.line) = true := by rfl) (hs : starEach [e] X.env = (false, eval e X.env) :: starEach [] X.env := by rfl) (hplain : (backTo cpos (starEach [] X.env)).any (·.1) = false := by rfl)
    (hsw : swapsWith (.Call (.Attribute (.Name x p) "extend" apos) [e] [] cpos) none pos.line X.env = pure false := by rfl) :
    SS X W O P ro (.Expr (.Call (.Attribute (.Name x p) "extend" apos) [e] [] cpos) pos) (fExt O i eo) :=
  .of (ps_expr (pe_bm PySem.F.plainAttrs_list PySem.F.slot_list_extend PySem.F.type_list_extend mt_extend (pe_var (i := i) hN hv hd hcd) (pa_cons he pa_nil hs) hbase hfew hline hs hplain) hsw) fun F0 H0 F H σ ρ T r q => by
  unfold fExt at q
  split at q
  · rename_i ds hds
    obtain ⟨p, vs, a1, a2, a3, a4, a5⟩ := rep_slot r hk hds
    refine ⟨_, a1, .inl ⟨rfl, vs, .inl (.inl a2)⟩, F, hide O ρ, r.hid, ?_⟩
    refine r.postO (fun z => by rw [z] at q; exact q.elim) (fun es b us F' H' eo e' hp hf hl' rd => ?_) (fun x c dd F' H' eo r' hx' => ?_)
    · rw [eo, fE_ok] at q
      split at q
      · rename_i hz
        have r' := r.grow e'
        obtain ⟨p', vs', b1, b2, b3, b4, b5, bw⟩ := r'.write hk hds
        rw [a1] at b1
        cases b1
        refine ⟨p, b, vs', us, rfl, rfl, b2, hl', by rw [b5.length, rd.length]; exact hz, ?_⟩
        exact PostS.nxt q (bw _ _ (b5.append rd)) hl
      · exact q.elim
    · rw [eo] at q
      exact PostS.exc q r' hx hx'
  · exact q.elim

/-! ### a def that is never asked; a def's place by the head -/
end
theorem spF_none {mg : Str → Option Value} {K : PySem.W.Frag} {vs : List V} {H : Hp} {Q : VK} {E : XK} : ¬ spF mg K (fun _ => .stuck) vs H Q E := fun ⟨_, _, _, _, h⟩ => h
theorem spO_none {mg : Str → Option Value} {K : PySem.W.Frag} {vs : List V} {H : Hp} {Q : VK} {E : XK} : ¬ spO mg K (fun _ => .stuck) vs H Q E := fun ⟨_, _, _, _, h⟩ => h
theorem defAt_of {K : PySem.W.Frag} {mg : Str → Option Value} {x : Str} {st : Stmt} {ps : List Str} {f : Addr} (hm : mg x = some (.ref f)) (c : ∃ fd, FunD K x x (defArgs st) (defBody st) (defScope st) [] [] f fd)
    (h : ∀ (kV doc pm : Value) (an : Option Addr) (cdv ct : Value) (us : List Value), us.length = ps.length → bindArgs (PySem.W.fnOf x x (defArgs st) (defBody st) (defScope st) .none kV doc pm an cdv ct) ⟨us, []⟩ = pure (ps.zip us)) : DefAt K mg x st ps := by
  obtain ⟨fd, F⟩ := c
  have b := F.bindsN h
  obtain ⟨oc, od, dV, kV, doc, pm, an, cdv, ct, osl, e, lk, hcd, hD, _⟩ := F.ex
  rcases hD with ⟨_, rfl⟩ | ⟨q, _⟩
  · exact ⟨f, fd, ⟨⟨oc, od, kV, doc, pm, an, cdv, ct, osl, e, lk, hcd⟩, F.kp⟩, hm, b⟩
  · exact absurd rfl q
section
variable {P : Program} {w : World} {K : PySem.W.Frag} {mg : Str → Option Value} {base : Heap} {x : Str} {st : Stmt} {N ps : List Str} {k : Nat}
theorem FnD.none (Df : DefAt K mg x st ps) (S : FnScope N ps (defScope st)) : FnD P w K mg base (k + 1) x (fun _ => .stuck) := by
  obtain ⟨f, fd, F, hm, hb⟩ := Df.ex
  exact ⟨f, fd, ps, F.ok S (fun vs H Q E h => absurd h spF_none) (fun cdv A outer s H vs Q E hr h => absurd h spF_none), hm, F.kp, hb⟩
theorem FnL.none (Df : DefAt K mg x st ps) (S : FnScope N ps (defScope st)) : FnL P w K mg base (k + 1) x (fun _ => .stuck) := by
  obtain ⟨f, fd, F, hm, hb⟩ := Df.ex
  exact ⟨f, fd, ps, F.ok S (fun vs H Q E h => absurd h spO_none) (fun cdv A outer s H vs Q E hr h => absurd h spO_none), hm, F.kp, hb⟩
end
/-! ### the end of a law -/
theorem law_sp {mg : Str → Option Value} {K : PySem.W.Frag} {fn : List D → Out D} {H : Hp} {a : Addr} {ns : List Int} (L : fn [.scr ns] = .ok (.bl true)) (hS : SqL K H a (ns.map V.int)) : spF mg K fn [.ref a] H (fun v _ => v = .bl true) fun _ _ _ => False := by
  refine ⟨H, [.scr ns], Same.refl _, .one (.scr hS), ?_⟩
  rw [L]
  intro v F' H' _ r
  cases r
  rfl
theorem fnOk_of {P : Program} {w : World} {K : PySem.W.Frag} {mg : Str → Option Value} {base : Heap} {x : Str} {st : Stmt} {N ps : List Str} {k : Nat} {Pp : OX} {den : Env → Fl} {f : Addr} {fd : FuncData} (O : List OK) (F : Fun K x x st f fd) (S : FnScope N ps (defScope st)) (hz : fzs (O.take ps.length) = true)
    (body : ∀ (f : Addr) (cdv : Value) (A : Around) (outer : List PySem.Env) (s : Shared) (H : Hp) (E : XK), Room k (A.deeper (envOfC x (defScope st) s.heap.objs.size f cdv)) →
      SB ((cxOf CX0 P w K mg base N x (defScope st) f cdv A outer s H E).nox) W0 O Pp false (defBody st) den) : FnOk P w K mg base CX0 (k + 1) f fd ps (spF mg K (runF N.length ps.length den)) := by
  have hpl : ps.length ≤ N.length := by have := congrArg List.length S.pre; rw [List.length_take] at this; omega
  refine F.ok S (fun vs H Q E h => ?_) (fun cdv A outer s H vs Q E hr h => ?_)
  · obtain ⟨F, ds, h1, h2, h3⟩ := h
    unfold runF at h3
    split at h3
    · rename_i hl; rw [h2.length, hl]
    · exact h3.elim
  · obtain ⟨F1, ds, h1, h2, h3⟩ := h
    unfold runF at h3
    split at h3
    · rename_i hl
      refine ⟨_, body f cdv A outer s H E hr, F1, H, F1, _, rep_start h1 h2 (by rw [hl]; exact hz) (by rw [hl]; exact hpl), ?_⟩
      rw [hl]
      cases e : den (ds.map some ++ List.replicate (N.length - ps.length) none) with
      | nx ρ => rw [e] at h3; exact fun F2 H2 σ2 r2 => h3 _ F2 H2 r2.ext .non
      | ret d => rw [e] at h3; exact fun v F2 H2 e2 rv => h3 v F2 H2 e2 rv
      | exc y ρ => rw [e] at h3; exact h3.elim
      | bk ρ => rw [e] at h3; exact h3.elim
      | ct ρ => rw [e] at h3; exact h3.elim
      | stuck => rw [e] at h3; exact h3.elim
    · exact h3.elim
theorem fun_of {K : PySem.W.Frag} {x : Str} {st : Stmt} {f : Addr} {fd : FuncData} (F : FunD K x x (defArgs st) (defBody st) (defScope st) [] [] f fd) : Fun K x x st f fd := by
  obtain ⟨oc, od, dV, kV, doc, pm, an, cdv, ct, osl, e, lk, hcd, hD, _⟩ := F.ex
  rcases hD with ⟨_, rfl⟩ | ⟨q, _⟩
  · exact ⟨⟨oc, od, kV, doc, pm, an, cdv, ct, osl, e, lk, hcd⟩, F.kp⟩
  · exact absurd rfl q
end CW
namespace CW
open PySem PySem.Spec PyProof.Rows L2

/-! ### what the denotations come to (simp) -/
section
variable {α : Type} (ρ : Env) (a b c : Env → Out D) (r : Env → Out (List D)) (t u : Env → Out Bool) (f g : Env → Fl)
def getO : Option (Option D) → Out D
  | some (some d) => .ok d
  | _ => .stuck
@[simp] theorem getO_some (d : D) : getO (some (some d)) = .ok d := (rfl)
theorem q_eV' (i : Nat) : eV i ρ = getO ρ[i]? := by
  unfold eV getO
  generalize ρ[i]? = o
  rcases o with _ | _ | d <;> rfl
@[simp] theorem q_eV (i : Nat) : eV i ρ = getO ρ[i]? := q_eV' ρ i
def seqF (o : Fl) (g : Env → Fl) : Fl := match o with
  | .nx ρ' => g ρ'
  | o => o
@[simp] theorem seqF_nx (g : Env → Fl) (r : Env) : seqF (.nx r) g = g r := (rfl)
@[simp] theorem seqF_ret (g : Env → Fl) (d : D) : seqF (.ret d) g = .ret d := (rfl)
@[simp] theorem seqF_bk (g : Env → Fl) (r : Env) : seqF (.bk r) g = .bk r := (rfl)
@[simp] theorem seqF_ct (g : Env → Fl) (r : Env) : seqF (.ct r) g = .ct r := (rfl)
@[simp] theorem seqF_exc (g : Env → Fl) (x : D) (r : Env) : seqF (.exc x r) g = .exc x r := (rfl)
def runO : Fl → Out D
  | .nx _ => .ok .non
  | .ret d => .ok d
  | _ => .stuck
@[simp] theorem runO_nx (r : Env) : runO (.nx r) = .ok .non := (rfl)
@[simp] theorem runO_ret (d : D) : runO (.ret d) = .ok d := (rfl)
def runLO : Fl → Out (List D)
  | .ret (.lst es) => .ok es
  | _ => .stuck
@[simp] theorem runLO_ret (d : List D) : runLO (.ret (.lst d)) = .ok d := (rfl)
def asgF (o : Option (List D)) (k : List D → Fl) : Fl := match o with
  | some ds => k ds
  | none => .stuck
@[simp] theorem asgF_some (ds : List D) (k : List D → Fl) : asgF (some ds) k = k ds := (rfl)
def withL (o : Option (Option D)) (k : List D → Fl) : Fl := match o with
  | some (some (.lst ds)) => k ds
  | _ => .stuck
@[simp] theorem withL_lst (ds : List D) (k : List D → Fl) : withL (some (some (.lst ds))) k = k ds := (rfl)
def withI (o : Option (Option D)) (k : Int → Fl) : Fl := match o with
  | some (some (.int i)) => k i
  | _ => .stuck
@[simp] theorem withI_int (i : Int) (k : Int → Fl) : withI (some (some (.int i))) k = k i := (rfl)
def isI (d : D) (k : Int → Fl) : Fl := match d with
  | .int i => k i
  | _ => .stuck
@[simp] theorem isI_int (i : Int) (k : Int → Fl) : isI (.int i) k = k i := (rfl)
def ixO (o : Option D) : Out D := match o with
  | some d => .ok d
  | none => .stuck
@[simp] theorem ixO_some (d : D) : ixO (some d) = .ok d := (rfl)
@[simp] theorem q_eC (d : D) : eC d ρ = .ok d := (rfl)
@[simp] theorem q_eOp (h : D → D → Out D) : eOp h a b ρ = (a ρ).bind fun x => (b ρ).bind fun y => h x y := (rfl)
@[simp] theorem q_eUn (h : D → Out D) : eUn h a ρ = (a ρ).bind h := (rfl)
def asB : D → Out Bool
  | .bl b => .ok b
  | _ => .stuck
@[simp] theorem asB_bl (x : Bool) : asB (.bl x) = .ok x := (rfl)
theorem q_tB1' : tB1 a ρ = (a ρ).bind asB := by
  unfold tB1
  congr 1
@[simp] theorem q_tB1 : tB1 a ρ = (a ρ).bind asB := q_tB1' ρ a
@[simp] theorem q_aN : aN ρ = .ok [] := (rfl)
@[simp] theorem q_aC : aC a r ρ = (a ρ).bind fun x => (r ρ).bind fun xs => .ok (x :: xs) := (rfl)
@[simp] theorem q_eTup : eTup r ρ = (r ρ).bind fun ds => if ds.length ≤ sizeLine then .ok (.tup ds) else .stuck := (rfl)
@[simp] theorem q_oLst : oLst r ρ = (r ρ).bind fun ds => if ds.length ≤ sizeLine then .ok ds else .stuck := (rfl)
@[simp] theorem q_eL : eL r ρ = (r ρ).bind fun ds => .ok (.lst ds) := (rfl)
@[simp] theorem q_pN : pN ρ = .ok none := (rfl)
def asI : D → Out (Option Int)
  | .int i => .ok (some i)
  | _ => .stuck
@[simp] theorem asI_int (x : Int) : asI (.int x) = .ok (some x) := (rfl)
@[simp] theorem q_pS : pS a ρ = (a ρ).bind asI := by
  unfold pS
  congr 1
@[simp] theorem q_eSl (l h : Env → Out (Option Int)) : eSl a l h ρ = (a ρ).bind fun x => (l ρ).bind fun l => (h ρ).bind fun h => oSl l h x := (rfl)
@[simp] theorem q_eB (h : List D → Out D) : eB h r ρ = (r ρ).bind h := (rfl)
@[simp] theorem q_oB (h : List D → Out (List D)) : oB h r ρ = (r ρ).bind h := (rfl)
@[simp] theorem q_eCall (h : List D → Out D) : eCall h r ρ = (r ρ).bind fun ds => noX (h ds) := (rfl)
@[simp] theorem q_oCall (h : List D → Out (List D)) : oCall h r ρ = (r ρ).bind fun ds => noX (h ds) := (rfl)
@[simp] theorem q_tNot : tNot' t ρ = (t ρ).bind fun b => .ok (!b) := (rfl)
@[simp] theorem q_tAnd : tAnd' t u ρ = (t ρ).bind fun b => if b then u ρ else .ok false := (rfl)
@[simp] theorem q_tOr : tOr' t u ρ = (t ρ).bind fun b => if b then .ok true else u ρ := (rfl)
@[simp] theorem q_tTru : tTru a ρ = (a ρ).bind truD := (rfl)
@[simp] theorem truD_bl (x : Bool) : truD (.bl x) = .ok x := (rfl)
@[simp] theorem truD_int (x : Int) : truD (.int x) = .ok (x != 0) := (rfl)
def andD (k : Out D) : D → Out D
  | .bl true => k
  | .bl false => .ok (.bl false)
  | _ => .stuck
def orD (k : Out D) : D → Out D
  | .bl false => k
  | .bl true => .ok (.bl true)
  | _ => .stuck
@[simp] theorem andD_t (k) : andD k (.bl true) = k := (rfl)
@[simp] theorem andD_f (k) : andD k (.bl false) = .ok (.bl false) := (rfl)
@[simp] theorem orD_f (k) : orD k (.bl false) = k := (rfl)
@[simp] theorem orD_t (k) : orD k (.bl true) = .ok (.bl true) := (rfl)
theorem andD_bl (k) (x : Bool) : andD k (.bl x) = if x then k else .ok (.bl false) := by cases x <;> rfl
theorem orD_bl (k) (x : Bool) : orD k (.bl x) = if x then .ok (.bl true) else k := by cases x <;> rfl
@[simp] theorem andD_ok (x y : Bool) : andD (.ok (.bl y)) (.bl x) = .ok (.bl (x && y)) := by cases x <;> rfl
@[simp] theorem orD_ok (x y : Bool) : orD (.ok (.bl y)) (.bl x) = .ok (.bl (x || y)) := by cases x <;> rfl
@[simp] theorem q_eAnd : eAnd a b ρ = (a ρ).bind (andD (b ρ)) := by
  unfold eAnd
  congr 1
@[simp] theorem q_eOr : eOr a b ρ = (a ρ).bind (orD (b ρ)) := by
  unfold eOr
  congr 1
def notD : D → Out D
  | .bl x => .ok (.bl (!x))
  | _ => .stuck
@[simp] theorem notD_bl (x : Bool) : notD (.bl x) = .ok (.bl (!x)) := (rfl)
@[simp] theorem q_eNot : eNot a ρ = (a ρ).bind notD := by
  unfold eNot
  congr 1
@[simp] theorem q_eIf : eIf t a b ρ = (t ρ).bind fun c => if c then a ρ else b ρ := (rfl)
@[simp] theorem q_eM (k : D → Bool) (h : D → D → Out D) : eM k h a b ρ = (a ρ).bind fun x => if k x then (b ρ).bind fun y => h x y else .stuck := (rfl)
@[simp] theorem q_oM (k : D → Bool) (h : D → D → Out (List D)) : oM k h a b ρ = (a ρ).bind fun x => if k x then (b ρ).bind fun y => h x y else .stuck := (rfl)
@[simp] theorem isStrD_str (z) : isStrD (.str z) = true := (rfl)
@[simp] theorem isLstD_lst (z) : isLstD (.lst z) = true := (rfl)
@[simp] theorem q_eI : eI a ρ = (a ρ).bind iSeq := (rfl)
@[simp] theorem iSeq_lst (x) : iSeq (.lst x) = .ok x := (rfl)
@[simp] theorem iSeq_tup (x) : iSeq (.tup x) = .ok x := (rfl)
@[simp] theorem iSeq_scr (x) : iSeq (.scr x) = .ok (x.map D.int) := (rfl)
@[simp] theorem iSeq_str (z : Str) : iSeq (.str z) = .ok (z.cps.toList.map fun c => .str ⟨#[c]⟩) := (rfl)
def rg1 : List D → Out (List D)
  | [.int n] => if -(2 ^ 62) ≤ n ∧ n < 2 ^ 62 then .ok (rngL 0 n) else .stuck
  | _ => .stuck
theorem rg1_int (n : Int) : rg1 [.int n] = if -(2 ^ 62) ≤ n ∧ n < 2 ^ 62 then .ok (rngL 0 n) else .stuck := rfl
def rngN (n : Nat) : List D := (List.range n).map fun (k : Nat) => .int (k : Int)
theorem rngL_0 (n : Nat) : rngL 0 (n : Int) = rngN n := by
  unfold rngL rngN
  rw [Int.sub_zero, Int.toNat_natCast]
  congr 1
  funext k
  rw [Int.zero_add]
@[simp] theorem rg1_nat {n : Nat} (h : n < 4611686018427387904) : rg1 [.int (n : Int)] = .ok (rngN n) := by
  rw [rg1_int, if_pos (by constructor <;> omega), rngL_0]
@[simp] theorem q_iRg1 : iRg1 r ρ = (r ρ).bind rg1 := by
  unfold iRg1
  congr 1
def rg2 : List D → Out (List D)
  | [.int m, .int n] => if -(2 ^ 62) ≤ m ∧ m < 2 ^ 62 ∧ -(2 ^ 62) ≤ n ∧ n < 2 ^ 62 then .ok (rngL m n) else .stuck
  | _ => .stuck
theorem rg2_int (m n : Int) : rg2 [.int m, .int n] = if -(2 ^ 62) ≤ m ∧ m < 2 ^ 62 ∧ -(2 ^ 62) ≤ n ∧ n < 2 ^ 62 then .ok (rngL m n) else .stuck := rfl
@[simp] theorem q_iRg2 : iRg2 r ρ = (r ρ).bind rg2 := by
  unfold iRg2
  congr 1
@[simp] theorem q_iEn : iEn r ρ = (r ρ).bind enumD := (rfl)
@[simp] theorem enumD_lst (es) : enumD [.lst es] = .ok (enumL es) := (rfl)
@[simp] theorem enumD_tup (es) : enumD [.tup es] = .ok (enumL es) := (rfl)
def zpD : List D → Out (List D)
  | [.lst es, .lst fs] => .ok (zipL es fs)
  | _ => .stuck
@[simp] theorem zpD_lst (es fs) : zpD [.lst es, .lst fs] = .ok (zipL es fs) := (rfl)
@[simp] theorem q_iZp : iZp r ρ = (r ρ).bind zpD := by
  unfold iZp
  congr 1
@[simp] theorem q_cYes : cYes ρ = .ok true := (rfl)
@[simp] theorem q_fNx : fNx ρ = .nx ρ := (rfl)
@[simp] theorem q_fBk : fBk ρ = .bk ρ := (rfl)
@[simp] theorem q_fCt : fCt ρ = .ct ρ := (rfl)
theorem q_fSeq' : fSeq f g ρ = seqF (f ρ) g := rfl
@[simp] theorem q_fSeq : fSeq f g ρ = seqF (f ρ) g := q_fSeq' ρ f g
@[simp] theorem q_fIf : fIf t f g ρ = fE (t ρ) ρ fun b => if b then f ρ else g ρ := (rfl)
@[simp] theorem q_fDrop : fDrop a ρ = fE (a ρ) ρ fun _ => .nx ρ := (rfl)
@[simp] theorem q_fRet : fRet a ρ = fE (a ρ) ρ fun d => .ret d := (rfl)
@[simp] theorem q_fRetN : fRetN ρ = .ret .non := (rfl)
@[simp] theorem q_fRetO : fRetO r ρ = fE (r ρ) ρ fun d => .ret (.lst d) := (rfl)
@[simp] theorem q_fRetV (i : Nat) : fRetV i ρ = withL ρ[i]? fun ds => .ret (.lst ds) := by
  unfold fRetV withL
  generalize ρ[i]? = o
  rcases o with _ | _ | d
  · rfl
  · rfl
  · cases d <;> rfl
@[simp] theorem q_fAsg (O : List OK) (i : Nat) : fAsg O i a ρ = fE (a (hide O ρ)) ρ fun d => .nx (ρ.set i (some d)) := (rfl)
@[simp] theorem q_fAsgB (i : Nat) : fAsgB i a ρ = fE (lfO (a ρ)) ρ fun d => .nx (ρ.set i (some d)) := (rfl)
@[simp] theorem q_fAsgO (O : List OK) (i : Nat) : fAsgO O i r ρ = fE (r (hide O ρ)) ρ fun d => .nx (ρ.set i (some (.lst d))) := (rfl)
@[simp] theorem q_fAsgOB (i : Nat) : fAsgOB i r ρ = fE (lfsO (r ρ)) ρ fun d => .nx (ρ.set i (some (.lst d))) := (rfl)
@[simp] theorem q_fAsgT (O : List OK) (is : List Nat) (asg : D → Option (List D)) : fAsgT O is asg a ρ = fE (a (hide O ρ)) ρ fun d => asgF (asg d) fun ds => .nx (setsE ρ (is.zip ds)) := (rfl)
@[simp] theorem q_fAsgTB (is : List Nat) (asg : D → Option (List D)) : fAsgTB is asg a ρ = fE (lfO (a ρ)) ρ fun d => asgF (asg d) fun ds => .nx (setsE ρ (is.zip ds)) := (rfl)
@[simp] theorem q_fFor (O : List OK) (is : List Nat) (asg : D → Option (List D)) : fFor O is asg r f ρ = fE (r (hide O ρ)) ρ fun ds => forL is asg f ds ρ := (rfl)
@[simp] theorem q_fAug (i : Nat) : fAug i a ρ = withI ρ[i]? fun x => fE (a ρ) ρ fun d => isI d fun y => .nx (ρ.set i (some (.int (x + y)))) := by
  unfold fAug withI
  generalize ρ[i]? = o
  rcases o with _ | _ | d
  · rfl
  · rfl
  · cases d <;> rfl
@[simp] theorem q_fApp (O : List OK) (i : Nat) : fApp O i a ρ = withL ρ[i]? fun ds => fE (a (hide O ρ)) ρ fun d => if ds.length < sizeLine then .nx (ρ.set i (some (.lst (ds ++ [d])))) else .stuck := by
  unfold fApp withL
  generalize ρ[i]? = o
  rcases o with _ | _ | d
  · rfl
  · rfl
  · cases d <;> rfl
@[simp] theorem q_fAppB (i : Nat) : fAppB i a ρ = withL ρ[i]? fun ds => fE (lfO (a ρ)) ρ fun d => if ds.length < sizeLine then .nx (ρ.set i (some (.lst (ds ++ [d])))) else .stuck := by
  unfold fAppB withL
  generalize ρ[i]? = o
  rcases o with _ | _ | d
  · rfl
  · rfl
  · cases d <;> rfl
@[simp] theorem q_fExt (O : List OK) (i : Nat) : fExt O i r ρ = withL ρ[i]? fun ds => fE (r (hide O ρ)) ρ fun es => if ds.length + es.length ≤ sizeLine then .nx (ρ.set i (some (.lst (ds ++ es)))) else .stuck := by
  unfold fExt withL
  generalize ρ[i]? = o
  rcases o with _ | _ | d
  · rfl
  · rfl
  · cases d <;> rfl
@[simp] theorem q_fClr (i : Nat) : fClr i ρ = withL ρ[i]? fun ds => .nx (ρ.set i (some (.lst []))) := by
  unfold fClr withL
  generalize ρ[i]? = o
  rcases o with _ | _ | d
  · rfl
  · rfl
  · cases d <;> rfl
@[simp] theorem hide_nil : hide [] ρ = ρ := (rfl)
@[simp] theorem hide_fz (O : List OK) (x : Option D) : hide (.fz :: O) (x :: ρ) = x :: hide O ρ := (rfl)
@[simp] theorem hide_ol (O : List OK) (x : Option D) : hide (.ol :: O) (x :: ρ) = none :: hide O ρ := (rfl)
@[simp] theorem hide_e (O : List OK) : hide O [] = [] := by cases O <;> rfl
@[simp] theorem gN_eq (d : D) : gN d = some [d] := (rfl)
@[simp] theorem gT_tup (n : Nat) (ds : List D) : gT n (.tup ds) = if ds.length = n then some ds else none := (rfl)
@[simp] theorem forL_nil (is : List Nat) (asg : D → Option (List D)) : forL is asg f [] ρ = .nx ρ := (rfl)
theorem forL_cons (is : List Nat) (asg : D → Option (List D)) (d : D) (ds : List D) : forL is asg f (d :: ds) ρ = match asg d with
    | none => .stuck
    | some es => match f (setsE ρ (is.zip es)) with
      | .nx ρ' => forL is asg f ds ρ'
      | .ct ρ' => forL is asg f ds ρ'
      | .bk ρ' => .nx ρ'
      | o => o := rfl
section
variable {is : List Nat} {asg : D → Option (List D)} {d : D} {ds es : List D} {r : Env} {x : D}
theorem forL_nx (ha : asg d = some es) (h : f (setsE ρ (is.zip es)) = .nx r) : forL is asg f (d :: ds) ρ = forL is asg f ds r := by rw [forL_cons, ha]; dsimp only; rw [h]
theorem forL_ct (ha : asg d = some es) (h : f (setsE ρ (is.zip es)) = .ct r) : forL is asg f (d :: ds) ρ = forL is asg f ds r := by rw [forL_cons, ha]; dsimp only; rw [h]
theorem forL_bk (ha : asg d = some es) (h : f (setsE ρ (is.zip es)) = .bk r) : forL is asg f (d :: ds) ρ = .nx r := by rw [forL_cons, ha]; dsimp only; rw [h]
theorem forL_ret (ha : asg d = some es) (h : f (setsE ρ (is.zip es)) = .ret x) : forL is asg f (d :: ds) ρ = .ret x := by rw [forL_cons, ha]; dsimp only; rw [h]
end
@[simp] theorem compL_nil (is : List Nat) (asg : D → Option (List D)) : compL is asg t a ρ [] = .ok [] := (rfl)
theorem compL_cons (is : List Nat) (asg : D → Option (List D)) (d : D) (ds : List D) : compL is asg t a ρ (d :: ds) = match asg d with
    | none => .stuck
    | some es => (noX (t (setsE ρ (is.zip es)))).bind fun b => match b with
      | true => (noX (a (setsE ρ (is.zip es)))).bind fun y => (compL is asg t a ρ ds).bind fun ys => .ok (y :: ys)
      | false => compL is asg t a ρ ds := rfl
@[simp] theorem q_oLc (vs is : List Nat) (ei : Env → Out (List D)) (asg : D → Option (List D)) : oLc vs is ei asg t a ρ = (ei ρ).bind fun ds => if ds.length ≤ sizeLine then compL is asg t a (wipeE ρ vs) ds else .stuck := (rfl)
end

/-! operators on data -/
section
variable (i j : Int) (x y : Str) (b c : Bool)
@[simp] theorem oAdd_int : oAdd (.int i) (.int j) = .ok (.int (i + j)) := (rfl)
@[simp] theorem oAdd_str : oAdd (.str x) (.str y) = if x.length + y.length ≤ sizeLine then .ok (.str (x ++ y)) else .stuck := (rfl)
@[simp] theorem oAdd_tup (xs ys : List D) : oAdd (.tup xs) (.tup ys) = if xs.length + ys.length ≤ sizeLine then .ok (.tup (xs ++ ys)) else .stuck := (rfl)
@[simp] theorem oAdd_lst (xs ys : List D) : oAdd (.lst xs) (.lst ys) = if xs.length + ys.length ≤ sizeLine then .ok (.lst (xs ++ ys)) else .stuck := (rfl)
@[simp] theorem oSub_int : oSub (.int i) (.int j) = .ok (.int (i - j)) := (rfl)
@[simp] theorem oMul_int : oMul (.int i) (.int j) = if mulOk i j then .ok (.int (i * j)) else .stuck := (rfl)
@[simp] theorem oDiv_int : oDiv (.int i) (.int j) = if 0 < j ∧ j < 2 ^ 64 then .ok (.int (i / j)) else .stuck := (rfl)
@[simp] theorem oMod_int : oMod (.int i) (.int j) = if 0 < j then .ok (.int (i % j)) else .stuck := (rfl)
@[simp] theorem oPow_int : oPow (.int i) (.int j) = if 0 ≤ j ∧ j ≤ 1000000 ∧ i.natAbs < 2 ^ 64 then .ok (.int (i ^ j.toNat)) else .stuck := (rfl)
@[simp] theorem oShl_int : oShl (.int i) (.int j) = if 0 ≤ j ∧ j ≤ 1000000 ∧ i.natAbs < 2 ^ 64 then .ok (.int (i * 2 ^ j.toNat)) else .stuck := (rfl)
@[simp] theorem oShr_int : oShr (.int i) (.int j) = if 0 ≤ j then .ok (.int (i / 2 ^ j.toNat)) else .stuck := (rfl)
@[simp] theorem oAnd_int : oAnd (.int i) (.int j) = .ok (.int (Builtin.bitAnd i j)) := (rfl)
@[simp] theorem oOr_int : oOr (.int i) (.int j) = .ok (.int (Builtin.bitOr i j)) := (rfl)
@[simp] theorem oXor_int : oXor (.int i) (.int j) = .ok (.int (Builtin.bitXor i j)) := (rfl)
@[simp] theorem oLt_int : oLt (.int i) (.int j) = .ok (.bl (decide (i < j))) := (rfl)
@[simp] theorem oLe_int : oLe (.int i) (.int j) = .ok (.bl (decide (i ≤ j))) := (rfl)
@[simp] theorem oGt_int : oGt (.int i) (.int j) = .ok (.bl (decide (j < i))) := (rfl)
@[simp] theorem oGe_int : oGe (.int i) (.int j) = .ok (.bl (decide (j ≤ i))) := (rfl)
@[simp] theorem oNeg_int : oNeg (.int i) = .ok (.int (-i)) := (rfl)
@[simp] theorem oEq_int : oEq (.int i) (.int j) = .ok (.bl (i == j)) := by simp [oEq, eqOk, scalD]
@[simp] theorem oNe_int : oNe (.int i) (.int j) = .ok (.bl (!(i == j))) := by simp [oNe, eqOk, scalD]
@[simp] theorem oEq_bl : oEq (.bl b) (.bl c) = .ok (.bl (b == c)) := by simp [oEq, eqOk, scalD]
@[simp] theorem oNe_bl : oNe (.bl b) (.bl c) = .ok (.bl (!(b == c))) := by simp [oNe, eqOk, scalD]
@[simp] theorem oEq_str : oEq (.str x) (.str y) = .ok (.bl (x == y)) := by simp [oEq, eqOk, scalD]
@[simp] theorem oNe_str : oNe (.str x) (.str y) = .ok (.bl (!(x == y))) := by simp [oNe, eqOk, scalD]
theorem oEq_ok {d e : D} (h1 : okD 60 d = true) (h2 : okD 60 e = true) : oEq d e = .ok (.bl (eqD d e)) := by simp [oEq, eqOk, h1, h2]
theorem oNe_ok {d e : D} (h1 : okD 60 d = true) (h2 : okD 60 e = true) : oNe d e = .ok (.bl (!eqD d e)) := by simp [oNe, eqOk, h1, h2]
@[simp] theorem oEq_tup (d e : List D) : oEq (.tup d) (.tup e) = if okDs 59 d && okDs 59 e then .ok (.bl (eqDs d e)) else .stuck := by simp [oEq, eqOk, scalD]
@[simp] theorem oNe_tup (d e : List D) : oNe (.tup d) (.tup e) = if okDs 59 d && okDs 59 e then .ok (.bl (!eqDs d e)) else .stuck := by simp [oNe, eqOk, scalD]
@[simp] theorem oEq_lst (d e : List D) : oEq (.lst d) (.lst e) = if okDs 59 d && okDs 59 e then .ok (.bl (eqDs d e)) else .stuck := by simp [oEq, eqOk, scalD]
@[simp] theorem oNe_lst (d e : List D) : oNe (.lst d) (.lst e) = if okDs 59 d && okDs 59 e then .ok (.bl (!eqDs d e)) else .stuck := by simp [oNe, eqOk, scalD]
@[simp] theorem oIsN_non (d : D) : oIsN d .non = .ok (.bl (isNon d)) := (rfl)
@[simp] theorem oNotN_non (d : D) : oNotN d .non = .ok (.bl (!isNon d)) := (rfl)
@[simp] theorem oIsB_bl : oIsB (.bl b) (.bl c) = .ok (.bl (b == c)) := (rfl)
@[simp] theorem oNotB_bl : oNotB (.bl b) (.bl c) = .ok (.bl (!(b == c))) := (rfl)
@[simp] theorem isNon_non : isNon .non = true := (rfl)
@[simp] theorem isNon_tup (x) : isNon (.tup x) = false := (rfl)
@[simp] theorem isNon_int (x) : isNon (.int x) = false := (rfl)
theorem bLen_lst (ds) : bLen [.lst ds] = .ok (.int ds.length) := (rfl)
theorem bLen_tup (ds) : bLen [.tup ds] = .ok (.int ds.length) := (rfl)
theorem bLen_scr (ds) : bLen [.scr ds] = .ok (.int ds.length) := (rfl)
theorem bLen_str : bLen [.str x] = if x.length ≤ sizeLine then .ok (.int x.length) else .stuck := (rfl)
@[simp] theorem bTuple_lst (ds) : bTuple [.lst ds] = .ok (.tup ds) := (rfl)
@[simp] theorem bTuple_tup (ds) : bTuple [.tup ds] = .ok (.tup ds) := (rfl)
@[simp] theorem bList_lst (ds) : bList [.lst ds] = .ok ds := (rfl)
@[simp] theorem bList_tup (ds) : bList [.tup ds] = .ok ds := (rfl)
theorem bInt_int : bInt [.int i] = .ok (.int i) := (rfl)
theorem bInt_bl : bInt [.bl b] = .ok (.int (if b then 1 else 0)) := (rfl)
theorem bSum_ints (ns : List Int) : bSum [.lst (ns.map D.int)] = .ok (.int ns.sum) := by simp [bSum]
theorem bAll_bls (ns : List Bool) : bAll [.lst (ns.map D.bl)] = .ok (.bl (ns.all id)) := by simp [bAll]
theorem bAny_bls (ns : List Bool) : bAny [.lst (ns.map D.bl)] = .ok (.bl (ns.any id)) := by simp [bAny]
theorem oIx_tup (ds : List D) : oIx (.tup ds) (.int i) = match atI ds i with | some d => .ok d | none => .stuck := (rfl)
theorem oIx_lst (ds : List D) : oIx (.lst ds) (.int i) = match atI ds i with | some d => .ok d | none => .stuck := (rfl)
theorem oIx_scr (ds : List Int) : oIx (.scr ds) (.int i) = match atI ds i with | some d => .ok (.int d) | none => .stuck := (rfl)
@[simp] theorem oSl_lst (l h) (ds : List D) : oSl l h (.lst ds) = .ok (.lst (cutL ds l h)) := (rfl)
@[simp] theorem oSl_tup (l h) (ds : List D) : oSl l h (.tup ds) = .ok (.tup (cutL ds l h)) := (rfl)
@[simp] theorem oSl_scr (l h) (ds : List Int) : oSl l h (.scr ds) = .ok (.lst ((cutL ds l h).map D.int)) := (rfl)
@[simp] theorem oSl_str (l h) : oSl l h (.str x) = if x.length ≤ sizeLine then .ok (.str (cutS x l h)) else .stuck := (rfl)
@[simp] theorem isD_int (t : Ty) : isD t (.int i) = .ok (.bl (t == .int)) := by cases t <;> rfl
@[simp] theorem isD_bl (t : Ty) : isD t (.bl b) = .ok (.bl (t == .bool || t == .int)) := by cases t <;> rfl
@[simp] theorem isD_str (t : Ty) : isD t (.str x) = .ok (.bl (t == .str)) := by cases t <;> rfl
@[simp] theorem isD_tup (t : Ty) (z) : isD t (.tup z) = .ok (.bl (t == .tuple)) := by cases t <;> rfl
@[simp] theorem isD_lst (t : Ty) (z) : isD t (.lst z) = .ok (.bl (t == .list)) := by cases t <;> rfl
end
@[simp] theorem q_runF (n p : Nat) (den : Env → Fl) (ds : List D) : runF n p den ds = if ds.length = p then runO (den (ds.map some ++ List.replicate (n - p) none)) else .stuck := by
  unfold runF runO
  rfl
@[simp] theorem q_runL (n p : Nat) (den : Env → Fl) (ds : List D) : runL n p den ds = if ds.length = p then runLO (den (ds.map some ++ List.replicate (n - p) none)) else .stuck := by
  unfold runL runLO
  rfl
theorem sizeLine_big : sizeLine = 4294967296 ∨ 1000000 ≤ sizeLine := by right; rw [sizeLine_eq]; decide
theorem le_line {n : Nat} (h : n ≤ 1000000) : n ≤ sizeLine := Nat.le_trans h (by rw [sizeLine_eq]; decide)
theorem lt_line {n : Nat} (h : n < 1000000) : n < sizeLine := Nat.lt_of_lt_of_le h (by rw [sizeLine_eq]; decide)
@[simp] theorem le_line_t {n : Nat} (h : n ≤ 1000000) : (n ≤ sizeLine) = True := eq_true (le_line h)
@[simp] theorem lt_line_t {n : Nat} (h : n < 1000000) : (n < sizeLine) = True := eq_true (lt_line h)
end CW
/-! exceptions: what the text says of their classes, raise, calls that raise, try -/
namespace CW
open PySem PySem.Spec PyProof.Rows L2

/-! ### facts of exception classes, by Bool -/
def objB (K : PySem.W.Frag) (C : Addr) : Bool := match K.lookup C with
  | some ⟨.type t, _, .cls cd, sl⟩ => (match cd.mro, sl.toList with
    | .ref C' :: bm, [_, _, _, _, some (.builtin n), _] => decide (t = "type") && (decide (C' = C) && (decide (n = "ValueError.__new__") && (cd.hasDict && (!cd.hasDel && PySem.HandSPX.refsVE bm))))
    | _, _ => false)
  | _ => false
theorem objB_ok {K : PySem.W.Frag} {C : Addr} (h : objB K C = true) : ∃ nm q N bs bm sn sub ab col dd k0 k1 k2 k3 k5, K.lookup C = some (excClassObj nm q C N bs bm true sn sub ab col dd k0 k1 k2 k3 k5 "ValueError.__new__") ∧ PySem.HandSPX.refsVE bm = true := by
  unfold objB at h
  split at h
  · rename_i t dd cd sl ho
    split at h
    · rename_i C' bm k0 k1 k2 k3 n k5 hm hs
      simp only [Bool.and_eq_true, decide_eq_true_eq, Bool.not_eq_true'] at h
      obtain ⟨rfl, rfl, rfl, h4, h5, h6⟩ := h
      obtain ⟨nm, bs, mro, ns, qn, hd, sn, sub, ab, col, del⟩ := cd
      dsimp only at hm h4 h5
      subst hm h4 h5
      obtain ⟨l⟩ := sl
      dsimp only at hs
      subst hs
      exact ⟨nm, qn, ns, bs, bm, sn, sub, ab, col, dd, k0, k1, k2, k3, k5, ho, h6⟩
    · cases h
  · cases h
def oexB (K : PySem.W.Frag) (C : Addr) : Bool := objB K C && (decide (PySem.W.findIn K (.ref C) "__setattr__" = some (some (.builtin "object.__setattr__"))) && (decide (PySem.W.subIn K (.ref C) (.type "BaseException") = some true) &&
  (decide (PySem.W.typeIn K (.ref C) = some (.type "type")) && PySem.W.keepIn K (.ref C))))
theorem oexB_ok {K : PySem.W.Frag} {C : Addr} (h : oexB K C = true) : OexC K C := by
  unfold oexB at h
  simp only [Bool.and_eq_true, decide_eq_true_eq] at h
  obtain ⟨h1, h2, h3, h4, h5⟩ := h
  exact ⟨objB_ok h1, h2, h3, h4, h5⟩
def excB (K : PySem.W.Frag) (C : Addr) : Bool := decide (PySem.W.findIn K (.ref C) "__getattribute__" = some (some (.builtin "BaseException.__getattribute__"))) && (decide (PySem.W.findIn K (.ref C) "__getattr__" = some none) && (PySem.W.hasDictIn K C &&
  (decide (PySem.W.findIn K (.ref C) "__class__" = some (some (.builtin "object.__class__"))) && (decide (PySem.W.specialIn K (.builtin "object.__class__") "__get__" = some (some (.builtin "getset_descriptor.__get__"))) &&
  (decide (PySem.W.takesIn K (.builtin "object.__class__") = some true) && decide (PySem.W.mroIn K C (.type "object") = some true))))))
theorem excB_ok {K : PySem.W.Frag} {C : Addr} (h : excB K C = true) (T : OexC K C) : ExcC K C ∧ XfC K C := by
  unfold excB at h
  simp only [Bool.and_eq_true, decide_eq_true_eq] at h
  obtain ⟨h1, h2, h3, h4, h5, h6, h7⟩ := h
  exact ⟨⟨h1, h2, T.exC, h3, h4, h5, h6, h7⟩, ⟨h1, h2, T.exC, h3⟩⟩
/-- the first of the own classes, whose __init__ is called by name -/
structure CinB (K : PySem.W.Frag) (C : Addr) : Prop where
  ga : PySem.W.specialIn K (.ref C) "__getattribute__" = some (some (.builtin "type.__getattribute__"))
  ty : PySem.W.typeIn K (.ref C) = some (.type "type")
  rd : PySem.W.readsIn K C (.type "type") = true
  fc : PySem.W.findCls K (.ref C) (.type "type") "__init__" = some (.val (.builtin "ValueError.__init__"))
def cinB (K : PySem.W.Frag) (C : Addr) : Bool := decide (PySem.W.specialIn K (.ref C) "__getattribute__" = some (some (.builtin "type.__getattribute__"))) && (decide (PySem.W.typeIn K (.ref C) = some (.type "type")) && (PySem.W.readsIn K C (.type "type") &&
  (match PySem.W.findCls K (.ref C) (.type "type") "__init__" with
    | some (.val (.builtin n)) => decide (n = "ValueError.__init__")
    | _ => false)))
theorem cinB_ok {K : PySem.W.Frag} {C : Addr} (h : cinB K C = true) : CinB K C := by
  unfold cinB at h
  simp only [Bool.and_eq_true, decide_eq_true_eq] at h
  obtain ⟨h1, h2, h3, h4⟩ := h
  refine ⟨h1, h2, h3, ?_⟩
  split at h4
  · rename_i n e
    rw [e, of_decide_eq_true h4]
  · cases h4
/-- a class by its name -/
structure XF (K : PySem.W.Frag) (mg : Str → Option Value) (n : Str) : Prop where
  glo : mg n = some (.ref (He.ga K n))
  oex : OexC K (He.ga K n)
  exc : ExcC K (He.ga K n)
  xf : XfC K (He.ga K n)
  fld : ∀ f ∈ fieldsOf n, PySem.W.findIn K (.ref (He.ga K n)) f = some none
def xfB' (K : PySem.W.Frag) (n : Str) : Bool := He.eqO (PySem.W.nsIn K mainGlobals n) (some (some (.ref (He.ga K n)))) && (oexB K (He.ga K n) && (excB K (He.ga K n) && (fieldsOf n).all fun f => decide (PySem.W.findIn K (.ref (He.ga K n)) f = some none)))
theorem xf_ok {K : PySem.W.Frag} {mg : Str → Option Value} {h : Heap} {n : Str} (X : K.In h) (G : h.Ns mainGlobals mg) (c : xfB' K n = true) : XF K mg n := by
  unfold xfB' at c
  simp only [Bool.and_eq_true, List.all_eq_true, decide_eq_true_eq] at c
  obtain ⟨h1, h2, h3, h4⟩ := c
  have T := oexB_ok h2
  obtain ⟨h5, h6⟩ := excB_ok h3 T
  exact ⟨PySem.W.mg_of X G (He.eqO_ok h1), T, h5, h6, h4⟩
/-- is n under x -/
def subX (n x : Str) : Bool := n == x || (x == "CalmError" || x == "ValueError")
/-- what an except clause, isinstance say -/
structure XP (K : PySem.W.Frag) (n x : Str) : Prop where
  exm : PySem.W.exmOne K (.ref (He.ga K n)) (.ref (He.ga K x)) = some (subX n x)
  kit : PySem.W.kitOne K (.ref (He.ga K n)) (.ref (He.ga K x)) = some (subX n x)
def xpB (K : PySem.W.Frag) (n x : Str) : Bool := decide (PySem.W.exmOne K (.ref (He.ga K n)) (.ref (He.ga K x)) = some (subX n x)) && decide (PySem.W.kitOne K (.ref (He.ga K n)) (.ref (He.ga K x)) = some (subX n x))
theorem xp_ok {K : PySem.W.Frag} {n x : Str} (c : xpB K n x = true) : XP K n x := by
  unfold xpB at c
  simp only [Bool.and_eq_true, decide_eq_true_eq] at c
  exact ⟨c.1, c.2⟩
end CW
namespace CW
open PySem PySem.Spec PyProof.Rows L2

section
variable {X : Cx} {W : WX} {O : List OK} {P : OX} {ro : Bool} {e : Expr} {es : List Expr} {ta : TA} {er : Env → Out (List D)}
/-! ### an own exception's __init__ -/
/-- B.__init__(self, ..), B an own class under ValueError without __init__ -/
theorem pe_cinit {pl : Sem Bool} {B : Str} {Cb : Addr} {p1 p2 pos : Pos} (T0 : CinB X.K Cb) (hm : X.mg B = some (.ref Cb)) (ha : PA X (e :: es) ta) (hg : Gl X B := by rfl) (hdb : (B == ("__debug__" : Str)) = false := by decide)
    (hc : eval (.Call (.Attribute (.Name B p1) "__init__" p2) (e :: es) [] pos) X.env = (do
      let v ← eval (.Name B p1) X.env
      standAt p2.atName
      let (f, first) ← holding [v] (getMethod v "__init__" pl)
      callWith pos f first (backTo pos (starEach (e :: es) X.env)) (backToKw pos (keywordEach [] X.env))) := by rfl)
    (he : starEach (e :: es) X.env = (false, eval e X.env) :: starEach es X.env := by rfl) (hpl : (backTo pos (starEach es X.env)).any (·.1) = false := by rfl) :
    PE X (.Call (.Attribute (.Name B p1) "__init__" p2) (e :: es) [] pos) (tVeI X.K ta) := by
  constructor
  intro pins s σ H Q I h
  apply PySem.W.methodCall_KW _ hc
  refine ld_glob I hg hm ?_ hdb
  obtain ⟨m, fr⟩ := I.fr
  apply PySem.W.method_of_cls fr I.ok.mod.kin T0.ga
  apply PySem.W.cls_val fr I.ok.mod.kin T0.ty T0.rd T0.fc (by decide +kernel)
  apply PyProof.Rows.callWith_method1 _ he hpl
  refine thn (ha.run pos pins _ σ H _ (I.tok _) h) fun us t ⟨vs, H1, I1, r, a, C, ws, ev, hz, T, ea, q⟩ => ?_
  subst ev
  cases r with
  | cons ra rw =>
    cases ra
    exact oinit_ok T I1 ea (by rw [← Paired.length rw, sizeLine_eq]; omega) fun _ J => ⟨.non, H1, J, rfl, q⟩
/-- what the __init__ of the class n keeps -/
def spI (K : PySem.W.Frag) (n : Str) : Sp := fun vs H Q _ => ∃ (a : Addr) (ws : List V), vs = .ref a :: ws ∧ ws.length = (fieldsOf n).length ∧ H a = some (exo a (He.ga K n) none) ∧
  ∀ d, H d = none → d ≠ a → Q .non (upd (upd H d (exd d ((fieldsOf n).zip ws).reverse)) a (exo a (He.ga K n) (some d)))
/-- C's __init__ -/
structure XI (P : Program) (w : World) (K : PySem.W.Frag) (mg : Str → Option Value) (base : Heap) (n : Str) : Prop where
  ex : ∃ fI fd ps, PySem.W.findIn K (.ref (He.ga K n)) "__init__" = some (some (.ref fI)) ∧ PySem.W.typeIn K (.ref fI) = some (.type "function") ∧ FnOk P w K mg base CX0 1 fI fd ps (spI K n) ∧ Binds K fd ps []
/-! ### raise -/
def fRaise (n : Str) (ea : Env → Out (List D)) : Env → Fl := fun ρ => fE (ea ρ) ρ fun ds => if ds.length = (fieldsOf n).length then .exc (.exn n ds) ρ else .stuck
theorem flen (n : Str) : (fieldsOf n).length ≤ 3 := by
  unfold fieldsOf
  repeat' split
  all_goals simp
theorem ss_raise {n : Str} {p p1 pos : Pos} (hX : XF X.K X.mg n) (hI : XI X.prog X.w X.K X.mg X.base n) (hr : Room 2 X.A) (hc : X.calm = true) (tk : Takes X W) (ha : SA X W (e :: es) er) (hx : leB [] P.ex = true := by rfl) (hg : Gl X n := by rfl) (hdb : (n == ("__debug__" : Str)) = false := by decide)
    (he : starEach (e :: es) X.env = (false, eval e X.env) :: starEach es X.env := by rfl) (hpl : (backTo p1 (starEach es X.env)).any (·.1) = false := by rfl) :
    SS X W O P ro (.Raise (some (.Call (.Name n p) (e :: es) [] p1)) none pos) (fRaise n er) := by
  obtain ⟨fI, fd, ps, i1, i2, i3, i4⟩ := hI.ex
  refine .of (ps_raise hc tk (pmk_oex hX.oex i1 i2 i3 hr i4 .nil pass0 hg hX.glo ha hdb he hpl)) fun F0 H0 F H σ ρ T r q => ?_
  obtain ⟨G, rf, sFG, back⟩ := r.lend
  refine ⟨G, ρ, rf, ?_⟩
  unfold fRaise at q
  cases e1 : er ρ with
  | stuck => rw [e1] at q; exact q.elim
  | exc x =>
    rw [e1] at q
    intro c dd G' H' e' hx'
    exact PostS.exc q (back G' H' e').1 hx hx'
  | ok ds =>
    rw [e1, fE_ok] at q
    split at q
    · rename_i hl
      intro vs G' H' e' rv
      have hv : vs.length = (fieldsOf n).length := by rw [rv.length]; exact hl
      have hf := flen n
      refine ⟨by omega, fun a na => ⟨a, vs, by rw [List.append_nil], hv, upd_same, fun d hd nd => ⟨rfl, d, ((fieldsOf n).zip vs).reverse, upd_same, ?_, ?_, ?_⟩⟩⟩
      · rw [upd_ne nd]; exact upd_same
      · rw [upd_ne nd] at hd; exact hd
      · rw [upd_ne nd] at hd
        have eh : upd (L2.del (upd (upd (upd H' a (exo a (He.ga X.K n) none)) d (exd d ((fieldsOf n).zip vs).reverse)) a (exo a (He.ga X.K n) (some d))) a) d (.xd ((fieldsOf n).zip vs).reverse) = upd H' d (.xd ((fieldsOf n).zip vs).reverse) := by
          funext b
          by_cases hb : b = d
          · subst hb; rw [upd_same, upd_same]
          · rw [upd_ne hb, upd_ne hb]
            by_cases hba : b = a
            · subst hba; rw [L2.del_same]; exact na.symm
            · rw [L2.del_ne hba, upd_ne hba, upd_ne hb, upd_ne hba]
        rw [eh]
        have e2 : Ext G' H' (upd G' d (.xd ((fieldsOf n).zip vs).reverse)) (upd H' d (.xd ((fieldsOf n).zip vs).reverse)) := .put e'.fh hd
        refine PostS.exc q (back _ _ (e'.trans e2)).1 hx ⟨n, ds, vs, rfl, rfl, .inr ⟨d, rfl, .of upd_same⟩, hv, rv.mono (Sub.of_same e2.ff)⟩
    · exact q.elim
/-- raise C(), C without __init__ -/
theorem pmk_own0 {C : Addr} {bmB : List Value} {B newId initId : String} {x : Str} {p pos : Pos} (F : ExcBaseFacts B newId initId bmB) (q : PySem.W.excIn X.K C bmB newId = true) (gC : X.mg x = some (.ref C))
    (kC : PySem.W.keepIn X.K (.ref C) = true) (r : Raises X (.ref C)) (hg : Gl X x) (hdb : (x == ("__debug__" : Str)) = false := by decide) :
    PMk X (.Call (.Name x p) [] [] pos) (fun _ H Q => Q (.ref C) none H) := by
  intro pins s σ H Q I h
  refine wpAny_Call_Name_kw (ld_glob I hg gC (PySem.W.callWith_K0 I.kIn kC ?_) hdb)
  obtain ⟨bm, N, nm, qn, bs, hdct, sn, sub, ab, col, dd, k0, k1, k2, k3, k5, mN, hC, hN, hni, T⟩ := exc_obj I.kIn q
  exact wpAny_call_exc_subT F T hC hN hni (fun _ _ hm => mk_of I hm r h (I.hok.gone hm.new)) (Nat.zero_le _)
theorem ss_raise0 {n : Str} {p p1 pos : Pos} (hX : XF X.K X.mg n) (hq : PySem.W.excIn X.K (He.ga X.K n) He.veBase "ValueError.__new__" = true) (hc : X.calm = true) (tk : Takes X W) (hn : fieldsOf n = [] := by rfl) (hx : leB [] P.ex = true := by rfl) (hO : leB O [] = true := by rfl) (hg : Gl X n := by rfl) (hdb : (n == ("__debug__" : Str)) = false := by decide) :
    SS X W O P ro (.Raise (some (.Call (.Name n p) [] [] p1)) none pos) (fRaise n aN) := by
  refine .of (ps_raise hc tk (pmk_own0 F.excBase_ValueError hq hX.glo hX.oex.kC (raises_own hX.oex.exC hX.oex.tyC) hg hdb)) fun F0 H0 F H σ ρ T r q => ?_
  unfold fRaise at q
  have e0 : aN ρ = .ok [] := rfl
  rw [e0, fE_ok, if_pos (by rw [hn]; rfl)] at q
  obtain ⟨F', s, r'⟩ := r.weak hO
  exact PostS.exc q r' hx ⟨n, [], [], rfl, rfl, .inl ⟨hn, rfl⟩, by rw [hn]; rfl, .nil⟩
end
/-! ### defs that may raise -/
structure FnDX (P : Program) (w : World) (K : PySem.W.Frag) (mg : Str → Option Value) (base : Heap) (k : Nat) (x : Str) (fn : List D → Out D) : Prop where
  ex : ∃ f fd ps, FnOk P w K mg base (L2.CX P w) k f fd ps (spF mg K fn) ∧ mg x = some (.ref f) ∧ PySem.W.keepIn K (.ref f) = true ∧ Binds K fd ps []
structure FnLX (P : Program) (w : World) (K : PySem.W.Frag) (mg : Str → Option Value) (base : Heap) (k : Nat) (x : Str) (fn : List D → Out (List D)) : Prop where
  ex : ∃ f fd ps, FnOk P w K mg base (L2.CX P w) k f fd ps (spO mg K fn) ∧ mg x = some (.ref f) ∧ PySem.W.keepIn K (.ref f) = true ∧ Binds K fd ps []
def eCallX (fn : List D → Out D) (ea : Env → Out (List D)) : Env → Out D := fun ρ => (ea ρ).bind fn
def oCallX (fn : List D → Out (List D)) (ea : Env → Out (List D)) : Env → Out (List D) := fun ρ => (ea ρ).bind fn
section
variable {X : Cx} {W : WX} {e : Expr} {es : List Expr} {x : Str} {p pos : Pos}
theorem se_callX {k : Nat} {fn : List D → Out D} {er : Env → Out (List D)} (G : FnDX X.prog X.w X.K X.mg X.base k x fn) (hr : Room k X.A) (tk : Takes X W) (ha : SA X W (e :: es) er) (hg : Gl X x := by rfl) (hdb : (x == ("__debug__" : Str)) = false := by decide)
    (he : starEach (e :: es) X.env = (false, eval e X.env) :: starEach es X.env := by rfl) (hpl : (backTo pos (starEach es X.env)).any (·.1) = false := by rfl) : SE X W (.Call (.Name x p) (e :: es) [] pos) (eCallX fn er) := by
  obtain ⟨f, fd, ps, F, hm, hk, hb⟩ := G.ex
  refine .of (pe_callS F hr hg hm hk hb (fun σ => passAt tk σ) ha hdb he hpl) fun F H σ ρ Q h1 h2 => ?_
  refine ⟨F, ρ, h1, Post.bind h2 fun d v F1 H1 e1 r1 q1 => ?_⟩
  refine ⟨F1, d, e1.fh, r1, ?_⟩
  cases hf : fn d with
  | ok z => rw [hf] at q1; exact q1
  | exc z => rw [hf] at q1; exact q1
  | stuck => rw [hf] at q1; exact q1.elim
theorem so_callX {k : Nat} {fn : List D → Out (List D)} {er : Env → Out (List D)} (G : FnLX X.prog X.w X.K X.mg X.base k x fn) (hr : Room k X.A) (tk : Takes X W) (ha : SA X W (e :: es) er) (hg : Gl X x := by rfl) (hdb : (x == ("__debug__" : Str)) = false := by decide)
    (he : starEach (e :: es) X.env = (false, eval e X.env) :: starEach es X.env := by rfl) (hpl : (backTo pos (starEach es X.env)).any (·.1) = false := by rfl) : SO X W (.Call (.Name x p) (e :: es) [] pos) (oCallX fn er) := by
  obtain ⟨f, fd, ps, F, hm, hk, hb⟩ := G.ex
  refine .of (pe_callS F hr hg hm hk hb (fun σ => passAt tk σ) ha hdb he hpl) fun F H σ ρ Q h1 h2 => ?_
  refine ⟨F, ρ, h1, PostO.bind h2 fun d v F1 H1 e1 r1 q1 => ?_⟩
  refine ⟨F1, d, e1.fh, r1, ?_⟩
  cases hf : fn d with
  | ok z => rw [hf] at q1; exact q1
  | exc z => rw [hf] at q1; exact q1
  | stuck => rw [hf] at q1; exact q1.elim
theorem passNo {X : Cx} (σ : St) : PassesAt (L2.CX X.prog X.w) X σ (fun _ _ _ => False) := fun _ _ _ _ _ _ ⟨_, _, _, _, _, _, _, _, _, _, _, _, z⟩ => z.elim
/-- .. where it is told that nothing is raised -/
theorem se_call0 {k : Nat} {fn : List D → Out D} {er : Env → Out (List D)} (G : FnDX X.prog X.w X.K X.mg X.base k x fn) (hr : Room k X.A) (ha : SA X W (e :: es) er) (hg : Gl X x := by rfl) (hdb : (x == ("__debug__" : Str)) = false := by decide)
    (he : starEach (e :: es) X.env = (false, eval e X.env) :: starEach es X.env := by rfl) (hpl : (backTo pos (starEach es X.env)).any (·.1) = false := by rfl) : SE X W (.Call (.Name x p) (e :: es) [] pos) (eCall fn er) := by
  obtain ⟨f, fd, ps, F, hm, hk, hb⟩ := G.ex
  refine .of (pe_callS F hr hg hm hk hb passNo ha hdb he hpl) fun F H σ ρ Q h1 h2 => ?_
  refine ⟨F, ρ, h1, Post.bind h2 fun d v F1 H1 e1 r1 q1 => ?_⟩
  exact ⟨F1, d, e1.fh, r1, q1.noX⟩
theorem so_call0 {k : Nat} {fn : List D → Out (List D)} {er : Env → Out (List D)} (G : FnLX X.prog X.w X.K X.mg X.base k x fn) (hr : Room k X.A) (ha : SA X W (e :: es) er) (hg : Gl X x := by rfl) (hdb : (x == ("__debug__" : Str)) = false := by decide)
    (he : starEach (e :: es) X.env = (false, eval e X.env) :: starEach es X.env := by rfl) (hpl : (backTo pos (starEach es X.env)).any (·.1) = false := by rfl) : SO X W (.Call (.Name x p) (e :: es) [] pos) (oCall fn er) := by
  obtain ⟨f, fd, ps, F, hm, hk, hb⟩ := G.ex
  refine .of (pe_callS F hr hg hm hk hb passNo ha hdb he hpl) fun F H σ ρ Q h1 h2 => ?_
  refine ⟨F, ρ, h1, PostO.bind h2 fun d v F1 H1 e1 r1 q1 => ?_⟩
  exact ⟨F1, d, e1.fh, r1, q1.noX⟩
end
def runFX (n p : Nat) (den : Env → Fl) : List D → Out D := fun ds => if ds.length = p then match den (ds.map some ++ List.replicate (n - p) none) with
  | .nx _ => .ok .non
  | .ret d => .ok d
  | .exc x _ => .exc x
  | _ => .stuck else .stuck
def runLX (n p : Nat) (den : Env → Fl) : List D → Out (List D) := fun ds => if ds.length = p then match den (ds.map some ++ List.replicate (n - p) none) with
  | .ret (.lst es) => .ok es
  | .exc x _ => .exc x
  | _ => .stuck else .stuck
/-- the wish of a def's body -/
abbrev WD (E : XK) : WX := fun c d _ H => E c d H
section
variable {P : Program} {w : World} {K : PySem.W.Frag} {mg : Str → Option Value} {base : Heap} {x : Str} {st : Stmt} {N ps : List Str} {k : Nat} {Pp : OX} {den : Env → Fl}
theorem fnDX_of (O : List OK) (Df : DefAt K mg x st ps) (S : FnScope N ps (defScope st)) (hz : fzs (O.take ps.length) = true)
    (body : ∀ (f : Addr) (cdv : Value) (A : Around) (outer : List PySem.Env) (s : Shared) (H : Hp) (E : XK), Room k (A.deeper (envOfC x (defScope st) s.heap.objs.size f cdv)) →
      Takes (cxOf (L2.CX P w) P w K mg base N x (defScope st) f cdv A outer s H E) (WD E) → PassesOwn (model P w) (A.deeper (envOfC x (defScope st) s.heap.objs.size f cdv)) (cxOf (L2.CX P w) P w K mg base N x (defScope st) f cdv A outer s H E).env (cxOf (L2.CX P w) P w K mg base N x (defScope st) f cdv A outer s H E).xe →
      SB (cxOf (L2.CX P w) P w K mg base N x (defScope st) f cdv A outer s H E) (WD E) O Pp false (defBody st) den) : FnDX P w K mg base (k + 1) x (runFX N.length ps.length den) := by
  obtain ⟨f, fd, F, hm, hb⟩ := Df.ex
  have hpl : ps.length ≤ N.length := by have := congrArg List.length S.pre; rw [List.length_take] at this; omega
  refine ⟨f, fd, ps, F.okX S (fun vs H Q E h => ?_) (fun cdv A outer s H vs Q E hr h => ?_), hm, F.kp, hb⟩
  · obtain ⟨F, ds, h1, h2, h3⟩ := h
    unfold runFX at h3
    split at h3
    · rename_i hl; rw [h2.length, hl]
    · exact h3.elim
  · obtain ⟨F1, ds, h1, h2, h3⟩ := h
    unfold runFX at h3
    split at h3
    · rename_i hl
      refine ⟨_, body f cdv A outer s H E hr (takes_of rfl rfl rfl rfl) (passes_of rfl), F1, H, F1, _, rep_start h1 h2 (by rw [hl]; exact hz) (by rw [hl]; exact hpl), ?_⟩
      rw [hl]
      cases e : den (ds.map some ++ List.replicate (N.length - ps.length) none) with
      | nx ρ => rw [e] at h3; exact fun F2 H2 σ2 r2 => h3 _ F2 H2 r2.ext .non
      | ret d => rw [e] at h3; exact fun v F2 H2 e2 rv => h3 v F2 H2 e2 rv
      | exc y ρ => rw [e] at h3; exact fun c dd F2 H2 σ2 r2 hx => h3 c dd F2 H2 r2.ext hx
      | bk ρ => rw [e] at h3; exact h3.elim
      | ct ρ => rw [e] at h3; exact h3.elim
      | stuck => rw [e] at h3; exact h3.elim
    · exact h3.elim
theorem fnLX_of (O : List OK) (Df : DefAt K mg x st ps) (S : FnScope N ps (defScope st)) (hz : fzs (O.take ps.length) = true)
    (body : ∀ (f : Addr) (cdv : Value) (A : Around) (outer : List PySem.Env) (s : Shared) (H : Hp) (E : XK), Room k (A.deeper (envOfC x (defScope st) s.heap.objs.size f cdv)) →
      Takes (cxOf (L2.CX P w) P w K mg base N x (defScope st) f cdv A outer s H E) (WD E) → PassesOwn (model P w) (A.deeper (envOfC x (defScope st) s.heap.objs.size f cdv)) (cxOf (L2.CX P w) P w K mg base N x (defScope st) f cdv A outer s H E).env (cxOf (L2.CX P w) P w K mg base N x (defScope st) f cdv A outer s H E).xe →
      SB (cxOf (L2.CX P w) P w K mg base N x (defScope st) f cdv A outer s H E) (WD E) O Pp true (defBody st) den) : FnLX P w K mg base (k + 1) x (runLX N.length ps.length den) := by
  obtain ⟨f, fd, F, hm, hb⟩ := Df.ex
  have hpl : ps.length ≤ N.length := by have := congrArg List.length S.pre; rw [List.length_take] at this; omega
  refine ⟨f, fd, ps, F.okX S (fun vs H Q E h => ?_) (fun cdv A outer s H vs Q E hr h => ?_), hm, F.kp, hb⟩
  · obtain ⟨F, ds, h1, h2, h3⟩ := h
    unfold runLX at h3
    split at h3
    · rename_i hl; rw [h2.length, hl]
    · exact h3.elim
  · obtain ⟨F1, ds, h1, h2, h3⟩ := h
    unfold runLX at h3
    split at h3
    · rename_i hl
      refine ⟨_, body f cdv A outer s H E hr (takes_of rfl rfl rfl rfl) (passes_of rfl), F1, H, F1, _, rep_start h1 h2 (by rw [hl]; exact hz) (by rw [hl]; exact hpl), ?_⟩
      rw [hl]
      cases e : den (ds.map some ++ List.replicate (N.length - ps.length) none) with
      | nx ρ => rw [e] at h3; exact h3.elim
      | ret d =>
        rw [e] at h3
        intro v F2 H2 e2 rv
        cases d with
        | lst es =>
          obtain ⟨a, vs2, ds2, rfl, hd, q1, q2, q3, q4⟩ := rv
          cases hd
          exact h3 a vs2 F2 H2 e2 q3 q2 q1 q4
        | _ => exact h3.elim
      | exc y ρ => rw [e] at h3; exact fun c dd F2 H2 σ2 r2 hx => h3 c dd F2 H2 r2.ext hx
      | bk ρ => rw [e] at h3; exact h3.elim
      | ct ρ => rw [e] at h3; exact h3.elim
      | stuck => rw [e] at h3; exact h3.elim
    · exact h3.elim
theorem FnDX.mono {k' : Nat} {fn : List D → Out D} (h : FnDX P w K mg base k x fn) (hk : k ≤ k') : FnDX P w K mg base k' x fn := by
  obtain ⟨f, fd, ps, F, r⟩ := h.ex
  exact ⟨f, fd, ps, F.mono hk, r⟩
theorem FnLX.mono {k' : Nat} {fn : List D → Out (List D)} (h : FnLX P w K mg base k x fn) (hk : k ≤ k') : FnLX P w K mg base k' x fn := by
  obtain ⟨f, fd, ps, F, r⟩ := h.ex
  exact ⟨f, fd, ps, F.mono hk, r⟩
end
end CW
namespace CW
open PySem PySem.Spec PyProof.Rows L2

/-! ### an exception that was caught, from then on tracked -/
section
variable {X : Cx} {pins : List (Addr × Obj)} {σ : St} {H : Hp} {s : Shared} {a : Addr} {cls : Value} {d : Option Addr} {oe : Obj} {vs : Array Value}
theorem exH_ok {P : Program} {w : World} {h : Heap} (ha : h.get? a = some oe) (hz : Zc cls d oe) (hd : oe.data = .fields vs) : ObjOk P w H h a (exH cls d a) :=
  ⟨⟨oe, vs, ha, hz, hd⟩, ⟨oe, ha⟩, fun _ _ ⟨o, v, e, r⟩ k => ⟨o, v, k o e, r⟩⟩
theorem exH_at {P : Program} {w : World} {h : Heap} (x : HOk P w H h) (e : Rd H a (exH cls d a)) : ∃ oe vs, h.get? a = some oe ∧ Zc cls d oe ∧ oe.data = .fields vs := (e.ok x).1
theorem inv_track (I : Inv X pins σ H s) (ha : s.heap.get? a = some oe) (hz : Zc cls d oe) (hd : oe.data = .fields vs) (na : H a = none) (n0 : X.s_0.heap.get? a = none) (nL : a ≠ X.env.locals) (np : ∀ p ∈ X.pn ++ pins, p.1 ≠ a) : Inv X pins σ (upd H a (exH cls d a)) s := by
  have ne : ∀ {b : Addr} {u : HO}, H b = some u → b ≠ a := fun h => ne_of_none h na
  refine ⟨I.ok, I.os, I.bare, ⟨I.base.keep, I.base.slot, fun b o e n hx => ?_, I.base.there, fun b xs e => ?_, fun b o u e => ?_, fun b ps e => ?_⟩, I.loc, I.cell, ?_, fun x c e => ?_, fun p hp => ?_, fun b u e => ?_, I.len⟩
  · rw [upd_ne (fun z => by rw [z, n0] at e; cases e)]
    exact I.base.free b o e n hx
  · have q := I.base.tups b xs e
    rw [upd_ne (ne q)]; exact q
  · have q := I.base.frzs b o u e
    rw [upd_ne (ne q)]; exact q
  · obtain ⟨m, q⟩ := I.base.tbls b ps e
    exact ⟨m, by rw [upd_ne (ne q)]; exact q⟩
  · rw [upd_ne (Ne.symm nL)]; exact I.free
  · obtain ⟨v, o, ho, hc⟩ := I.cell x c e
    rw [upd_ne (fun z => by
      subst z
      rw [ha] at ho
      cases ho
      rw [hd] at hc
      cases hc)]
    exact I.freeC x c e
  · obtain ⟨h1, h2, h3, h4, h5⟩ := I.pin p hp
    exact ⟨h1, by rw [upd_ne (np p hp)]; exact h2, h3, h4, h5⟩
  · by_cases hb : b = a
    · subst hb
      rw [upd_same] at e
      cases e
      exact exH_ok ha hz hd
    · rw [upd_ne hb] at e
      exact (I.hok b u e).stay (fun _ _ _ h => h) (fun c h => by rw [upd_ne (ne h)]; exact h) fun c xs h => by rw [upd_ne (ne h)]; exact h
end
/-- the context of a suite, the exception tracked -/
abbrev suT (X : Cx) (a : Addr) (pn : List (Addr × Obj)) : Cx := { X with A := X.A.mark (some (.ref a)), calm := false, pn := pn, xe := fun _ _ => False }
section
variable {X : Cx} {pins : List (Addr × Obj)} {σ : St} {H : Hp} {s : Shared}
theorem inv_toSu (I : Inv X pins σ H s) (a : Addr) : Inv (suT X a (X.pn ++ pins)) [] σ H s :=
  ⟨I.ok.suite _ _, I.os, I.bare, I.base, I.loc, I.cell, I.free, I.freeC, fun p hp => I.pin p (by rw [List.append_nil] at hp; exact hp), I.hok, I.len⟩
theorem inv_ofSu {a : Addr} {pn' : List (Addr × Obj)} (I : Inv (suT X a (X.pn ++ pins)) pn' σ H s) (ok : X.Ok) : Inv X pins σ H s :=
  ⟨ok, I.os, I.bare, I.base, I.loc, I.cell, I.free, I.freeC, fun p hp => I.pin p (List.mem_append_left _ hp), I.hok, I.len⟩
end
def endsOff (D : Ends) : Option Nat → Ends
  | none => D
  | some i => { nx := fun σ H => D.nx (σ.set i none) H, rt := D.rt, bk := fun σ H => D.bk (σ.set i none) H, ct := fun σ H => D.ct (σ.set i none) H }
def setO {α : Type} (i : Option Nat) (v : α) (σ : List (Option α)) : List (Option α) := match i with
  | none => σ
  | some i => σ.set i (some v)
/-- what the clauses wish of an exception of the body -/
def wT (K : PySem.W.Frag) (Wout : WX) (T : Ends) : List (Value × Option Nat × (Addr → Value → Option Addr → TS)) → WX
  | [] => Wout
  | (c, i, ts) :: r => fun cls d σ H => ∃ b, PySem.W.exmOne K cls c = some b ∧ (b = true → ∀ a, H a = none → ts a cls d (endsOff T i) (setO i (.ref a) σ) (upd H a (exH cls d a))) ∧ (b = false → wT K Wout T r cls d σ H)
inductive HdT (X : Cx) : List ExceptHandler → List (Value × Option Nat × (Addr → Value → Option Addr → TS)) → Prop
  | nil : HdT X [] []
  | cons {x : Str} {c : Value} {ts : Addr → Value → Option Addr → TS} {b₀ : Stmt} {suite : List Stmt} {np pos' : Pos} {hds : List ExceptHandler} {l : List (Value × Option Nat × (Addr → Value → Option Addr → TS))} (hc : Names X x c)
      (hsu : ∀ (a : Addr) (cls : Value) (d : Option Addr) (pn : List (Addr × Obj)), PSs (suT X a pn) (b₀ :: suite) (ts a cls d)) (r : HdT X hds l) : HdT X (.ExceptHandler (some (.Name x np)) none (b₀ :: suite) pos' :: hds) ((c, none, ts) :: l)
  | as {x n : Str} {i : Nat} {c : Value} {ts : Addr → Value → Option Addr → TS} {b₀ : Stmt} {suite : List Stmt} {np pos' : Pos} {hds : List ExceptHandler} {l : List (Value × Option Nat × (Addr → Value → Option Addr → TS))} (hN : X.N.Nodup) (hi : X.N[i]? = some n) (hln : X.env.kindOf n = some .local) (hc : Names X x c)
      (hsu : ∀ (a : Addr) (cls : Value) (d : Option Addr) (pn : List (Addr × Obj)), PSs (suT X a pn) (b₀ :: suite) (ts a cls d)) (r : HdT X hds l) : HdT X (.ExceptHandler (some (.Name x np)) (some n) (b₀ :: suite) pos' :: hds) ((c, some i, ts) :: l)
section
variable {X : Cx} {body : List Stmt} {h₀ : ExceptHandler} {hds : List ExceptHandler} {l : List (Value × Option Nat × (Addr → Value → Option Addr → TS))} {pos : Pos} {tb : WX → TS} {Wout : WX}
theorem ps_tryT (hs : X.stack = X.env :: X.outer) (hf : X.env.frame = some X.env.locals) (hex : X.ex = []) (tk : Takes X Wout)
    (hb : ∀ (W : WX) (pn : List (Addr × Obj)) (xe : Value → Shared → Prop), Takes (X.tr pn xe) W → PassesOwn (model X.prog X.w) X.A X.env xe → PSs (X.tr pn xe) body (tb W))
    (hh : HdT X (h₀ :: hds) l) : PS X (.Try body (h₀ :: hds) [] [] pos) (fun D σ H => tb (wT X.K Wout D l) D σ H) := by
  constructor
  intro pins s σ H T I h
  have ok := I.ok
  have hfr : X.A.frames = some (X.env :: X.outer) := by rw [ok.frames, hs]
  refine wpAny_Try_except (wpAny_mono ((hb (wT X.K Wout T l) (X.pn ++ pins) (fun e t1 => wpAny (model X.prog X.w) X.A (noteFrame e X.env) (fun _ t2 => wpAny (model X.prog X.w) X.A (setFlight e none) (fun _ t3 =>
    wpAny (model X.prog X.w) X.A (handleBy e X.env (h₀ :: hds)) (SP X pins T) X.xe t3) X.xe t2) X.xe t1) (fun u t xx => ?_) PassesOwn.looking).run [] s σ H T (I.toTry _) h) (fun f t1 hsp => ?_) (fun e t1 he => he))
  ·
    obtain ⟨a, B, sI, pins', σ', H', cls, d, rfl, J', nb, up, sky, na, os, ag, w⟩ := xx
    have J : Inv X pins σ' H' sI := J'.ofTry ok
    rw [show Sky B (X.tr (X.pn ++ pins) _).stack = Sky B (X.env :: X.outer) from by rw [← hs]] at sky
    refine Sky.land (M := model X.prog X.w) (A := X.A) (env := X.env) (outer := X.outer) (L := X.env.locals) (a := a) (Z := Zc cls d) Zc.steady hfr hf sky fun h3 fl3 up3 => ?_
    have J3 : Inv X pins σ' H' { t with heap := h3 } := J.landed nb fl3.1 (up.trans up3) os ag
    obtain ⟨o3, v3, he3, hz3, hd3⟩ := fl3.there
    have nfr : a ∉ frs (X.env :: X.outer) := fun hm => by
      obtain ⟨_, o', e', hnf⟩ := fl3.2.2.1.mem hm
      rw [he3] at e'
      cases e'
      exact hnf _ hd3
    have nfs : a ∉ frs X.stack := by rw [hs]; exact nfr
    have nL : a ≠ X.env.locals := fun z => nfr (List.mem_filterMap.mpr ⟨X.env, List.mem_cons_self, by rw [hf, z]⟩)
    have nF : a ∉ X.fs := fun hm => by
      obtain ⟨e, he, q⟩ := List.mem_filterMap.mp hm
      exact nfr (List.mem_filterMap.mpr ⟨e, List.mem_cons_of_mem _ he, q⟩)
    have hB : B.get? a = none := fl3.2.1
    have nI : sI.heap.get? a = none := by
      cases q : sI.heap.get? a with
      | none => rfl
      | some o => rw [nb a o q nfs] at hB; cases hB
    have n0 : X.s_0.heap.get? a = none := by
      cases q : X.s_0.heap.get? a with
      | none => rfl
      | some o =>
        obtain ⟨o', e'⟩ := J.base.there a o q (by rw [hex]; simp)
        rw [nI] at e'; cases e'
    have np : ∀ p ∈ X.pn ++ pins, p.1 ≠ a := fun p hp z => by
      have e := (J.pin p hp).1
      rw [z, nI] at e; cases e
    have S3 := J3.suite he3 hd3 na nL nF
    have go : ∀ {hds' : List ExceptHandler} {l' : List (Value × Option Nat × (Addr → Value → Option Addr → TS))}, HdT X hds' l' → wT X.K Wout T l' cls d σ' H' →
        wpAny (model X.prog X.w) X.A (handleBy (.ref a) X.env hds') (SP X pins T) X.xe { t with heap := h3 } := by
      have LT : PySem.W.Looks (model X.prog X.w) h3 (typeOf (.ref a)) cls := fun A Q E s k q => wpAny_typeOf_ref (k _ _ he3) (by rw [hz3.1]; exact q)
      have test : ∀ {x : Str} {c : Value} {np : Pos}, Names X x c → ∀ {Q : Value → Shared → Prop} {E : Value → Shared → Prop}, Q c { t with heap := h3 } → wpAny (model X.prog X.w) (X.A.mark (some (.ref a))) (eval (.Name x np) X.env) Q E { t with heap := h3 } := fun {x c np} hc {Q E} q => by
        obtain ⟨hg, hdbg, hm | ⟨hm, hv, hnn⟩⟩ := hc
        · exact ld_glob (X := X.suite a ((a, o3) :: (X.pn ++ pins))) S3 hg hm q hdbg
        · exact ld_blt (X := X.suite a ((a, o3) :: (X.pn ++ pins))) S3 hg hm hv q hnn hdbg
      have land : ∀ {Q : Shared → Prop} {E : Value → Shared → Prop}, (∀ t4, Inv (suT X a (X.pn ++ pins)) [] σ' (upd H' a (exH cls d a)) t4 → Q t4) → wpAny (model X.prog X.w) (X.A.mark (some (.ref a))) (setFlight (.ref a) none) (fun _ t4 => Q t4) E { t with heap := h3 } := fun {Q E} q => by
        refine HandSPX.lands_againZ fl3 fun h4 fl4 up4 => q _ ?_
        have J4 : Inv X pins σ' H' { t with heap := h4 } := J.landed nb fl4.1 ((up.trans up3).trans up4) os ag
        obtain ⟨o4, v4, he4, hz4, hd4⟩ := fl4.there
        exact inv_toSu (inv_track J4 he4 hz4 hd4 na n0 nL np) a
      intro hds' l' hk
      induction hk with
      | nil =>
        intro w
        apply wpAny_handleBy_nil
        obtain ⟨k1, k2, k3, oe, vs, Tb, oT, ts', he, hz, hd, h1, hr⟩ := id fl3
        unfold PySem.passOn
        refine wpAny_bind (wpAny_field he hd h1 ?_)
        rw [if_neg (show ¬ ((Value.ref Tb == Value.none) = true) from by simp)]
        have fin : wpAny (model X.prog X.w) X.A (setFlight (.ref a) X.env.frame) (fun _ t4 => wpAny (model X.prog X.w) X.A (throw (.ref a) : Sem Flow) (SP X pins T) X.xe t4) X.xe { t with heap := h3 } := by
          rw [hf]
          exact HandSPX.setFlight_upZ fl3 fun h4 hh4 up4 => wpAny_throw (tk _ _ ⟨a, B, sI, pins, σ', H', cls, d, rfl, J, nb, (up.trans up3).trans up4, .inr (.inr (by rw [hs]; exact hh4)), na, os, ag, w⟩)
        first
          | exact wpAny_bind (wpAny_pure (wpAny_bind fin))
          | exact wpAny_bind fin
      | @cons x c ts b₀ suite np' pos' hds2 l2 hc hsu r ih =>
        intro w
        obtain ⟨b, hb1, hyes, hno⟩ := w
        apply wpAny_handleBy_cons (codeAny_handlers_test _) (by intro q; cases q)
        have LM := PySem.W.exm_one (M := model X.prog X.w) (J3.kIn) LT hb1
        refine test hc (LM.here ?_)
        cases b with
        | false => exact ih (hno rfl)
        | true =>
          refine codeAny_handlers_suite (land fun t4 S4 => ?_)
          refine wpAny_mono ((hsu a cls d (X.pn ++ pins)).run [] _ _ _ _ S4 (hyes rfl a na)) (fun f t6 hsp => ?_) (fun _ _ z => False.elim z)
          cases f with
          | next => obtain ⟨σ6, H6, S6, q6⟩ := hsp; exact ⟨_, _, inv_ofSu S6 ok, q6⟩
          | brk => obtain ⟨σ6, H6, S6, q6⟩ := hsp; exact ⟨_, _, inv_ofSu S6 ok, q6⟩
          | cont => obtain ⟨σ6, H6, S6, q6⟩ := hsp; exact ⟨_, _, inv_ofSu S6 ok, q6⟩
          | ret u => obtain ⟨v6, σ6, H6, S6, r6, q6⟩ := hsp; exact ⟨_, _, _, inv_ofSu S6 ok, r6, q6⟩
      | @as x n i c ts b₀ suite np' pos' hds2 l2 hN hi hln hc hsu r ih =>
        intro w
        obtain ⟨b, hb1, hyes, hno⟩ := w
        apply wpAny_handleBy_cons (codeAny_handlers_test _) (by intro q; cases q)
        have LM := PySem.W.exm_one (M := model X.prog X.w) (J3.kIn) LT hb1
        refine test hc (LM.here ?_)
        cases b with
        | false => exact ih (hno rfl)
        | true =>
          refine codeAny_handlers_suite_as (land fun t4 S4 => ?_)
          refine store_ok (X := suT X a (X.pn ++ pins)) (v := .ref a) S4 hN hi (.inl hln) rfl (fun t5 S5 => ?_) (.inr hln)
          refine wpAny_mono ((hsu a cls d (X.pn ++ pins)).run [] _ _ _ _ S5 (hyes rfl a na)) (fun f t6 hsp => ?_) (fun _ _ z => False.elim z)
          have fin : ∀ {σ6 : St} {H6 : Hp} {Q : Shared → Prop}, Inv (suT X a (X.pn ++ pins)) [] σ6 H6 t6 → (∀ t7, Inv X pins (σ6.set i none) H6 t7 → Q t7) →
              wpAny (model X.prog X.w) X.A (do bindName X.env n .none; unbindBehindTheSuite X.env n pos') (fun _ t7 => Q t7) X.xe t6 := fun S6 hq => gone_ok (inv_ofSu S6 ok) hN hi hln hq
          cases f with
          | next => obtain ⟨σ6, H6, S6, q6⟩ := hsp; exact fin S6 fun t7 J7 => ⟨_, _, J7, q6⟩
          | brk => obtain ⟨σ6, H6, S6, q6⟩ := hsp; exact fin S6 fun t7 J7 => ⟨_, _, J7, q6⟩
          | cont => obtain ⟨σ6, H6, S6, q6⟩ := hsp; exact fin S6 fun t7 J7 => ⟨_, _, J7, q6⟩
          | ret u => obtain ⟨v6, σ6, H6, S6, r6, q6⟩ := hsp; exact fin S6 fun t7 J7 => ⟨_, _, _, J7, r6, q6⟩
    exact go hh w
  · cases f with
    | next => obtain ⟨σ', H', J', q⟩ := hsp; exact wpAny_execs_nil ⟨σ', H', J'.ofTry ok, q⟩
    | brk => obtain ⟨σ', H', J', q⟩ := hsp; exact ⟨σ', H', J'.ofTry ok, q⟩
    | cont => obtain ⟨σ', H', J', q⟩ := hsp; exact ⟨σ', H', J'.ofTry ok, q⟩
    | ret u => obtain ⟨v, σ', H', J', r, q⟩ := hsp; exact ⟨v, σ', H', J'.ofTry ok, r, q⟩
end
end CW
namespace CW
open PySem PySem.Spec PyProof.Rows L2

/-! ### what is read of a tracked exception -/
theorem inst_of {P : Program} {w : World} {H : Hp} {h : Heap} {a C : Addr} {dd : Option Addr} {n : Str} {vs : List V} (x : HOk P w H h) (e : Rd H a (exH (.ref C) dd a)) (hd : XDict H n dd vs) : ∃ ox od, PySem.W.InstAt h a ox C od := by
  obtain ⟨oe, fs, h1, ⟨h2, h3⟩, h4⟩ := exH_at x e
  have nc : PySem.W.notCls oe = true := by unfold PySem.W.notCls; rw [h4]
  rcases hd with ⟨_, rfl⟩ | ⟨d, rfl, hd⟩
  · exact ⟨oe, none, h1, h2, nc, by rw [h3]; trivial⟩
  · obtain ⟨mA, ⟨o, _, _, ho, _⟩, _⟩ := (hd.ok x : ObjOk P w H h d (.xd _))
    exact ⟨oe, some o, h1, h2, nc, by rw [h3]; exact ho⟩
section
variable {X : Cx} {W : WX} {a c : Expr} {ea : Env → Out D} {pos : Pos}
/-- e.n, e a tracked exception -/
def tXfT (K : PySem.W.Frag) (f : Str) (te : TE) : TE := fun σ H Q => te σ H fun x H1 => ∃ (a C dd : Addr) (fs : List (Str × V)) (v : V), x = .ref a ∧ XfC K C ∧ PySem.W.findIn K (.ref C) f = some none ∧ Rd H1 a (exH (.ref C) (some dd) a) ∧ Rd H1 dd (.xd fs) ∧ fs.lookup f = some v ∧ Q v H1
theorem pe_xfT {te : TE} {f : Str} (he : PE X a te) (hb : attributeBase a f X.env (eval a X.env) = eval a X.env := by rfl) : PE X (.Attribute a f pos) (tXfT X.K f te) := by
  constructor
  intro pins s σ H Q I h
  refine attr_of hb (thn (he.run pins s σ H _ I h) fun u t ⟨x, H1, I1, rx, a, C, dd, fs, v, ex, T, hno, h1, h2, l, q⟩ => ?_)
  subst ex
  cases rx
  obtain ⟨oe, vs, g1, ⟨g2, g3⟩, g4⟩ := exH_at I1.hok h1
  obtain ⟨mA, hns, hr⟩ := (h2.ok I1.hok : ObjOk X.prog X.w H1 t.heap dd (.xd fs))
  obtain ⟨od, ho, hl⟩ := lookIn_ns hns
  obtain ⟨u, hu, ru⟩ := RelO.some_of (v := v) (o := mA f) (by rw [← l]; exact hr f)
  have J : PySem.W.InstAt t.heap a oe C (some od) := ⟨g1, g2, by unfold PySem.W.notCls; rw [g4], by rw [g3]; exact ho⟩
  exact HandSPX.exc_get I1.kIn J T.ga T.gg T.exC (PySem.W.findObj_own T.hdC hno rfl (by rw [hl, hu])) (handed_of ru) ⟨v, H1, I1.tok _, ru, q⟩
/-- isinstance(e, c), e a tracked exception -/
def rIsT (K : PySem.W.Frag) : List V → Hp → VK → Prop := fun xs H Q => ∃ (a C : Addr) (dd : Option Addr) (n : Str) (vs : List V) (c : V) (cv : Value) (b : Bool), xs = [.ref a, c] ∧ Rd H a (exH (.ref C) dd a) ∧ XDict H n dd vs ∧ ExcC K C ∧ (∀ u, RelV c u → u = cv) ∧ PySem.W.kitOne K (.ref C) cv = some b ∧ Q (.bl b) H
theorem cls_some {K : PySem.W.Frag} {C : Addr} (h : PySem.W.hasDictIn K C = true) : (PySem.W.clsIn K C).isSome = true := by
  obtain ⟨cd, hc, _⟩ := PySem.W.any_some h
  rw [hc]; rfl
theorem call_isT : CallR X (.builtin "isinstance") (rIsT X.K) := by
  intro pins s σ H xs us Q I r h
  obtain ⟨a, C, dd, n, vs, c, cv, b, rfl, h1, h2, T, hcv, e, q⟩ := h
  cases r with
  | cons rx rr =>
    cases rr with
    | cons rt rr =>
      cases rr
      cases rx
      have ec := hcv _ rt
      subst ec
      obtain ⟨ox, od, J⟩ := inst_of I.hok h1 h2
      exact PySem.W.kia_one (PySem.W.kitx_exc (cls_some T.hd) T.hg T.hk T.hs T.ha T.hn T.ht T.hm) I.kIn J e (fun z => nomatch z) fun tk => ⟨.bl b, H, I.kept (t' := tk) fun _ _ z => z, rfl, q⟩
/-! on data -/
def xfD (cs : List Str) (f : Str) : D → Out D
  | .exn n fs => if n ∈ cs then (match ((fieldsOf n).zip fs).reverse.lookup f with
    | some d => .ok d
    | none => .stuck) else .stuck
  | _ => .stuck
inductive KVs (K : PySem.W.Frag) (F : Hp) : List (Str × V) → List (Str × D) → Prop
  | nil : KVs K F [] []
  | cons {k : Str} {v : V} {d : D} {xs : List (Str × V)} {ys : List (Str × D)} : DR K F v d → KVs K F xs ys → KVs K F ((k, v) :: xs) ((k, d) :: ys)
theorem KVs.append {K : PySem.W.Frag} {F : Hp} : ∀ {a b : List (Str × V)} {c e : List (Str × D)}, KVs K F a c → KVs K F b e → KVs K F (a ++ b) (c ++ e)
  | _, _, _, _, .nil, h => h
  | _, _, _, _, .cons h t, h' => .cons h (t.append h')
theorem KVs.rev {K : PySem.W.Frag} {F : Hp} : ∀ {a : List (Str × V)} {c : List (Str × D)}, KVs K F a c → KVs K F a.reverse c.reverse
  | _, _, .nil => .nil
  | _, _, .cons h t => by
    rw [List.reverse_cons, List.reverse_cons]
    exact t.rev.append (.cons h .nil)
theorem KVs.zip {K : PySem.W.Frag} {F : Hp} : ∀ {ks : List Str} {vs : List V} {ds : List D}, DRs K F vs ds → KVs K F (ks.zip vs) (ks.zip ds)
  | [], _, _, _ => by simp; exact .nil
  | _ :: _, _, _, .nil => by simp; exact .nil
  | _ :: _, _, _, .cons h t => .cons h (KVs.zip t)
theorem KVs.look {K : PySem.W.Frag} {F : Hp} {f : Str} {d : D} : ∀ {a : List (Str × V)} {c : List (Str × D)}, KVs K F a c → c.lookup f = some d → ∃ v, a.lookup f = some v ∧ DR K F v d
  | _, _, .nil, h => by simp at h
  | _, _, .cons (k := k) (v := v) h t, e => by
    rw [List.lookup_cons] at e ⊢
    cases q : f == k with
    | true => rw [q] at e; cases e; exact ⟨v, rfl, h⟩
    | false => rw [q] at e; exact t.look e
theorem se_xf {cs : List Str} {f : Str} (hX : ∀ n ∈ cs, XF X.K X.mg n) (ha : SE X W a ea) (hb : attributeBase a f X.env (eval a X.env) = eval a X.env := by rfl) : SE X W (.Attribute a f pos) (eUn (xfD cs f) ea) := by
  refine .of (pe_xfT ha hb) fun F H σ ρ Q h1 h2 => ⟨F, ρ, h1, Post.bind h2 fun d v F1 H1 e1 r1 q1 => ?_⟩
  cases r1 with
  | @exn a n dd vs fs g1 g2 g3 g4 =>
    have q2 : Post X.K X.mg (DR X.K) W F1 H1 σ Q (if n ∈ cs then (match ((fieldsOf n).zip fs).reverse.lookup f with
      | some d => .ok d
      | none => .stuck) else .stuck) := q1
    split at q2
    · rename_i hn
      split at q2
      · rename_i d hd
        obtain ⟨v, hv, rv⟩ := (KVs.zip g4).rev.look hd
        rcases g2 with ⟨g2, _⟩ | ⟨dx, rfl, g2⟩
        · rw [g2] at hd; simp at hd
        · have T := hX n hn
          refine ⟨a, _, dx, _, v, rfl, T.xf, T.fld f ?_, (Sub.of_same e1.fh).rd _ _ g1, (Sub.of_same e1.fh).rd _ _ g2, hv, q2.ok e1.fh rv⟩
          have hm : ∀ {l : List (Str × D)} {x : D}, l.lookup f = some x → f ∈ l.map (·.1) := fun {l x} => by
            induction l with
            | nil => intro h; simp at h
            | cons p l ih =>
              obtain ⟨k, y⟩ := p
              rw [List.lookup_cons]
              cases q : f == k with
              | true => intro _; simp [beq_iff_eq.mp q]
              | false => intro h; exact List.mem_cons_of_mem _ (ih h)
          have := hm hd
          rw [List.map_reverse, List.mem_reverse] at this
          obtain ⟨⟨k, y⟩, hk, rfl⟩ := List.mem_map.mp this
          exact (List.of_mem_zip hk).1
      · exact q2.elim
    · exact q2.elim
  | _ => exact False.elim q1
def isXD (cs : List Str) (x : Str) : D → Out D
  | .exn n _ => if n ∈ cs then .ok (.bl (subX n x)) else .stuck
  | _ => .stuck
theorem isx_key {cs : List Str} {x : Str} {c : V} {cv : Value} {p p2 : Pos} (hX : ∀ n ∈ cs, XF X.K X.mg n) (hp : ∀ n ∈ cs, PySem.W.kitOne X.K (.ref (He.ga X.K n)) cv = some (subX n x)) (hcv : ∀ u, RelV c u → u = cv) (h1 : X.mg "isinstance" = none) (ha : SE X W a ea) (hc : PE X (.Name x p2) (tC c)) (hg : Gl X "isinstance")
    (he : starEach [a, .Name x p2] X.env = (false, eval a X.env) :: starEach [.Name x p2] X.env) (hpl : (backTo pos (starEach [.Name x p2] X.env)).any (·.1) = false) (he2 : starEach [.Name x p2] X.env = (false, eval (.Name x p2) X.env) :: starEach [] X.env) :
    SE X W (.Call (.Name "isinstance" p) [a, .Name x p2] [] pos) (eUn (isXD cs x) ea) := by
  refine .of (pe_callB call_isT hg h1 (by decide +kernel) (pa_cons ha (pa_cons hc pa_nil he2) he) (by decide) (by decide) he hpl) fun F H σ ρ Q h1 h2 => ?_
  refine ⟨F, ρ, h1, Post.bind h2 fun d v F1 H1 e1 r1 q1 => ?_⟩
  cases r1 with
  | @exn a n dd vs fs g1 g2 g3 g4 =>
    have q2 : Post X.K X.mg (DR X.K) W F1 H1 σ Q (if n ∈ cs then .ok (.bl (subX n x)) else .stuck) := q1
    split at q2
    · rename_i hn
      exact ⟨a, _, dd, n, vs, c, cv, _, rfl, (Sub.of_same e1.fh).rd _ _ g1, g2.mono (Sub.of_same e1.fh), (hX n hn).exc, hcv, hp n hn, q2.ok e1.fh (.bl _)⟩
    · exact q2.elim
  | _ => exact False.elim q1
/-- a class of one's own -/
theorem se_isx {cs : List Str} {x : Str} {p p2 : Pos} (hX : ∀ n ∈ cs, XF X.K X.mg n) (hx : X.mg x = some (.ref (He.ga X.K x))) (hp : ∀ n ∈ cs, XP X.K n x) (h1 : X.mg "isinstance" = none) (ha : SE X W a ea) (hg : Gl X "isinstance" := by rfl) (hg2 : Gl X x := by rfl) (hd : (x == ("__debug__" : Str)) = false := by decide)
    (he : starEach [a, .Name x p2] X.env = (false, eval a X.env) :: starEach [.Name x p2] X.env := by rfl) (hpl : (backTo pos (starEach [.Name x p2] X.env)).any (·.1) = false := by rfl)
    (he2 : starEach [.Name x p2] X.env = (false, eval (.Name x p2) X.env) :: starEach [] X.env := by rfl) : SE X W (.Call (.Name "isinstance" p) [a, .Name x p2] [] pos) (eUn (isXD cs x) ea) :=
  isx_key (c := .ref (He.ga X.K x)) (cv := .ref (He.ga X.K x)) hX (fun n hn => (hp n hn).kit) (fun u r => r) h1 ha ⟨fun pins s σ H Q I h => ld_glob I hg2 hx ⟨.ref (He.ga X.K x), H, I, rfl, h⟩ hd⟩ hg he hpl he2
/-- ValueError -/
theorem se_isv {cs : List Str} {x : Str} {p p2 : Pos} (hX : ∀ n ∈ cs, XF X.K X.mg n) (hx : x = "ValueError") (hm : X.mg x = none) (hp : ∀ n ∈ cs, PySem.W.kitOne X.K (.ref (He.ga X.K n)) (.type "ValueError") = some (subX n x)) (h1 : X.mg "isinstance" = none) (ha : SE X W a ea) (hg : Gl X "isinstance" := by rfl) (hg2 : Gl X x := by rfl)
    (hb : bootBuiltins x = some (.type "ValueError") := by decide +kernel) (hn : x ≠ "__name__" := by decide) (hd : (x == ("__debug__" : Str)) = false := by decide)
    (he : starEach [a, .Name x p2] X.env = (false, eval a X.env) :: starEach [.Name x p2] X.env := by rfl) (hpl : (backTo pos (starEach [.Name x p2] X.env)).any (·.1) = false := by rfl)
    (he2 : starEach [.Name x p2] X.env = (false, eval (.Name x p2) X.env) :: starEach [] X.env := by rfl) : SE X W (.Call (.Name "isinstance" p) [a, .Name x p2] [] pos) (eUn (isXD cs x) ea) :=
  isx_key (c := .ty "ValueError") (cv := .type "ValueError") hX hp (fun u r => r) h1 ha (pe_bltn hg2 hm hb rfl hn hd) hg he hpl he2
end
end CW
namespace CW
open PySem PySem.Spec PyProof.Rows L2

/-! ### try -/
def offF : Option Nat → Fl → Fl
  | none, .exc _ _ => .stuck
  | some _, .exc _ _ => .stuck
  | some i, .nx ρ => .nx (ρ.set i none)
  | some i, .bk ρ => .bk (ρ.set i none)
  | some i, .ct ρ => .ct (ρ.set i none)
  | _, o => o
def hdF (cs : List Str) : List (Str × Option Nat × (Env → Fl)) → D → Env → Fl
  | [], x, ρ => .exc x ρ
  | (c, i, h) :: l, x, ρ => match x with
    | .exn n fs => if n ∈ cs then (if subX n c then offF i (h (setO i (.exn n fs) ρ)) else hdF cs l (.exn n fs) ρ) else .stuck
    | _ => .stuck
def fTry (cs : List Str) (b : Env → Fl) (hs : List (Str × Option Nat × (Env → Fl))) : Env → Fl := fun ρ => match b ρ with
  | .exc x ρ' => hdF cs hs x ρ'
  | o => o
theorem Rep.unset {K : PySem.W.Frag} {F0 H0 F H : Hp} {O : List OK} {σ : St} {ρ : Env} (r : Rep K F0 H0 O F H σ ρ) (i : Nat) : Rep K F0 H0 O F H (σ.set i none) (ρ.set i none) := by
  obtain ⟨fp, h1, h2, h3⟩ := r.sl
  refine ⟨r.ext, by rw [List.length_set, List.length_set]; exact r.len, fp, fun j d hj => ?_, h2, h3⟩
  have hji : j ≠ i := fun z => by
    subst z
    by_cases hl : j < ρ.length
    · rw [List.getElem?_set_self hl] at hj; cases hj
    · rw [List.getElem?_eq_none (by rw [List.length_set]; omega)] at hj; cases hj
  rw [List.getElem?_set_ne (Ne.symm hji)] at hj ⊢
  exact h1 j d hj
theorem rep_setOf {K : PySem.W.Frag} {F0 H0 F H : Hp} {σ : St} {ρ : Env} (r : Rep K F0 H0 [] F H σ ρ) {v : V} {d : D} (i : Option Nat) (h : DR K F v d) : Rep K F0 H0 [] F H (setO i v σ) (setO i d ρ) := by
  cases i with
  | none => exact r
  | some i => exact r.set i h
/-- a suite's end -/
theorem PostS.off {K : PySem.W.Frag} {mg : Str → Option Value} {W : WX} {F0 H0 : Hp} {P : OX} {ro : Bool} {T : Ends} {i : Option Nat} {o : Fl} (q : PostS K mg W F0 H0 P ro T (offF i o)) : PostS K mg W0 F0 H0 P ro (endsOff T i) o := by
  cases i with
  | none =>
    cases o with
    | exc x ρ => exact q.elim
    | _ => exact q
  | some i =>
    cases o with
    | exc x ρ => exact q.elim
    | nx ρ => exact fun F H σ r => q F H _ (r.unset i)
    | bk ρ => exact fun F H σ r => q F H _ (r.unset i)
    | ct ρ => exact fun F H σ r => q F H _ (r.unset i)
    | ret d => exact q
    | stuck => exact q
inductive HdS (X : Cx) (cs : List Str) (P : OX) (ro : Bool) : List ExceptHandler → List (Str × Option Nat × (Env → Fl)) → Prop
  | nil : HdS X cs P ro [] []
  | cons {x : Str} {b₀ : Stmt} {suite : List Stmt} {np pos' : Pos} {hds : List ExceptHandler} {l : List (Str × Option Nat × (Env → Fl))} {h : Env → Fl} (hX : X.mg x = some (.ref (He.ga X.K x))) (hp : ∀ n ∈ cs, XP X.K n x)
      (hs : ∀ (a : Addr) (pn : List (Addr × Obj)), SB (suT X a pn) W0 [] P ro (b₀ :: suite) h) (r : HdS X cs P ro hds l) (hg : Gl X x := by rfl) (hdb : (x == ("__debug__" : Str)) = false := by decide) : HdS X cs P ro (.ExceptHandler (some (.Name x np)) none (b₀ :: suite) pos' :: hds) ((x, none, h) :: l)
  | as {x n : Str} (i : Nat) {b₀ : Stmt} {suite : List Stmt} {np pos' : Pos} {hds : List ExceptHandler} {l : List (Str × Option Nat × (Env → Fl))} {h : Env → Fl} (hN : X.N.Nodup) (hX : X.mg x = some (.ref (He.ga X.K x))) (hp : ∀ n ∈ cs, XP X.K n x)
      (hs : ∀ (a : Addr) (pn : List (Addr × Obj)), SB (suT X a pn) W0 [] P ro (b₀ :: suite) h) (r : HdS X cs P ro hds l) (hi : X.N[i]? = some n := by rfl) (hln : X.env.kindOf n = some .local := by rfl) (hg : Gl X x := by rfl) (hdb : (x == ("__debug__" : Str)) = false := by decide) :
      HdS X cs P ro (.ExceptHandler (some (.Name x np)) (some n) (b₀ :: suite) pos' :: hds) ((x, some i, h) :: l)
def tsOf (X : Cx) (P : OX) (ro : Bool) : List (Str × Option Nat × (Env → Fl)) → List (Value × Option Nat × (Addr → Value → Option Addr → TS))
  | [] => []
  | (x, i, h) :: l => (.ref (He.ga X.K x), i, fun _ _ _ => dS X.K X.mg W0 [] P ro h) :: tsOf X P ro l
theorem HdS.hdT {X : Cx} {cs : List Str} {P : OX} {ro : Bool} : ∀ {hds : List ExceptHandler} {l : List (Str × Option Nat × (Env → Fl))}, HdS X cs P ro hds l → HdT X hds (tsOf X P ro l)
  | _, _, .nil => .nil
  | _, _, .cons hX hp hs r hg hdb => .cons ⟨hg, hdb, .inl hX⟩ (fun a _ _ pn => hs a pn) r.hdT
  | _, _, .as i hN hX hp hs r hi hln hg hdb => .as hN hi hln ⟨hg, hdb, .inl hX⟩ (fun a _ _ pn => hs a pn) r.hdT
theorem HdS.wish {X : Cx} {cs : List Str} {P : OX} {ro : Bool} {W : WX} {F0 H0 : Hp} {T : Ends} (hx : leB [] P.ex = true) {x : D} {ρ : Env} {c : Value} {dd : Option Addr} {F H : Hp} {σ : St} (rp : Rep X.K F0 H0 [] F H σ ρ) (ex : ExR X.mg X.K F x c dd) :
    ∀ {hds : List ExceptHandler} {l : List (Str × Option Nat × (Env → Fl))}, HdS X cs P ro hds l → PostS X.K X.mg W F0 H0 P ro T (hdF cs l x ρ) → wT X.K W T (tsOf X P ro l) c dd σ H := by
  have key : ∀ {x' : Str} {i : Option Nat} {h : Env → Fl} {l : List (Str × Option Nat × (Env → Fl))}, (∀ n ∈ cs, XP X.K n x') → (PostS X.K X.mg W F0 H0 P ro T (hdF cs l x ρ) → wT X.K W T (tsOf X P ro l) c dd σ H) →
      PostS X.K X.mg W F0 H0 P ro T (hdF cs ((x', i, h) :: l) x ρ) → wT X.K W T (tsOf X P ro ((x', i, h) :: l)) c dd σ H := by
    intro x' i h l hp ih q
    obtain ⟨n, fs, vs, rfl, rfl, e3, e4, e5⟩ := ex
    have q2 : PostS X.K X.mg W F0 H0 P ro T (if n ∈ cs then (if subX n x' then offF i (h (setO i (.exn n fs) ρ)) else hdF cs l (.exn n fs) ρ) else .stuck) := q
    split at q2
    · rename_i hn
      refine ⟨subX n x', (hp n hn).exm, fun hb a na => ?_, fun hb => ?_⟩
      · rw [if_pos hb] at q2
        have e1 : Ext F H (upd F a (exH (.ref (He.ga X.K n)) dd a)) (upd H a (exH (.ref (He.ga X.K n)) dd a)) := .put rp.same na
        have s1 := Sub.of_same e1.ff
        exact ⟨F0, H0, _, setO i (.exn n fs) ρ, rep_setOf (rp.grow e1) i (.exn (.of upd_same) (e3.mono s1) e4 (e5.mono s1)), q2.off⟩
      · rw [hb] at q2
        exact ih q2
    · exact q2.elim
  intro hds l h
  induction h with
  | nil => exact fun q => PostS.exc q rp hx ex
  | cons hX hp hs r hg hdb ih => exact key hp ih
  | as i hN hX hp hs r hi hln hg hdb ih => exact key hp ih
theorem ss_try {X : Cx} {W : WX} {O : List OK} {P : OX} {ro : Bool} {body : List Stmt} {h₀ : ExceptHandler} {hds : List ExceptHandler} {cs : List Str} {l : List (Str × Option Nat × (Env → Fl))} {b : Env → Fl} {pos : Pos} (tk : Takes X W)
    (hb : ∀ (W' : WX) (pn : List (Addr × Obj)) (xe : Value → Shared → Prop), Takes (X.tr pn xe) W' → PassesOwn (model X.prog X.w) X.A X.env xe → SB (X.tr pn xe) W' O { P with ex := [] } ro body b)
    (hh : HdS X cs P ro (h₀ :: hds) l) (hs : X.stack = X.env :: X.outer := by rfl) (hf : X.env.frame = some X.env.locals := by rfl) (he : X.ex = [] := by rfl) (hx : leB [] P.ex = true := by rfl) : SS X W O P ro (.Try body (h₀ :: hds) [] [] pos) (fTry cs b l) :=
  .of (ps_tryT (tb := fun W' => dS X.K X.mg W' O { P with ex := [] } ro b) hs hf he tk (fun W' pn xe t p => hb W' pn xe t p) hh.hdT) fun F0 H0 F H σ ρ T r q => by
    refine ⟨F0, H0, F, ρ, r, ?_⟩
    unfold fTry at q
    cases e : b ρ with
    | exc x ρ' => rw [e] at q; exact fun c dd F1 H1 σ1 r1 x1 => hh.wish hx r1 x1 q
    | nx ρ' => rw [e] at q; exact q
    | bk ρ' => rw [e] at q; exact q
    | ct ρ' => rw [e] at q; exact q
    | ret d => rw [e] at q; exact q
    | stuck => rw [e] at q; exact q.elim
/-! simp -/
section
variable (ρ r : Env) (a : Env → Out D) (l : Env → Out (List D)) (n c f : Str) (cs : List Str) (fs ds : List D) (b h : Env → Fl) (i : Nat) (hs : List (Str × Option Nat × (Env → Fl)))
@[simp] theorem q_eCallX (h : List D → Out D) : eCallX h l ρ = (l ρ).bind h := (rfl)
@[simp] theorem q_oCallX (h : List D → Out (List D)) : oCallX h l ρ = (l ρ).bind h := (rfl)
@[simp] theorem q_fRaise : fRaise n l ρ = fE (l ρ) ρ fun ds => if ds.length = (fieldsOf n).length then .exc (.exn n ds) ρ else .stuck := (rfl)
def runXO : Fl → Out D
  | .nx _ => .ok .non
  | .ret d => .ok d
  | .exc x _ => .exc x
  | _ => .stuck
def runXL : Fl → Out (List D)
  | .ret (.lst es) => .ok es
  | .exc x _ => .exc x
  | _ => .stuck
@[simp] theorem runXO_nx : runXO (.nx r) = .ok .non := (rfl)
@[simp] theorem runXO_ret (d : D) : runXO (.ret d) = .ok d := (rfl)
@[simp] theorem runXO_exc (d : D) : runXO (.exc d r) = .exc d := (rfl)
@[simp] theorem runXL_ret : runXL (.ret (.lst ds)) = .ok ds := (rfl)
@[simp] theorem runXL_exc (d : D) : runXL (.exc d r) = .exc d := (rfl)
@[simp] theorem q_runFX (n p : Nat) (den : Env → Fl) (ds : List D) : runFX n p den ds = if ds.length = p then runXO (den (ds.map some ++ List.replicate (n - p) none)) else .stuck := by
  unfold runFX runXO
  rfl
@[simp] theorem q_runLX (n p : Nat) (den : Env → Fl) (ds : List D) : runLX n p den ds = if ds.length = p then runXL (den (ds.map some ++ List.replicate (n - p) none)) else .stuck := by
  unfold runLX runXL
  rfl
def tryF (cs : List Str) (hs : List (Str × Option Nat × (Env → Fl))) : Fl → Fl
  | .exc x ρ' => hdF cs hs x ρ'
  | o => o
@[simp] theorem q_fTry : fTry cs b hs ρ = tryF cs hs (b ρ) := (rfl)
@[simp] theorem tryF_nx : tryF cs hs (.nx r) = .nx r := (rfl)
@[simp] theorem tryF_ret (d : D) : tryF cs hs (.ret d) = .ret d := (rfl)
@[simp] theorem tryF_exc : tryF cs hs (.exc (.exn n fs) r) = hdF cs hs (.exn n fs) r := (rfl)
@[simp] theorem hdF_nil (x : D) : hdF cs [] x ρ = .exc x ρ := (rfl)
@[simp] theorem hdF_none : hdF cs ((c, none, h) :: hs) (.exn n fs) ρ = if n ∈ cs then (if subX n c then offF none (h ρ) else hdF cs hs (.exn n fs) ρ) else .stuck := (rfl)
@[simp] theorem hdF_some : hdF cs ((c, some i, h) :: hs) (.exn n fs) ρ = if n ∈ cs then (if subX n c then offF (some i) (h (ρ.set i (some (.exn n fs)))) else hdF cs hs (.exn n fs) ρ) else .stuck := (rfl)
@[simp] theorem offF_none (o : Env) : offF none (.nx o) = .nx o := (rfl)
@[simp] theorem offF_noneR (d : D) : offF none (.ret d) = .ret d := (rfl)
@[simp] theorem offF_some : offF (some i) (.nx r) = .nx (r.set i none) := (rfl)
@[simp] theorem offF_someR (d : D) : offF (some i) (.ret d) = .ret d := (rfl)
@[simp] theorem isXD_exn : isXD cs c (.exn n fs) = if n ∈ cs then .ok (.bl (subX n c)) else .stuck := (rfl)
@[simp] theorem isNon_exn : isNon (.exn n fs) = false := (rfl)
@[simp] theorem tryF_stuck : tryF cs hs .stuck = .stuck := (rfl)
end
end CW
/-! the __init__ of a class of exceptions; the head's facts -/
namespace CW
open PySem PySem.Spec PyProof.Rows L2

/-- self.f = f, for the fields of r, which stand in the slots from i on -/
def iniS (K : PySem.W.Frag) : Nat → List Str → TS
  | _, [] => tNext
  | i, f :: r => tSeq (tOst K f (tVar 0) (tVar i)) (iniS K (i + 1) r)
abbrev iniT (K : PySem.W.Frag) (z : Str) (r : List Str) : TS := tSeq (tDrop (tVeI K (tCons (tVar 0) (tCons (tC (.str z)) tNil)))) (iniS K 1 r)
theorem upd3 {H : Hp} {a d : Addr} {o u v : HO} (h : d ≠ a) : upd (upd (upd H d o) a u) d v = upd (upd H d v) a u := by
  funext b
  by_cases hb : b = d
  · subst hb; rw [upd_same, upd_ne h, upd_same]
  · rw [upd_ne hb]
    by_cases ha : b = a
    · subst ha; rw [upd_same, upd_same]
    · rw [upd_ne ha, upd_ne ha, upd_ne hb, upd_ne hb]
section
variable {K : PySem.W.Frag} {C a : Addr} {σ : St} {D : Ends}
theorem iniS_ok {dx : Addr} {H0 : Hp} (T : OexC K C) (na : dx ≠ a) (h0 : σ[0]? = some (some (.ref a))) : ∀ (r : List Str) (ws : List V) (i : Nat) (fs : List (Str × V)), ws.length = r.length → (∀ f ∈ r, PySem.W.findIn K (.ref C) f = some none) →
    (∀ (j : Nat) (w : V), ws[j]? = some w → σ[i + j]? = some (some w)) → fs.length + r.length ≤ 900 → D.nx σ (upd (upd H0 dx (exd dx ((r.zip ws).reverse ++ fs))) a (exo a C (some dx))) → iniS K i r D σ (upd (upd H0 dx (exd dx fs)) a (exo a C (some dx)))
  | [], ws, i, fs, hl, hf, hw, hz, q => by
    have q2 : D.nx σ (upd (upd H0 dx (exd dx fs)) a (exo a C (some dx))) := by simpa using q
    exact q2
  | f :: r, [], i, fs, hl, hf, hw, hz, q => by simp at hl
  | f :: r, w :: ws, i, fs, hl, hf, hw, hz, q => by
    have e1 : σ[i]? = some (some w) := hw 0 w rfl
    refine ⟨w, e1, .ref a, h0, a, C, rfl, T, hf f List.mem_cons_self, .inr ⟨dx, fs, upd_same, by rw [upd_ne na]; exact upd_same, by simp at hz; omega, ?_⟩⟩
    rw [upd3 na]
    refine iniS_ok T na h0 r ws (i + 1) ((f, w) :: fs) (by simpa using hl) (fun g hg => hf g (List.mem_cons_of_mem _ hg)) (fun j v hj => ?_) (by simp at hz ⊢; omega) (by simpa using q)
    have := hw (j + 1) v (by simpa using hj)
    rw [show i + 1 + j = i + (j + 1) from by omega]
    exact this
theorem iniT_ok {H : Hp} {z : Str} {r : List Str} {ws : List V} (T : OexC K C) (h0 : σ[0]? = some (some (.ref a))) (he : H a = some (exo a C none)) (hr : r ≠ []) (hl : ws.length = r.length) (hf : ∀ f ∈ r, PySem.W.findIn K (.ref C) f = some none)
    (hw : ∀ (j : Nat) (w : V), ws[j]? = some w → σ[1 + j]? = some (some w)) (hz : r.length ≤ 800) (q : ∀ d, H d = none → d ≠ a → D.nx σ (upd (upd H d (exd d (r.zip ws).reverse)) a (exo a C (some d)))) : iniT K z r D σ H := by
  refine ⟨.ref a, h0, a, C, [.str z], rfl, by simp, T, he, ?_⟩
  cases r with
  | nil => exact absurd rfl hr
  | cons f r =>
    cases ws with
    | nil => simp at hl
    | cons w ws =>
      refine ⟨w, hw 0 w rfl, .ref a, h0, a, C, rfl, T, hf f List.mem_cons_self, .inl ⟨he, fun d hd na => ?_⟩⟩
      refine iniS_ok T na h0 r ws 2 [(f, w)] (by simpa using hl) (fun g hg => hf g (List.mem_cons_of_mem _ hg)) (fun j v hj => ?_) (by simp at hz ⊢; omega) (by simpa using q d hd na)
      have := hw (j + 1) v (by simpa using hj)
      rw [show 2 + j = 1 + (j + 1) from by omega]
      exact this
end
theorem fun_ofI {K : PySem.W.Frag} {x q : Str} {st : Stmt} {f : Addr} {fd : FuncData} (F : FunD K x q (defArgs st) (defBody st) (defScope st) [] [] f fd) : Fun K x q st f fd := by
  obtain ⟨oc, od, dV, kV, doc, pm, an, cdv, ct, osl, e, lk, hcd, hD, _⟩ := F.ex
  rcases hD with ⟨_, rfl⟩ | ⟨q, _⟩
  · exact ⟨⟨oc, od, kV, doc, pm, an, cdv, ct, osl, e, lk, hcd⟩, F.kp⟩
  · exact absurd rfl q
/-- where the __init__ of n stands in the text -/
structure InitAt (K : PySem.W.Frag) (mg : Str → Option Value) (n q : Str) (st : Stmt) : Prop where
  ex : ∃ fI fd, PySem.W.findIn K (.ref (He.ga K n)) "__init__" = some (some (.ref fI)) ∧ PySem.W.typeIn K (.ref fI) = some (.type "function") ∧ Fun K "__init__" q st fI fd ∧ Binds K fd ("self" :: fieldsOf n) []
  xf : XF K mg n
theorem xi_of {P : Program} {w : World} {K : PySem.W.Frag} {mg : Str → Option Value} {base : Heap} {n q z : Str} {st : Stmt} (I : InitAt K mg n q st) (S : FnScope ("self" :: fieldsOf n) ("self" :: fieldsOf n) (defScope st)) (hr : fieldsOf n ≠ [])
    (body : ∀ (f : Addr) (cdv : Value) (A : Around) (outer : List PySem.Env) (s : Shared) (H : Hp) (E : XK), PSs (cxOf CX0 P w K mg base ("self" :: fieldsOf n) q (defScope st) f cdv A outer s H E).nox (defBody st) (iniT K z (fieldsOf n))) : XI P w K mg base n := by
  obtain ⟨fI, fd, i1, i2, F, hb⟩ := I.ex
  refine ⟨fI, fd, _, i1, i2, F.ok S (fun vs H Q E h => ?_) (fun cdv A outer s H vs Q E hr' h => ⟨_, body _ cdv A outer s H E, ?_⟩), hb⟩
  · obtain ⟨a, ws, rfl, hl, _⟩ := h
    simp [hl]
  · obtain ⟨a, ws, rfl, hl, he, hq⟩ := h
    have hs : L2.start ("self" :: fieldsOf n) (.ref a :: ws) = some (.ref a) :: ws.map some := by
      unfold L2.start
      simp [hl]
    rw [hs]
    refine iniT_ok I.xf.oex rfl he hr hl I.xf.fld (fun j v hj => ?_) (by have := flen n; omega) hq
    rw [show 1 + j = j + 1 from by omega, List.getElem?_cons_succ, List.getElem?_map, hj]
    rfl
/-! ### the head's facts -/
def initB (K : PySem.W.Frag) (n : Str) : Bool := He.eqO (PySem.W.findIn K (.ref (He.ga K n)) "__init__") (some (some (.ref (He.ma K (He.ga K n) "__init__")))) && decide (PySem.W.typeIn K (.ref (He.ma K (He.ga K n) "__init__")) = some (.type "function"))
theorem init_at {K : PySem.W.Frag} {mg : Str → Option Value} {n q : Str} {st : Stmt} (xf : XF K mg n) (b : initB K n = true) (c : ∃ fd, FunD K "__init__" q (defArgs st) (defBody st) (defScope st) [] [] (He.ma K (He.ga K n) "__init__") fd)
    (h : ∀ (kV doc pm : Value) (an : Option Addr) (cdv ct : Value) (us : List Value), us.length = (("self" : Str) :: fieldsOf n).length → bindArgs (PySem.W.fnOf "__init__" q (defArgs st) (defBody st) (defScope st) .none kV doc pm an cdv ct) ⟨us, []⟩ = pure ((("self" : Str) :: fieldsOf n).zip us)) : InitAt K mg n q st := by
  obtain ⟨fd, F⟩ := c
  unfold initB at b
  simp only [Bool.and_eq_true, decide_eq_true_eq] at b
  exact ⟨⟨_, fd, He.eqO_ok b.1, b.2, fun_ofI F, (fun_ofI F).binds h⟩, xf⟩
def exc0B (K : PySem.W.Frag) (n : Str) : Bool := PySem.W.excIn K (He.ga K n) He.veBase "ValueError.__new__"
def veB (K : PySem.W.Frag) (n x : Str) : Bool := decide (PySem.W.kitOne K (.ref (He.ga K n)) (.type "ValueError") = some (subX n x))
theorem veB_ok {K : PySem.W.Frag} {n x : Str} (h : veB K n x = true) : PySem.W.kitOne K (.ref (He.ga K n)) (.type "ValueError") = some (subX n x) := of_decide_eq_true h
/-- the head's facts, with more -/
abbrev AlY : Type := Bool × He.AlD
def obsY (fa : List He.Fa) (fn : List He.DefD) (ex : List (PySem.W.Frag → Bool)) (K : PySem.W.Frag) : AlY := (ex.all (fun f => f K), He.obsD fa fn K)
def valY (fn : List He.DefD) : AlY := (true, He.valD fn)
def SaysY (fa : List He.Fa) (fn : List He.DefD) (ex : List (PySem.W.Frag → Bool)) (K : PySem.W.Frag) : Prop := obsY fa fn ex K = valY fn
def asY (g : Addr → Option Obj) : Nat → List Addr
  | 0 => [mainGlobals, cStatics]
  | n + 1 => He.growD g (asY g n)
def obsYG (n : Nat) (fa : List He.Fa) (fn : List He.DefD) (ex : List (PySem.W.Frag → Bool)) (g : Addr → Option Obj) : AlY := obsY fa fn ex (He.frG g (asY g n))
def hookY (n : Nat) (fa : List He.Fa) (fn : List He.DefD) (ex : List (PySem.W.Frag → Bool)) : PySem.W.Hook where
  α := AlY
  obs := fun s => obsYG n fa fn ex s.heap.get?
  val := fun _ => valY fn
  says := fun _ h => ∃ K : PySem.W.Frag, K.In h ∧ SaysY fa fn ex K
  of := fun _ _ e => ⟨_, He.frG_in, e⟩
  keeps := fun _ _ _ ⟨K, hK, c⟩ k => ⟨K, PySem.W.Frag.In.keeps hK k, c⟩
theorem obsYG_eq {n : Nat} {fa : List He.Fa} {fn : List He.DefD} {ex : List (PySem.W.Frag → Bool)} {g : Addr → Option Obj} {s : Shared} (h : ∀ a, g a = s.heap.get? a) : obsYG n fa fn ex g = (hookY n fa fn ex).obs s := by
  have e : g = s.heap.get? := funext h
  rw [e] <;> rfl
theorem SaysY.d {fa : List He.Fa} {fn : List He.DefD} {ex : List (PySem.W.Frag → Bool)} {K : PySem.W.Frag} (c : SaysY fa fn ex K) : He.SaysD fa fn K := congrArg Prod.snd c
theorem SaysY.ex {fa : List He.Fa} {fn : List He.DefD} {ex : List (PySem.W.Frag → Bool)} {K : PySem.W.Frag} (c : SaysY fa fn ex K) (i : Nat) {f : PySem.W.Frag → Bool} (h : ex[i]? = some f := by rfl) : f K = true := by
  have c1 : ex.all (fun f => f K) = true := congrArg Prod.fst c
  exact List.all_eq_true.mp c1 f (List.mem_of_getElem? h)
end CW
/-! more of lists -/
namespace CW
open PySem PySem.Spec PyProof.Rows L2

section
variable {X : Cx} {W : WX} {a b : Expr} {ea eb : Env → Out D} {pos : Pos}
/-! ### x.count(y), flat items -/
def rCntF (K : PySem.W.Frag) : V → List V → Hp → VK → Prop := fun x xs H Q => ∃ (p : Addr) (ys : List V) (y : V), x = V.ref p ∧ xs = [y] ∧ SqL K H p ys ∧ flatV y = true ∧ ys.all flatV = true ∧ Q (.int (ys.countP (fun z => eqV z y) : Nat)) H
theorem countU {y : V} : ∀ {ys : List V} {us : List Value}, Vals ys us → ys.all flatV = true → us.countP (eqU y) = ys.countP fun z => eqV z y
  | _, _, .nil, _ => rfl
  | _, _, .cons r t, f => by
    rw [List.all_cons, Bool.and_eq_true] at f
    rw [List.countP_cons, List.countP_cons, countU t f.2, eqU_of r f.1]
theorem mt_countF : MtR X "list.count" (rCntF X.K) := by
  intro pins s σ H x xs v us Q I rx rxs h
  obtain ⟨p, ys, y, rfl, rfl, hs, fy, fys, q⟩ := h
  cases rx
  cases rxs with
  | cons ry rt =>
    rename_i uy ut
    cases rt
    obtain ⟨its, rv, ⟨⟨cls, dd, data, sl⟩, n, ho, hc, hdn, hd⟩, hlen⟩ := I.list hs
    simp only at hc hd
    subst hc hd
    refine call_meets PySem.F.slot_list_count ⟨_, ho, rfl⟩ PySem.F.entry_list_count (PySem.F.args_list_count_2 _ _)
      (SeqAt.list_countAt p its.toArray n dd sl uy (eqU y)) ⟨ho, fun u' hu' => mem_eqAt ry fy rv fys u' (by simpa using hu'), ?_⟩
    have ec : its.toArray.toList.countP (eqU y) = ys.countP fun z => eqV z y := countU rv fys
    refine ⟨.int (ys.countP (fun z => eqV z y) : Nat), H, I.tok _, ⟨s.toks, ?_⟩, q⟩
    show Value.int ((its.toArray.toList.countP (eqU y) : Nat) : Int) s.toks = Value.int ((ys.countP (fun z => eqV z y) : Nat) : Int) s.toks
    rw [ec]
def cntD (y : D) (ds : List D) : Nat := ds.countP fun d => eqD d y
def mCount : D → D → Out D
  | .lst ds, y => if flatD y && ds.all flatD then .ok (.int (cntD y ds : Nat)) else .stuck
  | _, _ => .stuck
theorem cnt_DR {F : Hp} {y : V} {dy : D} (ry : DR X.K F y dy) (fy : flatD dy = true) : ∀ {vs : List V} {ds : List D}, DRs X.K F vs ds → ds.all flatD = true → (vs.countP fun z => eqV z y) = cntD dy ds
  | _, _, .nil, _ => rfl
  | _, _, .cons r t, f => by
    rw [List.all_cons, Bool.and_eq_true] at f
    unfold cntD
    rw [List.countP_cons, List.countP_cons, cnt_DR ry fy t f.2, eqV_of r ry f.1 fy]
    rfl
theorem se_count {apos : Pos} (ha : SE X W a ea) (hb : SE X W b eb)
    (hbase : attributeBase a "count" X.env (eval a X.env) = eval a X.env := by rfl)
    (hfew : ((backTo pos (starEach [b] X.env)).all (fun x => !x.1) && (backToKw pos (keywordEach [] X.env)).all (fun x => x.1.isSome)
      && decide (([b] : List Expr).length + ([] : List Keyword).length + (if ([] : List Keyword).isEmpty then 0 else 1) < 30)) = true := by rfl)
    (hline : (apos.endLine == pos.line) = true := by rfl) (hs : starEach [b] X.env = (false, eval b X.env) :: starEach [] X.env := by rfl) (hplain : (backTo pos (starEach [] X.env)).any (·.1) = false := by rfl) :
    SE X W (.Call (.Attribute a "count" apos) [b] [] pos) (eM isLstD mCount ea eb) :=
  .of (pe_bm PySem.F.plainAttrs_list PySem.F.slot_list_count PySem.F.type_list_count mt_countF ha (pa_cons hb pa_nil hs) hbase hfew hline hs hplain) fun F H σ ρ Q h1 h2 => ⟨F, ρ, h1, Post.bind h2 fun d v F1 H1 e1 r1 q1 => by
    cases r1 with
    | @lst p vs ds g1 g2 =>
      refine ⟨.inl ⟨rfl, vs, .inl (rd_of e1.fh g1)⟩, F1, ρ, h1.ext e1, Post.bind q1 fun d2 v2 F2 H2 e2 r2 q2 => ?_⟩
      have q3 : Post X.K X.mg (DR X.K) W F2 H2 σ Q (if flatD d2 && ds.all flatD then .ok (.int (cntD d2 ds : Nat)) else .stuck) := q2
      split at q3
      · rename_i hf
        rw [Bool.and_eq_true] at hf
        have g2' := g2.mono (Sub.of_same e2.ff)
        refine ⟨p, vs, v2, rfl, rfl, .inl (rd_of e2.fh (rd_of e2.ff g1)), flat_of r2 hf.1, all_flat g2' hf.2, ?_⟩
        rw [cnt_DR r2 hf.1 g2' hf.2]
        exact q3.ok e2.fh (.int _)
      · exact q3.elim
    | _ => exact False.elim q1⟩
@[simp] theorem mCount_lst (ds : List D) (y : D) : mCount (.lst ds) y = if flatD y && ds.all flatD then .ok (.int (cntD y ds : Nat)) else .stuck := (rfl)
end
/-! the classes' fields -/
@[simp] theorem fo_NoText : fieldsOf "NoText" = (["line"] : List Str) := by decide +kernel
@[simp] theorem fo_Broken : fieldsOf "Broken" = (["way"] : List Str) := by decide +kernel
@[simp] theorem fo_Crowded : fieldsOf "Crowded" = (["way"] : List Str) := by decide +kernel
@[simp] theorem fo_CalledOff : fieldsOf "CalledOff" = (["way", "lost", "by"] : List Str) := by decide +kernel
@[simp] theorem fo_Clash : fieldsOf "Clash" = (["one", "other", "wire"] : List Str) := by decide +kernel
@[simp] theorem fo_TooMany : fieldsOf "TooMany" = ([] : List Str) := by decide +kernel
@[simp] theorem fo_NoMove : fieldsOf "NoMove" = ([] : List Str) := by decide +kernel
@[simp] theorem fo_NoPlace : fieldsOf "NoPlace" = ([] : List Str) := by decide +kernel
end CW
/-! list(reversed(range(n))), sorted(set(xs)) -/
namespace CW
open PySem PySem.Spec PyProof.Rows L2
open Sem (wp)
open AutoSeq1 (wpAny_loadPart')
section
variable {P : Program} {w : World} {A : Around} {E : Value → Shared → Prop} {sv : Shared}
set_option maxHeartbeats 4000000 in
theorem call_set_lstI {l : Addr} {itz : Array Value} (ns : List Int) {Q : Value → Shared → Prop} (hh : A.handled = none) (hl : sv.heap.IsList l itz) (hit : IntsAre itz.toList ns) (hb : ns.length + 1 < scanBound)
    (h : ∀ (hq : Heap) (tk c : Nat), SetR w hq sv.heap.objs.size (fun j => decide (j ∈ ns)) c → c ≤ ns.length → (∀ b o, sv.heap.get? b = some o → hq.get? b = some o) → Q (.ref sv.heap.objs.size) { sv with heap := hq, toks := tk }) :
    wpAny (model P w) A (call (.type "set") [.ref l]) Q E sv := by
  have gz : itz.size = ns.length := by
    have q := IntsAre.length hit
    rw [Array.length_toList] at q
    exact q
  obtain ⟨c, tl, gmr⟩ := F.called_set.mro
  have gma := F.called_set.made
  have gsu := F.called_set.sub
  (refine wpAny_call (codeAny_of_tree ?_))
  (show wpAny _ _ (callAny (.type "set") _) _ _ _)
  (refine wpAny_pure ⟨Code.quiet_builtin _ (by decide +kernel), codeAny_builtin F.entry_type_call ?_⟩)
  (rw [Around.under_plain (weight_type_call_type "set" [.ref l] []) rfl])
  have g1e := F.called_set.notType
  have g2e := F.called_set.canCreate
  have gct := F.typeCall_set_1 (.ref l)
  repeat any_goals (first | assumption | wp_step)
  refine codeAny_mono (code_set_led1 (.ref l) (E := E) (Q₁ := fun ob s₁ => ob = .ref sv.heap.objs.size ∧ s₁ = { sv with heap := sv.heap.push { cls := .type "set", dict := none, data := .set #[] 0 (SetTable.fresh 0 0 (!w.params.followText "set-order")) } }) ⟨rfl, rfl⟩) fun r s₁ hr => ?_
  cases r with
  | error e => exact hr
  | ok fl =>
    cases fl with
    | ret ob =>
      obtain ⟨rfl, rfl⟩ := hr
      have gS : (sv.heap.push { cls := .type "set", dict := none, data := .set #[] 0 (SetTable.fresh 0 0 (!w.params.followText "set-order")) }).get? sv.heap.objs.size = some { cls := .type "set", dict := none, data := .set #[] 0 (SetTable.fresh 0 0 (!w.params.followText "set-order")) } := Heap.get?_push_size _ rfl
      have gT : Shared.TypeIs { sv with heap := sv.heap.push { cls := .type "set", dict := none, data := .set #[] 0 (SetTable.fresh 0 0 (!w.params.followText "set-order")) } } (.ref sv.heap.objs.size) "set" := ⟨_, gS, rfl⟩
      have gli := F.called_set.init.lookup
      have gbi := F.called_set.init.bind (.ref sv.heap.objs.size)
      repeat any_goals (first | assumption | wp_step)
      refine codeAny_mono (codeAny_call_builtin (R := wants (fun r s₂ => r = .none ∧ ∃ hq tk c, s₂ = { sv with heap := hq, toks := tk } ∧ SetR w hq sv.heap.objs.size (fun j => decide (j ∈ ns)) c ∧ c ≤ ns.length ∧
          (∀ b o, sv.heap.get? b = some o → hq.get? b = some o)) E) F.called_set.init.plain F.entry_set_init (check_set_init_1 gT ?_)) fun r₂ s₂ hr₂ => ?_
      · obtain ⟨oz, gol, gcl, nl, gdl⟩ := hl
        obtain ⟨ocz, odict, odata, oslots⟩ := oz
        simp only at gcl gdl
        subst gcl; subst gdl
        have hol' : (sv.heap.push { cls := .type "set", dict := none, data := .set #[] 0 (SetTable.fresh 0 0 (!w.params.followText "set-order")) }).get? l = some { cls := .type "list", dict := odict, data := .seq itz nl, slots := oslots } := Heap.get?_push_of_some _ gol
        have gsl := F.sub_list_set
        have gsf := F.sub_list_frozenset
        have gne : (Value.type "list" == Value.type "dict") = false := by decide
        have hl1 : (sv.heap.push { cls := .type "set", dict := none, data := .set #[] 0 (SetTable.fresh 0 0 (!w.params.followText "set-order")) }).IsList l itz := ⟨_, hol', rfl, nl, rfl⟩
        unfold Builtin.«set.__init__»
        unfold noKeywords
        unfold Builtin.Frozenset.updateFrom
        generalize hPI : pyIter = PI
        wp_walk
        subst hPI
        (refine wpAny_pyIter_list hl1 ?_)
        (refine wpAny_bind (wpAny_runValue ?_))
        have glS : l < sv.heap.objs.size := Heap.lt_size gol
        have hh3 : A.in1.in1.in1.handled = (none) := by simp [hh]
        have hz1 : (sv.heap.push { cls := .type "set", dict := none, data := .set #[] 0 (SetTable.fresh 0 0 (!w.params.followText "set-order")) }).objs.size = sv.heap.objs.size + 1 := Heap.size_push ..
        have hneI : l ≠ (sv.heap.push { cls := .type "set", dict := none, data := .set #[] 0 (SetTable.fresh 0 0 (!w.params.followText "set-order")) }).objs.size := by
          rw [Heap.size_push]; exact Nat.ne_of_lt (Nat.lt_succ_of_lt glS)
        have hSf : sv.heap.objs.size ∉ [(sv.heap.push { cls := .type "set", dict := none, data := .set #[] 0 (SetTable.fresh 0 0 (!w.params.followText "set-order")) }).objs.size, l] := by
          (rw [Heap.size_push]; simp only [List.mem_cons, List.mem_singleton, List.not_mem_nil, or_false, not_or])
          exact ⟨Nat.ne_of_lt (Nat.lt_succ_self _), Nat.ne_of_gt glS⟩
        have hval : ∀ (i : Nat) (v : Value), itz[i]? = some v → ∃ k t, ns[i]? = some k ∧ v = .int k t := fun i v hv => by
          have gi : i < ns.length := by rw [← gz]; exact (Array.getElem?_eq_some_iff.mp hv).1
          (obtain ⟨t, e⟩ := PyProof.Rows.IntsAre.int_at hit i v (by rw [Array.getElem?_toList]; exact hv))
          refine ⟨ns[i], t, List.getElem?_eq_getElem gi, ?_⟩
          rw [e, List.getD_eq_getElem?_getD, List.getElem?_eq_getElem gi] <;> rfl
        refine set_update_ints ((Walks.list hh3 _ l hneI itz).toS) sv.heap.objs.size
          hSf ns gz hb hval (itz.size - 0) 0 _ (by omega) (Nat.zero_le _)
          (⟨⟨_, Heap.get?_push_size _ rfl, rfl, rfl⟩, (hl1.push _)⟩) ?hS0 ?hR
        case hS0 =>
          have hget : ((sv.heap.push { cls := .type "set", dict := none, data := .set #[] 0 (SetTable.fresh 0 0 (!w.params.followText "set-order")) }).push { cls := .type "list_iterator", data := .fields #[.ref l, .int 0 0] }).get? sv.heap.objs.size
              = some { cls := .type "set", dict := none, data := .set #[] 0 (SetTable.fresh 0 0 (!w.params.followText "set-order")) } := Heap.get?_push_of_some _ gS
          (exact ⟨0, Nat.le_refl 0, setR_new_at hget⟩)
        case hR =>
          intro s' c' gm hc' hS'
          obtain ⟨hq, g2, d', tkq, os'⟩ := s'
          have egz : g2 = sv.gens := gm.gens
          have edz : d' = sv.drawn := gm.drawn
          have eoz : os' = sv.os := gm.os
          subst egz; subst edz; subst eoz
          show wpAny _ _ _ _ _ _
          refine wpAny_pure ?_
          (show wpAny _ _ (ret Value.none) _ _ _)
          rw [gz] at hc'
          refine wpAny_pure ⟨rfl, hq, tkq, c', rfl, hS', hc', fun b o e => ?_⟩
          have gb0 : b < sv.heap.objs.size := Heap.lt_size e
          have gb1 : b ≠ sv.heap.objs.size := Nat.ne_of_lt gb0
          have gb2 : b ≠ (sv.heap.push { cls := .type "set", dict := none, data := .set #[] 0 (SetTable.fresh 0 0 (!w.params.followText "set-order")) }).objs.size := by
            rw [Heap.size_push]; exact Nat.ne_of_lt (Nat.lt_succ_of_lt gb0)
          exact gm.heap b o (by simp only [List.mem_cons, List.mem_singleton, List.not_mem_nil, or_false, not_or]; exact ⟨gb1, gb2⟩) (Heap.get?_push_of_some _ (Heap.get?_push_of_some _ e))
      · cases r₂ with
        | error e => exact hr₂
        | ok fl₂ =>
          cases fl₂ with
          | ret r =>
            obtain ⟨rfl, hq, tk, c', rfl, hS', hc', hk'⟩ := hr₂
            repeat any_goals (first | assumption | wp_step)
            exact h _ _ _ hS' hc' hk'
          | _ => exact hr₂.elim
    | _ => exact hr.elim
/-! ### the list of a range's iterator -/
set_option maxHeartbeats 4000000 in
theorem call_rit_hint {it : Addr} {x left st : Int} {Q : Value → Shared → Prop} (hit : IsRangeIter sv.heap it x left st) (h : Q (.int left sv.toks) { sv with toks := sv.toks + 1 }) :
    wpAny (model P w) A (call (.builtin "range_iterator.__length_hint__") [.ref it]) Q E sv := by
  have hT : sv.TypeIs (.ref it) "range_iterator" := ⟨_, hit, rfl⟩
  refine wpAny_call_entry F.slot_range_iterator_length_hint hT F.entry_range_iterator_length_hint ?_ (F.args_range_iterator_length_hint_1 _)
  obtain ⟨hp, g, d, tk, os⟩ := sv
  wp_walk using wpAny_loadPart' hit
  exact ⟨_, rfl, h⟩
set_option maxHeartbeats 4000000 in
theorem list_init_rit {R : Result → Shared → Prop} {it : Addr} {a c : Int} {n : Nat} (hh : A.handled = none) (hit : IsRangeIter sv.heap it (a + ((0 : Nat) : Int) * c) ((n : Int) - ((0 : Nat) : Int)) c) (hlen : n ≤ 2 ^ 24) (S : Addr)
    (hS : sv.heap.get? S = some { cls := .type "list", data := .seq #[] }) (hR : ∀ hq tk acc cq, (∀ b o, b ≠ S → b ≠ it → sv.heap.get? b = some o → hq.get? b = some o) → hq.get? S = some { cls := .type "list", dict := none, data := .seq acc cq, slots := #[] } →
      ItemsOf (fun i v => ∃ t, v = .int (a + i * c) t) acc n → R (.ok (.ret .none)) { sv with heap := hq, toks := tk }) :
    wpAny (model P w) A.in1 (Builtin.«list.__init__» ⟨[.ref S, .ref it], []⟩)
      (fun fin sq => match fin with | .done f => R (.ok f) sq | .again k => k.quiet = true ∧ codeAny (model P w) A k R sq) (fun e sq => R (.error e) sq) sv := by
  have hSr : S ≠ it := fun e => by rw [e, hit] at hS; simp at hS
  have hSf : S ∉ [it] := fun hm => hSr (List.mem_singleton.mp hm)
  have W := (Walks.range (prog := P) (w := w) (A := A.in1) hh it a c n).toS
  show wpAny _ _ (Builtin.List.listItems (.ref S) >>= fun old => Builtin.List.listUpdate (.ref S) (fun _ => #[]) >>= fun _ => letGo old.toList.reverse >>= fun _ => Builtin.List.listExtendWith (.ref S) (.ref it) .none) _ _ sv
  refine wpAny_bind ?_
  unfold Builtin.List.listItems
  refine wpAny_bind (wpAny_seqItems hS rfl (wpAny_pure ?_))
  refine wpAny_bind (m := updateSeq S (fun _ => #[])) (wpAny_updateSeq hS rfl ?_)
  have hS2 := Heap.get?_update_self (Obj.mapSeq (fun _ => (#[] : Array Value))) hS rfl
  have oth : ∀ b o, b ≠ S → sv.heap.get? b = some o → (sv.heap.update S (Obj.mapSeq (fun _ => (#[] : Array Value)))).get? b = some o :=
    fun b o hb e => (Heap.get?_update_other _ _ (Ne.symm hb)).trans e
  refine wpAny_bind (m := letGo (#[] : Array Value).toList.reverse) (wpAny_letGo ?_)
  have hit2 : IsRangeIter (sv.heap.update S (Obj.mapSeq (fun _ => (#[] : Array Value)))) it (a + ((0 : Nat) : Int) * c) ((n : Int) - ((0 : Nat) : Int)) c := oth it _ (Ne.symm hSr) hit
  have g1 : Builtin.List.listSameRef (.ref S) (.ref it) = false := by simp [Builtin.List.listSameRef, hSr]
  unfold Builtin.List.listExtendWith
  refine wpAny_bind (wpAny_typeOf (T := "range_iterator") ⟨_, hit2, rfl⟩ ?_)
  rw [if_neg (by rw [g1]; decide)]
  refine wpAny_bind (W.self 0 _ _ _ hit2 ?_)
  refine wpAny_bind (wpAny_holding ?_)
  unfold Builtin.List.listLengthHint
  refine wpAny_bind (wpAny_specialOf ⟨_, hit2, rfl⟩ F.nolen_ra ?_)
  show wpAny _ A.in1 (specialOf (Value.ref it) (Str.ofString "__length_hint__") >>= _) _ _ _
  refine wpAny_bind (wpAny_specialOf ⟨_, hit2, rfl⟩ F.hint_ra ?_)
  (generalize hid : ("range_iterator.__length_hint__" : String) = id0; (fail_if_success (clear hid id0)); wp_delta; rw [show splitId id0 = some ("range_iterator", "__length_hint__") from by subst hid; decide +kernel]; subst hid)
  refine wpAny_bind (wpAny_isInstance (T := "range_iterator") (b := true) ⟨_, hit2, rfl⟩ (by rw [isSubtype_type]; kernel_rfl) ?_)
  show wpAny _ A.in1 (call (.builtin "range_iterator.__length_hint__") [.ref it] >>= _) _ _ _
  refine wpAny_bind (call_rit_hint hit2 ?_)
  refine wpAny_bind (m := asInt? (.int _ _)) (wpAny_pure ?_)
  dsimp only
  have htl : Builtin.List.listTooLong ((n : Int) - ((0 : Nat) : Int)).toNat = false := by
    simp [Builtin.List.listTooLong, sizeLine]; omega
  rw [if_neg (by rw [htl]; decide)]
  refine wpAny_pure ?_
  rw [if_neg (by decide)]
  refine wpAny_pure ⟨plainId_quiet F.plain_extend_loop _, codeAny_extend_loopS W (by rw [sizeLine_eq]; omega) S hSf .none n 0 _ #[] _ rfl (Nat.zero_le _) hit2 hS2 (ItemsOf.nil _) fun s1 acc cq hm hS3 hacc => ?_⟩
  rw [Moved.eq_with hm]
  refine hR s1.heap s1.toks acc cq (fun b o hb hb2 e => hm.heap b o (fun hmem => ?_) (oth b o hb e)) hS3 hacc
  rcases List.mem_cons.mp hmem with e1 | e1
  · exact hb e1
  · exact hb2 (List.mem_singleton.mp e1)
set_option maxHeartbeats 4000000 in
theorem call_list_rit {Q : Value → Shared → Prop} {it : Addr} {a c : Int} {n : Nat} (hh : A.handled = none) (hit : IsRangeIter sv.heap it (a + ((0 : Nat) : Int) * c) ((n : Int) - ((0 : Nat) : Int)) c) (hlen : n ≤ 2 ^ 24)
    (hQ : ∀ hq tk acc cq, (∀ b o, b ≠ it → sv.heap.get? b = some o → hq.get? b = some o) → hq.get? sv.heap.objs.size = some { cls := .type "list", dict := none, data := .seq acc cq, slots := #[] } →
      ItemsOf (fun i v => ∃ t, v = .int (a + i * c) t) acc n → Q (.ref sv.heap.objs.size) { sv with heap := hq, toks := tk }) :
    wpAny (model P w) A (call (.type "list") [.ref it]) Q E sv := by
  refine callType_codes (Q₁ := fun ob s1 => ob = .ref sv.heap.objs.size ∧ s1 = { sv with heap := sv.heap.push { cls := .type "list", data := .seq #[] } }) F.called_list (F.typeCall_list_1 _) F.entry_list_init
    (code_list_new _ ⟨rfl, rfl⟩) fun ob s1 e1 => ?_
  obtain ⟨rfl, rfl⟩ := e1
  have gS : (sv.heap.push { cls := .type "list", data := .seq #[] }).get? sv.heap.objs.size = some { cls := .type "list", data := .seq #[] } := Heap.get?_push_size _ rfl
  refine ⟨⟨_, gS, rfl⟩, F.args_list_init_2 _ _, list_init_rit (A := A.in1) hh (Heap.get?_push_of_some _ hit) hlen _ gS fun hq tk acc cq hk e2 hacc => ?_⟩
  exact ⟨rfl, hQ hq tk acc cq (fun b o hb e => hk b o (Nat.ne_of_lt (Heap.lt_size e)) hb (Heap.get?_push_of_some _ e)) e2 hacc⟩
end
section
variable {X : Cx} {W : WX} {a : Expr} {ea : Env → Out D}
/-- n - 1, .., 0 -/
def rvV (n : Int) : List V := (List.range n.toNat).map fun i => V.int ((n - 1) + (i : Nat) * (-1))
def tRevL (ta : TE) : TE := fun σ H Q => tRg1 ta σ H fun lo n H1 => lo = 0 ∧ 0 ≤ n ∧ n ≤ 2 ^ 24 ∧ ∀ q, H1 q = none → Q (.ref q) (upd H1 q (.lst (rvV n)))
set_option maxHeartbeats 4000000 in
theorem pe_revL {ta : TE} {p p1 p2 q1 q2 pos : Pos} (hc : X.calm = true) (hg : Gl X "list") (hm : X.mg "list" = none) (hg1 : Gl X "reversed") (hm1 : X.mg "reversed" = none) (hg2 : Gl X "range") (hm2 : X.mg "range" = none) (ha : PE X a ta)
    (na : starEach [a] X.env = (false, eval a X.env) :: starEach [] X.env := by rfl) (nb : starEach [.Call (.Name "range" p2) [a] [] q2] X.env = (false, eval (.Call (.Name "range" p2) [a] [] q2) X.env) :: starEach [] X.env := by rfl)
    (nc : starEach [.Call (.Name "reversed" p1) [.Call (.Name "range" p2) [a] [] q2] [] q1] X.env = (false, eval (.Call (.Name "reversed" p1) [.Call (.Name "range" p2) [a] [] q2] [] q1) X.env) :: starEach [] X.env := by rfl) :
    PE X (.Call (.Name "list" p) [.Call (.Name "reversed" p1) [.Call (.Name "range" p2) [a] [] q2] [] q1] [] pos) (tRevL ta) := by
  refine ⟨fun pins s σ H Q I h => ?_⟩
  refine Call_ (ld_blt I hg hm boot_list (PyProof.Rows.callWith_type1 (args_cons ?_ nc) nc))
  refine Call_ (ld_blt I hg1 hm1 PyProof.Rows.boot_reversed (PyProof.Rows.callWith_type1 (args_cons (thn (prg_1 hg2 hm2 ha na pins s σ H (fun lo b H1 => lo = 0 ∧ 0 ≤ b ∧ b ≤ 2 ^ 24 ∧ ∀ q, H1 q = none → Q (.ref q) (upd H1 q (.lst (rvV b)))) I ?_) fun u s1 hx => args_nil ?_) nb) nb rfl))
  · exact h
  · obtain ⟨r, lo, b, t, w1, v, H1, eu, hr, I1, e0, b1, b2, q⟩ := hx
    subst eu
    subst e0
    have hn : Builtin.Range.rangeSize 0 b 1 = (((b - 0).toNat : Nat) : Int) := rangeSize_nat 0 b
    refine call_reversed_range hr (smallRev_one (by decide) (by decide) (by omega) (by omega)) (args_nil ?_)
    have hi0 : IsRangeIter (s1.heap.push (rngRevObj 0 b 1)) s1.heap.objs.size (0 + (Builtin.Range.rangeSize 0 b 1 - 1) * 1) (Builtin.Range.rangeSize 0 b 1) (-1) := Heap.get?_push_size _ rfl
    have hi : IsRangeIter (s1.heap.push (rngRevObj 0 b 1)) s1.heap.objs.size ((b - 1) + ((0 : Nat) : Int) * (-1)) (((b.toNat : Nat) : Int) - ((0 : Nat) : Int)) (-1) := by
      have e1 : (b - 1) + ((0 : Nat) : Int) * (-1) = 0 + (Builtin.Range.rangeSize 0 b 1 - 1) * 1 := by rw [hn]; omega
      have e2 : ((b.toNat : Nat) : Int) - ((0 : Nat) : Int) = Builtin.Range.rangeSize 0 b 1 := by rw [hn]; omega
      rw [e1, e2]
      exact hi0
    refine call_list_rit (sv := { s1 with heap := s1.heap.push (rngRevObj 0 b 1) }) (I1.ok.hd hc) hi (by omega) fun hq tk acc cq hk e2 hacc => ?_
    have hlt : s1.heap.objs.size ≤ (s1.heap.push (rngRevObj 0 b 1)).objs.size := by rw [Heap.size_push]; omega
    refine ⟨.ref (s1.heap.push (rngRevObj 0 b 1)).objs.size, upd H1 (s1.heap.push (rngRevObj 0 b 1)).objs.size (.lst (rvV b)), I1.laid (fun c o e => hk c o (Nat.ne_of_lt (Heap.lt_size e)) (Heap.get?_push_of_some _ e)) hlt (show ObjOk X.prog X.w _ _ _ (.lst (rvV b)) from ⟨?_, acc.toList, cq, ?_, ?_⟩), rfl, q _ (I1.hok.fresh hlt)⟩
    · unfold rvV
      rw [List.length_map, List.length_range, sizeLine_eq]
      omega
    · have e : acc.toList.length = b.toNat := by rw [Array.length_toList]; exact hacc.1
      unfold rvV
      rw [← e]
      refine vals_of_get acc.toList _ fun j u hj => ?_
      obtain ⟨t, rfl⟩ := hacc.2 j u (by rw [← hj, Array.getElem?_toList])
      exact ⟨t, rfl⟩
    · rw [Array.toArray_toList]; exact e2
def rvD (n : Int) : List D := (List.range n.toNat).map fun i => D.int ((n - 1) + (i : Nat) * (-1))
def revRg : D → Out (List D)
  | .int n => if 0 ≤ n ∧ n ≤ 2 ^ 24 then .ok (rvD n) else .stuck
  | _ => .stuck
def oRevRg (ea : Env → Out D) : Env → Out (List D) := fun ρ => (ea ρ).bind revRg
set_option maxHeartbeats 4000000 in
theorem so_revrg {p p1 p2 q1 q2 pos : Pos} (hm : X.mg "list" = none) (hm1 : X.mg "reversed" = none) (hm2 : X.mg "range" = none) (ha : SE X W a ea) (hc : X.calm = true := by rfl) (hg : Gl X "list" := by rfl) (hg1 : Gl X "reversed" := by rfl) (hg2 : Gl X "range" := by rfl)
    (na : starEach [a] X.env = (false, eval a X.env) :: starEach [] X.env := by rfl) (nb : starEach [.Call (.Name "range" p2) [a] [] q2] X.env = (false, eval (.Call (.Name "range" p2) [a] [] q2) X.env) :: starEach [] X.env := by rfl)
    (nc : starEach [.Call (.Name "reversed" p1) [.Call (.Name "range" p2) [a] [] q2] [] q1] X.env = (false, eval (.Call (.Name "reversed" p1) [.Call (.Name "range" p2) [a] [] q2] [] q1) X.env) :: starEach [] X.env := by rfl) :
    SO X W (.Call (.Name "list" p) [.Call (.Name "reversed" p1) [.Call (.Name "range" p2) [a] [] q2] [] q1] [] pos) (oRevRg ea) :=
  .of (pe_revL hc hg hm hg1 hm1 hg2 hm2 ha na nb nc) fun F H σ ρ Q h1 h2 => ⟨F, ρ, h1, PostO.bind h2 fun d v F1 H1 e1 r1 q1 => by
    unfold revRg at q1
    split at q1
    · rename_i n
      cases r1
      split at q1
      · rename_i hb
        refine ⟨n, rfl, rfl, hb.1, hb.2, PostO.lst q1 e1.fh ?_⟩
        unfold rvV rvD
        induction (List.range n.toNat) with
        | nil => exact .nil
        | cons x l ih => exact .cons (.int _) ih
      · exact q1.elim
    · exact q1.elim⟩
@[simp] theorem q_oRevRg (ρ : Env) : oRevRg ea ρ = (ea ρ).bind revRg := (rfl)
@[simp] theorem revRg_int (n : Int) : revRg (.int n) = if 0 ≤ n ∧ n ≤ 2 ^ 24 then .ok (rvD n) else .stuck := (rfl)
/-! ### sorted(set(xs)) of ints -/
def setS (X : Cx) (ns : List Int) (c : Nat) (p : Addr) : HO := SetO X.w p (fun j => decide (j ∈ ns)) c
theorem call_setL (hc : X.calm = true) : CallR X (.type "set") (fun xs H Q => ∃ (p : Addr) (ns : List Int), xs = [.ref p] ∧ SqL X.K H p (ns.map V.int) ∧ ns.length < 64 ∧ ∀ q c, c ≤ ns.length → H q = none → Q (.ref q) (upd H q (setS X ns c q))) := by
  intro pins s σ H xs us Q I r h
  obtain ⟨p, ns, rfl, hs, hl, q⟩ := h
  rw [Vals.ref1 r]
  obtain ⟨its, rv, pl, hz⟩ := I.list hs
  refine call_set_lstI ns (I.ok.hd hc) pl.isList (by simpa using RZ.intsAre_vals rv) (by unfold scanBound; omega) fun hq tk c R hcn hk => ?_
  exact ⟨.ref s.heap.objs.size, upd H s.heap.objs.size (setS X ns c s.heap.objs.size), I.laid hk (Nat.le_refl _) (setO_new R), rfl, q _ _ hcn (I.hok.fresh (Nat.le_refl _))⟩
def dedI : List Int → List Int
  | [] => []
  | n :: ns => if n ∈ ns then dedI ns else n :: dedI ns
theorem dedI_mem {k : Int} : ∀ {ns : List Int}, k ∈ dedI ns ↔ k ∈ ns
  | [] => Iff.rfl
  | n :: ns => by
    unfold dedI
    split
    · rename_i h
      rw [dedI_mem, List.mem_cons]
      exact ⟨.inr, fun q => q.elim (fun e => e ▸ h) id⟩
    · rw [List.mem_cons, List.mem_cons, dedI_mem]
theorem dedI_nodup : ∀ ns : List Int, (dedI ns).Nodup
  | [] => List.nodup_nil
  | n :: ns => by
    unfold dedI
    split
    · exact dedI_nodup ns
    · rename_i h
      exact List.nodup_cons.mpr ⟨fun q => h (dedI_mem.mp q), dedI_nodup ns⟩
def sSetI (ns : List Int) : List Int := sortI (dedI ns)
theorem sSetI_mem {k : Int} {ns : List Int} : k ∈ sSetI ns ↔ k ∈ ns := ((sortI_perm _).mem_iff).trans dedI_mem
theorem rise_uniq {xs ys : List Int} (h : ∀ k, k ∈ xs ↔ k ∈ ys) (hx : xs.Pairwise (· < ·)) (hy : ys.Pairwise (· < ·)) : xs = ys := by
  have nx : xs.Nodup := hx.imp fun a => by omega
  have ny : ys.Nodup := hy.imp fun a => by omega
  refine sort_uniq ((List.perm_ext_iff_of_nodup nx ny).mpr h) (hx.imp fun a => by omega) (hy.imp fun a => by omega)
theorem sSetI_rise (ns : List Int) : (sSetI ns).Pairwise (· < ·) := by
  have h1 := sortI_sorted (dedI ns)
  have h2 : (sSetI ns).Nodup := (sortI_perm _).nodup_iff.mpr (dedI_nodup ns)
  exact lt_of_le_nodup _ h1 h2
def sortSet : D → Out (List D)
  | .lst ds => match intsOf ds with
    | some ns => if ns.length < 64 then .ok ((sSetI ns).map D.int) else .stuck
    | none => .stuck
  | _ => .stuck
def oSortSet (ea : Env → Out D) : Env → Out (List D) := fun ρ => (ea ρ).bind sortSet
theorem so_sortset {p p1 q1 pos : Pos} (hm : X.mg "sorted" = none) (hm1 : X.mg "set" = none) (ha : SE X W a ea) (hc : X.calm = true := by rfl) (hg : Gl X "sorted" := by rfl) (hg1 : Gl X "set" := by rfl)
    (na : starEach [a] X.env = (false, eval a X.env) :: starEach [] X.env := by rfl) (nb : starEach [.Call (.Name "set" p1) [a] [] q1] X.env = (false, eval (.Call (.Name "set" p1) [a] [] q1) X.env) :: starEach [] X.env := by rfl)
    (n0 : (backTo q1 (starEach [] X.env)).any (·.1) = false := by rfl) (n1 : (backTo pos (starEach [] X.env)).any (·.1) = false := by rfl) :
    SO X W (.Call (.Name "sorted" p) [.Call (.Name "set" p1) [a] [] q1] [] pos) (oSortSet ea) :=
  .of (pe_callB (cr_sortedSet hc) hg hm (by decide +kernel) (pa_cons (pe_callTy (call_setL hc) hg1 hm1 (by decide +kernel) (pa_cons ha pa_nil na) (by decide) (by decide) na n0) pa_nil nb) (by decide) (by decide) nb n1)
    fun F H σ ρ Q h1 h2 => ⟨F, ρ, h1, PostO.bind h2 fun d v F1 H1 e1 r1 q1 => by
    unfold sortSet at q1
    split at q1
    · cases r1 with
      | @lst p vs ds g1 g2 =>
        split at q1
        · rename_i ns hns
          obtain ⟨rfl, rfl⟩ := intsOf_DR g2 hns
          split at q1
          · rename_i hb
            refine ⟨p, ns, rfl, .inl (rd_of e1.fh g1), hb, fun q c hc2 hq => ⟨q, _, c, rfl, upd_same, by omega, fun ns2 p2 hp hm2 hl hn => ?_⟩⟩
            have e : ns2 = sSetI ns := rise_uniq (fun k => by rw [hm2 k, sSetI_mem, decide_eq_true_eq]) hp (sSetI_rise ns)
            subst e
            exact PostO.lst (q1.ext (Ext.open e1.fh hq)) (e1.fh.trans (same_new hq)) (DRs.ints _) p2 hn
          · exact q1.elim
        · exact q1.elim
    · exact q1.elim⟩
@[simp] theorem q_oSortSet (ρ : Env) : oSortSet ea ρ = (ea ρ).bind sortSet := (rfl)
end
end CW
/-! texts: split, int(text), startswith; xs[::-1] -/
namespace CW
open PySem PySem.Spec PyProof.Rows L2
section
variable {X : Cx} {W : WX} {a b : Expr} {ea eb : Env → Out D} {pos : Pos}
def mSplit : D → D → Out (List D)
  | .str x, .str y => if (y.length == 0) = false ∧ x.length + 2 ≤ sizeLine then .ok ((Txt.split x y).map D.str) else .stuck
  | _, _ => .stuck
theorem DRs.strs2 {K : PySem.W.Frag} {F : Hp} : ∀ zs : List Str, DRs K F (zs.map V.str) (zs.map D.str)
  | [] => .nil
  | _ :: zs => .cons (.str _) (DRs.strs2 zs)
theorem so_split {apos : Pos} (ha : SE X W a ea) (hb : SE X W b eb) (hs : starEach [b] X.env = [(false, eval b X.env)] := by rfl) (hbase : attributeBase a "split" X.env (eval a X.env) = eval a X.env := by rfl) (hline : (apos.endLine == pos.line) = true := by rfl) :
    SO X W (.Call (.Attribute a "split" apos) [b] [] pos) (oM isStrD mSplit ea eb) :=
  .of (pe_m1 PySem.F.slot_str_split PySem.F.type_str_split mt_split ha hb hs hbase hline) fun F H σ ρ Q h1 h2 => ⟨F, ρ, h1, PostO.bind h2 fun d v F1 H1 e1 r1 q1 => by
    cases r1 with
    | str x =>
      refine ⟨⟨_, rfl⟩, F1, ρ, h1.ext e1, PostO.bind q1 fun d2 v2 F2 H2 e2 r2 q2 => ?_⟩
      cases r2 with
      | str y =>
        have q3 : PostO X.K X.mg W F2 H2 σ Q (if (y.length == 0) = false ∧ x.length + 2 ≤ sizeLine then .ok ((Txt.split x y).map D.str) else .stuck) := q2
        split at q3
        · rename_i hz
          exact ⟨x, y, rfl, rfl, hz.1, hz.2, fun p hp => PostO.lst q3 e2.fh (DRs.strs2 _) p hp⟩
        · exact q3.elim
      | _ => exact False.elim q2
    | _ => exact False.elim q1⟩
def bIntS : List D → Out D
  | [.str a] => if a.length ≤ 640 then (match PySem.intText? a with
    | some n => .ok (.int n)
    | none => .stuck) else .stuck
  | _ => .stuck
theorem bd_intS : BltD X "int" bIntS := by
  refine ⟨_, ?_, .inr ⟨"int", call_int_str, by decide +kernel⟩⟩
  intro mg W F H σ xs ds Q s r q
  unfold bIntS at q
  split at q
  · obtain ⟨v, rfl, r1⟩ := one_of r
    cases r1
    split at q
    · rename_i hz
      split at q
      · rename_i n hn
        exact ⟨_, n, rfl, hn, hz, q.ok s (.int _)⟩
      · exact q.elim
    · exact q.elim
  · exact q.elim
def mStarts : D → D → Out D
  | .str x, .str y => .ok (.bl (Txt.startswith x y))
  | _, _ => .stuck
theorem se_starts {apos : Pos} (ha : SE X W a ea) (hb : SE X W b eb) (hs : starEach [b] X.env = [(false, eval b X.env)] := by rfl) (hbase : attributeBase a "startswith" X.env (eval a X.env) = eval a X.env := by rfl) (hline : (apos.endLine == pos.line) = true := by rfl) :
    SE X W (.Call (.Attribute a "startswith" apos) [b] [] pos) (eM isStrD mStarts ea eb) :=
  .of (pe_m1 PySem.F.slot_str_startswith PySem.F.type_str_startswith mt_startswith ha hb hs hbase hline) fun F H σ ρ Q h1 h2 => ⟨F, ρ, h1, Post.bind h2 fun d v F1 H1 e1 r1 q1 => by
    cases r1 with
    | str x =>
      refine ⟨⟨_, rfl⟩, F1, ρ, h1.ext e1, Post.bind q1 fun d2 v2 F2 H2 e2 r2 q2 => ?_⟩
      cases r2 with
      | str y => exact ⟨x, y, rfl, rfl, Post.ok q2 e2.fh (.bl _)⟩
      | _ => exact False.elim q2
    | _ => exact False.elim q1⟩
/-! xs[::-1], xs a list -/
def revL : D → Out (List D)
  | .lst ds => .ok ds.reverse
  | _ => .stuck
def oRvS (ea : Env → Out D) : Env → Out (List D) := fun ρ => (ea ρ).bind revL
theorem DRs.rev {K : PySem.W.Frag} {F : Hp} : ∀ {vs : List V} {ds : List D}, DRs K F vs ds → DRs K F vs.reverse ds.reverse
  | _, _, .nil => .nil
  | _, _, .cons r t => by
    rw [List.reverse_cons, List.reverse_cons]
    exact t.rev.append (.cons r .nil)
theorem so_revs {k : Nat} {p1 p2 p3 : Pos} (ha : SE X W a ea) : SO X W (.Subscript a (.Slice none none (some (.UnaryOp .USub (.Constant (.int 1) k p1) p2)) p3) pos) (oRvS ea) :=
  .of (L2.pe_revL ha) fun F H σ ρ Q h1 h2 => ⟨F, ρ, h1, PostO.bind h2 fun d v F1 H1 e1 r1 q1 => by
    cases r1 with
    | @lst p vs ds g1 g2 => exact ⟨p, vs, rfl, .inl (rd_of e1.fh g1), fun q hq => PostO.lst q1 e1.fh g2.rev q hq⟩
    | _ => exact False.elim q1⟩
variable (ρ : Env) (ds : List D) (x y : Str)
@[simp] theorem q_oRvS : oRvS ea ρ = (ea ρ).bind revL := (rfl)
@[simp] theorem revL_lst : revL (.lst ds) = .ok ds.reverse := (rfl)
end
end CW
namespace CW
open PySem PySem.Spec PyProof.Rows L2

/-! ### whole numbers that are not negative: nD -/
def nD (n : Nat) : D := .int (n : Int)
theorem nD_def (n : Nat) : nD n = .int (n : Int) := rfl
@[simp] theorem int_lit (n : Nat) : D.int (no_index (OfNat.ofNat n)) = nD (OfNat.ofNat n) := (rfl)
@[simp] theorem int_cast (n : Nat) : D.int (n : Int) = nD n := (rfl)
theorem bitAnd_nat (a b : Nat) : Builtin.bitAnd (a : Int) (b : Int) = ((a &&& b : Nat) : Int) := by
  unfold Builtin.bitAnd
  rw [decide_eq_true (Int.natCast_nonneg a), decide_eq_true (Int.natCast_nonneg b)]
  rfl
theorem bitOr_nat (a b : Nat) : Builtin.bitOr (a : Int) (b : Int) = ((a ||| b : Nat) : Int) := _root_.Bits.bitOr_pp (Int.natCast_nonneg a) (Int.natCast_nonneg b)
theorem bitXor_nat (a b : Nat) : Builtin.bitXor (a : Int) (b : Int) = ((a ^^^ b : Nat) : Int) := _root_.Bits.bitXor_pp (Int.natCast_nonneg a) (Int.natCast_nonneg b)
theorem mulOk_of {i j : Int} (h : (-(2 ^ 64) < i ∧ i < 2 ^ 64) ∨ (-(2 ^ 64) < j ∧ j < 2 ^ 64)) : mulOk i j = true := by
  unfold mulOk
  rw [Bool.or_eq_true, decide_eq_true_eq, decide_eq_true_eq]
  exact h
section
variable {a b : Nat} {i : Int} {z : Str} {c : Bool}
@[simp] theorem add_nn : oAdd (nD a) (nD b) = .ok (nD (a + b)) := (rfl)
@[simp] theorem add_ni : oAdd (nD a) (.int i) = .ok (.int (a + i)) := (rfl)
@[simp] theorem add_in : oAdd (.int i) (nD b) = .ok (.int (i + b)) := (rfl)
@[simp] theorem sub_nn (h : b ≤ a) : oSub (nD a) (nD b) = .ok (nD (a - b)) := by
  show Out.ok (D.int ((a : Int) - b)) = _
  rw [nD, show (a : Int) - b = ((a - b : Nat) : Int) by omega]
theorem sub_ni : oSub (nD a) (nD b) = .ok (.int ((a : Int) - b)) := rfl
@[simp] theorem sub_in : oSub (.int i) (nD b) = .ok (.int (i - b)) := (rfl)
@[simp] theorem neg_n : oNeg (nD a) = .ok (.int (-(a : Int))) := (rfl)
theorem mul_nn (h : a < 18446744073709551616 ∨ b < 18446744073709551616) : oMul (nD a) (nD b) = .ok (nD (a * b)) := by
  simp only [nD, oMul_int]
  rw [if_pos (mulOk_of (h.imp (fun h => by constructor <;> omega) fun h => by constructor <;> omega)), Int.natCast_mul]
@[simp] theorem mul_l (h : a < 18446744073709551616) : oMul (nD a) (nD b) = .ok (nD (a * b)) := mul_nn (.inl h)
@[simp] theorem mul_r (h : b < 18446744073709551616) : oMul (nD a) (nD b) = .ok (nD (a * b)) := mul_nn (.inr h)
@[simp] theorem mul_in (h : b < 18446744073709551616) : oMul (.int i) (nD b) = .ok (.int (i * b)) := by
  simp only [nD, oMul_int]
  rw [if_pos (mulOk_of (.inr (by constructor <;> omega)))]
@[simp] theorem mul_ni (h : a < 18446744073709551616) : oMul (nD a) (.int i) = .ok (.int (a * i)) := by
  simp only [nD, oMul_int]
  rw [if_pos (mulOk_of (.inl (by constructor <;> omega)))]
@[simp] theorem mod_nn (h : 0 < b) : oMod (nD a) (nD b) = .ok (nD (a % b)) := by
  simp only [nD, oMod_int]
  rw [if_pos (by omega), Int.natCast_emod]
@[simp] theorem mod_in (h : 0 < b) : oMod (.int i) (nD b) = .ok (nD (i % (b : Int)).toNat) := by
  simp only [nD, oMod_int]
  rw [if_pos (by omega), Int.toNat_of_nonneg (Int.emod_nonneg _ (by omega))]
@[simp] theorem div_nn (h : 0 < b) (h2 : b < 18446744073709551616) : oDiv (nD a) (nD b) = .ok (nD (a / b)) := by
  simp only [nD, oDiv_int]
  rw [if_pos (by constructor <;> omega), Int.natCast_ediv]
@[simp] theorem div_in (h : 0 < b) (h2 : b < 18446744073709551616) : oDiv (.int i) (nD b) = .ok (.int (i / b)) := by
  simp only [nD, oDiv_int]
  rw [if_pos (by constructor <;> omega)]
@[simp] theorem pow_nn (h : b ≤ 1000000) (h2 : a < 18446744073709551616) : oPow (nD a) (nD b) = .ok (nD (a ^ b)) := by
  show (if 0 ≤ (b : Int) ∧ (b : Int) ≤ 1000000 ∧ (a : Int).natAbs < 2 ^ 64 then Out.ok (D.int ((a : Int) ^ (b : Int).toNat)) else .stuck) = _
  rw [if_pos (by refine ⟨?_, ?_, ?_⟩ <;> omega), nD, Int.toNat_natCast, Int.natCast_pow]
@[simp] theorem shl_nn (h : b ≤ 1000000) (h2 : a < 18446744073709551616) : oShl (nD a) (nD b) = .ok (nD (a * 2 ^ b)) := by
  show (if 0 ≤ (b : Int) ∧ (b : Int) ≤ 1000000 ∧ (a : Int).natAbs < 2 ^ 64 then Out.ok (D.int ((a : Int) * 2 ^ (b : Int).toNat)) else .stuck) = _
  rw [if_pos (by refine ⟨?_, ?_, ?_⟩ <;> omega), nD, Int.toNat_natCast, Int.natCast_mul, Int.natCast_pow]
  rfl
@[simp] theorem shr_nn : oShr (nD a) (nD b) = .ok (nD (a / 2 ^ b)) := by
  show (if 0 ≤ (b : Int) then Out.ok (D.int ((a : Int) / 2 ^ (b : Int).toNat)) else .stuck) = _
  rw [if_pos (by omega), nD, Int.toNat_natCast, Int.natCast_ediv, Int.natCast_pow]
  rfl
@[simp] theorem and_nn : oAnd (nD a) (nD b) = .ok (nD (a &&& b)) := by
  show Out.ok (D.int (Builtin.bitAnd a b)) = _
  rw [bitAnd_nat, nD]
@[simp] theorem or_nn : oOr (nD a) (nD b) = .ok (nD (a ||| b)) := by
  show Out.ok (D.int (Builtin.bitOr a b)) = _
  rw [bitOr_nat, nD]
@[simp] theorem xor_nn : oXor (nD a) (nD b) = .ok (nD (a ^^^ b)) := by
  show Out.ok (D.int (Builtin.bitXor a b)) = _
  rw [bitXor_nat, nD]
@[simp] theorem lt_nn : oLt (nD a) (nD b) = .ok (.bl (decide (a < b))) := by
  show Out.ok (D.bl (decide ((a : Int) < b))) = _
  simp
@[simp] theorem le_nn : oLe (nD a) (nD b) = .ok (.bl (decide (a ≤ b))) := by
  show Out.ok (D.bl (decide ((a : Int) ≤ b))) = _
  simp
@[simp] theorem gt_nn : oGt (nD a) (nD b) = .ok (.bl (decide (b < a))) := by
  show Out.ok (D.bl (decide ((b : Int) < a))) = _
  simp
@[simp] theorem ge_nn : oGe (nD a) (nD b) = .ok (.bl (decide (b ≤ a))) := by
  show Out.ok (D.bl (decide ((b : Int) ≤ a))) = _
  simp
theorem beq_nn : ((a : Int) == (b : Int)) = (a == b) := by
  rw [Bool.eq_iff_iff, beq_iff_eq, beq_iff_eq]
  omega
@[simp] theorem eq_nn : oEq (nD a) (nD b) = .ok (.bl (a == b)) := by rw [nD, nD, oEq_int, beq_nn]
@[simp] theorem ne_nn : oNe (nD a) (nD b) = .ok (.bl (!(a == b))) := by rw [nD, nD, oNe_int, beq_nn]
@[simp] theorem eq_in : oEq (.int i) (nD b) = .ok (.bl (i == (b : Int))) := by rw [nD, oEq_int]
@[simp] theorem ne_in : oNe (.int i) (nD b) = .ok (.bl (!(i == (b : Int)))) := by rw [nD, oNe_int]
@[simp] theorem eq_ni : oEq (nD a) (.int i) = .ok (.bl ((a : Int) == i)) := by rw [nD, oEq_int]
@[simp] theorem ne_ni : oNe (nD a) (.int i) = .ok (.bl (!((a : Int) == i))) := by rw [nD, oNe_int]
@[simp] theorem eqD_nn : eqD (nD a) (nD b) = (a == b) := by rw [nD, nD, eqD_int, beq_nn]
@[simp] theorem eqD_in : eqD (.int i) (nD b) = (i == (b : Int)) := by rw [nD, eqD_int]
@[simp] theorem eqD_ni : eqD (nD a) (.int i) = ((a : Int) == i) := by rw [nD, eqD_int]
@[simp] theorem okD_nD (k) : okD k (nD a) = true := okD_int k a
@[simp] theorem flatD_nD : flatD (nD a) = true := rfl
@[simp] theorem flatD_int : flatD (.int i) = true := rfl
@[simp] theorem flatD_str : flatD (.str z) = true := rfl
@[simp] theorem flatD_bl : flatD (.bl c) = true := rfl
@[simp] theorem lf_nD : lf (nD a) = true := lf_int a
@[simp] theorem isNon_nD : isNon (nD a) = false := rfl
@[simp] theorem isD_nD (t : Ty) : isD t (nD a) = .ok (.bl (t == .int)) := isD_int a t
@[simp] theorem truD_nD : truD (nD a) = .ok (a != 0) := by
  show Out.ok ((a : Int) != 0) = _
  congr 1
  rw [Bool.eq_iff_iff]
  simp
/-- a bound of a slice that is not negative -/
def nI (n : Nat) : Int := (n : Int)
@[simp] theorem asI_nD : asI (nD a) = .ok (some (nI a)) := (rfl)
@[simp] theorem rg1_nD (h : a < 4611686018427387904) : rg1 [nD a] = .ok ((List.range a).map nD) := rg1_nat h
theorem rgL_nat (a b : Nat) : rngL (a : Int) (b : Int) = (List.range (b - a)).map fun k => nD (a + k) := by
  unfold rngL
  rw [show ((b : Int) - a).toNat = b - a by omega]
  apply List.map_congr_left
  intro k _
  rw [nD, Int.natCast_add]
@[simp] theorem rg2_nD (h : a < 4611686018427387904) (h2 : b < 4611686018427387904) : rg2 [nD a, nD b] = .ok ((List.range (b - a)).map fun k => nD (a + k)) := by
  rw [nD, nD, rg2_int]
  rw [if_pos (by refine ⟨?_, ?_, ?_, ?_⟩ <;> omega), rgL_nat]
theorem enumL_eq (ds : List D) : enumL ds = ds.zipIdx.map fun p => .tup [nD p.2, p.1] := rfl
@[simp] theorem bInt_nD : bInt [nD a] = .ok (nD a) := rfl
@[simp] theorem bInt_bln : bInt [.bl c] = .ok (nD (if c then 1 else 0)) := by cases c <;> rfl
@[simp] theorem bLen_lstn (ds) : bLen [.lst ds] = .ok (nD ds.length) := rfl
@[simp] theorem bLen_tupn (ds) : bLen [.tup ds] = .ok (nD ds.length) := rfl
@[simp] theorem bLen_scrn (ds) : bLen [.scr ds] = .ok (nD ds.length) := rfl
@[simp] theorem bLen_strn : bLen [.str z] = if z.length ≤ sizeLine then .ok (nD z.length) else .stuck := rfl
@[simp] theorem bMax2_nn : bMax2 [nD a, nD b] = .ok (nD (max a b)) := by
  show Out.ok (D.int (if (b : Int) > a then (b : Int) else a)) = _
  rw [nD]
  congr 2
  omega
@[simp] theorem bMin2_nn : bMin2 [nD a, nD b] = .ok (nD (min a b)) := by
  show Out.ok (D.int (if (b : Int) < a then (b : Int) else a)) = _
  rw [nD]
  congr 2
  omega
theorem sum_cast : ∀ ns : List Nat, (ns.map fun n : Nat => (n : Int)).sum = ((ns.sum : Nat) : Int)
  | [] => rfl
  | n :: ns => by simp [sum_cast ns]
theorem bSum_nn (ns : List Nat) : bSum [.lst (ns.map nD)] = .ok (nD ns.sum) := by
  have e : ns.map nD = (ns.map fun n : Nat => (n : Int)).map D.int := by rw [List.map_map]; rfl
  rw [e, bSum_ints, sum_cast, nD]
theorem nD_inj : nD a = nD b ↔ a = b := by
  unfold nD
  constructor
  · intro h; injection h with h; omega
  · intro h; rw [h]
end

@[simp] theorem pos_pow2 (n : Nat) : 0 < 2 ^ n := Nat.pow_pos (by decide)
@[simp] theorem pos_lit (n m : Nat) [h : NeZero n] : 0 < (no_index (OfNat.ofNat n)) + m := Nat.lt_of_lt_of_le (Nat.pos_of_neZero n) (Nat.le_add_right _ _)
@[simp] theorem pos_lit' (n m : Nat) [h : NeZero n] : 0 < m + (no_index (OfNat.ofNat n)) := Nat.lt_of_lt_of_le (Nat.pos_of_neZero n) (Nat.le_add_left _ _)

/-! ### items, slices -/
theorem atI_nat' {α : Type} (xs : List α) (i : Nat) : atI xs (i : Int) = xs[i]? := by
  unfold atI ixN
  by_cases h : i < xs.length
  · rw [if_pos (by omega), if_pos (by omega)]; simp
  · rw [if_pos (by omega), if_neg (by omega)]
    simp
    omega
@[simp] theorem ix_tup (xs : List D) (i : Nat) : oIx (.tup xs) (nD i) = ixO xs[i]? := by
  rw [nD, oIx_tup, atI_nat']
  cases xs[i]? <;> rfl
@[simp] theorem ix_lst (xs : List D) (i : Nat) : oIx (.lst xs) (nD i) = ixO xs[i]? := by
  rw [nD, oIx_lst, atI_nat']
  cases xs[i]? <;> rfl
@[simp] theorem ix_scr (xs : List Int) (i : Nat) : oIx (.scr xs) (nD i) = ixO (xs[i]?.map D.int) := by
  rw [nD, oIx_scr, atI_nat']
  cases xs[i]? <;> rfl
@[simp] theorem int_add_cast (a b : Nat) : D.int ((a : Int) + (b : Int)) = nD (a + b) := by rw [nD, Int.natCast_add]
@[simp] theorem withI_nD (a : Nat) (k : Int → Fl) : withI (some (some (nD a))) k = k a := (rfl)
@[simp] theorem isI_nD (a : Nat) (k : Int → Fl) : isI (nD a) k = k a := (rfl)
theorem cutL_nat {α : Type} (xs : List α) (a b : Nat) : cutL xs (some (a : Int)) (some (b : Int)) = (xs.take b).drop a := by
  unfold cutL
  rw [HT.sIx_nat, HT.sIx_nat, List.drop_take]
  by_cases ha : a ≤ xs.length
  · rw [Nat.min_eq_left ha]
    by_cases hb : b ≤ xs.length
    · rw [Nat.min_eq_left hb]
    · rw [Nat.min_eq_right (by omega), List.take_of_length_le (by simp), List.take_of_length_le (by simp; omega)]
  · rw [Nat.min_eq_right (show xs.length ≤ a by omega), List.drop_of_length_le (Nat.le_refl _), List.drop_of_length_le (show xs.length ≤ a by omega)]
    simp
theorem cutL_to {α : Type} (xs : List α) (b : Nat) : cutL xs none (some (b : Int)) = xs.take b := by
  unfold cutL
  rw [HT.sIx_none, HT.sIx_nat]
  simp only [List.drop_zero, Nat.sub_zero]
  by_cases hb : b ≤ xs.length
  · rw [Nat.min_eq_left hb]
  · rw [Nat.min_eq_right (by omega), List.take_of_length_le (Nat.le_refl _), List.take_of_length_le (by omega)]
theorem cutL_from {α : Type} (xs : List α) (a : Nat) : cutL xs (some (a : Int)) none = xs.drop a := by
  unfold cutL
  rw [HT.sIx_none, HT.sIx_nat]
  by_cases ha : a ≤ xs.length
  · rw [Nat.min_eq_left ha, List.take_of_length_le (by simp)]
  · rw [Nat.min_eq_right (by omega), List.drop_of_length_le (Nat.le_refl _), List.drop_of_length_le (by omega)]
    simp

section
variable {α : Type} (xs : List α) (a b : Nat)
@[simp] theorem cut_nn : cutL xs (some (nI a)) (some (nI b)) = (xs.take b).drop a := cutL_nat xs a b
@[simp] theorem cut_to : cutL xs none (some (nI b)) = xs.take b := cutL_to xs b
@[simp] theorem cut_from : cutL xs (some (nI a)) none = xs.drop a := cutL_from xs a
@[simp] theorem cut_init : cutL xs none (some (-1)) = xs.dropLast := by
  unfold cutL
  rw [HT.sIx_none, show HT.sIx xs.length xs.length (some (-1)) = xs.length - 1 from by
    show (if (-1 : Int) < 0 then ((-1 : Int) + (xs.length : Nat)).toNat else min (-1 : Int).toNat xs.length) = _
    rw [if_pos (by decide)]
    omega]
  simp [List.dropLast_eq_take]
end

/-! ### loops -/
/-- a for whose turns go on or return -/
theorem forL_run {α σ : Type} {is : List Nat} {asg : D → Option (List D)} {b : Env → Fl} (enc : α → D) (as : α → List D) (ha : ∀ x, asg (enc x) = some (as x)) (R : σ → Env → Prop) (step : σ → α → σ ⊕ D) :
    ∀ (xs : List α) (s : σ) (ρ : Env), R s ρ → (∀ s x ρ, x ∈ xs → R s ρ → match step s x with
      | .inl s' => ∃ ρ', (b (setsE ρ (is.zip (as x))) = .nx ρ' ∨ b (setsE ρ (is.zip (as x))) = .ct ρ') ∧ R s' ρ'
      | .inr d => b (setsE ρ (is.zip (as x))) = .ret d) →
    match xs.foldl (fun (o : σ ⊕ D) x => match o with | .inl s => step s x | .inr d => .inr d) (.inl s) with
      | .inl s' => ∃ ρ', forL is asg b (xs.map enc) ρ = .nx ρ' ∧ R s' ρ'
      | .inr d => forL is asg b (xs.map enc) ρ = .ret d
  | [], s, ρ, h, _ => ⟨ρ, rfl, h⟩
  | x :: xs, s, ρ, h, hb => by
    have h1 := hb s x ρ List.mem_cons_self h
    rw [List.foldl_cons, List.map_cons, forL_cons, ha]
    dsimp only
    cases e : step s x with
    | inl s' =>
      rw [e] at h1
      obtain ⟨ρ', hc, hr⟩ := h1
      have ih := forL_run enc as ha R step xs s' ρ' hr fun s x ρ hx => hb s x ρ (List.mem_cons_of_mem _ hx)
      rcases hc with hc | hc <;> (rw [hc]; exact ih)
    | inr d =>
      rw [e] at h1
      have hd : ∀ xs : List α, xs.foldl (fun (o : σ ⊕ D) x => match o with | .inl s => step s x | .inr d => .inr d) (.inr d) = .inr d := fun xs => by
        induction xs with
        | nil => rfl
        | cons x xs ih => exact ih
      rw [hd xs]
      dsimp only
      rw [h1]
/-- .. that never return -/
theorem forL_fold {α σ : Type} {is : List Nat} {asg : D → Option (List D)} {b : Env → Fl} (enc : α → D) (as : α → List D) (ha : ∀ x, asg (enc x) = some (as x)) (R : σ → Env → Prop) (step : σ → α → σ) :
    ∀ (xs : List α) (s : σ) (ρ : Env), R s ρ → (∀ s x ρ, x ∈ xs → R s ρ → ∃ ρ', (b (setsE ρ (is.zip (as x))) = .nx ρ' ∨ b (setsE ρ (is.zip (as x))) = .ct ρ') ∧ R (step s x) ρ') →
    ∃ ρ', forL is asg b (xs.map enc) ρ = .nx ρ' ∧ R (xs.foldl step s) ρ'
  | [], s, ρ, h, _ => ⟨ρ, rfl, h⟩
  | x :: xs, s, ρ, h, hb => by
    obtain ⟨ρ', hc, hr⟩ := hb s x ρ List.mem_cons_self h
    rw [List.foldl_cons, List.map_cons, forL_cons, ha]
    have ih := forL_fold enc as ha R step xs (step s x) ρ' hr fun s x ρ hx => hb s x ρ (List.mem_cons_of_mem _ hx)
    dsimp only
    rcases hc with hc | hc <;> (rw [hc]; exact ih)
/-- a search: returns d at the first x with p x, else goes on -/
theorem forL_find {α : Type} {is : List Nat} {asg : D → Option (List D)} {b : Env → Fl} (enc : α → D) (as : α → List D) (ha : ∀ x, asg (enc x) = some (as x)) (R : Env → Prop) (p : α → Bool) (d : α → D) :
    ∀ (xs : List α) (ρ : Env), R ρ → (∀ x ρ, x ∈ xs → R ρ → if p x then b (setsE ρ (is.zip (as x))) = .ret (d x) else ∃ ρ', (b (setsE ρ (is.zip (as x))) = .nx ρ' ∨ b (setsE ρ (is.zip (as x))) = .ct ρ') ∧ R ρ') →
    match xs.find? p with
      | some x => forL is asg b (xs.map enc) ρ = .ret (d x)
      | none => ∃ ρ', forL is asg b (xs.map enc) ρ = .nx ρ' ∧ R ρ'
  | [], ρ, h, _ => ⟨ρ, rfl, h⟩
  | x :: xs, ρ, h, hb => by
    have h1 := hb x ρ List.mem_cons_self h
    rw [List.map_cons, forL_cons, ha]
    dsimp only
    by_cases e : p x = true
    · rw [if_pos e] at h1
      rw [List.find?_cons_of_pos e]
      dsimp only
      rw [h1]
    · rw [if_neg e] at h1
      rw [List.find?_cons_of_neg e]
      obtain ⟨ρ', hc, hr⟩ := h1
      have ih := forL_find enc as ha R p d xs ρ' hr fun x ρ hx => hb x ρ (List.mem_cons_of_mem _ hx)
      rcases hc with hc | hc <;> (rw [hc]; exact ih)
/-- .. of which only what is kept is told -/
theorem forL_go {α : Type} {is : List Nat} {asg : D → Option (List D)} {b : Env → Fl} (enc : α → D) (as : α → List D) (ha : ∀ x, asg (enc x) = some (as x)) (R : Env → Prop) :
    ∀ (xs : List α) (ρ : Env), R ρ → (∀ x ∈ xs, ∀ ρ, R ρ → ∃ ρ', b (setsE ρ (is.zip (as x))) = .nx ρ' ∧ R ρ') → ∃ ρ', forL is asg b (xs.map enc) ρ = .nx ρ' ∧ R ρ'
  | [], ρ, h, _ => ⟨ρ, rfl, h⟩
  | x :: xs, ρ, h, hb => by
    obtain ⟨ρ', hc, hr⟩ := hb x List.mem_cons_self ρ h
    rw [List.map_cons, forL_nx ρ b (ha x) hc]
    exact forL_go enc as ha R xs ρ' hr fun x hx => hb x (List.mem_cons_of_mem _ hx)
/-- a comprehension that keeps every item -/
theorem compL_map {α : Type} {is : List Nat} {asg : D → Option (List D)} {ev : Env → Out D} {ρ : Env} (enc : α → D) (as : α → List D) (ha : ∀ x, asg (enc x) = some (as x)) (g : α → D) :
    ∀ xs : List α, (∀ x ∈ xs, ev (setsE ρ (is.zip (as x))) = .ok (g x)) → compL is asg cYes ev ρ (xs.map enc) = .ok (xs.map g)
  | [], _ => rfl
  | x :: xs, h => by
    rw [List.map_cons, compL_cons, ha]
    simp only [q_cYes, noX_ok, Out.bind_ok, h x List.mem_cons_self, compL_map enc as ha g xs fun y hy => h y (List.mem_cons_of_mem _ hy), List.map_cons]
/-- .. that keeps some -/
theorem compL_filter {α : Type} {is : List Nat} {asg : D → Option (List D)} {c : Env → Out Bool} {ev : Env → Out D} {ρ : Env} (enc : α → D) (as : α → List D) (ha : ∀ x, asg (enc x) = some (as x)) (p : α → Bool) (g : α → D) :
    ∀ xs : List α, (∀ x ∈ xs, c (setsE ρ (is.zip (as x))) = .ok (p x)) → (∀ x ∈ xs, p x = true → ev (setsE ρ (is.zip (as x))) = .ok (g x)) → compL is asg c ev ρ (xs.map enc) = .ok ((xs.filter p).map g)
  | [], _, _ => rfl
  | x :: xs, hc, h => by
    rw [List.map_cons, compL_cons, ha]
    have ih := compL_filter enc as ha p g xs (fun y hy => hc y (List.mem_cons_of_mem _ hy)) fun y hy => h y (List.mem_cons_of_mem _ hy)
    simp only [hc x List.mem_cons_self, noX_ok, Out.bind_ok]
    by_cases e : p x = true
    · rw [e]
      simp only [h x List.mem_cons_self e, noX_ok, Out.bind_ok, ih, List.filter_cons_of_pos e, List.map_cons]
    · rw [eq_false_of_ne_true e]
      simp only [ih, List.filter_cons_of_neg e]
end CW
namespace CW
open PySem PySem.Spec PyProof.Rows L2

/-! ### texts as lists of signs: sD -/
def ofL (l : List Nat) : Str := ⟨l.toArray⟩
def toL (z : Str) : List Nat := z.cps.toList
theorem ofL_toL (z : Str) : ofL (toL z) = z := rfl
@[simp] theorem toL_ofL (l : List Nat) : toL (ofL l) = l := by simp [toL, ofL]
theorem ofL_inj {a b : List Nat} : ofL a = ofL b ↔ a = b := ⟨fun h => by have := congrArg toL h; simpa using this, fun h => by rw [h]⟩
@[simp] theorem ofL_length (l : List Nat) : (ofL l).length = l.length := by simp [ofL, Str.length]
theorem ofL_append (a b : List Nat) : ofL a ++ ofL b = ofL (a ++ b) := by
  have h : toL (ofL a ++ ofL b) = a ++ b := by
    show (Str.append (ofL a) (ofL b)).cps.toList = _
    simp [Str.append, ofL]
  rw [← ofL_toL (ofL a ++ ofL b), h]
def sD (l : List Nat) : D := .str (ofL l)
theorem sD_str (z : Str) : D.str z = sD (toL z) := rfl
@[simp] theorem str_sD (z : Str) : D.str z = sD (toL z) := (rfl)
theorem sD_inj {a b : List Nat} : sD a = sD b ↔ a = b := by
  unfold sD
  constructor
  · intro h; injection h with h; exact ofL_inj.mp h
  · intro h; rw [h]
theorem beq_ofL (a b : List Nat) : (ofL a == ofL b) = (a == b) := by
  rw [Bool.eq_iff_iff, beq_iff_eq, beq_iff_eq, ofL_inj]
section
variable {a b l : List Nat} {i : Nat} {c : Nat} {z : Str}
theorem add_ss (h : a.length + b.length ≤ sizeLine) : oAdd (sD a) (sD b) = .ok (sD (a ++ b)) := by
  rw [sD, sD, oAdd_str, ofL_length, ofL_length, if_pos h, ofL_append, sD]
@[simp] theorem add_ss' (h : a.length + b.length ≤ 1000000) : oAdd (sD a) (sD b) = .ok (sD (a ++ b)) := add_ss (le_line h)
@[simp] theorem eq_ss : oEq (sD a) (sD b) = .ok (.bl (a == b)) := by rw [sD, sD, oEq_str, beq_ofL]
@[simp] theorem ne_ss : oNe (sD a) (sD b) = .ok (.bl (!(a == b))) := by rw [sD, sD, oNe_str, beq_ofL]
@[simp] theorem eqD_ss : eqD (sD a) (sD b) = (a == b) := by rw [sD, sD, eqD_str, beq_ofL]
@[simp] theorem flatD_sD : flatD (sD a) = true := (rfl)
@[simp] theorem lf_sD : lf (sD a) = true := lf_str _
@[simp] theorem isD_sD (t : Ty) : isD t (sD a) = .ok (.bl (t == .str)) := isD_str _ t
@[simp] theorem isNon_sD : isNon (sD a) = false := (rfl)
@[simp] theorem isStrD_sD : isStrD (sD a) = true := (rfl)
@[simp] theorem bLen_sD (h : l.length ≤ 1000000) : bLen [sD l] = .ok (nD l.length) := by
  rw [sD, bLen_strn, ofL_length, if_pos (le_line h)]
theorem ix_s (h : l.length ≤ 1000000) : oIx (sD l) (nD i) = ixO (l[i]?.map fun c => sD [c]) := by
  show (if (ofL l).length ≤ sizeLine then match atI (ofL l).cps.toList (i : Int) with | some c => Out.ok (D.str ⟨#[c]⟩) | none => .stuck else .stuck) = _
  rw [ofL_length, if_pos (le_line h), atI_nat']
  have : (ofL l).cps.toList = l := toL_ofL l
  rw [this]
  cases l[i]? <;> rfl
@[simp] theorem ix_s' (h : l.length ≤ 1000000) : oIx (sD l) (nD i) = ixO (l[i]?.map fun c => sD [c]) := ix_s h
theorem ix_last (h : l.length ≤ 1000000) : oIx (sD l) (.int (-1)) = ixO (l.getLast?.map fun c => sD [c]) := by
  show (if (ofL l).length ≤ sizeLine then match atI (ofL l).cps.toList (-1) with | some c => Out.ok (D.str ⟨#[c]⟩) | none => .stuck else .stuck) = _
  have e : (ofL l).cps.toList = l := toL_ofL l
  rw [ofL_length, if_pos (le_line h), e]
  have : atI l (-1) = l.getLast? := by
    unfold atI ixN
    rw [if_neg (by decide), List.getLast?_eq_getElem?]
    by_cases hl : 0 < l.length
    · rw [if_pos (by omega)]
      show l[((-1 : Int) + l.length).toNat]? = _
      rw [show ((-1 : Int) + l.length).toNat = l.length - 1 by omega]
    · rw [if_neg (by omega)]
      have : l = [] := List.length_eq_zero_iff.mp (by omega)
      subst this
      rfl
  rw [this]
  cases l.getLast? <;> rfl
theorem sl_s (lo hi : Option Int) (h : l.length ≤ 1000000) : oSl lo hi (sD l) = .ok (sD (cutL l lo hi)) := by
  rw [sD, oSl_str, ofL_length, if_pos (le_line h)]
  unfold cutS cutL
  have e : (ofL l).cps.toList = l := toL_ofL l
  rw [e, ofL_length]
  rfl
@[simp] theorem sl_s' (lo hi : Option Int) (h : l.length ≤ 1000000) : oSl lo hi (sD l) = .ok (sD (cutL l lo hi)) := sl_s lo hi h
@[simp] theorem iSeq_sD : iSeq (sD l) = .ok (l.map fun c => sD [c]) := by
  rw [sD, iSeq_str]
  have e : (ofL l).cps.toList = l := toL_ofL l
  rw [e]
  rfl
theorem inD_cons (x d : D) (ds : List D) : inD x (d :: ds) = (eqD d x || inD x ds) := rfl
theorem inD_nil (x : D) : inD x [] = false := rfl
theorem inD_nn (x : Nat) : ∀ ks : List Nat, inD (nD x) (ks.map nD) = decide (x ∈ ks)
  | [] => rfl
  | k :: ks => by
    rw [List.map_cons, inD_cons, inD_nn x ks, eqD_nn, Bool.eq_iff_iff, Bool.or_eq_true, beq_iff_eq, decide_eq_true_eq, decide_eq_true_eq, List.mem_cons, eq_comm]
theorem inD_ss (x : List Nat) : ∀ ks : List (List Nat), inD (sD x) (ks.map sD) = decide (x ∈ ks)
  | [] => rfl
  | k :: ks => by
    rw [List.map_cons, inD_cons, inD_ss x ks, eqD_ss, Bool.eq_iff_iff, Bool.or_eq_true, beq_iff_eq, decide_eq_true_eq, decide_eq_true_eq, List.mem_cons, eq_comm]
theorem allflat_n : ∀ ks : List Nat, (ks.map nD).all flatD = true
  | [] => rfl
  | k :: ks => by rw [List.map_cons, List.all_cons, allflat_n ks]; rfl
theorem allflat_s : ∀ ks : List (List Nat), (ks.map sD).all flatD = true
  | [] => rfl
  | k :: ks => by rw [List.map_cons, List.all_cons, allflat_s ks]; rfl
theorem oIn_lst {x : D} {ds : List D} (neg : Bool) (h1 : flatD x = true) (h2 : ds.all flatD = true) : oIn neg x (.lst ds) = .ok (.bl (neg != inD x ds)) := by
  have : oIn neg x (.lst ds) = if (flatD x && ds.all flatD) || (okD 60 x && okDs 59 ds) then .ok (.bl (neg != inD x ds)) else .stuck := by cases x <;> rfl
  rw [this, h1, h2]
  rfl
theorem oIn_tup {x : D} {ds : List D} (neg : Bool) (h1 : flatD x = true) (h2 : ds.all flatD = true) : oIn neg x (.tup ds) = .ok (.bl (neg != inD x ds)) := by
  have : oIn neg x (.tup ds) = if flatD x && ds.all flatD then .ok (.bl (neg != inD x ds)) else .stuck := by cases x <;> rfl
  rw [this, h1, h2]
  rfl
theorem in_nn (neg : Bool) (x : Nat) (ks : List Nat) : oIn neg (nD x) (.lst (ks.map nD)) = .ok (.bl (neg != decide (x ∈ ks))) := by
  rw [oIn_lst neg flatD_nD (allflat_n ks), inD_nn]
theorem in_ss (neg : Bool) (x : List Nat) (ks : List (List Nat)) : oIn neg (sD x) (.lst (ks.map sD)) = .ok (.bl (neg != decide (x ∈ ks))) := by
  rw [oIn_lst neg flatD_sD (allflat_s ks), inD_ss]
theorem in_sst (neg : Bool) (x : List Nat) (ks : List (List Nat)) : oIn neg (sD x) (.tup (ks.map sD)) = .ok (.bl (neg != decide (x ∈ ks))) := by
  rw [oIn_tup neg flatD_sD (allflat_s ks), inD_ss]
theorem in_cs (neg : Bool) (c : Nat) (l : List Nat) : oIn neg (sD [c]) (sD l) = .ok (.bl (neg != decide (c ∈ l))) := by
  have e : (ofL l).cps.toList = l := toL_ofL l
  show (match (ofL [c]).cps.toList with | [c] => Out.ok (D.bl (neg != decide (c ∈ (ofL l).cps.toList))) | _ => .stuck) = _
  rw [e, show (ofL [c]).cps.toList = [c] from toL_ofL [c]]
end
/-! the letters -/
def abc : List Nat := (List.range 26).map (97 + ·)
theorem abc_str : ("abcdefghijklmnopqrstuvwxyz" : Str) = ofL abc := by decide +kernel
@[simp] theorem toL_abc : toL "abcdefghijklmnopqrstuvwxyz" = abc := by rw [abc_str, toL_ofL]
@[simp] theorem abc_len : abc.length = 26 := by decide
theorem abc_at {i : Nat} (h : i < 26) : abc[i]? = some (97 + i) := by
  unfold abc
  rw [List.getElem?_map, List.getElem?_range h]
  rfl
theorem empty_str : ("" : Str) = ofL [] := by decide +kernel
@[simp] theorem toL_empty : toL "" = [] := by rw [empty_str, toL_ofL]
end CW
namespace CW
open PySem PySem.Spec PyProof.Rows L2

/-! ### joined texts, numbers as texts -/
def joinN (s : List Nat) (ws : List (List Nat)) : List Nat := _root_.TL.joinL s ws
@[simp] theorem joinN_nil (s) : joinN s [] = [] := (rfl)
@[simp] theorem joinN_one (s w) : joinN s [w] = w := (rfl)
theorem joinN_cons (s w v) (ws : List (List Nat)) : joinN s (w :: v :: ws) = w ++ (s ++ joinN s (v :: ws)) := rfl
theorem joinN_len (s : List Nat) : ∀ ws : List (List Nat), (joinN s ws).length ≤ (ws.map (·.length)).sum + ws.length * s.length
  | [] => by simp
  | [w] => by simp
  | w :: v :: ws => by
    have := joinN_len s (v :: ws)
    rw [joinN_cons]
    simp only [List.length_append, List.map_cons, List.sum_cons, List.length_cons] at this ⊢
    rw [Nat.add_mul]
    omega
theorem map_ofL_len (ws : List (List Nat)) : (ws.map ofL).map (·.length) = ws.map (·.length) := by
  rw [List.map_map]
  exact List.map_congr_left fun w _ => ofL_length w
theorem v_joinD (s : List Nat) (ws : List (List Nat)) (h : (ws.map (·.length)).sum + ws.length * s.length ≤ 16777216) : joinD (ofL s) (ws.map sD) = .ok (sD (joinN s ws)) := by
  have e : ws.map sD = (ws.map ofL).map D.str := by rw [List.map_map]; rfl
  unfold joinD
  rw [e, strsOf_map]
  dsimp only
  rw [map_ofL_len, List.length_map, ofL_length, if_pos h]
  congr 1
  have h2 : toL (Txt.join (ofL s) (ws.map ofL)) = joinN s ws := by
    show _root_.TL.tl _ = _
    rw [_root_.TL.join_eq, _root_.TL.tl_join]
    unfold joinN
    have : (_root_.TL.tl ∘ ofL) = id := by funext w; exact toL_ofL w
    rw [List.map_map, this, List.map_id, show _root_.TL.tl (ofL s) = s from toL_ofL s]
  rw [← h2]
  rfl
theorem v_join (s : List Nat) (ws : List (List Nat)) (h : (ws.map (·.length)).sum + ws.length * s.length ≤ 16777216) : mJoin (sD s) (.lst (ws.map sD)) = .ok (sD (joinN s ws)) := v_joinD s ws h
theorem sum_le {α : Type} (f : α → Nat) (b : Nat) : ∀ xs : List α, (∀ x ∈ xs, f x ≤ b) → (xs.map f).sum ≤ xs.length * b
  | [], _ => by simp
  | x :: xs, h => by
    have h1 := h x List.mem_cons_self
    have := sum_le f b xs fun y hy => h y (List.mem_cons_of_mem _ hy)
    simp only [List.map_cons, List.sum_cons, List.length_cons, Nat.add_mul, Nat.one_mul]
    omega
/-- .. with all words short -/
theorem v_join_b (s : List Nat) (ws : List (List Nat)) (n b : Nat) (hn : ws.length ≤ n) (hb : ∀ w ∈ ws, w.length ≤ b) (h : n * b + n * s.length ≤ 16777216) : mJoin (sD s) (.lst (ws.map sD)) = .ok (sD (joinN s ws)) := by
  refine v_join s ws (Nat.le_trans (Nat.add_le_add (sum_le _ b ws hb) (Nat.le_refl _)) (Nat.le_trans (Nat.add_le_add (Nat.mul_le_mul_right b hn) (Nat.mul_le_mul_right _ hn)) h))
theorem joinN_len_b (s : List Nat) (ws : List (List Nat)) (n b : Nat) (hn : ws.length ≤ n) (hb : ∀ w ∈ ws, w.length ≤ b) : (joinN s ws).length ≤ n * b + n * s.length :=
  Nat.le_trans (joinN_len s ws) (Nat.le_trans (Nat.add_le_add (sum_le _ b ws hb) (Nat.le_refl _)) (Nat.add_le_add (Nat.mul_le_mul_right b hn) (Nat.mul_le_mul_right _ hn)))
/-- a number as a text -/
def numL (n : Nat) : List Nat := toL (toString (n : Int) : Str)
theorem v_str (n : Nat) (h : n < 2 ^ 1000) : bStr [nD n] = .ok (sD (numL n)) := by
  show (if (n : Int).natAbs.log2 < 1920 then Out.ok (D.str (toString (n : Int))) else .stuck) = _
  rw [if_pos]
  · rfl
  · rw [Int.natAbs_natCast]
    by_cases h0 : n = 0
    · subst h0; decide
    · have := (Nat.log2_lt h0).mpr h
      omega
theorem numL_len : ∀ n, n < 64 → (numL n).length ≤ 2 := by decide +kernel
end CW
namespace CW
open PySem PySem.Spec PyProof.Rows L2
noncomputable section
def b1_bits : Env → Fl := (fAsg [] 1 (eOp oOr (eV 1) (eOp oShl (eC (.int 1)) (eV 2))))
def d_bits : Env → Fl := (fSeq (fAsg [] 1 (eC (.int 0)))
    (fSeq (fFor [] [2] gN (eI (eV 0))
    b1_bits)
    (fRet (eV 1))))
def f_bits : List D → Out D := runF 3 1 d_bits
def c1_ones : Env → Out Bool := (tB1 (eOp oEq (eOp oAnd (eOp oShr (eV 0) (eV 1)) (eC (.int 1))) (eC (.int 1))))
def d_ones : Env → Fl := (fRetO (oLc [1] [1] (iRg1 (aC (eUn mBitLen (eV 0)) aN)) gN c1_ones (eV 1)))
def f_ones : List D → Out (List D) := runL 2 1 d_ones
def b1_l_alike (fn : List D → Out D) : Env → Fl := (fIf (tNot' (tTru (eCall fn (aC (eOp oIx (eV 0) (eV 2)) (aC (eOp oIx (eV 1) (eV 2)) aN)))))
    (fRet (eC (.bl false)))
    fNx)
def d_l_alike (fn : List D → Out D) : Env → Fl := (fSeq (fIf (tTru (eUn (isD .bool) (eV 1)))
    (fRet (eAnd (eUn (isD .bool) (eV 0)) (eOp oEq (eV 0) (eV 1))))
    fNx)
    (fSeq (fIf (tTru (eUn (isD .int) (eV 1)))
    (fRet (eAnd (eUn (isD .int) (eV 0)) (eAnd (eNot (eUn (isD .bool) (eV 0))) (eOp oEq (eV 0) (eV 1)))))
    fNx)
    (fSeq (fIf (tTru (eUn (isD .str) (eV 1)))
    (fRet (eAnd (eUn (isD .str) (eV 0)) (eOp oEq (eV 0) (eV 1))))
    fNx)
    (fSeq (fIf (tTru (eUn (isD .tuple) (eV 1)))
    (fIf (tNot' (tTru (eUn (isD .tuple) (eV 0))))
    (fRet (eC (.bl false)))
    fNx)
    (fIf (tNot' (tTru (eUn (isD .list) (eV 0))))
    (fRet (eC (.bl false)))
    fNx))
    (fSeq (fIf (tB1 (eOp oNe (eB bLen (aC (eV 0) aN)) (eB bLen (aC (eV 1) aN))))
    (fRet (eC (.bl false)))
    fNx)
    (fSeq (fFor [] [2] gN (iRg1 (aC (eB bLen (aC (eV 1) aN)) aN))
    (b1_l_alike fn))
    (fRet (eC (.bl true)))))))))
def f_l_alike : Nat → List D → Out D
  | 0 => fun _ => .stuck
  | n + 1 => runF 3 2 (d_l_alike (f_l_alike n))
def b1_is_name : Env → Fl := (fIf (tB1 (eOp (oIn true) (eV 1) (eC (.str "abcdefghijklmnopqrstuvwxyz"))))
    (fRet (eC (.bl false)))
    fNx)
def d_is_name : Env → Fl := (fSeq (fIf (tOr' (tNot' (tB1 (eChain oLe oLe (eC (.int 1)) (eB bLen (aC (eV 0) aN)) (eC (.int 8))))) (tB1 (eOp (oIn false) (eV 0) (eC (.cst ["given", "made", "up", "down", "start"])))))
    (fRet (eC (.bl false)))
    fNx)
    (fSeq (fFor [] [1] gN (eI (eV 0))
    b1_is_name)
    (fRet (eC (.bl true)))))
def f_is_name : List D → Out D := runF 2 1 d_is_name
def d_names : Env → Fl := (fRetO (oLc [1, 2] [1, 2] (eI (eOp oIx (eV 0) (eC (.int 0)))) (gT 2) cYes (eV 1)))
def f_names : List D → Out (List D) := runL 3 1 d_names
def c1_made : Env → Out Bool := (tB1 (eOp oEq (eOp oIx (eV 2) (eC (.int 1))) (eC (.str "made"))))
def d_made : Env → Fl := (fRetO (oLc [1, 2] [1, 2] (iEn (aC (eOp oIx (eV 0) (eC (.int 0))) aN)) (gT 2) c1_made (eV 1)))
def f_made : List D → Out (List D) := runL 3 1 d_made
def c1_steps_of : Env → Out Bool := (tAnd' (tB1 (eOp oEq (eOp oIx (eV 4) (eC (.int 0))) (eV 1))) (tB1 (eOp oEq (eOp oIx (eV 4) (eC (.int 1))) (eV 2))))
def d_steps_of : Env → Fl := (fRetO (oLc [3, 4] [3, 4] (iEn (aC (eOp oIx (eV 0) (eC (.int 1))) aN)) (gT 2) c1_steps_of (eV 3)))
def f_steps_of : List D → Out (List D) := runL 5 3 d_steps_of
def d_l_mix : Env → Fl := (fSeq (fAsg [] 2 (eOp oAdd (eOp oMul (eC (.int 7919)) (eV 1)) (eC (.int 12345))))
    (fSeq (fIf (tB1 (eOp oGt (eB bLen (aC (eV 0) aN)) (eC (.int 0))))
    (fSeq (fAsg [] 2 (eOp oAdd (eV 2) (eOp oDiv (eV 1) (eB bLen (aC (eV 0) aN)))))
    (fAsg [] 2 (eOp oAdd (eV 2) (eOp oMul (eOp oIx (eV 0) (eOp oMod (eV 1) (eB bLen (aC (eV 0) aN)))) (eC (.int 6364136223846793005))))))
    fNx)
    (fRet (eOp oMod (eOp oMul (eV 2) (eC (.int 48271))) (eC (.int 1000000000039))))))
def f_l_mix : List D → Out D := runF 3 2 d_l_mix
def b1_l_name : Env → Fl := (fSeq (fAsg [] 1 (eOp oAdd (eV 1) (eOp oIx (eC (.str "abcdefghijklmnopqrstuvwxyz")) (eOp oMod (eV 2) (eC (.int 26))))))
    (fAsg [] 2 (eOp oDiv (eV 2) (eC (.int 26)))))
def d_l_name : Env → Fl := (fSeq (fAsg [] 1 (eC (.str "")))
    (fSeq (fAsg [] 2 (eOp oDiv (eV 0) (eC (.int 8))))
    (fSeq (fFor [] [3] gN (iRg1 (aC (eOp oAdd (eC (.int 1)) (eOp oMod (eV 0) (eC (.int 8)))) aN))
    b1_l_name)
    (fRet (eV 1)))))
def f_l_name : List D → Out D := runF 4 1 d_l_name
def i1_l_wire_names : Env → Fl := (fIf (tAnd' (tB1 (eOp oGt (eV 5) (eC (.int 0)))) (tB1 (eOp oEq (eOp oMod (eOp oDiv (eV 6) (eC (.int 8))) (eC (.int 2))) (eC (.int 0)))))
    (fSeq (fAsgB 8 (eOp oMod (eOp oDiv (eV 6) (eC (.int 16))) (eB bLen (aC (eOp oIx (eV 3) (eC (.int 0))) aN))))
    (fSeq (fAsgB 7 (eOp oIx (eV 3) (eC (.int 0))))
    (fAsg [.fz, .fz, .fz, .ol, .fz, .fz, .fz, .fz, .fz] 7 (eOp oAdd (eOp oAdd (eSl (eV 7) pN (pS (eV 8))) (eOp oIx (eV 4) (eOp oMod (eOp oDiv (eV 6) (eC (.int 128))) (eC (.int 26))))) (eSl (eV 7) (pS (eOp oAdd (eV 8) (eC (.int 1)))) pN)))))
    fNx)
def t1_l_wire_names : Env → Out Bool := (tOr' (tB1 (eOp (oIn false) (eV 7) (eV 3))) (tB1 (eOp (oIn false) (eV 7) (eL (oLst (aC (eC (.str "given")) (aC (eC (.str "made")) (aC (eC (.str "up")) (aC (eC (.str "down")) (aC (eC (.str "start")) aN))))))))))
def b1_l_wire_names : Env → Fl := (fAsg [.fz, .fz, .fz, .ol, .fz, .fz, .fz, .fz, .fz] 7 (eOp oAdd (eSl (eV 7) pN (pS (eUn oNeg (eC (.int 1))))) (eOp oIx (eV 4) (eOp oMod (eOp oAdd (eM isStrD mSIndex (eV 4) (eOp oIx (eV 7) (eUn oNeg (eC (.int 1))))) (eC (.int 1))) (eC (.int 26))))))
def b2_l_wire_names : Env → Fl := (fSeq (fAsg [.fz, .fz, .fz, .ol, .fz, .fz, .fz, .fz, .fz] 6 (eCall f_l_mix (aC (eV 0) (aC (eOp oAdd (eV 1) (eV 5)) aN))))
    (fSeq (fAsg [.fz, .fz, .fz, .ol, .fz, .fz, .fz, .fz, .fz] 7 (eCall f_l_name (aC (eV 6) aN)))
    (fSeq i1_l_wire_names
    (fSeq (wh t1_l_wire_names
    b1_l_wire_names)
    (fApp [.fz, .fz, .fz, .ol, .fz, .fz, .fz, .fz, .fz] 3 (eV 7))))))
def d_l_wire_names : Env → Fl := (fSeq (fAsgO [.fz, .fz, .fz, .fz, .fz, .fz, .fz, .fz, .fz] 3 (oLst aN))
    (fSeq (fAsg [.fz, .fz, .fz, .ol, .fz, .fz, .fz, .fz, .fz] 4 (eC (.str "abcdefghijklmnopqrstuvwxyz")))
    (fSeq (fFor [.fz, .fz, .fz, .ol, .fz, .fz, .fz, .fz, .fz] [5] gN (iRg1 (aC (eV 2) aN))
    b2_l_wire_names)
    (fRetV 3))))
def f_l_wire_names : List D → Out (List D) := runL 9 3 d_l_wire_names
def e1_l_spots : Env → Out D := (eOp oMod (eOp oAdd (eOp oDiv (eV 0) (eC (.int 256))) (eOp oMul (eV 3) (eV 2))) (eC (.int 64)))
def d_l_spots : Env → Fl := (fSeq (fAsg [] 1 (eOp oIx (eL (oLst (aC (eOp oAdd (eC (.int 1)) (eOp oMod (eOp oDiv (eV 0) (eC (.int 8))) (eC (.int 4)))) (aC (eOp oAdd (eC (.int 1)) (eOp oMod (eOp oDiv (eV 0) (eC (.int 8))) (eC (.int 30)))) aN)))) (eB bInt (aC (eOp oEq (eOp oMod (eV 0) (eC (.int 8))) (eC (.int 3))) aN))))
    (fSeq (fAsg [] 2 (eOp oAdd (eC (.int 1)) (eOp oMul (eC (.int 2)) (eOp oMod (eOp oDiv (eV 0) (eC (.int 16384))) (eC (.int 32))))))
    (fRet (eB bTuple (aC (eL (oB bSortI (aC (eL (oLc [3] [3] (iRg1 (aC (eV 1) aN)) gN cYes e1_l_spots)) aN))) aN)))))
def f_l_spots : List D → Out D := runF 4 1 d_l_spots
def b1_l_graph : Env → Fl := (fApp [.fz, .fz, .fz, .fz, .fz, .fz, .ol, .fz, .fz, .fz, .fz, .fz, .fz, .fz] 6 (eTup (aC (eOp oIx (eV 4) (eV 7)) (aC (eOp oIx (eL (oLst (aC (eC (.str "given")) (aC (eC (.str "made")) aN)))) (eOp oMod (eOp oDiv (eV 5) (eOp oAdd (eC (.int 1)) (eOp oMul (eC (.int 7)) (eV 7)))) (eC (.int 2)))) aN))))
def b2_l_graph : Env → Fl := (fSeq (fAsg [.fz, .fz, .fz, .fz, .fz, .fz, .fz, .fz, .ol, .fz, .fz, .fz, .fz, .fz] 11 (eCall f_l_mix (aC (eV 0) (aC (eOp oAdd (eOp oAdd (eV 1) (eC (.int 15))) (eOp oMul (eC (.int 2)) (eV 7))) aN))))
    (fSeq (fAsg [.fz, .fz, .fz, .fz, .fz, .fz, .fz, .fz, .ol, .fz, .fz, .fz, .fz, .fz] 12 (eCall f_l_spots (aC (eOp oDiv (eV 11) (eC (.int 64))) aN)))
    (fSeq (fAsg [.fz, .fz, .fz, .fz, .fz, .fz, .fz, .fz, .ol, .fz, .fz, .fz, .fz, .fz] 13 (eCall f_l_spots (aC (eCall f_l_mix (aC (eV 0) (aC (eOp oAdd (eOp oAdd (eV 1) (eC (.int 16))) (eOp oMul (eC (.int 2)) (eV 7))) aN))) aN)))
    (fApp [.fz, .fz, .fz, .fz, .fz, .fz, .fz, .fz, .ol, .fz, .fz, .fz, .fz, .fz] 8 (eTup (aC (eOp oMod (eV 11) (eV 3)) (aC (eOp oEq (eOp oMod (eOp oDiv (eV 11) (eC (.int 16))) (eC (.int 2))) (eC (.int 1))) (aC (eV 13) (aC (eV 12) aN)))))))))
def d_l_graph : Env → Fl := (fSeq (fAsg [.fz, .fz, .fz, .fz, .fz, .fz, .fz, .fz, .fz, .fz, .fz, .fz, .fz, .fz] 2 (eCall f_l_mix (aC (eV 0) (aC (eV 1) aN))))
    (fSeq (fAsg [.fz, .fz, .fz, .fz, .fz, .fz, .fz, .fz, .fz, .fz, .fz, .fz, .fz, .fz] 3 (eOp oIx (eL (oLst (aC (eOp oAdd (eC (.int 1)) (eOp oMod (eOp oDiv (eV 2) (eC (.int 4))) (eC (.int 10)))) (aC (eC (.int 10)) aN)))) (eB bInt (aC (eOp oEq (eOp oMod (eV 2) (eC (.int 4))) (eC (.int 1))) aN))))
    (fSeq (fAsg [.fz, .fz, .fz, .fz, .fz, .fz, .fz, .fz, .fz, .fz, .fz, .fz, .fz, .fz] 4 (eL (oCall f_l_wire_names (aC (eV 0) (aC (eOp oAdd (eV 1) (eC (.int 1))) (aC (eV 3) aN))))))
    (fSeq (fAsg [.fz, .fz, .fz, .fz, .fz, .fz, .fz, .fz, .fz, .fz, .fz, .fz, .fz, .fz] 5 (eCall f_l_mix (aC (eV 0) (aC (eOp oAdd (eV 1) (eC (.int 11))) aN))))
    (fSeq (fAsgO [.fz, .fz, .fz, .fz, .fz, .fz, .fz, .fz, .fz, .fz, .fz, .fz, .fz, .fz] 6 (oLst aN))
    (fSeq (fFor [.fz, .fz, .fz, .fz, .fz, .fz, .ol, .fz, .fz, .fz, .fz, .fz, .fz, .fz] [7] gN (iRg1 (aC (eV 3) aN))
    b1_l_graph)
    (fSeq (fAsgO [.fz, .fz, .fz, .fz, .fz, .fz, .fz, .fz, .fz, .fz, .fz, .fz, .fz, .fz] 8 (oLst aN))
    (fSeq (fFor [.fz, .fz, .fz, .fz, .fz, .fz, .fz, .fz, .ol, .fz, .fz, .fz, .fz, .fz] [7] gN (iRg1 (aC (eOp oIx (eL (oLst (aC (eOp oAdd (eC (.int 1)) (eOp oMod (eOp oDiv (eV 2) (eC (.int 64))) (eC (.int 24)))) (aC (eC (.int 24)) aN)))) (eB bInt (aC (eOp oEq (eOp oMod (eOp oDiv (eV 2) (eC (.int 4096))) (eC (.int 4))) (eC (.int 1))) aN))) aN))
    b2_l_graph)
    (fSeq (fAsg [.fz, .fz, .fz, .fz, .fz, .fz, .fz, .fz, .fz, .fz, .fz, .fz, .fz, .fz] 9 (eOp oMod (eCall f_l_mix (aC (eV 0) (aC (eOp oAdd (eV 1) (eC (.int 12))) aN))) (eOp oPow (eC (.int 2)) (eC (.int 32)))))
    (fSeq (fAsg [.fz, .fz, .fz, .fz, .fz, .fz, .fz, .fz, .fz, .fz, .fz, .fz, .fz, .fz] 10 (eOp oAdd (eOp oMul (eOp oMod (eCall f_l_mix (aC (eV 0) (aC (eOp oAdd (eV 1) (eC (.int 13))) aN))) (eOp oPow (eC (.int 2)) (eC (.int 32)))) (eOp oPow (eC (.int 2)) (eC (.int 32)))) (eV 9)))
    (fRet (eTup (aC (eB bTuple (aC (eV 6) aN)) (aC (eB bTuple (aC (eV 8) aN)) (aC (eV 10) (aC (eOp oMod (eOp oMod (eCall f_l_mix (aC (eV 0) (aC (eOp oAdd (eV 1) (eC (.int 14))) aN))) (eOp oPow (eC (.int 2)) (eC (.int 10)))) (eOp oShl (eC (.int 1)) (eV 3))) aN))))))))))))))))
def f_l_graph : List D → Out D := runF 14 2 d_l_graph
def b1_l_is_name : Env → Fl := (fIf (tB1 (eOp (oIn true) (eV 1) (eC (.str "abcdefghijklmnopqrstuvwxyz"))))
    (fRet (eC (.bl false)))
    fNx)
def d_l_is_name : Env → Fl := (fSeq (fIf (tOr' (tB1 (eOp oEq (eV 0) (eC (.str "")))) (tOr' (tB1 (eOp oGt (eB bLen (aC (eV 0) aN)) (eC (.int 8)))) (tB1 (eOp (oIn false) (eV 0) (eL (oLst (aC (eC (.str "given")) (aC (eC (.str "made")) (aC (eC (.str "up")) (aC (eC (.str "down")) (aC (eC (.str "start")) aN)))))))))))
    (fRet (eC (.bl false)))
    fNx)
    (fSeq (fFor [] [1] gN (eI (eV 0))
    b1_l_is_name)
    (fRet (eC (.bl true)))))
def f_l_is_name : List D → Out D := runF 2 1 d_l_is_name
def e1_numbers_shown : Env → Out D := (eB bStr (aC (eV 1) aN))
def d_numbers_shown : Env → Fl := (fRetO (oLc [1] [1] (eI (eV 0)) gN cYes e1_numbers_shown))
def f_numbers_shown : List D → Out (List D) := runL 2 1 d_numbers_shown
def d_step_shown : Env → Fl := (fSeq (fAsgT [] [3, 4, 5, 6] (gT 4) (eV 1))
    (fSeq (fAsg [] 2 (eOp oAdd (eL (oLst (aC (eIf (tTru (eV 4)) (eC (.str "up")) (eC (.str "down"))) (aC (eOp oIx (eOp oIx (eV 0) (eV 3)) (eC (.int 0))) (aC (eC (.str ":")) aN))))) (eL (oCall f_numbers_shown (aC (eV 5) aN)))))
    (fRet (eM isStrD mJoin (eC (.str " ")) (eOp oAdd (eOp oAdd (eV 2) (eL (oLst (aC (eC (.str "->")) aN)))) (eL (oCall f_numbers_shown (aC (eV 6) aN))))))))
def f_step_shown : List D → Out D := runF 7 2 d_step_shown
def e1_shown : Env → Out D := (eOp oAdd (eOp oAdd (eV 9) (eC (.str " "))) (eV 8))
def e2_shown : Env → Out D := (eCall f_step_shown (aC (eV 3) (aC (eV 10) aN)))
def e3_shown : Env → Out D := (eOp oIx (eOp oIx (eV 3) (eV 7)) (eC (.int 0)))
def d_shown : Env → Fl := (fSeq (fAsgT [.fz, .fz, .fz, .fz, .fz, .fz, .fz, .fz, .fz, .fz, .fz] [3, 4, 5, 6] (gT 4) (eV 0))
    (fSeq (fAsgO [.fz, .fz, .fz, .fz, .fz, .fz, .fz, .fz, .fz, .fz, .fz] 1 (oLc [8, 9] [8, 9] (eI (eV 3)) (gT 2) cYes e1_shown))
    (fSeq (fExt [.fz, .ol, .fz, .fz, .fz, .fz, .fz, .fz, .fz, .fz, .fz] 1 (oLc [10] [10] (eI (eV 4)) gN cYes e2_shown))
    (fSeq (fAsg [.fz, .ol, .fz, .fz, .fz, .fz, .fz, .fz, .fz, .fz, .fz] 2 (eL (oLc [7] [7] (eI (eL (oCall f_ones (aC (eV 6) aN)))) gN cYes e3_shown)))
    (fSeq (fApp [.fz, .ol, .fz, .fz, .fz, .fz, .fz, .fz, .fz, .fz, .fz] 1 (eM isStrD mJoin (eC (.str " ")) (eOp oAdd (eOp oAdd (eOp oAdd (eL (oLst (aC (eC (.str "start")) aN))) (eL (oCall f_numbers_shown (aC (eL (oCall f_ones (aC (eV 5) aN))) aN)))) (eL (oLst (aC (eC (.str ":")) aN)))) (eV 2))))
    (fRet (eM isStrD mJoin (eC (.str "\n")) (eV 1))))))))
def f_shown : List D → Out D := runF 11 1 d_shown
def t1_l_places_2 : Env → Out Bool := (tB1 (eOp oGt (eV 0) (eC (.int 0))))
def b1_l_places_2 : Env → Fl := (fSeq (fIf (tB1 (eOp oEq (eOp oMod (eV 0) (eC (.int 2))) (eC (.int 1))))
    (fApp [.fz, .ol, .fz] 1 (eV 2))
    fNx)
    (fSeq (fAsg [.fz, .ol, .fz] 0 (eOp oDiv (eV 0) (eC (.int 2))))
    (fAsg [.fz, .ol, .fz] 2 (eOp oAdd (eV 2) (eC (.int 1))))))
def d_l_places_2 : Env → Fl := (fSeq (fAsgO [.fz, .fz, .fz] 1 (oLst aN))
    (fSeq (fAsg [.fz, .ol, .fz] 2 (eC (.int 0)))
    (fSeq (wh t1_l_places_2
    b1_l_places_2)
    (fRetV 1))))
def f_l_places_2 : List D → Out (List D) := runL 3 1 d_l_places_2
def e1_l_step_words : Env → Out D := (eB bStr (aC (eV 7) aN))
def e2_l_step_words : Env → Out D := (eB bStr (aC (eV 7) aN))
def d_l_step_words : Env → Fl := (fSeq (fAsgT [] [3, 4, 5, 6] (gT 4) (eV 1))
    (fSeq (fAsg [] 2 (eL (oLst (aC (eOp oIx (eL (oLst (aC (eC (.str "down")) (aC (eC (.str "up")) aN)))) (eB bInt (aC (eV 4) aN))) (aC (eOp oIx (eOp oIx (eV 0) (eV 3)) (eC (.int 0))) (aC (eC (.str ":")) aN))))))
    (fRet (eOp oAdd (eOp oAdd (eOp oAdd (eV 2) (eL (oLc [7] [7] (eI (eV 5)) gN cYes e1_l_step_words))) (eL (oLst (aC (eC (.str "->")) aN)))) (eL (oLc [7] [7] (eI (eV 6)) gN cYes e2_l_step_words))))))
def f_l_step_words : List D → Out D := runF 8 2 d_l_step_words
def e1_l_rows : Env → Out D := (eOp oAdd (eOp oAdd (eV 9) (eC (.str " "))) (eV 8))
def b1_l_rows : Env → Fl := (fApp [.fz, .ol, .fz, .fz, .fz, .fz, .fz, .fz, .fz, .fz, .fz, .fz] 1 (eM isStrD mJoin (eC (.str " ")) (eCall f_l_step_words (aC (eV 4) (aC (eV 2) aN)))))
def e2_l_rows : Env → Out D := (eB bStr (aC (eV 10) aN))
def e3_l_rows : Env → Out D := (eOp oIx (eOp oIx (eV 4) (eV 11)) (eC (.int 0)))
def d_l_rows : Env → Fl := (fSeq (fAsgT [.fz, .fz, .fz, .fz, .fz, .fz, .fz, .fz, .fz, .fz, .fz, .fz] [4, 5, 6, 7] (gT 4) (eV 0))
    (fSeq (fAsgO [.fz, .fz, .fz, .fz, .fz, .fz, .fz, .fz, .fz, .fz, .fz, .fz] 1 (oLc [8, 9] [8, 9] (eI (eV 4)) (gT 2) cYes e1_l_rows))
    (fSeq (fFor [.fz, .ol, .fz, .fz, .fz, .fz, .fz, .fz, .fz, .fz, .fz, .fz] [2] gN (eI (eV 5))
    b1_l_rows)
    (fSeq (fAsg [.fz, .ol, .fz, .fz, .fz, .fz, .fz, .fz, .fz, .fz, .fz, .fz] 3 (eOp oAdd (eOp oAdd (eL (oLst (aC (eC (.str "start")) aN))) (eL (oLc [10] [10] (eI (eL (oCall f_l_places_2 (aC (eV 6) aN)))) gN cYes e2_l_rows))) (eL (oLst (aC (eC (.str ":")) aN)))))
    (fSeq (fApp [.fz, .ol, .fz, .fz, .fz, .fz, .fz, .fz, .fz, .fz, .fz, .fz] 1 (eM isStrD mJoin (eC (.str " ")) (eOp oAdd (eV 3) (eL (oLc [11] [11] (eI (eL (oCall f_l_places_2 (aC (eV 7) aN)))) gN cYes e3_l_rows)))))
    (fRetV 1))))))
def f_l_rows : List D → Out (List D) := runL 12 1 d_l_rows
def d_need : Env → Fl := (fIf (tNot' (tTru (eV 0)))
    (fRaise "NoText" (aC (eV 1) aN))
    fNx)
def f_need : List D → Out D := runFX 2 2 d_need
def b1_is_rising : Env → Fl := (fIf (tB1 (eOp oGe (eOp oIx (eV 0) (eOp oSub (eV 1) (eC (.int 1)))) (eOp oIx (eV 0) (eV 1))))
    (fRet (eC (.bl false)))
    fNx)
def d_is_rising : Env → Fl := (fSeq (fFor [] [1] gN (iRg2 (aC (eC (.int 1)) (aC (eB bLen (aC (eV 0) aN)) aN)))
    b1_is_rising)
    (fRet (eC (.bl true))))
def f_is_rising : List D → Out D := runF 2 1 d_is_rising
def b1_spot_of : Env → Fl := (fDrop (eCallX f_need (aC (eOp (oIn false) (eV 2) (eC (.str "0123456789"))) (aC (eV 1) aN))))
def d_spot_of : Env → Fl := (fSeq (fDrop (eCallX f_need (aC (eAnd (eChain oLe oLe (eC (.int 1)) (eB bLen (aC (eV 0) aN)) (eC (.int 2))) (eOr (eOp oEq (eB bLen (aC (eV 0) aN)) (eC (.int 1))) (eOp oNe (eOp oIx (eV 0) (eC (.int 0))) (eC (.str "0"))))) (aC (eV 1) aN))))
    (fSeq (fFor [] [2] gN (eI (eV 0))
    b1_spot_of)
    (fRet (eB bIntS (aC (eV 0) aN)))))
def f_spot_of : List D → Out D := runFX 3 2 d_spot_of
def e1_spots_of : Env → Out D := (eCall f_spot_of (aC (eV 3) (aC (eV 1) aN)))
def d_spots_of : Env → Fl := (fSeq (fAsgO [.fz, .fz, .fz, .fz] 2 (oLc [3] [3] (eI (eV 0)) gN cYes e1_spots_of))
    (fSeq (fDrop (eCallX f_need (aC (eAnd (eCall f_is_rising (aC (eV 2) aN)) (eOr (eOp oEq (eV 2) (eL (oLst aN))) (eOp oLe (eOp oIx (eV 2) (eUn oNeg (eC (.int 1)))) (eC (.int 63))))) (aC (eV 1) aN))))
    (fRetV 2)))
def f_spots_of : List D → Out (List D) := runLX 4 2 d_spots_of
def b1_wire_of : Env → Fl := (fIf (tB1 (eOp oEq (eOp oIx (eV 4) (eC (.int 0))) (eV 0)))
    (fRet (eV 3))
    fNx)
def d_wire_of : Env → Fl := (fSeq (fFor [] [3, 4] (gT 2) (iEn (aC (eV 1) aN))
    b1_wire_of)
    (fRaise "NoText" (aC (eV 2) aN)))
def f_wire_of : List D → Out D := runFX 5 3 d_wire_of
def d_wire_row : Env → Fl := (fSeq (fDrop (eCallX f_need (aC (eAnd (eOp oEq (eB bLen (aC (eV 0) aN)) (eC (.int 2))) (eAnd (eCall f_is_name (aC (eOp oIx (eV 0) (eC (.int 1))) aN)) (eOp oLt (eB bLen (aC (eV 1) aN)) (eC (.int 10))))) (aC (eV 2) aN))))
    (fSeq (fDrop (eCallX f_need (aC (eOp (oIn true) (eOp oIx (eV 0) (eC (.int 1))) (eL (oLc [3, 4] [3, 4] (eI (eV 1)) (gT 2) cYes (eV 3)))) (aC (eV 2) aN))))
    (fRet (eTup (aC (eOp oIx (eV 0) (eC (.int 1))) (aC (eOp oIx (eV 0) (eC (.int 0))) aN))))))
def f_wire_row : List D → Out D := runFX 5 3 d_wire_row
def d_step_row : Env → Fl := (fSeq (fDrop (eCallX f_need (aC (eAnd (eOp oGt (eB bLen (aC (eV 0) aN)) (eC (.int 5))) (eAnd (eOp oEq (eOp oIx (eV 0) (eC (.int 2))) (eC (.str ":"))) (eOp oEq (eM isLstD mCount (eV 0) (eC (.str "->"))) (eC (.int 1))))) (aC (eV 2) aN))))
    (fSeq (fAsg [] 3 (eM isLstD mIndex (eV 0) (eC (.str "->"))))
    (fSeq (fAsg [] 4 (eL (oCallX f_spots_of (aC (eSl (eV 0) (pS (eC (.int 3))) (pS (eV 3))) (aC (eV 2) aN)))))
    (fSeq (fAsg [] 5 (eL (oCallX f_spots_of (aC (eSl (eV 0) (pS (eOp oAdd (eV 3) (eC (.int 1)))) pN) (aC (eV 2) aN)))))
    (fSeq (fDrop (eCallX f_need (aC (eAnd (eOp oNe (eV 4) (eL (oLst aN))) (eOp oNe (eV 5) (eL (oLst aN)))) (aC (eV 2) aN))))
    (fRet (eTup (aC (eCallX f_wire_of (aC (eOp oIx (eV 0) (eC (.int 1))) (aC (eV 1) (aC (eV 2) aN)))) (aC (eOp oEq (eOp oIx (eV 0) (eC (.int 0))) (eC (.str "up"))) (aC (eB bTuple (aC (eV 4) aN)) (aC (eB bTuple (aC (eV 5) aN)) aN)))))))))))
def f_step_row : List D → Out D := runFX 6 3 d_step_row
def e1_start_row : Env → Out D := (eCall f_wire_of (aC (eV 6) (aC (eV 1) (aC (eV 2) aN))))
def d_start_row : Env → Fl := (fSeq (fDrop (eCallX f_need (aC (eOp oEq (eM isLstD mCount (eV 0) (eC (.str ":"))) (eC (.int 1))) (aC (eV 2) aN))))
    (fSeq (fAsg [] 3 (eM isLstD mIndex (eV 0) (eC (.str ":"))))
    (fSeq (fAsg [] 4 (eCall f_bits (aC (eL (oCallX f_spots_of (aC (eSl (eV 0) (pS (eC (.int 1))) (pS (eV 3))) (aC (eV 2) aN)))) aN)))
    (fSeq (fAsg [] 5 (eL (oLc [6] [6] (eI (eSl (eV 0) (pS (eOp oAdd (eV 3) (eC (.int 1)))) pN)) gN cYes e1_start_row)))
    (fSeq (fDrop (eCallX f_need (aC (eCall f_is_rising (aC (eV 5) aN)) (aC (eV 2) aN))))
    (fRet (eTup (aC (eV 4) (aC (eCall f_bits (aC (eV 5) aN)) aN)))))))))
def f_start_row : List D → Out D := runFX 7 3 d_start_row
def i1_read : Env → Fl := (fIf (tOr' (tB1 (eOp oEq (eOp oIx (eV 6) (eC (.int 0))) (eC (.str "up")))) (tB1 (eOp oEq (eOp oIx (eV 6) (eC (.int 0))) (eC (.str "down")))))
    (fSeq (fDrop (eCallX f_need (aC (eOp oLt (eB bLen (aC (eV 2) aN)) (eC (.int 24))) (aC (eV 4) aN))))
    (fAppB 2 (eCallX f_step_row (aC (eV 6) (aC (eV 1) (aC (eV 4) aN))))))
    (fSeq (fDrop (eCallX f_need (aC (eAnd (eOp oEq (eOp oIx (eV 6) (eC (.int 0))) (eC (.str "start"))) (eOp oNe (eV 2) (eL (oLst aN)))) (aC (eV 4) aN))))
    (fAsgB 3 (eCallX f_start_row (aC (eV 6) (aC (eV 1) (aC (eV 4) aN)))))))
def b1_read : Env → Fl := (fSeq (fAug 4 (eC (.int 1)))
    (fSeq (fAsg [.fz, .ol, .ol, .fz, .fz, .fz, .fz] 6 (eL (oM isStrD mSplit (eV 5) (eC (.str " ")))))
    (fSeq (fDrop (eCallX f_need (aC (eOp oIsN (eV 3) (eC .non)) (aC (eV 4) aN))))
    (fIf (tOr' (tB1 (eOp oEq (eOp oIx (eV 6) (eC (.int 0))) (eC (.str "given")))) (tB1 (eOp oEq (eOp oIx (eV 6) (eC (.int 0))) (eC (.str "made")))))
    (fSeq (fDrop (eCallX f_need (aC (eOp oEq (eV 2) (eL (oLst aN))) (aC (eV 4) aN))))
    (fAppB 1 (eCallX f_wire_row (aC (eV 6) (aC (eV 1) (aC (eV 4) aN))))))
    i1_read))))
def d_read : Env → Fl := (fSeq (fAsgO [.fz, .fz, .fz, .fz, .fz, .fz, .fz] 1 (oLst aN))
    (fSeq (fAsgO [.fz, .ol, .fz, .fz, .fz, .fz, .fz] 2 (oLst aN))
    (fSeq (fAsg [.fz, .ol, .ol, .fz, .fz, .fz, .fz] 3 (eC .non))
    (fSeq (fAsg [.fz, .ol, .ol, .fz, .fz, .fz, .fz] 4 (eC (.int 0)))
    (fSeq (fFor [.fz, .ol, .ol, .fz, .fz, .fz, .fz] [5] gN (eI (eL (oM isStrD mSplit (eV 0) (eC (.str "\n")))))
    b1_read)
    (fSeq (fDrop (eCallX f_need (aC (eOp oNotN (eV 3) (eC .non)) (aC (eOp oAdd (eV 4) (eC (.int 1))) aN))))
    (fRet (eTup (aC (eB bTuple (aC (eV 1) aN)) (aC (eB bTuple (aC (eV 2) aN)) (aC (eOp oIx (eV 3) (eC (.int 0))) (aC (eOp oIx (eV 3) (eC (.int 1))) aN))))))))))))
def f_read : List D → Out D := runFX 7 1 d_read
def d_law_k14 : Env → Fl := (fSeq (fAsg [] 1 (eCall f_l_graph (aC (eV 0) (aC (eC (.int 0)) aN))))
    (fSeq (fAsg [] 2 (eCall f_l_graph (aC (eV 0) (aC (eC (.int 80)) aN))))
    (fSeq (fAsg [] 3 (eM isStrD mJoin (eC (.str "\n")) (eL (oCall f_l_rows (aC (eV 1) aN)))))
    (fSeq (fAsg [] 4 (eCall f_read (aC (eV 3) aN)))
    (fSeq (fIf (tOr' (tNot' (tTru (eCall (f_l_alike 6) (aC (eV 4) (aC (eV 1) aN))))) (tNot' (tTru (eCall (f_l_alike 6) (aC (eCall f_read (aC (eCall f_shown (aC (eV 2) aN)) aN)) (aC (eV 2) aN))))))
    (fRet (eC (.bl false)))
    fNx)
    (fRet (eAnd (eCall (f_l_alike 6) (aC (eCall f_read (aC (eV 3) aN)) (aC (eV 1) aN))) (eCall (f_l_alike 6) (aC (eCall f_shown (aC (eV 4) aN)) (aC (eV 3) aN))))))))))
def f_law_k14 : List D → Out D := runF 5 1 d_law_k14
def d_can : Env → Fl := (fSeq (fAsg [] 3 (eCall f_bits (aC (eOp oIx (eOp oIx (eOp oIx (eV 0) (eC (.int 1))) (eV 2)) (eC (.int 2))) aN)))
    (fRet (eOp oEq (eOp oAnd (eOp oIx (eV 1) (eC (.int 0))) (eV 3)) (eV 3))))
def f_can : List D → Out D := runF 4 3 d_can
def d_l_mix_2 : Env → Fl := (fSeq (fAsg [] 2 (eOp oAdd (eOp oMul (eC (.int 7919)) (eV 1)) (eC (.int 12345))))
    (fSeq (fIf (tB1 (eOp oLt (eV 1) (eB bLen (aC (eV 0) aN))))
    (fAsg [] 2 (eOp oAdd (eV 2) (eOp oMul (eOp oIx (eV 0) (eV 1)) (eC (.int 6364136223846793005)))))
    fNx)
    (fRet (eOp oMod (eOp oMul (eV 2) (eC (.int 48271))) (eC (.int 1000000000039))))))
def f_l_mix_2 : List D → Out D := runF 3 2 d_l_mix_2
def b1_l_word : Env → Fl := (fSeq (fAsg [] 7 (eC (.int 0)))
    (fSeq (fIf (tB1 (eOp oEq (eV 6) (eV 4)))
    (fAsg [] 7 (eV 1))
    fNx)
    (fAsg [] 5 (eOp oAdd (eV 5) (eOp oIx (eV 2) (eOp oMod (eOp oAdd (eOp oAdd (eOp oDiv (eV 0) (eC (.int 49))) (eOp oMul (eC (.int 5)) (eV 6))) (eOp oMul (eC (.int 7)) (eV 7))) (eC (.int 26))))))))
def d_l_word : Env → Fl := (fSeq (fAsg [] 2 (eC (.str "abcdefghijklmnopqrstuvwxyz")))
    (fSeq (fAsg [] 3 (eOp oAdd (eC (.int 2)) (eOp oMod (eV 0) (eC (.int 7)))))
    (fSeq (fAsg [] 4 (eOp oMod (eOp oDiv (eV 0) (eC (.int 7))) (eV 3)))
    (fSeq (fAsg [] 5 (eC (.str "")))
    (fSeq (fFor [] [6] gN (iRg1 (aC (eV 3) aN))
    b1_l_word)
    (fSeq (fIf (tB1 (eOp (oIn false) (eV 5) (eL (oLst (aC (eC (.str "given")) (aC (eC (.str "made")) (aC (eC (.str "up")) (aC (eC (.str "down")) (aC (eC (.str "start")) aN)))))))))
    (fAsg [] 5 (eOp oAdd (eSl (eV 5) (pS (eC (.int 1))) pN) (eC (.str "q"))))
    fNx)
    (fRet (eV 5))))))))
def f_l_word : List D → Out D := runF 8 2 d_l_word
def b1_l_spots_2 : Env → Fl := (fSeq (fAsg [.fz, .fz, .ol, .fz, .fz] 4 (eOp oMod (eOp oDiv (eV 0) (eOp oAdd (eC (.int 4)) (eOp oMul (eC (.int 61)) (eV 3)))) (eV 1)))
    (fIf (tB1 (eOp (oIn true) (eV 4) (eV 2)))
    (fApp [.fz, .fz, .ol, .fz, .fz] 2 (eV 4))
    fNx))
def d_l_spots_2 : Env → Fl := (fSeq (fAsgO [.fz, .fz, .fz, .fz, .fz] 2 (oLst aN))
    (fSeq (fFor [.fz, .fz, .ol, .fz, .fz] [3] gN (iRg1 (aC (eOp oAdd (eC (.int 1)) (eOp oMod (eV 0) (eC (.int 4)))) aN))
    b1_l_spots_2)
    (fRet (eB bTuple (aC (eL (oB bSortI (aC (eV 2) aN))) aN)))))
def f_l_spots_2 : List D → Out D := runF 5 2 d_l_spots_2
def e1_l_any : Env → Out D := (eTup (aC (eCall f_l_word (aC (eOp oDiv (eV 3) (eC (.int 240))) (aC (eV 10) aN))) (aC (eOp oIx (eL (oLst (aC (eC (.str "given")) (aC (eC (.str "made")) aN)))) (eOp oMod (eCall f_l_mix_2 (aC (eV 0) (aC (eOp oAdd (eOp oAdd (eV 1) (eC (.int 1))) (eV 10)) aN))) (eC (.int 2)))) aN)))
def b1_l_any : Env → Fl := (fSeq (fAsg [.fz, .fz, .fz, .fz, .fz, .fz, .ol, .fz, .fz, .fz, .fz] 8 (eCall f_l_mix_2 (aC (eV 0) (aC (eOp oAdd (eOp oAdd (eV 1) (eC (.int 1))) (eV 7)) aN))))
    (fSeq (fAsg [.fz, .fz, .fz, .fz, .fz, .fz, .ol, .fz, .fz, .fz, .fz] 9 (eCall f_l_spots_2 (aC (eOp oDiv (eV 8) (eC (.int 40))) (aC (eV 2) aN))))
    (fApp [.fz, .fz, .fz, .fz, .fz, .fz, .ol, .fz, .fz, .fz, .fz] 6 (eTup (aC (eOp oMod (eOp oDiv (eV 8) (eC (.int 4))) (eV 4)) (aC (eOp oEq (eOp oMod (eOp oDiv (eV 8) (eC (.int 2))) (eC (.int 2))) (eC (.int 0))) (aC (eV 9) (aC (eCall f_l_spots_2 (aC (eOp oMod (eOp oMul (eV 8) (eC (.int 48271))) (eC (.int 2147483647))) (aC (eV 2) aN))) aN))))))))
def d_l_any : Env → Fl := (fSeq (fAsg [.fz, .fz, .fz, .fz, .fz, .fz, .fz, .fz, .fz, .fz, .fz] 3 (eCall f_l_mix_2 (aC (eV 0) (aC (eV 1) aN))))
    (fSeq (fAsg [.fz, .fz, .fz, .fz, .fz, .fz, .fz, .fz, .fz, .fz, .fz] 4 (eOp oAdd (eC (.int 1)) (eOp oMod (eV 3) (eC (.int 10)))))
    (fSeq (fAsg [.fz, .fz, .fz, .fz, .fz, .fz, .fz, .fz, .fz, .fz, .fz] 5 (eL (oLc [10] [10] (iRg1 (aC (eV 4) aN)) gN cYes e1_l_any)))
    (fSeq (fAsgO [.fz, .fz, .fz, .fz, .fz, .fz, .fz, .fz, .fz, .fz, .fz] 6 (oLst aN))
    (fSeq (fFor [.fz, .fz, .fz, .fz, .fz, .fz, .ol, .fz, .fz, .fz, .fz] [7] gN (iRg1 (aC (eOp oAdd (eC (.int 1)) (eOp oMod (eOp oDiv (eV 3) (eC (.int 10))) (eC (.int 24)))) aN))
    b1_l_any)
    (fRet (eTup (aC (eB bTuple (aC (eV 5) aN)) (aC (eB bTuple (aC (eV 6) aN)) (aC (eC (.int 0)) (aC (eC (.int 0)) aN)))))))))))
def f_l_any : List D → Out D := runF 11 3 d_l_any
def e1_l_can : Env → Out D := (eOp oEq (eOp oAnd (eOp oShr (eV 1) (eV 2)) (eC (.int 1))) (eC (.int 1)))
def d_l_can : Env → Fl := (fRet (eB bAll (aC (eL (oLc [2] [2] (eI (eOp oIx (eV 0) (eC (.int 2)))) gN cYes e1_l_can)) aN)))
def f_l_can : List D → Out D := runF 3 2 d_l_can
def b1_wants : Env → Fl := (fIf (tAnd' (tB1 (eOp oEq (eOp oIx (eV 5) (eC (.int 0))) (eV 2))) (tTru (eCall f_can (aC (eV 0) (aC (eV 1) (aC (eV 4) aN))))))
    (fSeq (fIf (tTru (eOp oIx (eV 5) (eC (.int 1))))
    (fRet (eC (.int 1)))
    fNx)
    (fAsg [] 3 (eUn oNeg (eC (.int 1)))))
    fNx)
def d_wants : Env → Fl := (fSeq (fAsg [] 3 (eC (.int 0)))
    (fSeq (fFor [] [4, 5] (gT 2) (iEn (aC (eOp oIx (eV 0) (eC (.int 1))) aN))
    b1_wants)
    (fRet (eV 3))))
def f_wants : List D → Out D := runF 6 3 d_wants
end
end CW
namespace CW
open PySem PySem.Spec PyProof.Rows L2

/-! ### alike -/
inductive Al : Nat → D → Prop
  | int (n : Nat) (i : Int) : Al (n + 1) (.int i)
  | bl (n : Nat) (b : Bool) : Al (n + 1) (.bl b)
  | str (n : Nat) (z : Str) : Al (n + 1) (.str z)
  | tup (n : Nat) (ds : List D) : ds.length ≤ 1000000 → (∀ d ∈ ds, Al n d) → Al (n + 1) (.tup ds)
  | lst (n : Nat) (ds : List D) : ds.length ≤ 1000000 → (∀ d ∈ ds, Al n d) → Al (n + 1) (.lst ds)
theorem Al.nD (n k : Nat) : Al (n + 1) (nD k) := .int n k
theorem Al.sD (n : Nat) (z : List Nat) : Al (n + 1) (sD z) := .str n _
theorem alike_loop {n : Nat} (ds : List D) (gd : D) (hg : gd = .tup ds ∨ gd = .lst ds) (h : ∀ d ∈ ds, f_l_alike n [d, d] = .ok (.bl true)) : ∃ ρ, forL [2] gN (b1_l_alike (f_l_alike n)) ((List.range ds.length).map nD) [some gd, some gd, none] = .nx ρ := by
  obtain ⟨ρ, e, _⟩ := forL_go (is := [2]) (asg := gN) (b := b1_l_alike (f_l_alike n)) CW.nD (fun k => [CW.nD k]) (fun _ => rfl) (fun ρ => ∃ v, ρ = [some gd, some gd, v]) (List.range ds.length) _ ⟨none, rfl⟩ (by
    rintro k hk ρ ⟨v, rfl⟩
    have hk' := List.mem_range.mp hk
    have hd := h _ (List.getElem_mem hk')
    refine ⟨_, ?_, some (CW.nD k), rfl⟩
    rcases hg with rfl | rfl <;> simp [b1_l_alike, List.getElem?_eq_getElem hk', hd])
  exact ⟨ρ, e⟩
theorem v_alike : ∀ {n : Nat} {d : D}, Al n d → f_l_alike n [d, d] = .ok (.bl true) := by
  intro n d h
  induction h with
  | int n i => simp [f_l_alike, d_l_alike]
  | bl n b => simp [f_l_alike, d_l_alike]
  | str n z => simp [f_l_alike, d_l_alike]
  | tup n ds hl _ ih =>
    obtain ⟨ρ, e⟩ := alike_loop ds (.tup ds) (.inl rfl) ih
    simp [f_l_alike, d_l_alike, show ds.length < 4611686018427387904 by omega, e]
  | lst n ds hl _ ih =>
    obtain ⟨ρ, e⟩ := alike_loop ds (.lst ds) (.inr rfl) ih
    simp [f_l_alike, d_l_alike, show ds.length < 4611686018427387904 by omega, e]
end CW
namespace CW
open PySem PySem.Spec PyProof.Rows L2

/-! ### graphs -/
structure Step where
  wire : Nat
  up : Bool
  takes : List Nat
  fills : List Nat
  deriving DecidableEq
structure Graph where
  wires : List (List Nat × List Nat)
  steps : List Step
  marks : Nat
  code : Nat
def stepD (s : Step) : D := .tup [nD s.wire, .bl s.up, .tup (s.takes.map nD), .tup (s.fills.map nD)]
def wireD (w : List Nat × List Nat) : D := .tup [sD w.1, sD w.2]
def graphD (g : Graph) : D := .tup [.tup (g.wires.map wireD), .tup (g.steps.map stepD), nD g.marks, nD g.code]
section
variable (s : Step) (w : List Nat × List Nat) (g : Graph)
@[simp] theorem ix_step0 : oIx (stepD s) (nD 0) = .ok (nD s.wire) := by simp [stepD]
@[simp] theorem ix_step1 : oIx (stepD s) (nD 1) = .ok (.bl s.up) := by simp [stepD]
@[simp] theorem ix_step2 : oIx (stepD s) (nD 2) = .ok (.tup (s.takes.map nD)) := by simp [stepD]
@[simp] theorem ix_step3 : oIx (stepD s) (nD 3) = .ok (.tup (s.fills.map nD)) := by simp [stepD]
@[simp] theorem ix_wire0 : oIx (wireD w) (nD 0) = .ok (sD w.1) := by simp [wireD]
@[simp] theorem ix_wire1 : oIx (wireD w) (nD 1) = .ok (sD w.2) := by simp [wireD]
@[simp] theorem ix_graph0 : oIx (graphD g) (nD 0) = .ok (.tup (g.wires.map wireD)) := by simp [graphD]
@[simp] theorem ix_graph1 : oIx (graphD g) (nD 1) = .ok (.tup (g.steps.map stepD)) := by simp [graphD]
@[simp] theorem ix_graph2 : oIx (graphD g) (nD 2) = .ok (nD g.marks) := by simp [graphD]
@[simp] theorem ix_graph3 : oIx (graphD g) (nD 3) = .ok (nD g.code) := by simp [graphD]
@[simp] theorem gT_step : gT 4 (stepD s) = some [nD s.wire, .bl s.up, .tup (s.takes.map nD), .tup (s.fills.map nD)] := (rfl)
@[simp] theorem gT_graph : gT 4 (graphD g) = some [.tup (g.wires.map wireD), .tup (g.steps.map stepD), nD g.marks, nD g.code] := (rfl)
@[simp] theorem gT_wire : gT 2 (wireD w) = some [sD w.1, sD w.2] := (rfl)
end
/-! ### bits -/
def bitsN (ks : List Nat) : Nat := ks.foldl (fun n k => n ||| 2 ^ k) 0
theorem bits_loop : ∀ (ks : List Nat), (∀ k ∈ ks, k ≤ 1000000) → ∀ (n : Nat) (a v : Option D), ∃ v', forL [2] gN b1_bits (ks.map nD) [a, some (nD n), v] = .nx [a, some (nD (ks.foldl (fun n k => n ||| 2 ^ k) n)), v']
  | [], _, n, a, v => ⟨v, rfl⟩
  | k :: ks, h, n, a, v => by
    have hk : k ≤ 1000000 := h k List.mem_cons_self
    obtain ⟨v', e⟩ := bits_loop ks (fun k hk => h k (List.mem_cons_of_mem _ hk)) (n ||| 2 ^ k) a (some (nD k))
    refine ⟨v', ?_⟩
    rw [List.map_cons, forL_nx (es := [nD k]) (r := [a, some (nD (n ||| 2 ^ k)), some (nD k)]) _ _ rfl (by simp [b1_bits, hk]), e]
    rfl
theorem v_bits {ks : List Nat} (h : ∀ k ∈ ks, k ≤ 1000000) : f_bits [.tup (ks.map nD)] = .ok (nD (bitsN ks)) := by
  obtain ⟨v', e⟩ := bits_loop ks h 0 (some (.tup (ks.map nD))) none
  simp [f_bits, d_bits, e, bitsN]
theorem v_bitsL {ks : List Nat} (h : ∀ k ∈ ks, k ≤ 1000000) : f_bits [.lst (ks.map nD)] = .ok (nD (bitsN ks)) := by
  obtain ⟨v', e⟩ := bits_loop ks h 0 (some (.lst (ks.map nD))) none
  simp [f_bits, d_bits, e, bitsN]
theorem bit_dm (x i : Nat) : x.testBit i = (x / 2 ^ i % 2 == 1) := by
  rw [Nat.testBit_eq_decide_div_mod_eq, Bool.eq_iff_iff]
  simp
theorem foldl_bit (i : Nat) : ∀ (ks : List Nat) (n : Nat), (ks.foldl (fun n k => n ||| 2 ^ k) n).testBit i = (n.testBit i || decide (i ∈ ks))
  | [], n => by simp
  | k :: ks, n => by
    rw [List.foldl_cons, foldl_bit i ks, Nat.testBit_or, Nat.testBit_two_pow, Bool.or_assoc]
    congr 1
    rw [Bool.eq_iff_iff, Bool.or_eq_true, decide_eq_true_eq, decide_eq_true_eq, decide_eq_true_eq, List.mem_cons, eq_comm]
theorem bitsN_bit (ks : List Nat) (i : Nat) : (bitsN ks).testBit i = decide (i ∈ ks) := by
  unfold bitsN
  rw [foldl_bit]
  simp
/-! ### can -/
def canN (s : Step) (m : Nat) : Bool := (m &&& bitsN s.takes) == bitsN s.takes
/-- spots of a step are no great numbers -/
def StepOk (s : Step) : Prop := (∀ k ∈ s.takes, k ≤ 1000000) ∧ ∀ k ∈ s.fills, k ≤ 1000000
theorem v_can {g : Graph} {k : Nat} {s : Step} (h : g.steps[k]? = some s) (hs : StepOk s) (m : Nat) (c : D) : f_can [graphD g, .tup [nD m, c], nD k] = .ok (.bl (canN s m)) := by
  simp [f_can, d_can, h, v_bits hs.1, canN]
def canT (s : Step) (m : Nat) : Bool := s.takes.all fun p => m.testBit p
theorem can_eq (s : Step) (m : Nat) : canN s m = canT s m := by
  unfold canN canT
  rw [Bool.eq_iff_iff, beq_iff_eq, List.all_eq_true]
  constructor
  · intro h p hp
    have := congrArg (fun z : Nat => z.testBit p) h
    simp only [Nat.testBit_and, bitsN_bit, decide_eq_true hp, Bool.and_true] at this
    exact this
  · intro h
    apply Nat.eq_of_testBit_eq
    intro i
    rw [Nat.testBit_and, bitsN_bit]
    by_cases hi : i ∈ s.takes
    · rw [decide_eq_true hi, h i hi]; rfl
    · rw [decide_eq_false hi, Bool.and_false]
/-! ### sorted -/
def insN (x : Nat) : List Nat → List Nat
  | [] => [x]
  | y :: ys => if x ≤ y then x :: y :: ys else y :: insN x ys
def sortN : List Nat → List Nat
  | [] => []
  | x :: xs => insN x (sortN xs)
theorem insI_cast (x : Nat) : ∀ ys : List Nat, insI (x : Int) (ys.map fun n : Nat => (n : Int)) = (insN x ys).map fun n : Nat => (n : Int)
  | [] => rfl
  | y :: ys => by
    simp only [List.map_cons, insI, insN]
    by_cases h : x ≤ y
    · rw [if_pos (by omega), if_pos h]; rfl
    · rw [if_neg (by omega), if_neg h, insI_cast x ys]; rfl
theorem sortI_cast : ∀ ys : List Nat, sortI (ys.map fun n : Nat => (n : Int)) = (sortN ys).map fun n : Nat => (n : Int)
  | [] => rfl
  | y :: ys => by rw [List.map_cons, sortI, sortI_cast ys, insI_cast, sortN]
theorem nD_map (ks : List Nat) : ks.map nD = (ks.map fun n : Nat => (n : Int)).map D.int := by rw [List.map_map]; rfl
theorem v_sort (ks : List Nat) : bSortI [.lst (ks.map nD)] = .ok ((sortN ks).map nD) := by
  rw [nD_map, nD_map]
  simp only [bSortI, intsOf_map, sortI_cast]
theorem insN_perm (x : Nat) : ∀ ys, (insN x ys).Perm (x :: ys)
  | [] => .refl _
  | y :: ys => by
    unfold insN
    split
    · exact .refl _
    · exact ((insN_perm x ys).cons y).trans (.swap x y ys)
theorem sortN_perm : ∀ xs, (sortN xs).Perm xs
  | [] => .refl _
  | x :: xs => (insN_perm x _).trans ((sortN_perm xs).cons x)
theorem sortN_mem {x : Nat} {xs : List Nat} : x ∈ sortN xs ↔ x ∈ xs := (sortN_perm xs).mem_iff
theorem sortN_length (xs : List Nat) : (sortN xs).length = xs.length := (sortN_perm xs).length_eq

/-! ### the drawing of numbers -/
def mixN (ns : List Int) (k : Nat) : Nat := if h : k < ns.length then (((7919 * k + 12345 : Nat) + ns[k] * 6364136223846793005) * 48271 % 1000000000039 : Int).toNat else (7919 * k + 12345) * 48271 % 1000000000039
theorem v_l_mix_2 (ns : List Int) (k : Nat) : f_l_mix_2 [.scr ns, nD k] = .ok (nD (mixN ns k)) := by
  by_cases h : k < ns.length
  · simp [f_l_mix_2, d_l_mix_2, h, mixN]
  · simp [f_l_mix_2, d_l_mix_2, h, mixN]
theorem mixN_lt (ns : List Int) (k : Nat) : mixN ns k < 1000000000039 := by
  unfold mixN
  split
  · have := Int.emod_lt_of_pos (((7919 * k + 12345 : Nat) + ns[k] * 6364136223846793005) * 48271) (show (0 : Int) < 1000000000039 by decide)
    have h0 := Int.emod_nonneg (((7919 * k + 12345 : Nat) + ns[k] * 6364136223846793005) * 48271) (show (1000000000039 : Int) ≠ 0 by decide)
    generalize (((7919 * k + 12345 : Nat) + ns[k] * 6364136223846793005) * 48271 % 1000000000039 : Int) = z at this h0
    omega
  · exact Nat.mod_lt _ (by decide)
end CW
namespace CW
open PySem PySem.Spec PyProof.Rows L2

/-! ### the drawn names, graphs of k12, k13, k14, k15 -/
def mixM (ns : List Int) (k : Nat) : Nat := if h : 0 < ns.length then (((7919 * k + 12345 + k / ns.length : Nat) + ns[k % ns.length]'(Nat.mod_lt _ h) * 6364136223846793005) * 48271 % 1000000000039 : Int).toNat else (7919 * k + 12345) * 48271 % 1000000000039
theorem v_l_mix (ns : List Int) (hn : ns.length ≤ 63) (k : Nat) : f_l_mix [.scr ns, nD k] = .ok (nD (mixM ns k)) := by
  by_cases h : 0 < ns.length
  · have h1 : ns.length < 18446744073709551616 := by omega
    have h2 : ns[k % ns.length]? = some (ns[k % ns.length]'(Nat.mod_lt _ h)) := List.getElem?_eq_getElem _
    simp [f_l_mix, d_l_mix, h, mixM, h1, h2]
  · simp [f_l_mix, d_l_mix, h, mixM]
theorem mixM_lt (ns : List Int) (k : Nat) : mixM ns k < 1000000000039 := by
  unfold mixM
  split
  · rename_i h
    generalize (((7919 * k + 12345 + k / ns.length : Nat) : Int) + ns[k % ns.length]'(Nat.mod_lt _ h) * 6364136223846793005) * 48271 = z
    have := Int.emod_lt_of_pos z (show (0 : Int) < 1000000000039 by decide)
    have h0 := Int.emod_nonneg z (show (1000000000039 : Int) ≠ 0 by decide)
    omega
  · exact Nat.mod_lt _ (by decide)
/-- small letters -/
def Letters (z : List Nat) : Prop := ∀ c ∈ z, 97 ≤ c ∧ c < 123
theorem name_loop (cd : Option D) : ∀ (js : List Nat) (z : List Nat) (r : Nat) (v3 : Option D), Letters z → z.length + js.length ≤ 100 → ∃ z' r' v3', z'.length = z.length + js.length ∧ Letters z' ∧
    forL [3] gN b1_l_name (js.map nD) [cd, some (sD z), some (nD r), v3] = .nx [cd, some (sD z'), some (nD r'), v3']
  | [], z, r, v3, hz, _ => ⟨z, r, v3, by simp, hz, rfl⟩
  | j :: js, z, r, v3, hz, h => by
    simp only [List.length_cons] at h
    have h1 : abc[r % 26]? = some (97 + r % 26) := abc_at (Nat.mod_lt _ (by decide))
    have hb : b1_l_name [cd, some (sD z), some (nD r), some (nD j)] = .nx [cd, some (sD (z ++ [97 + r % 26])), some (nD (r / 26)), some (nD j)] := by
      simp [b1_l_name, h1, show z.length + 1 ≤ 1000000 by omega]
    obtain ⟨z', r', v3', hl, hL, e⟩ := name_loop cd js (z ++ [97 + r % 26]) (r / 26) (some (nD j)) (fun c hc => by
      rcases List.mem_append.mp hc with hc | hc
      · exact hz c hc
      · simp at hc; omega) (by simp; omega)
    refine ⟨z', r', v3', by rw [hl]; simp; omega, hL, ?_⟩
    rw [List.map_cons, forL_nx (es := [nD j]) _ _ rfl hb, e]
theorem v_l_name (c : Nat) : ∃ z : List Nat, 1 ≤ z.length ∧ z.length ≤ 8 ∧ Letters z ∧ f_l_name [nD c] = .ok (sD z) := by
  obtain ⟨z, r, v3, hl, hL, e⟩ := name_loop (some (nD c)) (List.range (1 + c % 8)) [] (c / 8) none (fun _ h => by simp at h) (by simp; omega)
  simp at hl
  exact ⟨z, by omega, by omega, hL, by simp [f_l_name, d_l_name, show 1 + c % 8 < 4611686018427387904 by omega, e]⟩
/-! a wire's name that is none of those there -/
def kept : List (List Nat) := [toL "given", toL "made", toL "up", toL "down", toL "start"]
theorem kept_D : [sD (toL "given"), sD (toL "made"), sD (toL "up"), sD (toL "down"), sD (toL "start")] = kept.map sD := rfl
theorem nodup_len : ∀ {xs ys : List (List Nat)}, xs.Nodup → (∀ x ∈ xs, x ∈ ys) → xs.length ≤ ys.length
  | [], ys, _, _ => Nat.zero_le _
  | x :: xs, ys, hn, hs => by
    have hx : x ∈ ys := hs x List.mem_cons_self
    have hn' := List.nodup_cons.mp hn
    have := @nodup_len xs (ys.erase x) hn'.2 fun y hy => (List.mem_erase_of_ne (fun e => hn'.1 (by rw [← e]; exact hy))).mpr (hs y (List.mem_cons_of_mem _ hy))
    rw [List.length_erase_of_mem hx] at this
    have : 0 < ys.length := List.length_pos_of_mem hx
    simp only [List.length_cons]
    omega
/-- the last sign j letters on -/
def rot (p : List Nat) (i j : Nat) : List Nat := p ++ [97 + (i + j) % 26]
theorem rot_good (p : List Nat) (i : Nat) (bad : List (List Nat)) (h : bad.length < 26) : ∃ j, j < 26 ∧ rot p i j ∉ bad := by
  refine Classical.byContradiction fun hne => ?_
  have hall : ∀ j, j < 26 → rot p i j ∈ bad := fun j hj => Classical.byContradiction fun h2 => hne ⟨j, hj, h2⟩
  have hnd : ((List.range 26).map (rot p i)).Nodup := by
    refine List.pairwise_map.mpr (List.Pairwise.imp_of_mem ?_ List.pairwise_lt_range)
    intro a b ha hb hab e
    have ha' := List.mem_range.mp ha
    have hb' := List.mem_range.mp hb
    have e2 := List.append_cancel_left e
    simp at e2
    omega
  have := nodup_len hnd fun x hx => by
    obtain ⟨j, hj, rfl⟩ := List.mem_map.mp hx
    exact hall j (List.mem_range.mp hj)
  simp at this
  omega
theorem abc_ix : ∀ i, i < 26 → Txt.index0 (ofL abc) (ofL [97 + i]) = some i := by decide +kernel
theorem v_index {c : Nat} (h : 97 ≤ c ∧ c < 123) : mSIndex (sD abc) (sD [c]) = .ok (nD (c - 97)) := by
  have := abc_ix (c - 97) (by omega)
  rw [show 97 + (c - 97) = c by omega] at this
  show (match Txt.index0 (ofL abc) (ofL [c]) with | some k => Out.ok (D.int k) | none => .stuck) = _
  rw [this]
  rfl
section
variable (s f m k cl at_ : Option D) (zs : List (List Nat))
abbrev eWN (z : List Nat) : Env := [s, f, m, some (.lst (zs.map sD)), some (sD abc), k, cl, some (sD z), at_]
theorem t_wn (z : List Nat) : t1_l_wire_names (eWN s f m k cl at_ zs z) = .ok (decide (z ∈ zs ++ kept)) := by
  have h1 := in_ss false z zs
  have h2 := in_ss false z kept
  rw [← kept_D] at h2
  simp only [t1_l_wire_names, eWN, q_tOr, q_tB1, q_eOp, q_eV, List.getElem?_cons_succ, List.getElem?_cons_zero, getO_some, Out.bind_ok, h1, asB_bl, q_eL, q_oLst, q_aC, q_aN, q_eC, str_sD]
  by_cases h : z ∈ zs
  · simp [h]
  · simp [h, h2, le_line]
theorem b_wn (p : List Nat) (c : Nat) (h : 97 ≤ c ∧ c < 123) (hp : p.length ≤ 100) : b1_l_wire_names (eWN s f m k cl at_ zs (p ++ [c])) = .nx (eWN s f m k cl at_ zs (p ++ [97 + (c - 97 + 1) % 26])) := by
  have h2 : abc[(c - 97 + 1) % 26]? = some (97 + (c - 97 + 1) % 26) := abc_at (Nat.mod_lt _ (by decide))
  have h3 : oIx (sD (p ++ [c])) (.int (-1)) = .ok (sD [c]) := by
    rw [ix_last (by simp; omega)]
    simp
  simp [b1_l_wire_names, eWN, h2, h3, v_index h, show p.length + 1 ≤ 1000000 by omega]
theorem wh_wn (p : List Nat) (i : Nat) (hi : i < 26) (hp : p.length ≤ 100) : ∀ (n j0 : Nat), (∃ j, j ≤ n ∧ rot p i (j0 + j) ∉ zs ++ kept) → ∃ j, rot p i (j0 + j) ∉ zs ++ kept ∧
    wh t1_l_wire_names b1_l_wire_names (eWN s f m k cl at_ zs (rot p i j0)) = .nx (eWN s f m k cl at_ zs (rot p i (j0 + j)))
  | n, j0, ⟨j, hj, hg⟩ => by
    by_cases h : rot p i j0 ∈ zs ++ kept
    · cases n with
      | zero =>
        have : j = 0 := by omega
        subst this
        exact absurd h hg
      | succ n =>
        have hj0 : j ≠ 0 := fun e => by subst e; exact hg h
        obtain ⟨j', h1, h2⟩ := wh_wn p i hi hp n (j0 + 1) ⟨j - 1, by omega, by rw [show j0 + 1 + (j - 1) = j0 + j by omega]; exact hg⟩
        refine ⟨j' + 1, by rw [show j0 + (j' + 1) = j0 + 1 + j' by omega]; exact h1, ?_⟩
        rw [wh_eq, t_wn, decide_eq_true h, fE_ok]
        dsimp only
        have hb : b1_l_wire_names (eWN s f m k cl at_ zs (rot p i j0)) = .nx (eWN s f m k cl at_ zs (rot p i (j0 + 1))) := by
          unfold rot
          rw [b_wn s f m k cl at_ zs p (97 + (i + j0) % 26) (by omega) hp, show (97 + (i + j0) % 26 - 97 + 1) % 26 = (i + (j0 + 1)) % 26 by omega]
        rw [hb]
        dsimp only
        rw [h2, show j0 + (j' + 1) = j0 + 1 + j' by omega]
    · refine ⟨0, h, ?_⟩
      rw [wh_eq, t_wn, decide_eq_false h]
      rfl
end
structure NameOk (z : List Nat) : Prop where
  pos : 1 ≤ z.length
  le : z.length ≤ 8
  let_ : Letters z
theorem loop_wn (s f m k cl at_ : Option D) (zs : List (List Nat)) (z : List Nat) (hz : NameOk z) (hl : zs.length ≤ 10) : ∃ z', NameOk z' ∧ z' ∉ zs ∧ z' ∉ kept ∧
    wh t1_l_wire_names b1_l_wire_names (eWN s f m k cl at_ zs z) = .nx (eWN s f m k cl at_ zs z') := by
  obtain ⟨p, c, rfl⟩ : ∃ p c, z = p ++ [c] := by
    have : z ≠ [] := fun e => by have := hz.pos; rw [e] at this; simp at this
    exact ⟨z.dropLast, z.getLast this, (List.dropLast_concat_getLast this).symm⟩
  have hc := hz.let_ c (by simp)
  have hp : p.length ≤ 7 := by have := hz.le; simp at this; omega
  have e0 : p ++ [c] = rot p (c - 97) 0 := by
    unfold rot
    congr 2
    omega
  obtain ⟨j, hj, hg⟩ := rot_good p (c - 97) (zs ++ kept) (by rw [List.length_append, show kept.length = 5 from rfl]; omega)
  obtain ⟨j', h1, h2⟩ := wh_wn s f m k cl at_ zs p (c - 97) (by omega) (by omega) 26 0 ⟨j, by omega, by rw [Nat.zero_add]; exact hg⟩
  rw [Nat.zero_add] at h1 h2
  rw [List.mem_append, not_or] at h1
  refine ⟨rot p (c - 97) j', ⟨by simp [rot], by simp [rot]; omega, fun x hx => ?_⟩, h1.1, h1.2, by rw [e0]; exact h2⟩
  unfold rot at hx
  rcases List.mem_append.mp hx with hx | hx
  · exact hz.let_ x (List.mem_append_left _ hx)
  · simp at hx; omega
structure NamesOk (zs : List (List Nat)) : Prop where
  nd : zs.Nodup
  ok : ∀ z ∈ zs, NameOk z ∧ z ∉ kept
theorem names_loop (ns : List Int) (hn : ns.length ≤ 63) (first : Nat) (m : Option D) : ∀ (ks : List Nat) (zs : List (List Nat)) (v5 v6 v7 v8 : Option D), NamesOk zs → (zs = [] → ∀ k ∈ ks.head?, k = 0) → zs.length + ks.length ≤ 10 → ∃ zs' v5' v6' v7' v8', NamesOk zs' ∧ zs'.length = zs.length + ks.length ∧
    forL [5] gN b2_l_wire_names (ks.map nD) [some (.scr ns), some (nD first), m, some (.lst (zs.map sD)), some (sD abc), v5, v6, v7, v8] = .nx [some (.scr ns), some (nD first), m, some (.lst (zs'.map sD)), some (sD abc), v5', v6', v7', v8']
  | [], zs, v5, v6, v7, v8, hz, _, _ => ⟨zs, v5, v6, v7, v8, hz, by simp, rfl⟩
  | k :: ks, zs, v5, v6, v7, v8, hz, h1, hl => by
    simp only [List.length_cons] at hl
    obtain ⟨z, z1, z8, zL, ez⟩ := v_l_name (mixM ns (first + k))
    -- ahead of the while
    obtain ⟨w, at', hw, ew⟩ : ∃ w at', NameOk w ∧ i1_l_wire_names [some (.scr ns), some (nD first), m, some (.lst (zs.map sD)), some (sD abc), some (nD k), some (nD (mixM ns (first + k))), some (sD z), v8] = .nx (eWN (some (.scr ns)) (some (nD first)) m (some (nD k)) (some (nD (mixM ns (first + k)))) at' zs w) := by
      by_cases hk : 0 < k ∧ mixM ns (first + k) / 8 % 2 = 0
      · obtain ⟨y, ys, rfl⟩ : ∃ y ys, zs = y :: ys := by
          cases zs with
          | nil => have := h1 rfl k (by simp); omega
          | cons y ys => exact ⟨y, ys, rfl⟩
        have hy := (hz.ok y List.mem_cons_self).1
        have hat : mixM ns (first + k) / 16 % y.length < y.length := Nat.mod_lt _ hy.pos
        have e1 : abc[mixM ns (first + k) / 128 % 26]? = some (97 + mixM ns (first + k) / 128 % 26) := abc_at (Nat.mod_lt _ (by decide))
        refine ⟨y.take (mixM ns (first + k) / 16 % y.length) ++ [97 + mixM ns (first + k) / 128 % 26] ++ y.drop (mixM ns (first + k) / 16 % y.length + 1), some (nD (mixM ns (first + k) / 16 % y.length)), ⟨by simp; omega, ?_, ?_⟩, ?_⟩
        · have := hy.le
          simp
          omega
        · intro x hx
          simp only [List.mem_append, List.mem_singleton] at hx
          rcases hx with (hx | hx) | hx
          · exact hy.let_ x (List.mem_of_mem_take hx)
          · omega
          · exact hy.let_ x (List.mem_of_mem_drop hx)
        · have := hy.le
          have := hy.pos
          have a1 : oAdd (sD (y.take (mixM ns (first + k) / 16 % y.length))) (sD [97 + mixM ns (first + k) / 128 % 26]) = .ok (sD _) := add_ss' (by simp; omega)
          have a2 : oAdd (sD (y.take (mixM ns (first + k) / 16 % y.length) ++ [97 + mixM ns (first + k) / 128 % 26])) (sD (y.drop (mixM ns (first + k) / 16 % y.length + 1))) = .ok (sD _) := add_ss' (by simp; omega)
          simp [i1_l_wire_names, hk.1, hk.2, eWN, e1, show y.length ≤ 1000000 by omega, show 0 < y.length by omega, a1, a2]
      · refine ⟨z, v8, ⟨z1, z8, zL⟩, ?_⟩
        by_cases h : 0 < k
        · have h' : ¬ mixM ns (first + k) / 8 % 2 = 0 := fun e => hk ⟨h, e⟩
          simp [i1_l_wire_names, h, h', eWN]
        · simp [i1_l_wire_names, h, eWN]
    obtain ⟨z', hz', n1, n2, e⟩ := loop_wn (some (.scr ns)) (some (nD first)) m (some (nD k)) (some (nD (mixM ns (first + k)))) at' zs w hw (by omega)
    have hb : b2_l_wire_names [some (.scr ns), some (nD first), m, some (.lst (zs.map sD)), some (sD abc), some (nD k), v6, v7, v8] =
        .nx [some (.scr ns), some (nD first), m, some (.lst ((zs ++ [z']).map sD)), some (sD abc), some (nD k), some (nD (mixM ns (first + k))), some (sD z'), at'] := by
      simp only [b2_l_wire_names]
      simp [v_l_mix ns hn, ez, ew, e, eWN, lt_line (show zs.length < 1000000 by omega)]
    have hnd : NamesOk (zs ++ [z']) := ⟨List.nodup_append.mpr ⟨hz.nd, by simp, fun a ha b hb => by
      simp at hb
      subst hb
      exact fun e => n1 (by rw [← e]; exact ha)⟩, fun x hx => by
      rcases List.mem_append.mp hx with hx | hx
      · exact hz.ok x hx
      · simp at hx
        subst hx
        exact ⟨hz', n2⟩⟩
    obtain ⟨zs', v5', v6', v7', v8', o1, o2, e2⟩ := names_loop ns hn first m ks (zs ++ [z']) (some (nD k)) (some (nD (mixM ns (first + k)))) (some (sD z')) at' hnd (fun e => by simp at e) (by simp; omega)
    refine ⟨zs', v5', v6', v7', v8', o1, by rw [o2]; simp; omega, ?_⟩
    rw [List.map_cons, forL_nx (es := [nD k]) _ _ rfl hb, e2]
end CW
namespace CW
open PySem PySem.Spec PyProof.Rows L2

theorem v_l_wire_names (ns : List Int) (hn : ns.length ≤ 63) (first many : Nat) (hm : many ≤ 10) : ∃ zs, NamesOk zs ∧ zs.length = many ∧ f_l_wire_names [.scr ns, nD first, nD many] = .ok (zs.map sD) := by
  obtain ⟨zs, v5, v6, v7, v8, h1, h2, e⟩ := names_loop ns hn first (some (nD many)) (List.range many) [] none none none none ⟨by simp, by simp⟩ (fun _ k hk => by
    cases many with
    | zero => simp at hk
    | succ n => rw [List.range_succ_eq_map] at hk; simpa using hk.symm) (by simpa using hm)
  refine ⟨zs, h1, by simpa using h2, ?_⟩
  simp at e
  simp [f_l_wire_names, d_l_wire_names, show many < 4611686018427387904 by omega, e]
/-! spots -/
def spM (c : Nat) : List Nat := sortN ((List.range (if c % 8 = 3 then 1 + c / 8 % 30 else 1 + c / 8 % 4)).map fun k => (c / 256 + k * (1 + 2 * (c / 16384 % 32))) % 64)
theorem v_l_spots (c : Nat) : f_l_spots [nD c] = .ok (.tup ((spM c).map nD)) := by
  have key : ∀ many, many ≤ 30 → ∀ f, compL [3] gN cYes e1_l_spots [some (nD c), some (nD many), some (nD f), none] ((List.range many).map nD) = .ok (((List.range many).map fun k => (c / 256 + k * f) % 64).map nD) := by
    intro many hm f
    rw [List.map_map]
    refine compL_map nD (fun k => [nD k]) (fun _ => rfl) _ _ fun i hi => ?_
    have := List.mem_range.mp hi
    simp [e1_l_spots, show i < 18446744073709551616 by omega]
  by_cases h : c % 8 = 3
  · have k := key (1 + c / 8 % 30) (by omega) (1 + 2 * (c / 16384 % 32))
    simp at k
    have s := v_sort ((List.range (1 + c / 8 % 30)).map fun k => (c / 256 + k * (1 + 2 * (c / 16384 % 32))) % 64)
    simp at s
    simp [f_l_spots, d_l_spots, le_line, h, show 1 + c / 8 % 30 < 4611686018427387904 by omega, le_line (show 1 + c / 8 % 30 ≤ 1000000 by omega), k, s, spM]
  · have k := key (1 + c / 8 % 4) (by omega) (1 + 2 * (c / 16384 % 32))
    simp at k
    have s := v_sort ((List.range (1 + c / 8 % 4)).map fun k => (c / 256 + k * (1 + 2 * (c / 16384 % 32))) % 64)
    simp at s
    simp [f_l_spots, d_l_spots, le_line, h, show 1 + c / 8 % 4 < 4611686018427387904 by omega, le_line (show 1 + c / 8 % 4 ≤ 1000000 by omega), k, s, spM]
theorem odd_dvd {f d : Nat} (hf : f % 2 = 1) (h : 64 ∣ d * f) : 64 ∣ d := by
  have : Nat.Coprime (2 ^ 6) f := Nat.Coprime.pow_left 6 (by
    unfold Nat.Coprime
    rw [Nat.gcd_rec, hf]
    rfl)
  exact Nat.Coprime.dvd_of_dvd_mul_right this h
/-- strictly rising -/
def Rising (ks : List Nat) : Prop := ks.Pairwise (· < ·)
theorem insN_sorted (x : Nat) : ∀ {ys : List Nat}, ys.Pairwise (· ≤ ·) → (insN x ys).Pairwise (· ≤ ·)
  | [], _ => by simp [insN]
  | y :: ys, h => by
    have h' := List.pairwise_cons.mp h
    unfold insN
    split
    · rename_i hx
      refine .cons (fun z hz => ?_) h
      rcases List.mem_cons.mp hz with rfl | hz
      · exact hx
      · exact Nat.le_trans hx (h'.1 z hz)
    · refine .cons (fun z hz => ?_) (insN_sorted x h'.2)
      rcases List.mem_cons.mp ((insN_perm x ys).mem_iff.mp hz) with rfl | hz
      · omega
      · exact h'.1 z hz
theorem sortN_sorted : ∀ xs : List Nat, (sortN xs).Pairwise (· ≤ ·)
  | [] => .nil
  | x :: xs => insN_sorted x (sortN_sorted xs)
theorem rising_of {xs : List Nat} (h : xs.Pairwise (· ≤ ·)) (hn : xs.Nodup) : Rising xs := by
  have := h.and hn
  exact this.imp fun ⟨a, b⟩ => by omega
structure SpOk (ks : List Nat) : Prop where
  ri : Rising ks
  lt : ∀ k ∈ ks, k < 64
  pos : 1 ≤ ks.length
  le : ks.length ≤ 30
theorem spM_ok (c : Nat) : SpOk (spM c) := by
  unfold spM
  generalize hm : (if c % 8 = 3 then 1 + c / 8 % 30 else 1 + c / 8 % 4) = many
  have m1 : 1 ≤ many ∧ many ≤ 30 := by rw [← hm]; split <;> omega
  refine ⟨rising_of (sortN_sorted _) ((sortN_perm _).nodup_iff.mpr ?_), fun k hk => ?_, by rw [sortN_length]; simp; omega, by rw [sortN_length]; simp; omega⟩
  · refine List.pairwise_map.mpr (List.Pairwise.imp_of_mem ?_ List.pairwise_lt_range)
    intro a b ha hb hab e
    have hb' := List.mem_range.mp hb
    have h64 : 64 ∣ (b - a) * (1 + 2 * (c / 16384 % 32)) := by
      rw [Nat.sub_mul]
      generalize hA : a * (1 + 2 * (c / 16384 % 32)) = A at e
      generalize hB : b * (1 + 2 * (c / 16384 % 32)) = B at e
      have : A ≤ B := by rw [← hA, ← hB]; exact Nat.mul_le_mul_right _ (by omega)
      omega
    have := odd_dvd (by omega) h64
    omega
  · rw [sortN_mem] at hk
    obtain ⟨i, _, rfl⟩ := List.mem_map.mp hk
    exact Nat.mod_lt _ (by decide)
/-! graphs -/
structure GraphOk (g : Graph) : Prop where
  names : NamesOk (g.wires.map (·.1))
  kinds : ∀ w ∈ g.wires, w.2 = toL "given" ∨ w.2 = toL "made"
  w1 : 1 ≤ g.wires.length
  w10 : g.wires.length ≤ 10
  s1 : 1 ≤ g.steps.length
  s24 : g.steps.length ≤ 24
  wire : ∀ s ∈ g.steps, s.wire < g.wires.length
  takes : ∀ s ∈ g.steps, SpOk s.takes
  fills : ∀ s ∈ g.steps, SpOk s.fills
  marks : g.marks < 2 ^ 64
  code : g.code < 2 ^ g.wires.length
def nthL (zs : List (List Nat)) (k : Nat) : List Nat := zs.getD k []
theorem nthL_some {zs : List (List Nat)} {k : Nat} (h : k < zs.length) : zs[k]? = some (nthL zs k) := by
  unfold nthL
  rw [List.getD_eq_getElem?_getD, List.getElem?_eq_getElem h]; rfl
def kindM (kinds k : Nat) : List Nat := if kinds / (1 + 7 * k) % 2 = 0 then toL "given" else toL "made"
theorem wires_loop (s f cl zsD kinds : Option D) (v3 : Option D) (zs : List (List Nat)) (kn : Nat) (e8 e9 e10 e11 e12 e13 : Option D) : ∀ (ks : List Nat) (acc : List (List Nat × List Nat)) (v7 : Option D), (∀ k ∈ ks, k < zs.length) → zs.length ≤ 100 → acc.length + ks.length ≤ 100 → ∃ v7',
    forL [7] gN b1_l_graph (ks.map nD) [s, f, cl, v3, some (.lst (zs.map sD)), some (nD kn), some (.lst (acc.map wireD)), v7, e8, e9, e10, e11, e12, e13] =
      .nx [s, f, cl, v3, some (.lst (zs.map sD)), some (nD kn), some (.lst ((acc ++ ks.map fun k => (nthL zs k, kindM kn k)).map wireD)), v7', e8, e9, e10, e11, e12, e13]
  | [], acc, v7, _, _, _ => ⟨v7, by simp⟩
  | k :: ks, acc, v7, hk, hz, hl => by
    have k1 := hk k List.mem_cons_self
    simp only [List.length_cons] at hl
    have e1 : zs[k]? = some (nthL zs k) := nthL_some k1
    have e2 : [sD (toL "given"), sD (toL "made")][kn / (1 + 7 * k) % 2]? = some (sD (kindM kn k)) := by
      unfold kindM
      rcases Nat.mod_two_eq_zero_or_one (kn / (1 + 7 * k)) with h | h <;> rw [h] <;> rfl
    have hb : b1_l_graph [s, f, cl, v3, some (.lst (zs.map sD)), some (nD kn), some (.lst (acc.map wireD)), some (nD k), e8, e9, e10, e11, e12, e13] =
        .nx [s, f, cl, v3, some (.lst (zs.map sD)), some (nD kn), some (.lst ((acc ++ [(nthL zs k, kindM kn k)]).map wireD)), some (nD k), e8, e9, e10, e11, e12, e13] := by
      simp [b1_l_graph, e1, e2, le_line, show 1 + 7 * k < 18446744073709551616 by omega, lt_line (show acc.length < 1000000 by omega), wireD]
    obtain ⟨v7', e⟩ := wires_loop s f cl zsD kinds v3 zs kn e8 e9 e10 e11 e12 e13 ks (acc ++ [(nthL zs k, kindM kn k)]) (some (nD k)) (fun k h => hk k (List.mem_cons_of_mem _ h)) hz (by simp; omega)
    refine ⟨v7', ?_⟩
    rw [List.map_cons, forL_nx (es := [nD k]) _ _ rfl hb, e]
    simp
def stepM (ns : List Int) (first many k : Nat) : Step := ⟨mixM ns (first + 15 + 2 * k) % many, mixM ns (first + 15 + 2 * k) / 16 % 2 == 1, spM (mixM ns (first + 16 + 2 * k)), spM (mixM ns (first + 15 + 2 * k) / 64)⟩
theorem steps_loop (ns : List Int) (hn : ns.length ≤ 63) (first many : Nat) (hm : 0 < many) (e2 e4 e5 e6 e9 e10 : Option D) : ∀ (ks : List Nat) (acc : List Step) (v7 v11 v12 v13 : Option D), (∀ k ∈ ks, k < 100) → acc.length + ks.length ≤ 100 → ∃ v7' v11' v12' v13',
    forL [7] gN b2_l_graph (ks.map nD) [some (.scr ns), some (nD first), e2, some (nD many), e4, e5, e6, v7, some (.lst (acc.map stepD)), e9, e10, v11, v12, v13] =
      .nx [some (.scr ns), some (nD first), e2, some (nD many), e4, e5, e6, v7', some (.lst ((acc ++ ks.map (stepM ns first many)).map stepD)), e9, e10, v11', v12', v13']
  | [], acc, v7, v11, v12, v13, _, _ => ⟨v7, v11, v12, v13, by simp⟩
  | k :: ks, acc, v7, v11, v12, v13, hk, hl => by
    have k1 := hk k List.mem_cons_self
    simp only [List.length_cons] at hl
    have hb : b2_l_graph [some (.scr ns), some (nD first), e2, some (nD many), e4, e5, e6, some (nD k), some (.lst (acc.map stepD)), e9, e10, v11, v12, v13] =
        .nx [some (.scr ns), some (nD first), e2, some (nD many), e4, e5, e6, some (nD k), some (.lst ((acc ++ [stepM ns first many k]).map stepD)), e9, e10, some (nD (mixM ns (first + 15 + 2 * k))), some (.tup ((spM (mixM ns (first + 15 + 2 * k) / 64)).map nD)), some (.tup ((spM (mixM ns (first + 16 + 2 * k))).map nD))] := by
      simp [b2_l_graph, v_l_mix ns hn, v_l_spots, hm, le_line, lt_line (show acc.length < 1000000 by omega), stepM, stepD]
    obtain ⟨v7', v11', v12', v13', e⟩ := steps_loop ns hn first many hm e2 e4 e5 e6 e9 e10 ks (acc ++ [stepM ns first many k]) (some (nD k)) _ _ _ (fun k h => hk k (List.mem_cons_of_mem _ h)) (by simp; omega)
    refine ⟨v7', v11', v12', v13', ?_⟩
    rw [List.map_cons, forL_nx (es := [nD k]) _ _ rfl hb, e]
    simp
theorem v_l_graph (ns : List Int) (hn : ns.length ≤ 63) (first : Nat) : ∃ g, GraphOk g ∧ f_l_graph [.scr ns, nD first] = .ok (graphD g) := by
  generalize hc : mixM ns first = c
  obtain ⟨many, m1, m10, em⟩ : ∃ many, 1 ≤ many ∧ many ≤ 10 ∧ [nD (1 + c / 4 % 10), nD 10][if c % 4 = 1 then 1 else 0]? = some (nD many) := by
    by_cases h : c % 4 = 1
    · exact ⟨10, by omega, by omega, by rw [if_pos h]; rfl⟩
    · exact ⟨1 + c / 4 % 10, by omega, by omega, by rw [if_neg h]; rfl⟩
  obtain ⟨st, s1, s24, es⟩ : ∃ st, 1 ≤ st ∧ st ≤ 24 ∧ [nD (1 + c / 64 % 24), nD 24][if c / 4096 % 4 = 1 then 1 else 0]? = some (nD st) := by
    by_cases h : c / 4096 % 4 = 1
    · exact ⟨24, by omega, by omega, by rw [if_pos h]; rfl⟩
    · exact ⟨1 + c / 64 % 24, by omega, by omega, by rw [if_neg h]; rfl⟩
  obtain ⟨zs, z1, z2, ez⟩ := v_l_wire_names ns hn (first + 1) many m10
  refine ⟨⟨(List.range many).map fun k => (nthL zs k, kindM (mixM ns (first + 11)) k), (List.range st).map (stepM ns first many), mixM ns (first + 13) % 2 ^ 32 * 2 ^ 32 + mixM ns (first + 12) % 2 ^ 32, mixM ns (first + 14) % 2 ^ 10 % 2 ^ many⟩, ?_, ?_⟩
  · have ezs : ((List.range many).map fun k => (nthL zs k, kindM (mixM ns (first + 11)) k)).map (·.1) = zs := by
      rw [List.map_map]
      refine List.ext_getElem (by simp [z2]) fun i h1 h2 => ?_
      have := nthL_some (zs := zs) (k := i) h2
      rw [List.getElem?_eq_getElem h2] at this
      simp
      exact (Option.some.inj this).symm
    constructor
    · show NamesOk _
      rw [ezs]; exact z1
    · intro w hw
      obtain ⟨k, _, rfl⟩ := List.mem_map.mp hw
      dsimp only
      unfold kindM
      split
      · exact .inl rfl
      · exact .inr rfl
    · simp; omega
    · simp; omega
    · simp; omega
    · simp; omega
    · intro s hs
      obtain ⟨k, _, rfl⟩ := List.mem_map.mp hs
      simp
      exact Nat.mod_lt _ (by omega)
    · intro s hs
      obtain ⟨k, _, rfl⟩ := List.mem_map.mp hs
      exact spM_ok _
    · intro s hs
      obtain ⟨k, _, rfl⟩ := List.mem_map.mp hs
      exact spM_ok _
    · show mixM ns (first + 13) % 2 ^ 32 * 2 ^ 32 + mixM ns (first + 12) % 2 ^ 32 < 2 ^ 64
      omega
    · simp
      exact Nat.mod_lt _ (Nat.pow_pos (by decide))
  · obtain ⟨v7, e1⟩ := wires_loop (some (.scr ns)) (some (nD first)) (some (nD c)) none none (some (nD many)) zs (mixM ns (first + 11)) none none none none none none (List.range many) [] none (fun k h => by rw [z2]; exact List.mem_range.mp h) (by omega) (by simp; omega)
    obtain ⟨a7, a11, a12, a13, e2⟩ := steps_loop ns hn first many m1 (some (nD c)) (some (.lst (zs.map sD))) (some (nD (mixM ns (first + 11)))) (some (.lst (((List.range many).map fun k => (nthL zs k, kindM (mixM ns (first + 11)) k)).map wireD))) none none (List.range st) [] v7 none none none (fun k h => by have := List.mem_range.mp h; omega) (by simp; omega)
    simp at e1 e2
    simp [f_l_graph, d_l_graph, v_l_mix ns hn, hc, le_line, em, es, ez, show many < 4611686018427387904 by omega, show st < 4611686018427387904 by omega, e1, e2, show many ≤ 1000000 by omega, graphD]
end CW
namespace CW
open PySem PySem.Spec PyProof.Rows L2

/-! ### the places of a number's ones -/
def blen (x : Nat) : Nat := Builtin.Int.intBits (x : Int)
theorem blen_def (x : Nat) : blen x = if x = 0 then 0 else x.log2 + 1 := by
  unfold blen Builtin.Int.intBits
  by_cases h : x = 0
  · subst h; rfl
  · rw [if_neg (by simpa using h), if_neg h, Int.natAbs_natCast]
theorem lt_blen (x : Nat) : x < 2 ^ blen x := by
  rw [blen_def]
  by_cases h : x = 0
  · subst h; decide
  · rw [if_neg h]
    exact Nat.lt_log2_self
theorem blen_le {x n : Nat} (h : x < 2 ^ n) : blen x ≤ n := by
  rw [blen_def]
  by_cases h0 : x = 0
  · rw [if_pos h0]; omega
  · rw [if_neg h0]
    have := (Nat.log2_lt h0).mpr h
    omega
@[simp] theorem mBitLen_nD (x : Nat) : mBitLen (nD x) = .ok (nD (blen x)) := rfl
def onesN (x : Nat) : List Nat := (List.range (blen x)).filter fun k => x.testBit k
theorem onesN_mem {x i : Nat} : i ∈ onesN x ↔ x.testBit i = true := by
  unfold onesN
  rw [List.mem_filter, List.mem_range]
  constructor
  · exact fun h => h.2
  · intro h
    refine ⟨?_, h⟩
    have h1 := lt_blen x
    refine Classical.byContradiction fun hn => ?_
    have : x.testBit i = false := Nat.testBit_lt_two_pow (Nat.lt_of_lt_of_le h1 (Nat.pow_le_pow_right (by decide) (by omega)))
    rw [this] at h; cases h
theorem onesN_rising (x : Nat) : Rising (onesN x) := List.Pairwise.filter _ List.pairwise_lt_range
theorem onesN_lt {x n i : Nat} (h : x < 2 ^ n) (hi : i ∈ onesN x) : i < n := by
  refine Classical.byContradiction fun hn => ?_
  have : x.testBit i = false := Nat.testBit_lt_two_pow (Nat.lt_of_lt_of_le h (Nat.pow_le_pow_right (by decide) (by omega)))
  rw [onesN_mem, this] at hi; cases hi
theorem onesN_len {x n : Nat} (h : x < 2 ^ n) : (onesN x).length ≤ n := by
  have h1 : (onesN x).length ≤ blen x := by
    unfold onesN
    have := List.length_filter_le (fun k => x.testBit k) (List.range (blen x))
    simpa using this
  have := blen_le h
  omega
theorem v_ones {x n : Nat} (h : x < 2 ^ n) (hn : n ≤ 1000) : f_ones [nD x] = .ok ((onesN x).map nD) := by
  have hb := blen_le h
  have e := compL_filter (is := [1]) (asg := gN) (c := c1_ones) (ev := eV 1) (ρ := [some (nD x), none]) nD (fun k => [nD k]) (fun _ => rfl) (fun k => x.testBit k) nD (List.range (blen x)) (fun k _ => by simp [c1_ones, bit_dm]) (fun k _ _ => by simp)
  simp [f_ones, d_ones, show blen x < 4611686018427387904 by omega, le_line (show blen x ≤ 1000000 by omega), e, onesN]
theorem rising_uniq : ∀ {xs ys : List Nat}, Rising xs → Rising ys → (∀ i, i ∈ xs ↔ i ∈ ys) → xs = ys
  | [], [], _, _, _ => rfl
  | [], y :: ys, _, _, h => absurd ((h y).mpr List.mem_cons_self) (by simp)
  | x :: xs, [], _, _, h => absurd ((h x).mp List.mem_cons_self) (by simp)
  | x :: xs, y :: ys, hx, hy, h => by
    have hx' := List.pairwise_cons.mp hx
    have hy' := List.pairwise_cons.mp hy
    have e : x = y := by
      rcases List.mem_cons.mp ((h x).mp List.mem_cons_self) with e | e
      · exact e
      · rcases List.mem_cons.mp ((h y).mpr List.mem_cons_self) with e2 | e2
        · exact e2.symm
        · have := hx'.1 y e2
          have := hy'.1 x e
          omega
    subst e
    rw [rising_uniq hx'.2 hy'.2 fun i => ?_]
    constructor
    · intro hi
      rcases List.mem_cons.mp ((h i).mp (List.mem_cons_of_mem _ hi)) with e | e
      · have := hx'.1 i hi; omega
      · exact e
    · intro hi
      rcases List.mem_cons.mp ((h i).mpr (List.mem_cons_of_mem _ hi)) with e | e
      · have := hy'.1 i hi; omega
      · exact e
/-- the ones of n, told from p on -/
def onesF (n p : Nat) : List Nat := if h : n = 0 then [] else (if n % 2 = 1 then [p] else []) ++ onesF (n / 2) (p + 1)
termination_by n
decreasing_by omega
theorem onesF_mem : ∀ (n p i : Nat), i ∈ onesF n p ↔ p ≤ i ∧ n.testBit (i - p) = true
  | n, p, i => by
    rw [onesF]
    by_cases h : n = 0
    · subst h; simp
    · rw [dif_neg h, List.mem_append, onesF_mem (n / 2) (p + 1) i]
      have hb : ∀ j, (n / 2).testBit j = n.testBit (j + 1) := fun j => (Nat.testBit_succ n j).symm
      rw [hb]
      by_cases hi : i = p
      · subst hi
        have h0 : n.testBit 0 = decide (n % 2 = 1) := Nat.testBit_zero n
        rw [Nat.sub_self, h0]
        by_cases h2 : n % 2 = 1
        · simp [h2]
        · simp [h2]
          intro h; omega
      · have : i ∉ (if n % 2 = 1 then [p] else []) := by split <;> simp [hi]
        constructor
        · rintro (h1 | ⟨h1, h2⟩)
          · exact absurd h1 this
          · exact ⟨by omega, by rw [show i - p = i - (p + 1) + 1 by omega]; exact h2⟩
        · rintro ⟨h1, h2⟩
          exact .inr ⟨by omega, by rw [show i - (p + 1) + 1 = i - p by omega]; exact h2⟩
termination_by n => n
decreasing_by omega
theorem onesF_rising : ∀ (n p : Nat), Rising (onesF n p)
  | n, p => by
    rw [onesF]
    by_cases h : n = 0
    · rw [dif_pos h]; exact .nil
    · rw [dif_neg h]
      split
      · refine .cons (fun i hi => ?_) (onesF_rising (n / 2) (p + 1))
        have := ((onesF_mem _ _ _).mp hi).1
        omega
      · exact onesF_rising (n / 2) (p + 1)
termination_by n => n
decreasing_by all_goals omega
theorem onesF_eq (n : Nat) : onesF n 0 = onesN n := rising_uniq (onesF_rising n 0) (onesN_rising n) fun i => by
  rw [onesF_mem, onesN_mem]
  simp
theorem places_loop (n b : Nat) (hb : n < 2 ^ b) (p : Nat) (acc : List Nat) (hl : acc.length + b ≤ 1000) : wh t1_l_places_2 b1_l_places_2 [some (nD n), some (.lst (acc.map nD)), some (nD p)] = .nx [some (nD 0), some (.lst ((acc ++ onesF n p).map nD)), some (nD (p + blen n))] := by
    rw [wh_eq, onesF]
    by_cases h : n = 0
    · subst h
      simp [t1_l_places_2]
      rfl
    · have hb0 : b ≠ 0 := fun e => by subst e; simp at hb; exact h hb
      have h1 : n / 2 < 2 ^ (b - 1) := by
        have : (2 : Nat) ^ b = 2 ^ (b - 1) * 2 := by rw [← Nat.pow_succ]; congr 1; omega
        omega
      have ht : t1_l_places_2 [some (nD n), some (.lst (acc.map nD)), some (nD p)] = .ok true := by simp [t1_l_places_2]; omega
      have hs : blen n = blen (n / 2) + 1 := by
        rw [blen_def, blen_def, if_neg h]
        by_cases h2 : n / 2 = 0
        · have : n = 1 := by omega
          subst this
          decide
        · rw [if_neg h2, Nat.log2_def, if_pos (by omega)]
      have hbd : b1_l_places_2 [some (nD n), some (.lst (acc.map nD)), some (nD p)] = .nx [some (nD (n / 2)), some (.lst ((acc ++ if n % 2 = 1 then [p] else []).map nD)), some (nD (p + 1))] := by
        by_cases h2 : n % 2 = 1
        · simp [b1_l_places_2, h2, lt_line (show acc.length < 1000000 by omega)]
        · simp [b1_l_places_2, h2]
      rw [ht, fE_ok]
      dsimp only
      rw [hbd]
      dsimp only
      rw [places_loop (n / 2) (b - 1) h1 (p + 1) _ (by
        split
        · simp; omega
        · simp; omega), dif_neg h, List.append_assoc, hs, show p + 1 + blen (n / 2) = p + (blen (n / 2) + 1) by omega]
termination_by n
decreasing_by omega
theorem v_l_places_2 {x n : Nat} (h : x < 2 ^ n) (hn : n ≤ 900) : f_l_places_2 [nD x] = .ok ((onesN x).map nD) := by
  have e := places_loop x n h 0 [] (by simp; omega)
  simp at e
  simp [f_l_places_2, d_l_places_2, e, onesF_eq]
end CW
namespace CW
open PySem PySem.Spec PyProof.Rows L2

/-! ### a graph's text -/
def nameAt (g : Graph) (w : Nat) : List Nat := (g.wires.map (·.1)).getD w []
def upW (b : Bool) : List Nat := if b then toL "up" else toL "down"
def stepW (g : Graph) (s : Step) : List (List Nat) := [upW s.up, nameAt g s.wire, toL ":"] ++ s.takes.map numL ++ [toL "->"] ++ s.fills.map numL
def startW (g : Graph) : List (List Nat) := [toL "start"] ++ (onesN g.marks).map numL ++ [toL ":"] ++ (onesN g.code).map (nameAt g)
def wireW (w : List Nat × List Nat) : List Nat := w.2 ++ toL " " ++ w.1
def rowsG (g : Graph) : List (List Nat) := g.wires.map wireW ++ g.steps.map (fun s => joinN (toL " ") (stepW g s)) ++ [joinN (toL " ") (startW g)]
def textG (g : Graph) : List Nat := joinN (toL "\n") (rowsG g)
section
variable {g : Graph} (h : GraphOk g)
include h
theorem nameAt_ok {w : Nat} (hw : w < g.wires.length) : NameOk (nameAt g w) := by
  refine (h.names.ok (nameAt g w) ?_).1
  unfold nameAt
  rw [List.getD_eq_getElem?_getD, List.getElem?_eq_getElem (by simpa using hw)]
  exact List.getElem_mem _
theorem wire_name {w : Nat} (hw : w < g.wires.length) : ∃ k, g.wires[w]? = some (nameAt g w, k) := by
  refine ⟨g.wires[w].2, ?_⟩
  unfold nameAt
  rw [List.getElem?_eq_getElem hw, List.getD_eq_getElem?_getD, List.getElem?_map, List.getElem?_eq_getElem hw]
  rfl
theorem stepW_b {s : Step} (hs : s ∈ g.steps) : (stepW g s).length ≤ 64 ∧ ∀ w ∈ stepW g s, w.length ≤ 8 := by
  have ht := h.takes s hs
  have hf := h.fills s hs
  refine ⟨by have := ht.le; have := hf.le; simp [stepW]; omega, fun w hw => ?_⟩
  unfold stepW at hw
  simp only [List.mem_append, List.mem_cons, List.not_mem_nil, or_false, List.mem_map] at hw
  rcases hw with (((rfl | rfl | rfl) | ⟨k, hk, rfl⟩) | rfl) | ⟨k, hk, rfl⟩
  · unfold upW; split <;> decide
  · exact (nameAt_ok h (h.wire s hs)).le
  · decide
  · have := numL_len k (ht.lt k hk); omega
  · decide
  · have := numL_len k (hf.lt k hk); omega
theorem ones_marks : (onesN g.marks).length ≤ 64 := onesN_len h.marks
theorem ones_code : (onesN g.code).length ≤ 10 := Nat.le_trans (onesN_len h.code) h.w10
theorem code_lt {w : Nat} (hw : w ∈ onesN g.code) : w < g.wires.length := onesN_lt h.code hw
theorem startW_b : (startW g).length ≤ 80 ∧ ∀ w ∈ startW g, w.length ≤ 8 := by
  refine ⟨by have := ones_marks h; have := ones_code h; simp [startW]; omega, fun w hw => ?_⟩
  unfold startW at hw
  simp only [List.mem_append, List.mem_cons, List.not_mem_nil, or_false, List.mem_map] at hw
  rcases hw with ((rfl | ⟨k, hk, rfl⟩) | rfl) | ⟨k, hk, rfl⟩
  · decide
  · have := numL_len k (onesN_lt h.marks hk); omega
  · decide
  · exact (nameAt_ok h (code_lt h hk)).le
theorem rows_b : (rowsG g).length ≤ 35 ∧ ∀ r ∈ rowsG g, r.length ≤ 720 := by
  refine ⟨by have := h.w10; have := h.s24; simp [rowsG]; omega, fun r hr => ?_⟩
  unfold rowsG at hr
  simp only [List.mem_append, List.mem_cons, List.not_mem_nil, or_false, List.mem_map] at hr
  rcases hr with (⟨w, hw, rfl⟩ | ⟨s, hs, rfl⟩) | rfl
  · have h1 : w.1.length ≤ 8 := (h.names.ok w.1 (List.mem_map.mpr ⟨w, hw, rfl⟩)).1.le
    have h2 : w.2.length ≤ 5 := by rcases h.kinds w hw with e | e <;> rw [e] <;> decide
    unfold wireW
    rw [List.length_append, List.length_append, show (toL " ").length = 1 from by decide]
    omega
  · have := stepW_b h hs
    have := joinN_len_b (toL " ") (stepW g s) 64 8 this.1 this.2
    rw [show (toL " ").length = 1 from by decide] at this
    omega
  · have := startW_b h
    have := joinN_len_b (toL " ") (startW g) 80 8 this.1 this.2
    rw [show (toL " ").length = 1 from by decide] at this
    omega
theorem v_join_step {s : Step} (hs : s ∈ g.steps) : mJoin (sD (toL " ")) (.lst ((stepW g s).map sD)) = .ok (sD (joinN (toL " ") (stepW g s))) :=
  v_join_b _ _ 64 8 (stepW_b h hs).1 (stepW_b h hs).2 (by rw [show (toL " ").length = 1 from by decide]; omega)
theorem v_join_start : mJoin (sD (toL " ")) (.lst ((startW g).map sD)) = .ok (sD (joinN (toL " ") (startW g))) :=
  v_join_b _ _ 80 8 (startW_b h).1 (startW_b h).2 (by rw [show (toL " ").length = 1 from by decide]; omega)
theorem v_join_rows : mJoin (sD (toL "\n")) (.lst ((rowsG g).map sD)) = .ok (sD (textG g)) :=
  v_join_b _ _ 35 720 (rows_b h).1 (rows_b h).2 (by rw [show (toL "\n").length = 1 from by decide]; omega)
end
theorem numbers_comp (ev : Env → Out D) (i : Nat) (ρ : Env) (hev : ∀ k, ev (ρ.set i (some (nD k))) = bStr [nD k]) (ks : List Nat) (hk : ∀ k ∈ ks, k < 2 ^ 1000) : compL [i] gN cYes ev ρ (ks.map nD) = .ok (ks.map fun k => sD (numL k)) :=
  compL_map nD (fun k => [nD k]) (fun _ => rfl) _ ks fun k h => by
    show ev (ρ.set i (some (nD k))) = _
    rw [hev, v_str k (hk k h)]
theorem v_numbers_shown (ks : List Nat) (hl : ks.length ≤ 1000) (hk : ∀ k ∈ ks, k < 64) (d : D) (hd : d = .lst (ks.map nD) ∨ d = .tup (ks.map nD)) : f_numbers_shown [d] = .ok ((ks.map numL).map sD) := by
  have e := numbers_comp e1_numbers_shown 1 [some d, none] (fun k => by simp [e1_numbers_shown]) ks (fun k h => Nat.lt_trans (hk k h) (by decide))
  rcases hd with rfl | rfl <;> simp [f_numbers_shown, d_numbers_shown, le_line (show ks.length ≤ 1000000 by omega), e]
theorem v_step_shown {g : Graph} (h : GraphOk g) {s : Step} (hs : s ∈ g.steps) : f_step_shown [.tup (g.wires.map wireD), stepD s] = .ok (sD (joinN (toL " ") (stepW g s))) := by
  obtain ⟨k, hk⟩ := wire_name h (h.wire s hs)
  have ht := h.takes s hs
  have hf := h.fills s hs
  have t1 := ht.le
  have f1 := hf.le
  have n1 := v_numbers_shown s.takes (by omega) ht.lt _ (.inr rfl)
  have n2 := v_numbers_shown s.fills (by omega) hf.lt _ (.inr rfl)
  have j := v_join_step h hs
  by_cases hu : s.up = true
  · simp [stepW, upW, hu] at j
    simp (disch := first | omega | simp) [f_step_shown, d_step_shown, hk, n1, n2, wireD, hu, j, stepW, upW]
  · simp [stepW, upW, hu] at j
    simp (disch := first | omega | simp) [f_step_shown, d_step_shown, hk, n1, n2, wireD, hu, j, stepW, upW]
/-! the law's own -/
theorem v_l_step_words {g : Graph} (h : GraphOk g) {s : Step} (hs : s ∈ g.steps) : f_l_step_words [.tup (g.wires.map wireD), stepD s] = .ok (.lst ((stepW g s).map sD)) := by
  obtain ⟨k, hk⟩ := wire_name h (h.wire s hs)
  have ht := h.takes s hs
  have hf := h.fills s hs
  have t1 := ht.le
  have f1 := hf.le
  have e1 := numbers_comp e1_l_step_words 7 [some (.tup (g.wires.map wireD)), some (stepD s), some (.lst [sD (upW s.up), sD (nameAt g s.wire), sD (toL ":")]), some (nD s.wire), some (.bl s.up), some (.tup (s.takes.map nD)), some (.tup (s.fills.map nD)), none] (fun k => by simp [e1_l_step_words]) s.takes (fun k h => Nat.lt_trans (ht.lt k h) (by decide))
  have e2 := numbers_comp e2_l_step_words 7 [some (.tup (g.wires.map wireD)), some (stepD s), some (.lst [sD (upW s.up), sD (nameAt g s.wire), sD (toL ":")]), some (nD s.wire), some (.bl s.up), some (.tup (s.takes.map nD)), some (.tup (s.fills.map nD)), none] (fun k => by simp [e2_l_step_words]) s.fills (fun k h => Nat.lt_trans (hf.lt k h) (by decide))
  by_cases hu : s.up = true
  · simp [upW, hu] at e1 e2
    simp (disch := first | omega | simp) [f_l_step_words, d_l_step_words, hk, wireD, hu, e1, e2, stepW, upW]
    rfl
  · simp [upW, hu] at e1 e2
    simp (disch := first | omega | simp) [f_l_step_words, d_l_step_words, hk, wireD, hu, e1, e2, stepW, upW]
    rfl
theorem wire_comp {g : Graph} (h : GraphOk g) (ev : Env → Out D) (ρ : Env) (hev : ∀ a b : List Nat, ev ((ρ.set 8 (some (sD a))).set 9 (some (sD b))) = (oAdd (sD b) (sD (toL " "))).bind fun x => oAdd x (sD a)) : compL [8, 9] (gT 2) cYes ev ρ (g.wires.map wireD) = .ok (g.wires.map fun w => sD (wireW w)) :=
  compL_map wireD (fun w => [sD w.1, sD w.2]) (fun _ => rfl) _ g.wires fun w hw => by
    have h1 : w.1.length ≤ 8 := (h.names.ok w.1 (List.mem_map.mpr ⟨w, hw, rfl⟩)).1.le
    have h2 : w.2.length ≤ 5 := by rcases h.kinds w hw with e | e <;> rw [e] <;> decide
    have h3 : (toL " ").length = 1 := by decide
    show ev ((ρ.set 8 (some (sD w.1))).set 9 (some (sD w.2))) = _
    rw [hev, add_ss' (by omega), Out.bind_ok, add_ss' (by rw [List.length_append]; omega)]
    rfl
theorem code_comp {g : Graph} (h : GraphOk g) (ev : Env → Out D) (i : Nat) (ρ : Env) (hev : ∀ (w : Nat) (k : List Nat), g.wires[w]? = some (nameAt g w, k) → ev (ρ.set i (some (nD w))) = .ok (sD (nameAt g w))) : compL [i] gN cYes ev ρ ((onesN g.code).map nD) = .ok ((onesN g.code).map fun w => sD (nameAt g w)) :=
  compL_map nD (fun w => [nD w]) (fun _ => rfl) _ _ fun w hw => by
    obtain ⟨k, hk⟩ := wire_name h (code_lt h hw)
    exact hev w k hk
theorem v_shown {g : Graph} (h : GraphOk g) : f_shown [graphD g] = .ok (sD (textG g)) := by
  have o1 := v_ones h.marks (by decide)
  have o2 := v_ones h.code (by have := h.w10; omega)
  have m1 := ones_marks h
  have c1 := ones_code h
  have w10 := h.w10
  have s24 := h.s24
  have n1 := v_numbers_shown (onesN g.marks) (by omega) (fun k hk => onesN_lt h.marks hk) _ (.inl rfl)
  have e1 := wire_comp h e1_shown [some (graphD g), none, none, some (.tup (g.wires.map wireD)), some (.tup (g.steps.map stepD)), some (nD g.marks), some (nD g.code), none, none, none, none] (fun a b => by simp [e1_shown])
  have e2 := compL_map (is := [10]) (asg := gN) (ev := e2_shown) (ρ := [some (graphD g), none, none, some (.tup (g.wires.map wireD)), some (.tup (g.steps.map stepD)), some (nD g.marks), some (nD g.code), none, none, none, none]) stepD (fun s => [stepD s]) (fun _ => rfl) (fun s => sD (joinN (toL " ") (stepW g s))) g.steps (fun s hs => by simp [e2_shown, v_step_shown h hs])
  have e3 := code_comp h e3_shown 7 [some (graphD g), none, none, some (.tup (g.wires.map wireD)), some (.tup (g.steps.map stepD)), some (nD g.marks), some (nD g.code), none, none, none, none] (fun w k hk => by simp [e3_shown, hk])
  have j1 := v_join_start h
  have j2 := v_join_rows h
  simp [startW, Function.comp_def] at j1
  simp [rowsG, startW, Function.comp_def] at j2
  simp (disch := first | omega | simp) [f_shown, d_shown, e1, e2, e3, o1, o2, n1, Function.comp_def, j1, j2]
theorem v_l_rows {g : Graph} (h : GraphOk g) : f_l_rows [graphD g] = .ok ((rowsG g).map sD) := by
  have o1 := v_l_places_2 h.marks (by decide)
  have o2 := v_l_places_2 h.code (by have := h.w10; omega)
  have m1 := ones_marks h
  have c1 := ones_code h
  have w10 := h.w10
  have s24 := h.s24
  have e1 := wire_comp h e1_l_rows [some (graphD g), none, none, none, some (.tup (g.wires.map wireD)), some (.tup (g.steps.map stepD)), some (nD g.marks), some (nD g.code), none, none, none, none] (fun a b => by simp [e1_l_rows])
  have e3 := fun v1 v2 v3 v10 => code_comp h e3_l_rows 11 [some (graphD g), v1, v2, v3, some (.tup (g.wires.map wireD)), some (.tup (g.steps.map stepD)), some (nD g.marks), some (nD g.code), none, none, v10, none] (fun w k hk => by simp [e3_l_rows, hk])
  have e2 := fun v1 v2 v3 => numbers_comp e2_l_rows 10 [some (graphD g), v1, v2, v3, some (.tup (g.wires.map wireD)), some (.tup (g.steps.map stepD)), some (nD g.marks), some (nD g.code), none, none, none, none] (fun k => by simp [e2_l_rows]) (onesN g.marks) (fun k hk => Nat.lt_trans (onesN_lt h.marks hk) (by decide))
  have loop : ∀ (ss : List Step) (acc : List D) (v2 : Option D), (∀ s ∈ ss, s ∈ g.steps) → acc.length + ss.length ≤ 100 → ∃ v2', forL [2] gN b1_l_rows (ss.map stepD) [some (graphD g), some (.lst acc), v2, none, some (.tup (g.wires.map wireD)), some (.tup (g.steps.map stepD)), some (nD g.marks), some (nD g.code), none, none, none, none] =
      .nx [some (graphD g), some (.lst (acc ++ ss.map fun s => sD (joinN (toL " ") (stepW g s)))), v2', none, some (.tup (g.wires.map wireD)), some (.tup (g.steps.map stepD)), some (nD g.marks), some (nD g.code), none, none, none, none] := by
    intro ss
    induction ss with
    | nil => intro acc v2 _ _; exact ⟨v2, by simp⟩
    | cons s ss ih =>
      intro acc v2 hs hl
      simp only [List.length_cons] at hl
      have w1 := v_l_step_words h (hs s List.mem_cons_self)
      have j := v_join_step h (hs s List.mem_cons_self)
      obtain ⟨v2', e⟩ := ih (acc ++ [sD (joinN (toL " ") (stepW g s))]) (some (stepD s)) (fun s h => hs s (List.mem_cons_of_mem _ h)) (by simp; omega)
      refine ⟨v2', ?_⟩
      rw [List.map_cons, forL_nx (es := [stepD s]) (r := [some (graphD g), some (.lst (acc ++ [sD (joinN (toL " ") (stepW g s))])), some (stepD s), none, some (.tup (g.wires.map wireD)), some (.tup (g.steps.map stepD)), some (nD g.marks), some (nD g.code), none, none, none, none]) _ _ rfl (by simp [b1_l_rows, w1, j, lt_line (show acc.length < 1000000 by omega)]), e]
      simp
  obtain ⟨v2, e4⟩ := loop g.steps (g.wires.map fun w => sD (wireW w)) none (fun s hs => hs) (by simp; omega)
  have j1 := v_join_start h
  simp [startW, Function.comp_def] at j1
  simp (disch := first | omega | simp) [f_l_rows, d_l_rows, e1, e4, e2, e3, o1, o2, Function.comp_def, j1, rowsG, startW]
end CW
namespace CW
open PySem PySem.Spec PyProof.Rows L2

/-! ### the drawn graphs of k21, k31, k32 -/
theorem mod_lt1M {a b : Nat} (h : 0 < b) (h2 : b ≤ 1000000) : a % b ≤ 1000000 := Nat.le_of_lt (Nat.lt_of_lt_of_le (Nat.mod_lt _ h) h2)
theorem word_loop (c k at_ : Nat) (v3 : Option D) : ∀ (js : List Nat) (z : List Nat) (v6 v7 : Option D), z.length + js.length ≤ 100 → ∃ z' v6' v7', z'.length = z.length + js.length ∧
    forL [6] gN b1_l_word (js.map nD) [some (nD c), some (nD k), some (sD abc), v3, some (nD at_), some (sD z), v6, v7] = .nx [some (nD c), some (nD k), some (sD abc), v3, some (nD at_), some (sD z'), v6', v7']
  | [], z, v6, v7, _ => ⟨z, v6, v7, by simp, rfl⟩
  | j :: js, z, v6, v7, h => by
    have h1 : ∀ i, abc[i % 26]? = some (97 + i % 26) := fun i => abc_at (Nat.mod_lt _ (by decide))
    simp only [List.length_cons] at h
    have h2 : z.length + 1 ≤ 1000000 := by omega
    obtain ⟨sh, hb⟩ : ∃ sh, b1_l_word [some (nD c), some (nD k), some (sD abc), v3, some (nD at_), some (sD z), some (nD j), v7] = .nx [some (nD c), some (nD k), some (sD abc), v3, some (nD at_), some (sD (z ++ [97 + (c / 49 + 5 * j + 7 * sh) % 26])), some (nD j), some (nD sh)] := by
      by_cases hj : j = at_
      · exact ⟨k, by simp [b1_l_word, hj, h1, h2]⟩
      · exact ⟨0, by simp [b1_l_word, hj, h1, h2]⟩
    obtain ⟨z', v6', v7', hl, e⟩ := word_loop c k at_ v3 js (z ++ [97 + (c / 49 + 5 * j + 7 * sh) % 26]) (some (nD j)) (some (nD sh)) (by simp; omega)
    refine ⟨z', v6', v7', by rw [hl]; simp; omega, ?_⟩
    rw [List.map_cons, forL_nx (es := [nD j]) _ _ rfl hb, e]
theorem kept_flat {ds : List D} {x : List Nat} (h : ds.all flatD = true) (neg : Bool) : ∃ b, oIn neg (sD x) (.lst ds) = .ok (.bl b) := ⟨_, oIn_lst neg flatD_sD h⟩
theorem v_l_word (c k : Nat) : ∃ z : List Nat, z.length ≤ 9 ∧ f_l_word [nD c, nD k] = .ok (sD z) := by
  have hs : 2 + c % 7 ≤ 8 := by omega
  obtain ⟨z, v6, v7, hl, e⟩ := word_loop c k (c / 7 % (2 + c % 7)) (some (nD (2 + c % 7))) (List.range (2 + c % 7)) [] none none (by simp; omega)
  obtain ⟨b, hb⟩ := kept_flat (ds := [sD (toL "given"), sD (toL "made"), sD (toL "up"), sD (toL "down"), sD (toL "start")]) (x := z) rfl false
  simp at hl
  have hz : z.length ≤ 1000000 := by omega
  have hq : toL "q" = [113] := by decide +kernel
  cases b with
  | true =>
    refine ⟨z.drop 1 ++ [113], by simp; omega, ?_⟩
    simp [f_l_word, d_l_word, e, show 0 < 2 + c % 7 by omega, show 2 + c % 7 < 4611686018427387904 by omega, le_line, hb, hz, hq, show z.length - 1 + 1 ≤ 1000000 by omega]
  | false =>
    refine ⟨z, by omega, ?_⟩
    simp [f_l_word, d_l_word, e, show 0 < 2 + c % 7 by omega, show 2 + c % 7 < 4611686018427387904 by omega, le_line, hb]
/-- the spots that a cell tells -/
def spotN (c size k : Nat) : Nat := c / (4 + 61 * k) % size
def dedup (f : Nat → Nat) : List Nat → List Nat → List Nat
  | [], acc => acc
  | k :: ks, acc => dedup f ks (if f k ∈ acc then acc else acc ++ [f k])
theorem dedup_mem {f : Nat → Nat} : ∀ {ks acc : List Nat} {x : Nat}, x ∈ dedup f ks acc ↔ x ∈ acc ∨ ∃ k ∈ ks, x = f k
  | [], acc, x => by simp [dedup]
  | k :: ks, acc, x => by
    rw [dedup, dedup_mem]
    by_cases h : f k ∈ acc
    · rw [if_pos h]
      simp only [List.mem_cons, exists_eq_or_imp]
      constructor
      · rintro (h1 | h1)
        · exact .inl h1
        · exact .inr (.inr h1)
      · rintro (h1 | rfl | h1)
        · exact .inl h1
        · exact .inl h
        · exact .inr h1
    · rw [if_neg h]
      simp only [List.mem_append, List.mem_cons, List.mem_singleton, List.not_mem_nil, or_false, exists_eq_or_imp]
      constructor
      · rintro ((h1 | h1) | h1)
        · exact .inl h1
        · exact .inr (.inl h1)
        · exact .inr (.inr h1)
      · rintro (h1 | h1 | h1)
        · exact .inl (.inl h1)
        · exact .inl (.inr h1)
        · exact .inr h1
theorem dedup_nodup {f : Nat → Nat} : ∀ {ks acc : List Nat}, acc.Nodup → (dedup f ks acc).Nodup
  | [], acc, h => h
  | k :: ks, acc, h => by
    rw [dedup]
    by_cases hk : f k ∈ acc
    · rw [if_pos hk]; exact dedup_nodup h
    · rw [if_neg hk]
      refine dedup_nodup (List.nodup_append.mpr ⟨h, by simp, ?_⟩)
      intro a ha b hb
      simp at hb
      subst hb
      exact fun e => hk (e ▸ ha)
theorem dedup_len {f : Nat → Nat} : ∀ {ks acc : List Nat}, acc.length ≤ (dedup f ks acc).length ∧ (dedup f ks acc).length ≤ acc.length + ks.length
  | [], acc => by simp [dedup]
  | k :: ks, acc => by
    rw [dedup]
    have := @dedup_len f ks (if f k ∈ acc then acc else acc ++ [f k])
    by_cases h : f k ∈ acc
    · rw [if_pos h] at this ⊢; simp; omega
    · rw [if_neg h] at this ⊢; simp at this ⊢; omega
def spotsN (c size : Nat) : List Nat := sortN (dedup (spotN c size) (List.range (1 + c % 4)) [])
theorem spots_loop (c size : Nat) (hs : 0 < size) : ∀ (ks : List Nat) (acc : List Nat) (v3 v4 : Option D), (∀ k ∈ ks, k ≤ 3) → acc.length + ks.length ≤ 100 → ∃ v3' v4',
    forL [3] gN b1_l_spots_2 (ks.map nD) [some (nD c), some (nD size), some (.lst (acc.map nD)), v3, v4] = .nx [some (nD c), some (nD size), some (.lst ((dedup (spotN c size) ks acc).map nD)), v3', v4']
  | [], acc, v3, v4, _, _ => ⟨v3, v4, rfl⟩
  | k :: ks, acc, v3, v4, hk, hl => by
    have h3 : k ≤ 3 := hk k List.mem_cons_self
    simp only [List.length_cons] at hl
    have hb : b1_l_spots_2 [some (nD c), some (nD size), some (.lst (acc.map nD)), some (nD k), v4] = .nx [some (nD c), some (nD size), some (.lst ((if spotN c size k ∈ acc then acc else acc ++ [spotN c size k]).map nD)), some (nD k), some (nD (spotN c size k))] := by
      by_cases h : spotN c size k ∈ acc
      · have h' := h
        unfold spotN at h'
        simp [b1_l_spots_2, hs, show 4 + 61 * k < 18446744073709551616 by omega, in_nn, h, h', spotN]
      · have h' := h
        unfold spotN at h'
        simp [b1_l_spots_2, hs, show 4 + 61 * k < 18446744073709551616 by omega, in_nn, h, h', spotN, lt_line (show acc.length < 1000000 by omega)]
    obtain ⟨v3', v4', e⟩ := spots_loop c size hs ks (if spotN c size k ∈ acc then acc else acc ++ [spotN c size k]) (some (nD k)) (some (nD (spotN c size k))) (fun k h => hk k (List.mem_cons_of_mem _ h)) (by
      split
      · omega
      · simp; omega)
    refine ⟨v3', v4', ?_⟩
    rw [List.map_cons, forL_nx (es := [nD k]) _ _ rfl hb, e]
    rfl
theorem v_l_spots_2 (c size : Nat) (hs : 0 < size) : f_l_spots_2 [nD c, nD size] = .ok (.tup ((spotsN c size).map nD)) := by
  obtain ⟨v3, v4, e⟩ := spots_loop c size hs (List.range (1 + c % 4)) [] none none (fun k h => by have := List.mem_range.mp h; omega) (by simp; omega)
  simp at e
  simp [f_l_spots_2, d_l_spots_2, show 1 + c % 4 < 4611686018427387904 by omega, e, v_sort, spotsN]
structure SpotsOk (ks : List Nat) (size : Nat) : Prop where
  lt : ∀ k ∈ ks, k < size
  nd : ks.Nodup
  ne : ks ≠ []
theorem spotsN_ok (c size : Nat) (hs : 0 < size) : SpotsOk (spotsN c size) size := by
  unfold spotsN
  refine ⟨fun k h => ?_, (sortN_perm _).nodup_iff.mpr (dedup_nodup (by simp)), fun h => ?_⟩
  · rw [sortN_mem, dedup_mem] at h
    rcases h with h | ⟨k, _, rfl⟩
    · simp at h
    · exact Nat.mod_lt _ hs
  · have h1 : spotN c size 0 ∈ sortN (dedup (spotN c size) (List.range (1 + c % 4)) []) := by
      rw [sortN_mem, dedup_mem]
      exact .inr ⟨0, List.mem_range.mpr (by omega), rfl⟩
    rw [h] at h1
    simp at h1
def anyStep (ns : List Int) (first size n k : Nat) : Step :=
  ⟨mixN ns (first + 1 + k) / 4 % n, mixN ns (first + 1 + k) / 2 % 2 == 0, spotsN (mixN ns (first + 1 + k) / 40) size, spotsN (mixN ns (first + 1 + k) * 48271 % 2147483647) size⟩
theorem any_loop (ns : List Int) (first size n : Nat) (hs : 0 < size) (hn : 0 < n) (a3 a5 : Option D) : ∀ (ks : List Nat) (acc : List Step) (v7 v8 v9 v10 : Option D), acc.length + ks.length ≤ 100 → ∃ v7' v8' v9',
    forL [7] gN b1_l_any (ks.map nD) [some (.scr ns), some (nD first), some (nD size), a3, some (nD n), a5, some (.lst (acc.map stepD)), v7, v8, v9, v10] =
      .nx [some (.scr ns), some (nD first), some (nD size), a3, some (nD n), a5, some (.lst ((acc ++ ks.map (anyStep ns first size n)).map stepD)), v7', v8', v9', v10]
  | [], acc, v7, v8, v9, v10, _ => ⟨v7, v8, v9, by simp⟩
  | k :: ks, acc, v7, v8, v9, v10, hl => by
    simp only [List.length_cons] at hl
    have hb : b1_l_any [some (.scr ns), some (nD first), some (nD size), a3, some (nD n), a5, some (.lst (acc.map stepD)), some (nD k), v8, v9, v10] =
        .nx [some (.scr ns), some (nD first), some (nD size), a3, some (nD n), a5, some (.lst ((acc ++ [anyStep ns first size n k]).map stepD)), some (nD k), some (nD (mixN ns (first + 1 + k))), some (.tup ((spotsN (mixN ns (first + 1 + k) / 40) size).map nD)), v10] := by
      simp [b1_l_any, v_l_mix_2, v_l_spots_2 _ _ hs, hn, le_line, lt_line (show acc.length < 1000000 by omega), anyStep, stepD]
    obtain ⟨v7', v8', v9', e⟩ := any_loop ns first size n hs hn a3 a5 ks (acc ++ [anyStep ns first size n k]) (some (nD k)) (some (nD (mixN ns (first + 1 + k)))) (some (.tup ((spotsN (mixN ns (first + 1 + k) / 40) size).map nD))) v10 (by simp; omega)
    refine ⟨v7', v8', v9', ?_⟩
    rw [List.map_cons, forL_nx (es := [nD k]) _ _ rfl hb, e]
    simp
theorem v_l_any (ns : List Int) (first size : Nat) (hs : 0 < size) : ∃ wires : List (List Nat × List Nat), wires.length = 1 + mixN ns first % 10 ∧
    f_l_any [.scr ns, nD first, nD size] = .ok (graphD ⟨wires, (List.range (1 + mixN ns first / 10 % 24)).map (anyStep ns first size (1 + mixN ns first % 10)), 0, 0⟩) := by
  have hw : ∀ w, ∃ x : List Nat × List Nat, e1_l_any [some (.scr ns), some (nD first), some (nD size), some (nD (mixN ns first)), some (nD (1 + mixN ns first % 10)), none, none, none, none, none, some (nD w)] = .ok (wireD x) := fun w => by
    obtain ⟨z, hz, e⟩ := v_l_word (mixN ns first / 240) w
    obtain ⟨k, hk⟩ : ∃ k : List Nat, [sD (toL "given"), sD (toL "made")][mixN ns (first + 1 + w) % 2]? = some (sD k) := by
      have h2 := Nat.mod_two_eq_zero_or_one (mixN ns (first + 1 + w))
      rcases h2 with h2 | h2 <;> rw [h2]
      · exact ⟨toL "given", rfl⟩
      · exact ⟨toL "made", rfl⟩
    refine ⟨(z, k), ?_⟩
    simp [e1_l_any, e, v_l_mix_2, le_line, hk, wireD]
  obtain ⟨x, hx⟩ : ∃ x : Nat → List Nat × List Nat, ∀ w, e1_l_any [some (.scr ns), some (nD first), some (nD size), some (nD (mixN ns first)), some (nD (1 + mixN ns first % 10)), none, none, none, none, none, some (nD w)] = .ok (wireD (x w)) := ⟨fun w => (hw w).choose, fun w => (hw w).choose_spec⟩
  refine ⟨(List.range (1 + mixN ns first % 10)).map x, by simp, ?_⟩
  have h5 := compL_map (is := [10]) (asg := gN) (ev := e1_l_any) (ρ := [some (.scr ns), some (nD first), some (nD size), some (nD (mixN ns first)), some (nD (1 + mixN ns first % 10)), none, none, none, none, none, none]) nD (fun k => [nD k]) (fun _ => rfl) (fun w => wireD (x w)) (List.range (1 + mixN ns first % 10)) (fun w _ => by simpa using hx w)
  obtain ⟨v7, v8, v9, e⟩ := any_loop ns first size (1 + mixN ns first % 10) hs (by omega) (some (nD (mixN ns first))) (some (.lst ((List.range (1 + mixN ns first % 10)).map fun w => wireD (x w)))) (List.range (1 + mixN ns first / 10 % 24)) [] none none none none (by simp; omega)
  simp at e
  simp [f_l_any, d_l_any, v_l_mix_2, show 1 + mixN ns first % 10 < 4611686018427387904 by omega, show 1 + mixN ns first / 10 % 24 < 4611686018427387904 by omega, le_line (show 1 + mixN ns first % 10 ≤ 1000000 by omega), h5, le_line, e, graphD]
theorem anyStep_ok (ns : List Int) (first size n k : Nat) (hs : 0 < size) (h64 : size ≤ 64) : StepOk (anyStep ns first size n k) :=
  ⟨fun k h => by have := (spotsN_ok _ size hs).lt k h; omega, fun k h => by have := (spotsN_ok _ size hs).lt k h; omega⟩
/-! ### can, the law's own -/
theorem v_l_can (s : Step) (m : Nat) (hl : s.takes.length ≤ 1000000) : f_l_can [stepD s, nD m] = .ok (.bl (canT s m)) := by
  have h := compL_map (is := [2]) (asg := gN) (ev := e1_l_can) (ρ := [some (stepD s), some (nD m), none]) nD (fun k => [nD k]) (fun _ => rfl) (fun p => .bl (m.testBit p)) s.takes (fun p _ => by simp [e1_l_can, bit_dm])
  have e : bAll [.lst (s.takes.map fun p => D.bl (m.testBit p))] = .ok (.bl (canT s m)) := by
    have := bAll_bls (s.takes.map fun p => m.testBit p)
    rw [List.map_map] at this
    rw [show (s.takes.map fun p => D.bl (m.testBit p)) = s.takes.map (D.bl ∘ fun p => m.testBit p) from rfl, this]
    simp [canT]
  simp [f_l_can, d_l_can, le_line hl, h, e]
theorem spotsN_len (c size : Nat) : (spotsN c size).length ≤ 4 := by
  unfold spotsN
  rw [sortN_length]
  have := (@dedup_len (spotN c size) (List.range (1 + c % 4)) []).2
  simp at this
  omega
end CW
namespace CW
open PySem PySem.Spec PyProof.Rows L2

/-! ### wants -/
theorem enum_steps (steps : List Step) : enumL (steps.map stepD) = steps.zipIdx.map fun p => .tup [nD p.2, stepD p.1] := by
  rw [enumL_eq, List.zipIdx_map, List.map_map]
  rfl
theorem zip_any {α : Type} (xs : List α) (f : α → Bool) : (xs.zipIdx.any fun p => f p.1) = xs.any f := by
  have : xs.zipIdx.map Prod.fst = xs := by simp
  conv => rhs; rw [← this, List.any_map]
  rfl
def wantsN (steps : List Step) (m w : Nat) : Int := if steps.any fun s => s.wire == w && canN s m && s.up then 1 else if steps.any fun s => s.wire == w && canN s m then -1 else 0
theorem wants_loop (g : Graph) (m w : Nat) (c : D) (hg : ∀ s ∈ g.steps, StepOk s) : ∀ (ps : List (Step × Nat)), (∀ p ∈ ps, g.steps[p.2]? = some p.1) → ∀ (z : Int) (v4 v5 : Option D), ∃ v4' v5',
    forL [4, 5] (gT 2) b1_wants (ps.map fun p => .tup [nD p.2, stepD p.1]) [some (graphD g), some (.tup [nD m, c]), some (nD w), some (.int z), v4, v5] =
      if ps.any fun p => p.1.wire == w && canN p.1 m && p.1.up then .ret (nD 1)
      else .nx [some (graphD g), some (.tup [nD m, c]), some (nD w), some (.int (if ps.any fun p => p.1.wire == w && canN p.1 m then -1 else z)), v4', v5']
  | [], _, z, v4, v5 => ⟨v4, v5, by simp⟩
  | (s, k) :: ps, hp, z, v4, v5 => by
    have hs : g.steps[k]? = some s := hp (s, k) List.mem_cons_self
    have hk := v_can hs (hg s (List.mem_of_getElem? hs)) m c
    have ih := fun z => wants_loop g m w c hg ps (fun p h => hp p (List.mem_cons_of_mem _ h)) z (some (nD k)) (some (stepD s))
    by_cases h1 : (s.wire == w) = true
    · by_cases h2 : canN s m = true
      · by_cases h3 : s.up = true
        · refine ⟨none, none, ?_⟩
          rw [List.map_cons, forL_ret (es := [nD k, stepD s]) (x := nD 1) _ _ rfl (by simp [b1_wants, h1, hk, h2, h3]), List.any_cons, h1, h2, h3]
          rfl
        · obtain ⟨v4', v5', e⟩ := ih (-1)
          refine ⟨v4', v5', ?_⟩
          have h3' := eq_false_of_ne_true h3
          rw [List.map_cons, forL_nx (es := [nD k, stepD s]) (r := [some (graphD g), some (.tup [nD m, c]), some (nD w), some (.int (-1)), some (nD k), some (stepD s)]) _ _ rfl (by simp [b1_wants, h1, hk, h2, h3']), e, List.any_cons, List.any_cons, h1, h2, h3']
          generalize (ps.any fun p => p.1.wire == w && canN p.1 m && p.1.up) = A
          generalize (ps.any fun p => p.1.wire == w && canN p.1 m) = B
          cases A <;> cases B <;> rfl
      · obtain ⟨v4', v5', e⟩ := ih z
        refine ⟨v4', v5', ?_⟩
        have h2' := eq_false_of_ne_true h2
        rw [List.map_cons, forL_nx (es := [nD k, stepD s]) (r := [some (graphD g), some (.tup [nD m, c]), some (nD w), some (.int z), some (nD k), some (stepD s)]) _ _ rfl (by simp [b1_wants, h1, hk, h2']), e, List.any_cons, List.any_cons, h1, h2']
        generalize (ps.any fun p => p.1.wire == w && canN p.1 m && p.1.up) = A
        generalize (ps.any fun p => p.1.wire == w && canN p.1 m) = B
        cases A <;> cases B <;> rfl
    · obtain ⟨v4', v5', e⟩ := ih z
      refine ⟨v4', v5', ?_⟩
      have h1' := eq_false_of_ne_true h1
      rw [List.map_cons, forL_nx (es := [nD k, stepD s]) (r := [some (graphD g), some (.tup [nD m, c]), some (nD w), some (.int z), some (nD k), some (stepD s)]) _ _ rfl (by simp [b1_wants, h1']), e, List.any_cons, List.any_cons, h1']
      generalize (ps.any fun p => p.1.wire == w && canN p.1 m && p.1.up) = A
      generalize (ps.any fun p => p.1.wire == w && canN p.1 m) = B
      cases A <;> cases B <;> rfl
theorem v_wants (g : Graph) (m w : Nat) (c : D) (hg : ∀ s ∈ g.steps, StepOk s) : f_wants [graphD g, .tup [nD m, c], nD w] = .ok (.int (wantsN g.steps m w)) := by
  obtain ⟨v4, v5, e⟩ := wants_loop g m w c hg g.steps.zipIdx (fun p hp => by
    have := List.mem_zipIdx hp
    simp at this
    rw [List.getElem?_eq_getElem (by omega), this.2]) 0 none none
  rw [zip_any g.steps fun s => s.wire == w && canN s m && s.up, zip_any g.steps fun s => s.wire == w && canN s m] at e
  simp only [f_wants, d_wants, q_runF]
  simp [enum_steps]
  rw [int_lit] at e
  rw [e]
  unfold wantsN
  generalize (g.steps.any fun s => s.wire == w && canN s m && s.up) = A
  generalize (g.steps.any fun s => s.wire == w && canN s m) = B
  cases A <;> cases B <;> simp
end CW
namespace CW
open PySem PySem.Spec PyProof.Rows L2

/-! ### a < b < c -/
def chO (k : Out D) : D → Out D
  | .bl true => k
  | .bl false => .ok (.bl false)
  | _ => .stuck
@[simp] theorem q_eChain (g h : D → D → Out D) (a b c : Env → Out D) (ρ : Env) : eChain g h a b c ρ = (a ρ).bind fun x => (b ρ).bind fun y => (g x y).bind (chO ((c ρ).bind fun w => h y w)) := by
  unfold eChain
  congr 1
@[simp] theorem chO_t (k : Out D) : chO k (.bl true) = k := (rfl)
@[simp] theorem chO_f (k : Out D) : chO k (.bl false) = .ok (.bl false) := (rfl)
@[simp] theorem chO_b (k : Out D) (b : Bool) : chO k (.bl b) = if b = true then k else .ok (.bl false) := by cases b <;> rfl
/-! ### numbers of what is so -/
theorem zip_range {α : Type} (q : α → Bool) : ∀ (xs : List α) (n : Nat), ((xs.zipIdx n).filter fun p => q p.1).map (·.2) = ((List.range xs.length).filter fun k => (xs[k]?.map q).getD false).map (n + ·)
  | [], n => rfl
  | x :: xs, n => by
    have ih := zip_range q xs (n + 1)
    rw [List.zipIdx_cons, List.length_cons, List.range_succ_eq_map, List.filter_cons, List.filter_cons, List.filter_map]
    have e : (List.filter ((fun k => (((x :: xs)[k]?).map q).getD false) ∘ Nat.succ) (List.range xs.length)) = (List.range xs.length).filter fun k => (xs[k]?.map q).getD false := by
      congr 1
    rw [e]
    have e2 : ∀ l : List Nat, List.map (n + ·) (List.map Nat.succ l) = List.map (n + 1 + ·) l := fun l => by
      rw [List.map_map]
      exact List.map_congr_left fun k _ => by simp [Nat.succ_eq_add_one]; omega
    cases h : q x with
    | true => simp [h, ih, ← e2]
    | false => simp [h, ih, ← e2]
def whichN {α : Type} (q : α → Bool) (xs : List α) : List Nat := (xs.zipIdx.filter fun p => q p.1).map (·.2)
theorem which_range {α : Type} (q : α → Bool) (xs : List α) : whichN q xs = (List.range xs.length).filter fun k => (xs[k]?.map q).getD false := by
  have := zip_range q xs 0
  simp at this
  exact this
theorem which_len {α : Type} (q : α → Bool) (xs : List α) : (whichN q xs).length ≤ xs.length := by
  rw [which_range]
  exact Nat.le_trans (List.length_filter_le _ _) (by simp)
theorem v_names (g : Graph) (hl : g.wires.length ≤ 1000000) : f_names [graphD g] = .ok (g.wires.map fun w => sD w.1) := by
  have e := compL_map (is := [1, 2]) (asg := gT 2) (ev := eV 1) (ρ := [some (graphD g), none, none]) wireD (fun w => [sD w.1, sD w.2]) (fun w => gT_wire w) (fun w => sD w.1) g.wires (fun w _ => by simp)
  simp [f_names, d_names, e, le_line hl]
theorem enum_wires (ws : List (List Nat × List Nat)) : enumL (ws.map wireD) = ws.zipIdx.map fun p => .tup [nD p.2, wireD p.1] := by
  rw [enumL_eq, List.zipIdx_map, List.map_map]
  rfl
theorem v_made (g : Graph) (hl : g.wires.length ≤ 1000000) : f_made [graphD g] = .ok ((whichN (fun w => w.2 == toL "made") g.wires).map nD) := by
  have e := compL_filter (is := [1, 2]) (asg := gT 2) (c := c1_made) (ev := eV 1) (ρ := [some (graphD g), none, none]) (fun p : (List Nat × List Nat) × Nat => .tup [nD p.2, wireD p.1]) (fun p => [nD p.2, wireD p.1]) (fun _ => rfl) (fun p => p.1.2 == toL "made") (fun p => nD p.2) g.wires.zipIdx
    (fun p _ => by simp [c1_made]) (fun p _ _ => by simp)
  simp [f_made, d_made, enum_wires, e, whichN, le_line hl, Function.comp_def]
theorem v_steps_of (g : Graph) (hl : g.steps.length ≤ 1000000) (w : Nat) (u : Bool) : f_steps_of [graphD g, nD w, .bl u] = .ok ((whichN (fun s => s.wire == w && s.up == u) g.steps).map nD) := by
  have e := compL_filter (is := [3, 4]) (asg := gT 2) (c := c1_steps_of) (ev := eV 3) (ρ := [some (graphD g), some (nD w), some (.bl u), none, none]) (fun p : Step × Nat => .tup [nD p.2, stepD p.1]) (fun p => [nD p.2, stepD p.1]) (fun _ => rfl) (fun p => p.1.wire == w && p.1.up == u) (fun p => nD p.2) g.steps.zipIdx
    (fun p _ => by
      cases h : p.1.wire == w <;> simp [c1_steps_of, h]) (fun p _ _ => by simp)
  simp [f_steps_of, d_steps_of, enum_steps, e, whichN, le_line hl, Function.comp_def]
/-! ### is_name -/
theorem same_is : b1_is_name = b1_l_is_name := rfl
theorem letters_loop (z0 : D) : ∀ (cs : List Nat) (v : Option D), (∃ v', forL [1] gN b1_l_is_name (cs.map fun c => sD [c]) [some z0, v] = .nx [some z0, v']) ∨ forL [1] gN b1_l_is_name (cs.map fun c => sD [c]) [some z0, v] = .ret (.bl false)
  | [], v => .inl ⟨v, rfl⟩
  | c :: cs, v => by
    have hin := in_cs true c abc
    rw [List.map_cons]
    by_cases h : c ∈ abc
    · rcases letters_loop z0 cs (some (sD [c])) with ⟨v', e⟩ | e
      · exact .inl ⟨v', by rw [forL_nx (r := [some z0, some (sD [c])]) _ _ rfl (by simp [b1_l_is_name, hin, h]), e]⟩
      · exact .inr (by rw [forL_nx (r := [some z0, some (sD [c])]) _ _ rfl (by simp [b1_l_is_name, hin, h]), e])
    · exact .inr (forL_ret _ _ rfl (by simp [b1_l_is_name, hin, h]))
theorem in_kept (z : List Nat) : oIn false (sD z) (.cst ["given", "made", "up", "down", "start"]) = .ok (.bl (decide (z ∈ kept))) := by
  show Out.ok (D.bl (false != decide (ofL z ∈ _))) = _
  have : decide (ofL z ∈ (["given", "made", "up", "down", "start"] : List Str)) = decide (z ∈ kept) := by
    have e : (["given", "made", "up", "down", "start"] : List Str) = kept.map ofL := rfl
    rw [e, decide_eq_decide, List.mem_map]
    exact ⟨fun ⟨x, hx, ex⟩ => ofL_inj.mp ex ▸ hx, fun h => ⟨z, h, rfl⟩⟩
  rw [this]
  cases decide (z ∈ kept) <;> rfl
theorem v_is_name (z : List Nat) (hl : z.length ≤ 1000) : ∃ b, f_is_name [sD z] = .ok (.bl b) ∧ f_l_is_name [sD z] = .ok (.bl b) := by
  have k1 := in_kept z
  have k2 : oIn false (sD z) (.lst [sD (toL "given"), sD (toL "made"), sD (toL "up"), sD (toL "down"), sD (toL "start")]) = .ok (.bl (decide (z ∈ kept))) := by
    rw [kept_D, in_ss]
    cases decide (z ∈ kept) <;> rfl
  have h1 : z.length ≤ 1000000 := by omega
  by_cases hk : z ∈ kept
  · refine ⟨false, ?_, ?_⟩
    · by_cases h8 : 1 ≤ z.length ∧ z.length ≤ 8
      · obtain ⟨a, b⟩ := h8
        simp [f_is_name, d_is_name, h1, k1, hk, a, b]
      · by_cases a : 1 ≤ z.length
        · have b : ¬ z.length ≤ 8 := fun q => h8 ⟨a, q⟩
          simp [f_is_name, d_is_name, h1, k1, hk, a, b]
        · simp [f_is_name, d_is_name, h1, k1, hk, a]
    · by_cases h0 : z = []
      · subst h0
        simp [f_l_is_name, d_l_is_name]
      · by_cases h8 : 8 < z.length
        · simp [f_l_is_name, d_l_is_name, h0, h8, h1]
        · simp [f_l_is_name, d_l_is_name, h0, h8, h1, k2, hk]
  · by_cases h0 : z = []
    · subst h0
      exact ⟨false, by simp [f_is_name, d_is_name], by simp [f_l_is_name, d_l_is_name]⟩
    · have a : 1 ≤ z.length := by cases z with | nil => exact absurd rfl h0 | cons => simp
      by_cases h8 : 8 < z.length
      · refine ⟨false, ?_, ?_⟩
        · have b : ¬ z.length ≤ 8 := by omega
          simp [f_is_name, d_is_name, h1, a, b]
        · simp [f_l_is_name, d_l_is_name, h0, h8, h1]
      · have b : z.length ≤ 8 := by omega
        rcases letters_loop (sD z) z none with ⟨v', e⟩ | e
        · refine ⟨true, ?_, ?_⟩
          · rw [← same_is] at e
            simp [f_is_name, d_is_name, h1, k1, hk, a, b, e]
          · simp [f_l_is_name, d_l_is_name, h0, h8, h1, k2, hk, e]
        · refine ⟨false, ?_, ?_⟩
          · rw [← same_is] at e
            simp [f_is_name, d_is_name, h1, k1, hk, a, b, e]
          · simp [f_l_is_name, d_l_is_name, h0, h8, h1, k2, hk, e]
theorem ix_back (ds : List D) : oIx (.lst ds) (.int (-1)) = ixO ds.getLast? := by
  have : atI ds (-1) = ds.getLast? := by
    unfold atI ixN
    rw [if_neg (by decide), List.getLast?_eq_getElem?]
    by_cases hl : 0 < ds.length
    · rw [if_pos (by omega)]
      show ds[((-1 : Int) + ds.length).toNat]? = _
      rw [show ((-1 : Int) + ds.length).toNat = ds.length - 1 by omega]
    · rw [if_neg (by omega)]
      have : ds = [] := List.length_eq_zero_iff.mp (by omega)
      subst this
      rfl
  show ixO (atI ds (-1)) = _
  rw [this]
end CW
/-! which class is under which -/
namespace CW
open PySem PySem.Spec PyProof.Rows L2
@[simp] theorem sx_NoText_NoText : subX "NoText" "NoText" = true := by decide +kernel
@[simp] theorem sx_NoText_Broken : subX "NoText" "Broken" = false := by decide +kernel
@[simp] theorem sx_NoText_Crowded : subX "NoText" "Crowded" = false := by decide +kernel
@[simp] theorem sx_NoText_TooMany : subX "NoText" "TooMany" = false := by decide +kernel
@[simp] theorem sx_NoText_CalledOff : subX "NoText" "CalledOff" = false := by decide +kernel
@[simp] theorem sx_NoText_Clash : subX "NoText" "Clash" = false := by decide +kernel
@[simp] theorem sx_NoText_NoMove : subX "NoText" "NoMove" = false := by decide +kernel
@[simp] theorem sx_NoText_NoPlace : subX "NoText" "NoPlace" = false := by decide +kernel
@[simp] theorem sx_NoText_CalmError : subX "NoText" "CalmError" = true := by decide +kernel
@[simp] theorem sx_NoText_ValueError : subX "NoText" "ValueError" = true := by decide +kernel
@[simp] theorem sx_Broken_NoText : subX "Broken" "NoText" = false := by decide +kernel
@[simp] theorem sx_Broken_Broken : subX "Broken" "Broken" = true := by decide +kernel
@[simp] theorem sx_Broken_Crowded : subX "Broken" "Crowded" = false := by decide +kernel
@[simp] theorem sx_Broken_TooMany : subX "Broken" "TooMany" = false := by decide +kernel
@[simp] theorem sx_Broken_CalledOff : subX "Broken" "CalledOff" = false := by decide +kernel
@[simp] theorem sx_Broken_Clash : subX "Broken" "Clash" = false := by decide +kernel
@[simp] theorem sx_Broken_NoMove : subX "Broken" "NoMove" = false := by decide +kernel
@[simp] theorem sx_Broken_NoPlace : subX "Broken" "NoPlace" = false := by decide +kernel
@[simp] theorem sx_Broken_CalmError : subX "Broken" "CalmError" = true := by decide +kernel
@[simp] theorem sx_Broken_ValueError : subX "Broken" "ValueError" = true := by decide +kernel
@[simp] theorem sx_Crowded_NoText : subX "Crowded" "NoText" = false := by decide +kernel
@[simp] theorem sx_Crowded_Broken : subX "Crowded" "Broken" = false := by decide +kernel
@[simp] theorem sx_Crowded_Crowded : subX "Crowded" "Crowded" = true := by decide +kernel
@[simp] theorem sx_Crowded_TooMany : subX "Crowded" "TooMany" = false := by decide +kernel
@[simp] theorem sx_Crowded_CalledOff : subX "Crowded" "CalledOff" = false := by decide +kernel
@[simp] theorem sx_Crowded_Clash : subX "Crowded" "Clash" = false := by decide +kernel
@[simp] theorem sx_Crowded_NoMove : subX "Crowded" "NoMove" = false := by decide +kernel
@[simp] theorem sx_Crowded_NoPlace : subX "Crowded" "NoPlace" = false := by decide +kernel
@[simp] theorem sx_Crowded_CalmError : subX "Crowded" "CalmError" = true := by decide +kernel
@[simp] theorem sx_Crowded_ValueError : subX "Crowded" "ValueError" = true := by decide +kernel
@[simp] theorem sx_TooMany_NoText : subX "TooMany" "NoText" = false := by decide +kernel
@[simp] theorem sx_TooMany_Broken : subX "TooMany" "Broken" = false := by decide +kernel
@[simp] theorem sx_TooMany_Crowded : subX "TooMany" "Crowded" = false := by decide +kernel
@[simp] theorem sx_TooMany_TooMany : subX "TooMany" "TooMany" = true := by decide +kernel
@[simp] theorem sx_TooMany_CalledOff : subX "TooMany" "CalledOff" = false := by decide +kernel
@[simp] theorem sx_TooMany_Clash : subX "TooMany" "Clash" = false := by decide +kernel
@[simp] theorem sx_TooMany_NoMove : subX "TooMany" "NoMove" = false := by decide +kernel
@[simp] theorem sx_TooMany_NoPlace : subX "TooMany" "NoPlace" = false := by decide +kernel
@[simp] theorem sx_TooMany_CalmError : subX "TooMany" "CalmError" = true := by decide +kernel
@[simp] theorem sx_TooMany_ValueError : subX "TooMany" "ValueError" = true := by decide +kernel
@[simp] theorem sx_CalledOff_NoText : subX "CalledOff" "NoText" = false := by decide +kernel
@[simp] theorem sx_CalledOff_Broken : subX "CalledOff" "Broken" = false := by decide +kernel
@[simp] theorem sx_CalledOff_Crowded : subX "CalledOff" "Crowded" = false := by decide +kernel
@[simp] theorem sx_CalledOff_TooMany : subX "CalledOff" "TooMany" = false := by decide +kernel
@[simp] theorem sx_CalledOff_CalledOff : subX "CalledOff" "CalledOff" = true := by decide +kernel
@[simp] theorem sx_CalledOff_Clash : subX "CalledOff" "Clash" = false := by decide +kernel
@[simp] theorem sx_CalledOff_NoMove : subX "CalledOff" "NoMove" = false := by decide +kernel
@[simp] theorem sx_CalledOff_NoPlace : subX "CalledOff" "NoPlace" = false := by decide +kernel
@[simp] theorem sx_CalledOff_CalmError : subX "CalledOff" "CalmError" = true := by decide +kernel
@[simp] theorem sx_CalledOff_ValueError : subX "CalledOff" "ValueError" = true := by decide +kernel
@[simp] theorem sx_Clash_NoText : subX "Clash" "NoText" = false := by decide +kernel
@[simp] theorem sx_Clash_Broken : subX "Clash" "Broken" = false := by decide +kernel
@[simp] theorem sx_Clash_Crowded : subX "Clash" "Crowded" = false := by decide +kernel
@[simp] theorem sx_Clash_TooMany : subX "Clash" "TooMany" = false := by decide +kernel
@[simp] theorem sx_Clash_CalledOff : subX "Clash" "CalledOff" = false := by decide +kernel
@[simp] theorem sx_Clash_Clash : subX "Clash" "Clash" = true := by decide +kernel
@[simp] theorem sx_Clash_NoMove : subX "Clash" "NoMove" = false := by decide +kernel
@[simp] theorem sx_Clash_NoPlace : subX "Clash" "NoPlace" = false := by decide +kernel
@[simp] theorem sx_Clash_CalmError : subX "Clash" "CalmError" = true := by decide +kernel
@[simp] theorem sx_Clash_ValueError : subX "Clash" "ValueError" = true := by decide +kernel
@[simp] theorem sx_NoMove_NoText : subX "NoMove" "NoText" = false := by decide +kernel
@[simp] theorem sx_NoMove_Broken : subX "NoMove" "Broken" = false := by decide +kernel
@[simp] theorem sx_NoMove_Crowded : subX "NoMove" "Crowded" = false := by decide +kernel
@[simp] theorem sx_NoMove_TooMany : subX "NoMove" "TooMany" = false := by decide +kernel
@[simp] theorem sx_NoMove_CalledOff : subX "NoMove" "CalledOff" = false := by decide +kernel
@[simp] theorem sx_NoMove_Clash : subX "NoMove" "Clash" = false := by decide +kernel
@[simp] theorem sx_NoMove_NoMove : subX "NoMove" "NoMove" = true := by decide +kernel
@[simp] theorem sx_NoMove_NoPlace : subX "NoMove" "NoPlace" = false := by decide +kernel
@[simp] theorem sx_NoMove_CalmError : subX "NoMove" "CalmError" = true := by decide +kernel
@[simp] theorem sx_NoMove_ValueError : subX "NoMove" "ValueError" = true := by decide +kernel
@[simp] theorem sx_NoPlace_NoText : subX "NoPlace" "NoText" = false := by decide +kernel
@[simp] theorem sx_NoPlace_Broken : subX "NoPlace" "Broken" = false := by decide +kernel
@[simp] theorem sx_NoPlace_Crowded : subX "NoPlace" "Crowded" = false := by decide +kernel
@[simp] theorem sx_NoPlace_TooMany : subX "NoPlace" "TooMany" = false := by decide +kernel
@[simp] theorem sx_NoPlace_CalledOff : subX "NoPlace" "CalledOff" = false := by decide +kernel
@[simp] theorem sx_NoPlace_Clash : subX "NoPlace" "Clash" = false := by decide +kernel
@[simp] theorem sx_NoPlace_NoMove : subX "NoPlace" "NoMove" = false := by decide +kernel
@[simp] theorem sx_NoPlace_NoPlace : subX "NoPlace" "NoPlace" = true := by decide +kernel
@[simp] theorem sx_NoPlace_CalmError : subX "NoPlace" "CalmError" = true := by decide +kernel
@[simp] theorem sx_NoPlace_ValueError : subX "NoPlace" "ValueError" = true := by decide +kernel
end CW
namespace CW
open PySem PySem.Spec PyProof.Rows L2

/-! ### reading: words, spots, wires -/
@[simp] theorem v_need (d : D) : f_need [.bl true, d] = .ok .non := by simp [f_need, d_need]
theorem rising_at : ∀ {ks : List Nat} {i j : Nat} {a b : Nat}, Rising ks → i < j → ks[i]? = some a → ks[j]? = some b → a < b := by
  intro ks i j a b h hij ha hb
  obtain ⟨hi, rfl⟩ := List.getElem?_eq_some_iff.mp ha
  obtain ⟨hj, rfl⟩ := List.getElem?_eq_some_iff.mp hb
  exact List.pairwise_iff_getElem.mp h i j hi hj hij
theorem v_is_rising {ks : List Nat} (h : Rising ks) (hl : ks.length ≤ 1000000) : f_is_rising [.lst (ks.map nD)] = .ok (.bl true) := by
  obtain ⟨ρ, e, _⟩ := forL_go (is := [1]) (asg := gN) (b := b1_is_rising) (fun k => nD (1 + k)) (fun k => [nD (1 + k)]) (fun _ => rfl) (fun ρ => ∃ v, ρ = [some (.lst (ks.map nD)), v]) (List.range (ks.length - 1)) _ ⟨none, rfl⟩ (by
    rintro k hk ρ ⟨v, rfl⟩
    have hk' := List.mem_range.mp hk
    refine ⟨_, ?_, some (nD (1 + k)), rfl⟩
    have h1 : ks[k]? = some ks[k] := List.getElem?_eq_getElem (by omega)
    have h2 : ks[1 + k]? = some ks[1 + k] := List.getElem?_eq_getElem (by omega)
    have hlt := rising_at h (show k < 1 + k by omega) h1 h2
    simp [b1_is_rising, h1, h2, hlt])
  simp [f_is_rising, d_is_rising, show ks.length < 4611686018427387904 by omega, e]
def figs : List Nat := toL ("0123456789" : Str)
theorem figs_str : ("0123456789" : Str) = ofL figs := rfl
@[simp] theorem toL_figs : toL ("0123456789" : Str) = figs := rfl
theorem num_ok : ∀ k, k < 64 → (numL k).length ≤ 2 ∧ 1 ≤ (numL k).length ∧ ((numL k).length = 1 ∨ ∃ c, (numL k)[0]? = some c ∧ c ≠ 48) ∧ (∀ c ∈ numL k, c ∈ figs) ∧ PySem.intText? (ofL (numL k)) = some (k : Int) := by
  have h : ∀ k, k < 64 → ((numL k).length ≤ 2 ∧ 1 ≤ (numL k).length ∧ (decide ((numL k).length = 1) || (match (numL k)[0]? with | some c => c != 48 | none => false)) = true ∧ (∀ c ∈ numL k, c ∈ figs) ∧ PySem.intText? (ofL (numL k)) = some (k : Int)) := by decide +kernel
  intro k hk
  obtain ⟨h1, h2, h3, h4, h5⟩ := h k hk
  refine ⟨h1, h2, ?_, h4, h5⟩
  rw [Bool.or_eq_true] at h3
  rcases h3 with h3 | h3
  · exact .inl (by simpa using h3)
  · right
    cases e : (numL k)[0]? with
    | none => rw [e] at h3; exact absurd h3 (by simp)
    | some c => rw [e] at h3; exact ⟨c, rfl, by simpa using h3⟩
theorem v_spot_of {k : Nat} (hk : k < 64) (l : D) : f_spot_of [sD (numL k), l] = .ok (nD k) := by
  obtain ⟨h1, h2, h3, h4, h5⟩ := num_ok k hk
  obtain ⟨ρ, e, v, rfl⟩ := forL_go (is := [2]) (asg := gN) (b := b1_spot_of) (fun c => sD [c]) (fun c => [sD [c]]) (fun _ => rfl) (fun ρ => ∃ v, ρ = [some (sD (numL k)), some l, v]) (numL k) _ ⟨none, rfl⟩ (by
    rintro c hc ρ ⟨v, rfl⟩
    refine ⟨_, ?_, some (sD [c]), rfl⟩
    have hin := in_cs false c figs
    simp [h4 c hc] at hin
    simp [b1_spot_of, hin])
  have hi : bIntS [sD (numL k)] = .ok (nD k) := by
    show (if (ofL (numL k)).length ≤ 640 then (match PySem.intText? (ofL (numL k)) with
      | some n => Out.ok (D.int n)
      | none => .stuck) else .stuck) = _
    rw [ofL_length, if_pos (by omega), h5]
    rfl
  have t0 : toL ("0" : Str) = [48] := by decide +kernel
  by_cases g1 : (numL k).length = 1
  · simp [f_spot_of, d_spot_of, g1, e, hi]
  · rcases h3 with h3 | ⟨c, hc, hc2⟩
    · exact absurd h3 g1
    · have g2 : (numL k).length = 2 := by omega
      have hne : (c == 48) = false := by simpa using hc2
      have hc' : (numL k)[0]'(by omega) = c := (List.getElem?_eq_some_iff.mp hc).2
      simp [f_spot_of, d_spot_of, g2, e, hi, hc', t0, hne]
theorem v_spots_of {ks : List Nat} (hr : Rising ks) (hk : ∀ k ∈ ks, k < 64) (hl : ks.length ≤ 1000) (l : D) : f_spots_of [.lst ((ks.map numL).map sD), l] = .ok (ks.map nD) := by
  have e1 := compL_map (is := [3]) (asg := gN) (ev := e1_spots_of) (ρ := [some (.lst ((ks.map numL).map sD)), some l, none, none]) (fun k => sD (numL k)) (fun k => [sD (numL k)]) (fun _ => rfl) nD ks (fun k hk2 => by
    simp [e1_spots_of, v_spot_of (hk k hk2) l])
  have e0 : (ks.map numL).map sD = ks.map fun k => sD (numL k) := by rw [List.map_map]; rfl
  rw [e0] at e1 ⊢
  have e2 := v_is_rising hr (by omega)
  by_cases h0 : ks = []
  · subst h0
    simp at e1 e2
    simp [f_spots_of, d_spots_of, e1, e2]
  · obtain ⟨z, hz⟩ : ∃ z, ks.getLast? = some z := by
      cases h : ks.getLast? with
      | none => exact absurd (List.getLast?_eq_none_iff.mp h) h0
      | some z => exact ⟨z, rfl⟩
    have hz2 : z ≤ 63 := by have := hk z (List.mem_of_getLast? hz); omega
    have hlz : (ks.map nD).getLast? = some (nD z) := by rw [List.getLast?_map, hz]; rfl
    have h3 : oEq (.lst (ks.map nD)) (.lst []) = .ok (.bl false) := by
      have h1 : okDs 59 (ks.map nD) = true := by
        rw [okDs_map, List.all_eq_true]
        exact fun w hw => okD_nD 59
      rw [oEq_lst, h1]
      cases ks with
      | nil => exact absurd rfl h0
      | cons k ks => simp
    have hb := ix_back (ks.map nD)
    simp [f_spots_of, d_spots_of, e1, e2, le_line (show ks.length ≤ 1000000 by omega), h3, hb, hz, hz2]
theorem wires_enum (ws : List (List Nat × List Nat)) : enumL (ws.map wireD) = ws.zipIdx.map fun p => .tup [nD p.2, wireD p.1] := enum_wires ws
theorem find_zip {α : Type} (p : α → Bool) : ∀ (xs : List α) (n i : Nat) (x : α), xs[i]? = some x → p x = true → (∀ (j : Nat) (y : α), j < i → xs[j]? = some y → p y = false) → (xs.zipIdx n).find? (fun q => p q.1) = some (x, n + i)
  | [], _, _, _, h, _, _ => by simp at h
  | y :: ys, n, 0, x, h, hp, _ => by
    simp at h
    subst h
    rw [List.zipIdx_cons, List.find?_cons_of_pos (by exact hp)]
    rfl
  | y :: ys, n, i + 1, x, h, hp, hn => by
    have h0 := hn 0 y (by omega) rfl
    rw [List.zipIdx_cons, List.find?_cons_of_neg (by simp [h0]), find_zip p ys (n + 1) i x (by simpa using h) hp fun j z hj hz => hn (j + 1) z (by omega) (by simpa using hz)]
    congr 2
    omega
theorem v_wire_of {ws : List (List Nat × List Nat)} (hnd : (ws.map (·.1)).Nodup) {w : Nat} {x : List Nat × List Nat} (hx : ws[w]? = some x) (hl : ws.length ≤ 1000000) (l : D) : f_wire_of [sD x.1, .lst (ws.map wireD), l] = .ok (nD w) := by
  have hf := find_zip (fun y : List Nat × List Nat => y.1 == x.1) ws 0 w x hx (by simp) (fun j y hj hy => by
    simp only [beq_eq_false_iff_ne]
    intro e
    obtain ⟨h1, h2⟩ := List.getElem?_eq_some_iff.mp hy
    obtain ⟨h3, h4⟩ := List.getElem?_eq_some_iff.mp hx
    have := List.pairwise_iff_getElem.mp hnd j w (by simpa using h1) (by simpa using h3) hj
    simp only [List.getElem_map] at this
    exact this (by rw [h2, h4, e]))
  have hg := forL_find (is := [3, 4]) (asg := gT 2) (b := b1_wire_of) (fun p : (List Nat × List Nat) × Nat => .tup [nD p.2, wireD p.1]) (fun p => [nD p.2, wireD p.1]) (fun _ => rfl) (fun ρ => ∃ a b, ρ = [some (sD x.1), some (.lst (ws.map wireD)), some l, a, b]) (fun p => p.1.1 == x.1) (fun p => nD p.2) ws.zipIdx _ ⟨none, none, rfl⟩ (by
    rintro p ρ hp ⟨a, b, rfl⟩
    by_cases h : p.1.1 == x.1
    · rw [if_pos h]
      simp [b1_wire_of, h]
    · rw [if_neg h]
      refine ⟨_, .inl ?_, some (nD p.2), some (wireD p.1), rfl⟩
      simp [b1_wire_of, eq_false_of_ne_true h])
  rw [hf] at hg
  simp at hg
  simp [f_wire_of, d_wire_of, wires_enum, hg]
theorem v_wire_row {ws : List (List Nat × List Nat)} {x : List Nat × List Nat} (h10 : ws.length < 10) (hx : NameOk x.1) (hk : x.1 ∉ kept) (hn : x.1 ∉ ws.map (·.1)) (l : D) : f_wire_row [.lst [sD x.2, sD x.1], .lst (ws.map wireD), l] = .ok (wireD x) := by
  have e1 := compL_map (is := [3, 4]) (asg := gT 2) (ev := eV 3) (ρ := [some (.lst [sD x.2, sD x.1]), some (.lst (ws.map wireD)), some l, none, none]) wireD (fun w => [sD w.1, sD w.2]) (fun w => gT_wire w) (fun w => sD w.1) ws (fun w _ => by simp)
  have e2 : ws.map (fun w => sD w.1) = (ws.map (·.1)).map sD := by rw [List.map_map]; rfl
  rw [e2] at e1
  have e3 := in_ss true x.1 (ws.map (·.1))
  have e4 : f_is_name [sD x.1] = .ok (.bl true) := by
    rcases letters_loop (sD x.1) x.1 none with ⟨v', e⟩ | e
    · rw [← same_is] at e
      have k1 := in_kept x.1
      have a := hx.pos
      have b := hx.le
      simp [f_is_name, d_is_name, show x.1.length ≤ 1000000 by omega, k1, hk, a, b, e]
    · exfalso
      have go : ∀ (cs : List Nat) (v : Option D), Letters cs → ∃ v', forL [1] gN b1_l_is_name (cs.map fun c => sD [c]) [some (sD x.1), v] = .nx [some (sD x.1), v'] := by
        intro cs
        induction cs with
        | nil => exact fun v _ => ⟨v, rfl⟩
        | cons c cs ih =>
          intro v hc
          obtain ⟨v', e⟩ := ih (some (sD [c])) fun d hd => hc d (List.mem_cons_of_mem _ hd)
          have h1 := hc c List.mem_cons_self
          have hm : c ∈ abc := by
            have := abc_at (i := c - 97) (by omega)
            rw [show 97 + (c - 97) = c by omega] at this
            exact List.mem_of_getElem? this
          have hin := in_cs true c abc
          exact ⟨v', by rw [List.map_cons, forL_nx (r := [some (sD x.1), some (sD [c])]) _ _ rfl (by simp [b1_l_is_name, hin, hm]), e]⟩
      obtain ⟨v', e'⟩ := go x.1 none hx.let_
      rw [e'] at e
      cases e
  rw [show (decide (x.1 ∈ ws.map (·.1))) = false from decide_eq_false hn] at e3
  simp at e1 e3
  simp [f_wire_row, d_wire_row, e1, e3, e4, le_line (show ws.length ≤ 1000000 by omega), h10]
  rfl
end CW
namespace CW
open PySem PySem.Spec PyProof.Rows L2

theorem cntD_s (x : List Nat) : ∀ ws : List (List Nat), cntD (sD x) (ws.map sD) = ws.count x
  | [] => rfl
  | w :: ws => by
    have ih := cntD_s x ws
    unfold cntD at ih ⊢
    rw [List.map_cons, List.countP_cons, ih, List.count_cons, eqD_ss]
theorem idxD_s (x : List Nat) : ∀ (pre post : List (List Nat)), x ∉ pre → idxD (sD x) ((pre ++ x :: post).map sD) = some pre.length
  | [], post, _ => by simp [idxD]
  | p :: pre, post, h => by
    have ih := idxD_s x pre post fun z => h (List.mem_cons_of_mem _ z)
    have hne : (p == x) = false := by simpa using fun e : p = x => h (e ▸ List.mem_cons_self)
    rw [List.cons_append, List.map_cons]
    unfold idxD
    rw [eqD_ss, hne, ih]
    rfl
theorem v_count {x : List Nat} {pre post : List (List Nat)} (h1 : x ∉ pre) (h2 : x ∉ post) : mCount (.lst ((pre ++ x :: post).map sD)) (sD x) = .ok (nD 1) := by
  have hc : (pre ++ x :: post).count x = 1 := by
    rw [List.count_append, List.count_cons, List.count_eq_zero_of_not_mem h1, List.count_eq_zero_of_not_mem h2]
    simp
  rw [mCount_lst, flatD_sD, allflat_s, cntD_s, hc]
  rfl
theorem v_index1 {x : List Nat} {pre post : List (List Nat)} (h1 : x ∉ pre) : mIndex (.lst ((pre ++ x :: post).map sD)) (sD x) = .ok (nD pre.length) := by
  show (if flatD (sD x) && ((pre ++ x :: post).map sD).all flatD then match idxD (sD x) ((pre ++ x :: post).map sD) with
    | some j => Out.ok (D.int j)
    | none => .stuck else .stuck) = _
  rw [flatD_sD, allflat_s, idxD_s x pre post h1]
  rfl
/-- a word of signs between the blank and the brace -/
def Word (w : List Nat) : Prop := w ≠ [] ∧ ∀ c ∈ w, 33 ≤ c ∧ c < 123
theorem num_word : ∀ k, k < 64 → Word (numL k) := by
  intro k hk
  obtain ⟨_, h2, _, h4, _⟩ := num_ok k hk
  refine ⟨fun e => by rw [e] at h2; simp at h2, fun c hc => ?_⟩
  have h : ∀ c ∈ figs, 33 ≤ c ∧ c < 123 := by decide +kernel
  exact h c (h4 c hc)
theorem num_ne {k : Nat} (hk : k < 64) {x : List Nat} (hx : ∃ c ∈ x, c ∉ figs) : numL k ≠ x := fun e => by
  obtain ⟨c, hc, hn⟩ := hx
  exact hn ((num_ok k hk).2.2.2.1 c (e ▸ hc))
theorem name_ne {z : List Nat} (hz : NameOk z) {x : List Nat} (hx : ∃ c ∈ x, c < 97) : z ≠ x := fun e => by
  obtain ⟨c, hc, hn⟩ := hx
  have := hz.let_ c (e ▸ hc)
  omega
theorem name_word {z : List Nat} (hz : NameOk z) : Word z := ⟨fun e => by have := hz.pos; rw [e] at this; simp at this, fun c hc => by have := hz.let_ c hc; omega⟩
theorem arrow_sign : ∃ c ∈ toL "->", c ∉ figs := ⟨45, by decide +kernel, by decide +kernel⟩
theorem colon_sign : ∃ c ∈ toL ":", c ∉ figs := ⟨58, by decide +kernel, by decide +kernel⟩
theorem arrow_low : ∃ c ∈ toL "->", c < 97 := ⟨45, by decide +kernel, by decide +kernel⟩
theorem colon_low : ∃ c ∈ toL ":", c < 97 := ⟨58, by decide +kernel, by decide +kernel⟩
section
variable {g : Graph} (h : GraphOk g)
include h
theorem v_step_row {s : Step} (hs : s ∈ g.steps) (l : D) : f_step_row [.lst ((stepW g s).map sD), .lst (g.wires.map wireD), l] = .ok (stepD s) := by
  have ht := h.takes s hs
  have hf := h.fills s hs
  have hw := h.wire s hs
  have hn := nameAt_ok h hw
  obtain ⟨kd, hkd⟩ := wire_name h hw
  have e0 : stepW g s = ([upW s.up, nameAt g s.wire, toL ":"] ++ s.takes.map numL) ++ toL "->" :: s.fills.map numL := by simp [stepW]
  have n1 : toL "->" ∉ [upW s.up, nameAt g s.wire, toL ":"] ++ s.takes.map numL := fun z => by
    simp only [List.mem_append, List.mem_cons, List.not_mem_nil, or_false, List.mem_map] at z
    rcases z with (z | z | z) | ⟨k, hk, z⟩
    · revert z; unfold upW; cases s.up <;> decide +kernel
    · exact name_ne hn arrow_low z.symm
    · exact absurd z (by decide +kernel)
    · exact num_ne (ht.lt k hk) arrow_sign z
  have n2 : toL "->" ∉ s.fills.map numL := fun z => by
    obtain ⟨k, hk, z⟩ := List.mem_map.mp z
    exact num_ne (hf.lt k hk) arrow_sign z
  have c1 := v_count n1 n2
  have c2 := v_index1 (post := s.fills.map numL) n1
  rw [← e0] at c1 c2
  have hpl : ([upW s.up, nameAt g s.wire, toL ":"] ++ s.takes.map numL).length = 3 + s.takes.length := by simp; omega
  rw [hpl] at c2
  obtain ⟨wl, hwl⟩ : ∃ wl, wl = (stepW g s).map sD := ⟨_, rfl⟩
  have w0 : wl[0]? = some (sD (upW s.up)) := by rw [hwl]; rfl
  have w1 : wl[1]? = some (sD (nameAt g s.wire)) := by rw [hwl]; rfl
  have w2 : wl[2]? = some (sD (toL ":")) := by rw [hwl]; rfl
  have wn : wl.length = 3 + s.takes.length + 1 + s.fills.length := by rw [hwl, List.length_map, e0, List.length_append, hpl]; simp; omega
  have s1 : (wl.take (3 + s.takes.length)).drop 3 = (s.takes.map numL).map sD := by
    rw [hwl, e0, List.map_append, List.take_left' (by rw [List.length_map, hpl])]
    rfl
  have s2 : wl.drop (3 + s.takes.length + 1) = (s.fills.map numL).map sD := by
    have : (stepW g s) = (([upW s.up, nameAt g s.wire, toL ":"] ++ s.takes.map numL) ++ [toL "->"]) ++ s.fills.map numL := by simp [stepW]
    rw [hwl, this, List.map_append, List.drop_left' (by rw [List.length_map, List.length_append, hpl]; rfl)]
  rw [← hwl] at c1 c2 ⊢
  clear hwl
  have t1 := v_spots_of ht.ri ht.lt (by have := ht.le; omega) l
  have t2 := v_spots_of hf.ri hf.lt (by have := hf.le; omega) l
  rw [← s1] at t1
  rw [← s2] at t2
  have t3 := v_wire_of h.names.nd hkd (by have := h.w10; omega) l
  have ne : ∀ ks : List Nat, 1 ≤ ks.length → oNe (.lst (ks.map nD)) (.lst []) = .ok (.bl true) := fun ks hk => by
    have h1 : okDs 59 (ks.map nD) = true := by
      rw [okDs_map, List.all_eq_true]
      exact fun w hw => okD_nD 59
    rw [oNe_lst, h1]
    cases ks with
    | nil => simp at hk
    | cons k ks => simp
  have ne1 := ne s.takes ht.pos
  have ne2 := ne s.fills hf.pos
  have hup : (upW s.up == toL "up") = s.up := by unfold upW; cases s.up <;> decide +kernel
  have q0 : 5 < wl.length := by have := ht.pos; have := hf.pos; omega
  have q1 : wl.length ≤ 1000000 := by have := ht.le; have := hf.le; omega
  simp [f_step_row, d_step_row, w0, w1, w2, c1, c2, q0, t1, t2, t3, ne1, ne2, hup, q1, cut_nn, cut_from]
  rfl
theorem v_start_row (l : D) : f_start_row [.lst ((startW g).map sD), .lst (g.wires.map wireD), l] = .ok (.tup [nD g.marks, nD g.code]) := by
  have hm := ones_marks h
  have hc := ones_code h
  have e0 : startW g = ([toL "start"] ++ (onesN g.marks).map numL) ++ toL ":" :: (onesN g.code).map (nameAt g) := by simp [startW]
  have n1 : toL ":" ∉ [toL "start"] ++ (onesN g.marks).map numL := fun z => by
    simp only [List.mem_append, List.mem_cons, List.not_mem_nil, or_false, List.mem_map] at z
    rcases z with z | ⟨k, hk, z⟩
    · exact absurd z (by decide +kernel)
    · exact num_ne (onesN_lt h.marks hk) colon_sign z
  have n2 : toL ":" ∉ (onesN g.code).map (nameAt g) := fun z => by
    obtain ⟨k, hk, z⟩ := List.mem_map.mp z
    exact name_ne (nameAt_ok h (code_lt h hk)) colon_low z
  have c1 := v_count n1 n2
  have c2 := v_index1 (post := (onesN g.code).map (nameAt g)) n1
  rw [← e0] at c1 c2
  have hpl : ([toL "start"] ++ (onesN g.marks).map numL).length = 1 + (onesN g.marks).length := by simp; omega
  rw [hpl] at c2
  obtain ⟨wl, hwl⟩ : ∃ wl, wl = (startW g).map sD := ⟨_, rfl⟩
  have s1 : (wl.take (1 + (onesN g.marks).length)).drop 1 = ((onesN g.marks).map numL).map sD := by
    rw [hwl, e0, List.map_append, List.take_left' (by rw [List.length_map, hpl])]
    rfl
  have s2 : wl.drop (1 + (onesN g.marks).length + 1) = ((onesN g.code).map (nameAt g)).map sD := by
    have : startW g = (([toL "start"] ++ (onesN g.marks).map numL) ++ [toL ":"]) ++ (onesN g.code).map (nameAt g) := by simp [startW]
    rw [hwl, this, List.map_append, List.drop_left' (by rw [List.length_map, List.length_append, hpl]; rfl)]
  have wn : wl.length ≤ 1000000 := by rw [hwl, List.length_map]; have := (startW_b h).1; omega
  rw [← hwl] at c1 c2 ⊢
  clear hwl
  have t1 := v_spots_of (onesN_rising g.marks) (fun k hk => onesN_lt h.marks hk) (by omega) l
  rw [← s1, List.drop_one] at t1
  have t2 := v_bitsL (ks := onesN g.marks) fun k hk => by have := onesN_lt h.marks hk; omega
  have t3 := v_bitsL (ks := onesN g.code) fun k hk => by have := onesN_lt h.code hk; have := h.w10; omega
  have bo : ∀ x, bitsN (onesN x) = x := fun x => Nat.eq_of_testBit_eq fun i => by
    rw [bitsN_bit]
    cases e : x.testBit i <;> simp [onesN_mem, e]
  rw [bo] at t2 t3
  have t4 := v_is_rising (onesN_rising g.code) (by omega)
  have t5 := fun ρ0 => compL_map (is := [6]) (asg := gN) (ev := e1_start_row) (ρ := [some (.lst wl), some (.lst (g.wires.map wireD)), some l, some (nD (1 + (onesN g.marks).length)), ρ0, none, none]) (fun w => sD (nameAt g w)) (fun w => [sD (nameAt g w)]) (fun _ => rfl) nD (onesN g.code) (fun w hw => by
    obtain ⟨kd, hkd⟩ := wire_name h (code_lt h hw)
    have := v_wire_of h.names.nd hkd (by have := h.w10; omega) l
    simp [e1_start_row, this])
  have e5 : (onesN g.code).map (fun w => sD (nameAt g w)) = wl.drop (1 + (onesN g.marks).length + 1) := by rw [s2, List.map_map]; rfl
  rw [e5] at t5
  have dl : wl.length - (1 + (onesN g.marks).length + 1) ≤ 1000000 := by omega
  simp [f_start_row, d_start_row, c1, c2, t1, t2, t3, t4, t5, wn, le_line dl]
end
/-! ### a text cut to rows and words -/
theorem ofL_join (s : List Nat) (ws : List (List Nat)) : ofL (joinN s ws) = Txt.join (ofL s) (ws.map ofL) := by
  have h2 : toL (Txt.join (ofL s) (ws.map ofL)) = joinN s ws := by
    show _root_.TL.tl _ = _
    rw [_root_.TL.join_eq, _root_.TL.tl_join]
    unfold joinN
    have : (_root_.TL.tl ∘ ofL) = id := by funext w; exact toL_ofL w
    rw [List.map_map, this, List.map_id, show _root_.TL.tl (ofL s) = s from toL_ofL s]
  rw [← h2, ofL_toL]
theorem v_split {c : Nat} (hc : c < 256) {ws : List (List Nat)} (hne : ws ≠ []) (hw : ∀ w ∈ ws, c ∉ w) (hl : (joinN [c] ws).length ≤ 1000000) : mSplit (sD (joinN [c] ws)) (sD [c]) = .ok (ws.map sD) := by
  have e : Txt.split (ofL (joinN [c] ws)) (ofL [c]) = ws.map ofL := by
    rw [ofL_join]
    refine _root_.TL.split_join (s := c) (S := []) rfl ?_ (by simpa using hne) fun p hp => ?_
    · show (#[c] : Array Nat).all (· < 256) = true
      simp [hc]
    · obtain ⟨w, h1, rfl⟩ := List.mem_map.mp hp
      show c ∉ toL (ofL w)
      rw [toL_ofL]
      exact hw w h1
  show (if ((ofL [c]).length == 0) = false ∧ (ofL (joinN [c] ws)).length + 2 ≤ sizeLine then Out.ok ((Txt.split (ofL (joinN [c] ws)) (ofL [c])).map D.str) else .stuck) = _
  rw [e, ofL_length, ofL_length, if_pos ⟨rfl, by rw [sizeLine_eq]; omega⟩, List.map_map]
  rfl
theorem joinN_mem {s : List Nat} {c : Nat} : ∀ {ws : List (List Nat)}, c ∈ joinN s ws → c ∈ s ∨ ∃ w ∈ ws, c ∈ w
  | [], h => by simp at h
  | [w], h => .inr ⟨w, by simp, by simpa using h⟩
  | w :: v :: ws, h => by
    rw [joinN_cons, List.mem_append, List.mem_append] at h
    rcases h with h | h | h
    · exact .inr ⟨w, by simp, h⟩
    · exact .inl h
    · rcases joinN_mem h with h | ⟨x, hx, h⟩
      · exact .inl h
      · exact .inr ⟨x, List.mem_cons_of_mem _ hx, h⟩
theorem blank_L : toL " " = [32] := by decide +kernel
theorem nl_L : toL "\n" = [10] := by decide +kernel
theorem split_words {ws : List (List Nat)} (hne : ws ≠ []) (hw : ∀ w ∈ ws, Word w) (hl : (joinN (toL " ") ws).length ≤ 1000000) : mSplit (sD (joinN (toL " ") ws)) (sD (toL " ")) = .ok (ws.map sD) := by
  rw [blank_L] at hl ⊢
  exact v_split (by decide) hne (fun w h c => by have := (hw w h).2 32 c; omega) hl
theorem row_sign {ws : List (List Nat)} (hw : ∀ w ∈ ws, Word w) : 10 ∉ joinN (toL " ") ws := fun h => by
  rw [blank_L] at h
  rcases joinN_mem h with h | ⟨w, h1, h2⟩
  · simp at h
  · have := (hw w h1).2 10 h2; omega
theorem wireW_join (w : List Nat × List Nat) : wireW w = joinN (toL " ") [w.2, w.1] := by
  rw [joinN_cons, joinN_one, wireW, List.append_assoc]
section
variable {g : Graph} (h : GraphOk g)
include h
theorem wire_words {w : List Nat × List Nat} (hw : w ∈ g.wires) : ∀ x ∈ [w.2, w.1], Word x := fun x hx => by
  have hn : NameOk w.1 := (h.names.ok w.1 (List.mem_map_of_mem hw)).1
  simp only [List.mem_cons, List.not_mem_nil, or_false] at hx
  rcases hx with rfl | rfl
  · rcases h.kinds w hw with e | e <;> rw [e]
    · exact ⟨by decide +kernel, by decide +kernel⟩
    · exact ⟨by decide +kernel, by decide +kernel⟩
  · exact name_word hn
theorem step_words {s : Step} (hs : s ∈ g.steps) : ∀ x ∈ stepW g s, Word x := fun x hx => by
  unfold stepW at hx
  simp only [List.mem_append, List.mem_cons, List.not_mem_nil, or_false, List.mem_map] at hx
  rcases hx with (((rfl | rfl | rfl) | ⟨k, hk, rfl⟩) | rfl) | ⟨k, hk, rfl⟩
  · unfold upW
    cases s.up
    · exact ⟨by decide +kernel, by decide +kernel⟩
    · exact ⟨by decide +kernel, by decide +kernel⟩
  · exact name_word (nameAt_ok h (h.wire s hs))
  · exact ⟨by decide +kernel, by decide +kernel⟩
  · exact num_word k ((h.takes s hs).lt k hk)
  · exact ⟨by decide +kernel, by decide +kernel⟩
  · exact num_word k ((h.fills s hs).lt k hk)
theorem start_words : ∀ x ∈ startW g, Word x := fun x hx => by
  unfold startW at hx
  simp only [List.mem_append, List.mem_cons, List.not_mem_nil, or_false, List.mem_map] at hx
  rcases hx with ((rfl | ⟨k, hk, rfl⟩) | rfl) | ⟨k, hk, rfl⟩
  · exact ⟨by decide +kernel, by decide +kernel⟩
  · exact num_word k (onesN_lt h.marks hk)
  · exact ⟨by decide +kernel, by decide +kernel⟩
  · exact name_word (nameAt_ok h (code_lt h hk))
theorem split_rows : mSplit (sD (textG g)) (sD (toL "\n")) = .ok ((rowsG g).map sD) := by
  have hb := rows_b h
  have hl : (textG g).length ≤ 1000000 := by
    have := joinN_len_b (toL "\n") (rowsG g) 35 720 hb.1 hb.2
    rw [nl_L] at this
    unfold textG
    rw [nl_L]
    simp only [List.length_cons, List.length_nil] at this
    omega
  unfold textG at hl ⊢
  rw [nl_L] at hl ⊢
  refine v_split (by decide) (by unfold rowsG; simp) (fun r hr => ?_) hl
  unfold rowsG at hr
  simp only [List.mem_append, List.mem_cons, List.not_mem_nil, or_false, List.mem_map] at hr
  rcases hr with (⟨w, hw, rfl⟩ | ⟨s, hs, rfl⟩) | rfl
  · rw [wireW_join]
    exact row_sign (wire_words h hw)
  · exact row_sign (step_words h hs)
  · exact row_sign (start_words h)
end
end CW
namespace CW
open PySem PySem.Spec PyProof.Rows L2

section
variable {g : Graph} (h : GraphOk g)
include h
theorem row_len {ws : List (List Nat)} (hl : ws.length ≤ 80) (hw : ∀ w ∈ ws, w.length ≤ 8) : (joinN (toL " ") ws).length ≤ 1000000 := by
  have := joinN_len_b (toL " ") ws 80 8 hl hw
  rw [blank_L] at this ⊢
  simp only [List.length_cons, List.length_nil] at this
  omega
theorem one_wire {done todo : List (List Nat × List Nat)} {w : List Nat × List Nat} (e : done ++ w :: todo = g.wires) (t v6 : Option D) (i : Nat) :
    b1_read [t, some (.lst (done.map wireD)), some (.lst []), some .non, some (nD i), some (sD (wireW w)), v6] = .nx [t, some (.lst ((done ++ [w]).map wireD)), some (.lst []), some .non, some (nD (i + 1)), some (sD (wireW w)), some (.lst [sD w.2, sD w.1])] := by
  have hw : w ∈ g.wires := by rw [← e]; simp
  have hn := h.names.ok w.1 (List.mem_map_of_mem hw)
  have hz : done.length < 10 := by have := h.w10; rw [← e] at this; simp at this; omega
  have hnd : w.1 ∉ done.map (·.1) := fun z => by
    have := h.names.nd
    rw [← e, List.map_append, List.map_cons, List.nodup_append] at this
    exact this.2.2 w.1 z w.1 List.mem_cons_self rfl
  have hs := split_words (by simp) (wire_words h hw) (row_len h (by simp) (fun x hx => by
    simp only [List.mem_cons, List.not_mem_nil, or_false] at hx
    rcases hx with rfl | rfl
    · rcases h.kinds w hw with e | e <;> rw [e] <;> decide +kernel
    · exact hn.1.le))
  rw [← wireW_join] at hs
  have hr := v_wire_row hz hn.1 hn.2 hnd (nD (i + 1))
  have hlf : lf (wireD w) = true := by rw [wireD, lf_tup, lfs_cons, lf_sD, lfs_cons, lf_sD, lfs_nil]; rfl
  have hle := lt_line (show done.length < 1000000 by omega)
  have ei : D.int ((i : Int) + 1) = nD (i + 1) := rfl
  have gm : (toL "made" == toL "given") = false := by decide +kernel
  rcases h.kinds w hw with ek | ek
  · rw [ek] at hs hr ⊢
    simp [b1_read, hs, hr, hlf, hle, ei]
  · rw [ek] at hs hr ⊢
    simp [b1_read, hs, hr, hlf, hle, gm, ei]
theorem wires_go (rest : List D) (t : Option D) : ∀ (todo done : List (List Nat × List Nat)), done ++ todo = g.wires → ∀ (i : Nat) (v5 v6 : Option D), ∃ i' v5' v6',
    forL [5] gN b1_read (todo.map (fun w => sD (wireW w)) ++ rest) [t, some (.lst (done.map wireD)), some (.lst []), some .non, some (nD i), v5, v6] = forL [5] gN b1_read rest [t, some (.lst (g.wires.map wireD)), some (.lst []), some .non, some (nD i'), v5', v6']
  | [], done, e, i, v5, v6 => ⟨i, v5, v6, by rw [List.append_nil] at e; rw [e]; rfl⟩
  | w :: todo, done, e, i, v5, v6 => by
    have e2 : (done ++ [w]) ++ todo = g.wires := by rw [List.append_assoc]; exact e
    obtain ⟨i', v5', v6', eq⟩ := wires_go rest t todo (done ++ [w]) e2 (i + 1) (some (sD (wireW w))) (some (.lst [sD w.2, sD w.1]))
    refine ⟨i', v5', v6', ?_⟩
    rw [List.map_cons, List.cons_append, forL_nx (r := [t, some (.lst ((done ++ [w]).map wireD)), some (.lst []), some .non, some (nD (i + 1)), some (sD (wireW w)), some (.lst [sD w.2, sD w.1])]) _ _ rfl (one_wire h e t v6 i), eq]
theorem one_step {done todo : List Step} {s : Step} (e : done ++ s :: todo = g.steps) (t v6 : Option D) (i : Nat) :
    b1_read [t, some (.lst (g.wires.map wireD)), some (.lst (done.map stepD)), some .non, some (nD i), some (sD (joinN (toL " ") (stepW g s))), v6] = .nx [t, some (.lst (g.wires.map wireD)), some (.lst ((done ++ [s]).map stepD)), some .non, some (nD (i + 1)), some (sD (joinN (toL " ") (stepW g s))), some (.lst ((stepW g s).map sD))] := by
  have hs : s ∈ g.steps := by rw [← e]; simp
  have hz : done.length < 24 := by have := h.s24; rw [← e] at this; simp at this; omega
  have hb := stepW_b h hs
  have hs1 := split_words (by unfold stepW; simp) (step_words h hs) (row_len h (by omega) hb.2)
  have hr := v_step_row h hs (nD (i + 1))
  have hlf : lf (stepD s) = true := by
    have hk : ∀ ks : List Nat, lfs (ks.map nD) = true := fun ks => by
      induction ks with
      | nil => rw [List.map_nil, lfs_nil]
      | cons k ks ih => rw [List.map_cons, lfs_cons, lf_nD, ih]; rfl
    rw [stepD]
    simp only [lf_tup, lfs_cons, lfs_nil, lf_nD, lf_bl, hk, Bool.and_true]
  have hle := lt_line (show done.length < 1000000 by omega)
  have ei : D.int ((i : Int) + 1) = nD (i + 1) := rfl
  obtain ⟨wl, hwl⟩ : ∃ wl, wl = (stepW g s).map sD := ⟨_, rfl⟩
  have w0 : wl[0]? = some (sD (upW s.up)) := by rw [hwl]; rfl
  rw [← hwl] at hs1 hr ⊢
  have u1 : (upW s.up == toL "given") = false := by unfold upW; cases s.up <;> decide +kernel
  have u2 : (upW s.up == toL "made") = false := by unfold upW; cases s.up <;> decide +kernel
  have u3 : (upW s.up == toL "up" || upW s.up == toL "down") = true := by unfold upW; cases s.up <;> decide +kernel
  cases u4 : (upW s.up == toL "up") with
  | true => simp [b1_read, i1_read, ei, hs1, hr, hlf, hle, w0, u1, u2, u4, hz]
  | false =>
    rw [u4, Bool.false_or] at u3
    simp [b1_read, i1_read, ei, hs1, hr, hlf, hle, w0, u1, u2, u4, u3, hz]
theorem steps_go (rest : List D) (t : Option D) : ∀ (todo done : List Step), done ++ todo = g.steps → ∀ (i : Nat) (v5 v6 : Option D), ∃ i' v5' v6',
    forL [5] gN b1_read (todo.map (fun s => sD (joinN (toL " ") (stepW g s))) ++ rest) [t, some (.lst (g.wires.map wireD)), some (.lst (done.map stepD)), some .non, some (nD i), v5, v6] = forL [5] gN b1_read rest [t, some (.lst (g.wires.map wireD)), some (.lst (g.steps.map stepD)), some .non, some (nD i'), v5', v6']
  | [], done, e, i, v5, v6 => ⟨i, v5, v6, by rw [List.append_nil] at e; rw [e]; rfl⟩
  | s :: todo, done, e, i, v5, v6 => by
    have e2 : (done ++ [s]) ++ todo = g.steps := by rw [List.append_assoc]; exact e
    obtain ⟨i', v5', v6', eq⟩ := steps_go rest t todo (done ++ [s]) e2 (i + 1) (some (sD (joinN (toL " ") (stepW g s)))) (some (.lst ((stepW g s).map sD)))
    refine ⟨i', v5', v6', ?_⟩
    rw [List.map_cons, List.cons_append, forL_nx (r := [t, some (.lst (g.wires.map wireD)), some (.lst ((done ++ [s]).map stepD)), some .non, some (nD (i + 1)), some (sD (joinN (toL " ") (stepW g s))), some (.lst ((stepW g s).map sD))]) _ _ rfl (one_step h e t v6 i), eq]
theorem last_row (t v6 : Option D) (i : Nat) :
    b1_read [t, some (.lst (g.wires.map wireD)), some (.lst (g.steps.map stepD)), some .non, some (nD i), some (sD (joinN (toL " ") (startW g))), v6] = .nx [t, some (.lst (g.wires.map wireD)), some (.lst (g.steps.map stepD)), some (.tup [nD g.marks, nD g.code]), some (nD (i + 1)), some (sD (joinN (toL " ") (startW g))), some (.lst ((startW g).map sD))] := by
  have hb := startW_b h
  have hs1 := split_words (by unfold startW; simp) (start_words h) (row_len h (by omega) hb.2)
  have hr := v_start_row h (nD (i + 1))
  obtain ⟨wl, hwl⟩ : ∃ wl, wl = (startW g).map sD := ⟨_, rfl⟩
  have w0 : wl[0]? = some (sD (toL "start")) := by rw [hwl]; rfl
  rw [← hwl] at hs1 hr ⊢
  have u1 : (toL "start" == toL "given") = false := by decide +kernel
  have u2 : (toL "start" == toL "made") = false := by decide +kernel
  have u3 : (toL "start" == toL "up") = false := by decide +kernel
  have u4 : (toL "start" == toL "down") = false := by decide +kernel
  have u5 : oNe (.lst (g.steps.map stepD)) (.lst []) = .ok (.bl true) := by
    have hk : ∀ n (ks : List Nat), okDs n (ks.map nD) = true := fun n ks => by
      rw [okDs_map, List.all_eq_true]
      exact fun w hw => okD_nD n
    have h1 : okDs 59 (g.steps.map stepD) = true := by
      rw [okDs_map, List.all_eq_true]
      intro s _
      simp [stepD, hk]
    have := h.s1
    rw [oNe_lst, h1]
    cases hq : g.steps with
    | nil => rw [hq] at this; simp at this
    | cons k ks => simp
  have ei : D.int ((i : Int) + 1) = nD (i + 1) := rfl
  simp [b1_read, i1_read, ei, hs1, hr, w0, u1, u2, u3, u4, u5]
theorem v_read : f_read [sD (textG g)] = .ok (graphD g) := by
  have hs := split_rows h
  have er : (rowsG g).map sD = g.wires.map (fun w => sD (wireW w)) ++ (g.steps.map (fun s => sD (joinN (toL " ") (stepW g s))) ++ [sD (joinN (toL " ") (startW g))]) := by
    unfold rowsG
    simp [List.map_append, List.map_map, Function.comp_def]
  obtain ⟨i1, v5, v6, e1⟩ := wires_go h (g.steps.map (fun s => sD (joinN (toL " ") (stepW g s))) ++ [sD (joinN (toL " ") (startW g))]) (some (sD (textG g))) g.wires [] rfl 0 none none
  obtain ⟨i2, v5', v6', e2⟩ := steps_go h [sD (joinN (toL " ") (startW g))] (some (sD (textG g))) g.steps [] rfl i1 v5 v6
  rw [List.map_nil] at e1 e2
  rw [← er, e2, forL_nx (r := [some (sD (textG g)), some (.lst (g.wires.map wireD)), some (.lst (g.steps.map stepD)), some (.tup [nD g.marks, nD g.code]), some (nD (i2 + 1)), some (sD (joinN (toL " ") (startW g))), some (.lst ((startW g).map sD))]) _ _ rfl (last_row h _ v6' i2)] at e1
  rw [forL_nil] at e1
  simp [f_read, d_read, hs, e1]
  rfl
end
theorem al_graph {g : Graph} (h : GraphOk g) : f_l_alike 6 [graphD g, graphD g] = .ok (.bl true) := by
  have hn : ∀ n (ks : List Nat), ks.length ≤ 1000000 → Al (n + 2) (.tup (ks.map nD)) := fun n ks hk => .tup _ _ (by simpa using hk) fun d hd => by
    obtain ⟨k, _, rfl⟩ := List.mem_map.mp hd
    exact .nD _ _
  refine v_alike (n := 6) (.tup _ _ (by simp) fun d hd => ?_)
  simp only [List.mem_cons, List.not_mem_nil, or_false] at hd
  rcases hd with rfl | rfl | rfl | rfl
  · refine .tup _ _ (by have := h.w10; simp; omega) fun d hd => ?_
    obtain ⟨w, _, rfl⟩ := List.mem_map.mp hd
    refine .tup _ _ (by simp) fun d hd => ?_
    simp only [List.mem_cons, List.not_mem_nil, or_false] at hd
    rcases hd with rfl | rfl <;> exact .sD _ _
  · refine .tup _ _ (by have := h.s24; simp; omega) fun d hd => ?_
    obtain ⟨s, hs, rfl⟩ := List.mem_map.mp hd
    refine .tup _ _ (by simp) fun d hd => ?_
    have := (h.takes s hs).le
    have := (h.fills s hs).le
    simp only [List.mem_cons, List.not_mem_nil, or_false] at hd
    rcases hd with rfl | rfl | rfl | rfl
    · exact .nD _ _
    · exact .bl _ _
    · exact hn _ _ (by omega)
    · exact hn _ _ (by omega)
  · exact .nD _ _
  · exact .nD _ _
theorem law_true (ns : List Int) (hn : ns.length ≤ 63) : f_law_k14 [.scr ns] = .ok (.bl true) := by
  obtain ⟨g, hg, e⟩ := v_l_graph ns hn 0
  obtain ⟨g2, hg2, e2⟩ := v_l_graph ns hn 80
  have a1 := v_alike (n := 6) (d := sD (textG g)) (.sD _ _)
  simp [f_law_k14, d_law_k14, e, e2, v_l_rows hg, v_join_rows hg, v_shown hg, v_shown hg2, v_read hg, v_read hg2, al_graph hg, al_graph hg2, a1]
end CW
namespace CW
open PySem PySem.Spec PyProof.Rows L2
/-! ### the text by places (printed by gen.py) -/
abbrev Pw : Program := PySem.Challenge.pw_calmwires_k14_texts_read_back
def top (i : Nat) : Stmt := Pw.main.body.getD i (.Pass ⟨0, 0, 0, 0⟩)
def PpN : OX := ⟨[], [], [], []⟩
abbrev csT : List Str := ["NoText"]
structure Txt (K : PySem.W.Frag) (mg : Str → Option Value) : Prop where
  a_is_name : DefAt K mg "is_name" (top 7) ["text"]
  a_bits : DefAt K mg "bits" (top 8) ["some"]
  a_ones : DefAt K mg "ones" (top 9) ["number"]
  a_need : DefAt K mg "need" (top 15) ["good", "line"]
  a_is_rising : DefAt K mg "is_rising" (top 16) ["some"]
  a_spot_of : DefAt K mg "spot_of" (top 17) ["word", "line"]
  a_spots_of : DefAt K mg "spots_of" (top 18) ["words", "line"]
  a_wire_of : DefAt K mg "wire_of" (top 19) ["name", "wires", "line"]
  a_wire_row : DefAt K mg "wire_row" (top 20) ["words", "wires", "line"]
  a_step_row : DefAt K mg "step_row" (top 21) ["words", "wires", "line"]
  a_start_row : DefAt K mg "start_row" (top 22) ["words", "wires", "line"]
  a_read : DefAt K mg "read" (top 23) ["text"]
  a_numbers_shown : DefAt K mg "numbers_shown" (top 24) ["some"]
  a_step_shown : DefAt K mg "step_shown" (top 25) ["wires", "step"]
  a_shown : DefAt K mg "shown" (top 26) ["graph"]
  a_l_alike : DefAt K mg "_law_alike" (top 28) ["_law_got", "_law_due"]
  a_l_mix : DefAt K mg "_law_mix" (top 29) ["_law_script", "_law_k"]
  a_l_name : DefAt K mg "_law_name" (top 30) ["_law_cell"]
  a_l_wire_names : DefAt K mg "_law_wire_names" (top 31) ["_law_script", "_law_first", "_law_many"]
  a_l_spots : DefAt K mg "_law_spots" (top 32) ["_law_cell"]
  a_l_graph : DefAt K mg "_law_graph" (top 33) ["_law_script", "_law_first"]
  a_l_places_2 : DefAt K mg "_law_places" (top 34) ["_law_number"]
  a_l_step_words : DefAt K mg "_law_step_words" (top 35) ["_law_wires", "_law_step"]
  a_l_rows : DefAt K mg "_law_rows" (top 36) ["_law_graph_here"]
  a_law_k14 : DefAt K mg "law" (top 37) ["_law_script"]
  f_bool : mg "bool" = none
  f_enumerate : mg "enumerate" = none
  f_int : mg "int" = none
  f_isinstance : mg "isinstance" = none
  f_len : mg "len" = none
  f_list : mg "list" = none
  f_range : mg "range" = none
  f_sorted : mg "sorted" = none
  f_str : mg "str" = none
  f_tuple : mg "tuple" = none
  c_LETTERS : GStr mg "LETTERS" "abcdefghijklmnopqrstuvwxyz"
  c_KEPT : GTup K mg "KEPT" ["given", "made", "up", "down", "start"]
  c_LONGEST : GInt mg "LONGEST" 8
  c_FIGURES : GStr mg "FIGURES" "0123456789"
  c_MOST_WIRES : GInt mg "MOST_WIRES" 10
  c_MOST_STEPS : GInt mg "MOST_STEPS" 24
  c_LAST_SPOT : GInt mg "LAST_SPOT" 63
  hX : ∀ n ∈ csT, XF K mg n
  cin : CinB K (He.ga K "CalmError")
  gcin : mg "CalmError" = some (.ref (He.ga K "CalmError"))
  in_NoText : InitAt K mg "NoText" "NoText.__init__" (inClass (top 2) 0)
noncomputable section
variable {P : Program} {w : World} {K : PySem.W.Frag} {mg : Str → Option Value} {base : Heap}
theorem i_NoText (T : Txt K mg) : XI P w K mg base "NoText" := xi_of (z := "no graph's text") T.in_NoText ⟨rfl, rfl, rfl, by decide +kernel, rfl, by decide +kernel, by decide +kernel⟩ (by decide) fun f cdv A outer s H E =>
  pss_cons (ps_expr (pe_cinit T.cin T.gcin (pa_cons (pe_var (i := 0) rfl (.inl rfl)) (pa_cons pe_str pa_nil rfl) rfl)) rfl)
    (pss_cons (ps_ost (pe_var (i := 0) rfl (.inl rfl)) (pe_var (i := 1) rfl (.inl rfl)) rfl) pss_nil)
abbrev n_is_name : List Str := ["text", "sign"]
theorem sc_is_name : FnScope n_is_name ["text"] (defScope (top 7)) := ⟨rfl, rfl, rfl, by decide +kernel, rfl, by decide +kernel, by decide +kernel⟩
theorem g_is_name (T : Txt K mg) : FnD P w K mg base 2 "is_name" f_is_name := fnD_of (Pp := PpN) [] T.a_is_name sc_is_name rfl fun f cdv A outer s H E hr =>
  (sb_cons (O1 := []) (ss_if (SW.st (sw_or (st_not' (st_chain cd_le cd_le se_int (se_blt bd_len T.f_len (sa_cons (se_var 0) sa_nil)) (se_gint T.c_LONGEST))) (sw_or1 (st_cmp (cd_in hr) (se_var 0) (se_gtup T.c_KEPT) (by rfl)))))
    (sb_one (ss_ret se_bl))
    sb_nil)
    (sb_cons (O1 := []) (ss_for PassesOwn.never rfl (si_seq (se_var 0)) (sg_name 1 sc_is_name.nd)
    (sb_one (ss_if (st_cmp (cd_nin hr) (se_var 1) (se_gstr T.c_LETTERS) (by rfl))
    (sb_one (ss_ret se_bl))
    sb_nil)))
    (sb_one (ss_ret se_bl))))
abbrev n_bits : List Str := ["some", "number", "k"]
theorem sc_bits : FnScope n_bits ["some"] (defScope (top 8)) := ⟨rfl, rfl, rfl, by decide +kernel, rfl, by decide +kernel, by decide +kernel⟩
theorem g_bits (T : Txt K mg) : FnD P w K mg base 2 "bits" f_bits := fnD_of (Pp := PpN) [] T.a_bits sc_bits rfl fun f cdv A outer s H E hr =>
  (sb_cons (O1 := []) (ss_asg 1 sc_bits.nd se_int)
    (sb_cons (O1 := []) (ss_for PassesOwn.never rfl (si_seq (se_var 0)) (sg_name 2 sc_bits.nd)
    (sb_one (ss_asg 1 sc_bits.nd (se_or (se_var 1) (se_shl se_int (se_var 2))))))
    (sb_one (ss_ret (se_var 1)))))
abbrev n_ones : List Str := ["number", "k"]
theorem sc_ones : FnScope n_ones ["number"] (defScope (top 9)) := ⟨rfl, rfl, rfl, by decide +kernel, rfl, by decide +kernel, by decide +kernel⟩
theorem g_ones (T : Txt K mg) : FnL P w K mg base 2 "ones" f_ones := fnL_of (Pp := PpN) [] T.a_ones sc_ones rfl fun f cdv A outer s H E hr =>
  (sb_one (ss_retO (so_lc [("k", 1)] rfl sc_ones.nd (si_rng1 T.f_range (sa_cons (se_bitlen (se_var 0)) sa_nil)) (blkOk_by (N := n_ones) (sc := defScope (top 9)) (by decide +kernel)) (fun _ _ _ _ _ => (sg_name 1 sc_ones.nd)) (fun _ _ _ _ _ => (sts_one (st_cmp (cd_eq hr) (se_and (se_shr (se_var 0) (se_var 1)) se_int) se_int))) (fun _ _ _ _ _ => (se_var 1)))))
abbrev n_need : List Str := ["good", "line"]
theorem sc_need : FnScope n_need ["good", "line"] (defScope (top 15)) := ⟨rfl, rfl, rfl, by decide +kernel, rfl, by decide +kernel, by decide +kernel⟩
theorem g_need (T : Txt K mg) : FnDX P w K mg base 3 "need" f_need := fnDX_of (Pp := PpN) [] T.a_need sc_need rfl fun f cdv A outer s H E hr tk hp =>
  (sb_one (ss_if (st_not' (st_tru (se_var 0)))
    (sb_one (ss_raise (T.hX "NoText" (by decide)) (i_NoText T) (hr.mono (by decide)) rfl tk (sa_cons (se_var 1) sa_nil)))
    sb_nil))
abbrev n_is_rising : List Str := ["some", "k"]
theorem sc_is_rising : FnScope n_is_rising ["some"] (defScope (top 16)) := ⟨rfl, rfl, rfl, by decide +kernel, rfl, by decide +kernel, by decide +kernel⟩
theorem g_is_rising (T : Txt K mg) : FnD P w K mg base 2 "is_rising" f_is_rising := fnD_of (Pp := PpN) [] T.a_is_rising sc_is_rising rfl fun f cdv A outer s H E hr =>
  (sb_cons (O1 := []) (ss_for PassesOwn.never rfl (si_rng2 T.f_range (sa_cons se_int (sa_cons (se_blt bd_len T.f_len (sa_cons (se_var 0) sa_nil)) sa_nil))) (sg_name 1 sc_is_rising.nd)
    (sb_one (ss_if (st_cmp cd_ge (se_ix (se_var 0) (se_sub (se_var 1) se_int)) (se_ix (se_var 0) (se_var 1)))
    (sb_one (ss_ret se_bl))
    sb_nil)))
    (sb_one (ss_ret se_bl)))
abbrev n_spot_of : List Str := ["word", "line", "sign"]
theorem sc_spot_of : FnScope n_spot_of ["word", "line"] (defScope (top 17)) := ⟨rfl, rfl, rfl, by decide +kernel, rfl, by decide +kernel, by decide +kernel⟩
theorem g_spot_of (T : Txt K mg) : FnDX P w K mg base 4 "spot_of" f_spot_of := fnDX_of (Pp := PpN) [] T.a_spot_of sc_spot_of rfl fun f cdv A outer s H E hr tk hp =>
  (sb_cons (O1 := []) (ss_expr (se_callX ((g_need T).mono (by decide)) hr tk (sa_cons (se_and2 (se_chain cd_le cd_le se_int (se_blt bd_len T.f_len (sa_cons (se_var 0) sa_nil)) se_int) (se_one (se_or2 (se_cmp (cd_eq hr) (se_blt bd_len T.f_len (sa_cons (se_var 0) sa_nil)) se_int) (se_one (se_cmp (cd_ne hr) (se_ix (se_var 0) se_int) se_str))))) (sa_cons (se_var 1) sa_nil))))
    (sb_cons (O1 := []) (ss_for hp rfl (si_seq (se_var 0)) (sg_name 2 sc_spot_of.nd)
    (sb_one (ss_expr (se_callX ((g_need T).mono (by decide)) hr tk (sa_cons (se_cmp (cd_in hr) (se_var 2) (se_gstr T.c_FIGURES) (by rfl)) (sa_cons (se_var 1) sa_nil))))))
    (sb_one (ss_ret (se_blt bd_intS T.f_int (sa_cons (se_var 0) sa_nil))))))
abbrev n_spots_of : List Str := ["words", "line", "some", "word"]
theorem sc_spots_of : FnScope n_spots_of ["words", "line"] (defScope (top 18)) := ⟨rfl, rfl, rfl, by decide +kernel, rfl, by decide +kernel, by decide +kernel⟩
theorem g_spots_of (T : Txt K mg) : FnLX P w K mg base 5 "spots_of" f_spots_of := fnLX_of (Pp := PpN) [.fz, .fz, .fz, .fz] T.a_spots_of sc_spots_of rfl fun f cdv A outer s H E hr tk hp =>
  (sb_cons (O1 := [.fz, .fz, .ol, .fz]) (ss_asgOC 2 (soa_lc 2 [("word", 3)] rfl sc_spots_of.nd (si_seq (se_var 0)) (blkOk_by (N := n_spots_of) (sc := defScope (top 18)) (by decide +kernel)) (fun _ _ _ _ _ => (sg_name 3 sc_spots_of.nd)) (fun _ _ _ _ _ => sts_nil) (fun _ _ _ _ _ => (se_call0 ((g_spot_of T).mono (by decide)) hr (sa_cons (se_var 3) (sa_cons (se_var 1) sa_nil))))))
    (sb_cons (O1 := [.fz, .fz, .ol, .fz]) (ss_expr (se_callX ((g_need T).mono (by decide)) hr tk (sa_cons (se_and2 (se_call ((g_is_rising T).mono (by decide)) hr (sa_cons (se_var 2) sa_nil)) (se_one (se_or2 (se_cmp (cd_eq hr) (se_var 2) (SE.ofO (so_lst sa_nil))) (se_one (se_cmp cd_le (se_ix (se_var 2) (se_neg se_int)) (se_gint T.c_LAST_SPOT)))))) (sa_cons (se_var 1) sa_nil))))
    (sb_one (ss_retV 2))))
abbrev n_wire_of : List Str := ["name", "wires", "line", "number", "pair"]
theorem sc_wire_of : FnScope n_wire_of ["name", "wires", "line"] (defScope (top 19)) := ⟨rfl, rfl, rfl, by decide +kernel, rfl, by decide +kernel, by decide +kernel⟩
theorem g_wire_of (T : Txt K mg) : FnDX P w K mg base 3 "wire_of" f_wire_of := fnDX_of (Pp := PpN) [] T.a_wire_of sc_wire_of rfl fun f cdv A outer s H E hr tk hp =>
  (sb_cons (O1 := []) (ss_for hp rfl (si_enum T.f_enumerate (sa_cons (se_var 1) sa_nil)) (sg_tup sc_wire_of.nd rfl (nm_cons 3 (nm_cons 4 .nil)))
    (sb_one (ss_if (st_cmp (cd_eq hr) (se_ix (se_var 4) se_int) (se_var 0))
    (sb_one (ss_ret (se_var 3)))
    sb_nil)))
    (sb_one (ss_raise (T.hX "NoText" (by decide)) (i_NoText T) (hr.mono (by decide)) rfl tk (sa_cons (se_var 2) sa_nil))))
abbrev n_wire_row : List Str := ["words", "wires", "line", "name", "kind"]
theorem sc_wire_row : FnScope n_wire_row ["words", "wires", "line"] (defScope (top 20)) := ⟨rfl, rfl, rfl, by decide +kernel, rfl, by decide +kernel, by decide +kernel⟩
theorem g_wire_row (T : Txt K mg) : FnDX P w K mg base 4 "wire_row" f_wire_row := fnDX_of (Pp := PpN) [] T.a_wire_row sc_wire_row rfl fun f cdv A outer s H E hr tk hp =>
  (sb_cons (O1 := []) (ss_expr (se_callX ((g_need T).mono (by decide)) hr tk (sa_cons (se_and2 (se_cmp (cd_eq hr) (se_blt bd_len T.f_len (sa_cons (se_var 0) sa_nil)) se_int) (se_and2 (se_call ((g_is_name T).mono (by decide)) hr (sa_cons (se_ix (se_var 0) se_int) sa_nil)) (se_one (se_cmp cd_lt (se_blt bd_len T.f_len (sa_cons (se_var 1) sa_nil)) (se_gint T.c_MOST_WIRES))))) (sa_cons (se_var 2) sa_nil))))
    (sb_cons (O1 := []) (ss_expr (se_callX ((g_need T).mono (by decide)) hr tk (sa_cons (se_cmp (cd_nin hr) (se_ix (se_var 0) se_int) (SE.ofO (so_lc [("name", 3), ("kind", 4)] rfl sc_wire_row.nd (si_seq (se_var 1)) (blkOk_by (N := n_wire_row) (sc := defScope (top 20)) (by decide +kernel)) (fun _ _ _ _ _ => (sg_tup sc_wire_row.nd rfl (nm_cons 3 (nm_cons 4 .nil)))) (fun _ _ _ _ _ => sts_nil) (fun _ _ _ _ _ => (se_var 3)))) (by rfl)) (sa_cons (se_var 2) sa_nil))))
    (sb_one (ss_ret (se_tup (sa_cons (se_ix (se_var 0) se_int) (sa_cons (se_ix (se_var 0) se_int) sa_nil)))))))
abbrev n_step_row : List Str := ["words", "wires", "line", "at", "takes", "fills"]
theorem sc_step_row : FnScope n_step_row ["words", "wires", "line"] (defScope (top 21)) := ⟨rfl, rfl, rfl, by decide +kernel, rfl, by decide +kernel, by decide +kernel⟩
theorem g_step_row (T : Txt K mg) : FnDX P w K mg base 6 "step_row" f_step_row := fnDX_of (Pp := PpN) [] T.a_step_row sc_step_row rfl fun f cdv A outer s H E hr tk hp =>
  (sb_cons (O1 := []) (ss_expr (se_callX ((g_need T).mono (by decide)) hr tk (sa_cons (se_and2 (se_cmp cd_gt (se_blt bd_len T.f_len (sa_cons (se_var 0) sa_nil)) se_int) (se_and2 (se_cmp (cd_eq hr) (se_ix (se_var 0) se_int) se_str) (se_one (se_cmp (cd_eq hr) (se_count (se_var 0) se_str) se_int)))) (sa_cons (se_var 2) sa_nil))))
    (sb_cons (O1 := []) (ss_asg 3 sc_step_row.nd (se_index (se_var 0) se_str))
    (sb_cons (O1 := []) (ss_asg 4 sc_step_row.nd (SE.ofO (so_callX ((g_spots_of T).mono (by decide)) hr tk (sa_cons (se_sl (se_var 0) (sp_some se_int) (sp_some (se_var 3))) (sa_cons (se_var 2) sa_nil)))))
    (sb_cons (O1 := []) (ss_asg 5 sc_step_row.nd (SE.ofO (so_callX ((g_spots_of T).mono (by decide)) hr tk (sa_cons (se_sl (se_var 0) (sp_some (se_add (se_var 3) se_int)) sp_none) (sa_cons (se_var 2) sa_nil)))))
    (sb_cons (O1 := []) (ss_expr (se_callX ((g_need T).mono (by decide)) hr tk (sa_cons (se_and2 (se_cmp (cd_ne hr) (se_var 4) (SE.ofO (so_lst sa_nil))) (se_one (se_cmp (cd_ne hr) (se_var 5) (SE.ofO (so_lst sa_nil))))) (sa_cons (se_var 2) sa_nil))))
    (sb_one (ss_ret (se_tup (sa_cons (se_callX ((g_wire_of T).mono (by decide)) hr tk (sa_cons (se_ix (se_var 0) se_int) (sa_cons (se_var 1) (sa_cons (se_var 2) sa_nil)))) (sa_cons (se_cmp (cd_eq hr) (se_ix (se_var 0) se_int) se_str) (sa_cons (se_blt bd_tuple T.f_tuple (sa_cons (se_var 4) sa_nil)) (sa_cons (se_blt bd_tuple T.f_tuple (sa_cons (se_var 5) sa_nil)) sa_nil))))))))))))
abbrev n_start_row : List Str := ["words", "wires", "line", "at", "marks", "some", "name"]
theorem sc_start_row : FnScope n_start_row ["words", "wires", "line"] (defScope (top 22)) := ⟨rfl, rfl, rfl, by decide +kernel, rfl, by decide +kernel, by decide +kernel⟩
theorem g_start_row (T : Txt K mg) : FnDX P w K mg base 6 "start_row" f_start_row := fnDX_of (Pp := PpN) [] T.a_start_row sc_start_row rfl fun f cdv A outer s H E hr tk hp =>
  (sb_cons (O1 := []) (ss_expr (se_callX ((g_need T).mono (by decide)) hr tk (sa_cons (se_cmp (cd_eq hr) (se_count (se_var 0) se_str) se_int) (sa_cons (se_var 2) sa_nil))))
    (sb_cons (O1 := []) (ss_asg 3 sc_start_row.nd (se_index (se_var 0) se_str))
    (sb_cons (O1 := []) (ss_asg 4 sc_start_row.nd (se_call ((g_bits T).mono (by decide)) hr (sa_cons (SE.ofO (so_callX ((g_spots_of T).mono (by decide)) hr tk (sa_cons (se_sl (se_var 0) (sp_some se_int) (sp_some (se_var 3))) (sa_cons (se_var 2) sa_nil)))) sa_nil)))
    (sb_cons (O1 := []) (ss_asgC 5 (soa_lc 5 [("name", 6)] rfl sc_start_row.nd (si_seq (se_sl (se_var 0) (sp_some (se_add (se_var 3) se_int)) sp_none)) (blkOk_by (N := n_start_row) (sc := defScope (top 22)) (by decide +kernel)) (fun _ _ _ _ _ => (sg_name 6 sc_start_row.nd)) (fun _ _ _ _ _ => sts_nil) (fun _ _ _ _ _ => (se_call0 ((g_wire_of T).mono (by decide)) hr (sa_cons (se_var 6) (sa_cons (se_var 1) (sa_cons (se_var 2) sa_nil)))))))
    (sb_cons (O1 := []) (ss_expr (se_callX ((g_need T).mono (by decide)) hr tk (sa_cons (se_call ((g_is_rising T).mono (by decide)) hr (sa_cons (se_var 5) sa_nil)) (sa_cons (se_var 2) sa_nil))))
    (sb_one (ss_ret (se_tup (sa_cons (se_var 4) (sa_cons (se_call ((g_bits T).mono (by decide)) hr (sa_cons (se_var 5) sa_nil)) sa_nil))))))))))
abbrev n_read : List Str := ["text", "wires", "steps", "start", "line", "row", "words"]
theorem sc_read : FnScope n_read ["text"] (defScope (top 23)) := ⟨rfl, rfl, rfl, by decide +kernel, rfl, by decide +kernel, by decide +kernel⟩
theorem g_read (T : Txt K mg) : FnDX P w K mg base 7 "read" f_read := fnDX_of (Pp := PpN) [.fz, .fz, .fz, .fz, .fz, .fz, .fz] T.a_read sc_read rfl fun f cdv A outer s H E hr tk hp =>
  (sb_cons (O1 := [.fz, .ol, .fz, .fz, .fz, .fz, .fz]) (ss_asgO 1 sc_read.nd (so_lst sa_nil))
    (sb_cons (O1 := [.fz, .ol, .ol, .fz, .fz, .fz, .fz]) (ss_asgO 2 sc_read.nd (so_lst sa_nil))
    (sb_cons (O1 := [.fz, .ol, .ol, .fz, .fz, .fz, .fz]) (ss_asg 3 sc_read.nd se_non)
    (sb_cons (O1 := [.fz, .ol, .ol, .fz, .fz, .fz, .fz]) (ss_asg 4 sc_read.nd se_int)
    (sb_cons (O1 := [.fz, .fz, .fz, .fz, .fz, .fz, .fz]) (ss_for hp rfl (si_seq (SE.ofO (so_split (se_var 0) se_str))) (sg_name 5 sc_read.nd)
    (sb_cons (O1 := [.fz, .ol, .ol, .fz, .fz, .fz, .fz]) (ss_aug 4 sc_read.nd se_int)
    (sb_cons (O1 := [.fz, .ol, .ol, .fz, .fz, .fz, .fz]) (ss_asg 6 sc_read.nd (SE.ofO (so_split (se_var 5) se_str)))
    (sb_cons (O1 := [.fz, .ol, .ol, .fz, .fz, .fz, .fz]) (ss_expr (se_callX ((g_need T).mono (by decide)) hr tk (sa_cons (se_cmp cd_isN (se_var 3) se_non) (sa_cons (se_var 4) sa_nil))))
    (sb_one (ss_if (SW.st (sw_or (st_cmp (cd_eq hr) (se_ix (se_var 6) se_int) se_str) (sw_or1 (st_cmp (cd_eq hr) (se_ix (se_var 6) se_int) se_str))))
    (sb_cons (O1 := [.fz, .ol, .ol, .fz, .fz, .fz, .fz]) (ss_expr (se_callX ((g_need T).mono (by decide)) hr tk (sa_cons (se_cmp (cd_eq hr) (se_var 2) (SE.ofO (so_lst sa_nil))) (sa_cons (se_var 4) sa_nil))))
    (sb_one (ss_appB 1 (se_callX ((g_wire_row T).mono (by decide)) hr tk (sa_cons (se_var 6) (sa_cons (se_var 1) (sa_cons (se_var 4) sa_nil)))))))
    (sb_one (ss_if (SW.st (sw_or (st_cmp (cd_eq hr) (se_ix (se_var 6) se_int) se_str) (sw_or1 (st_cmp (cd_eq hr) (se_ix (se_var 6) se_int) se_str))))
    (sb_cons (O1 := [.fz, .ol, .ol, .fz, .fz, .fz, .fz]) (ss_expr (se_callX ((g_need T).mono (by decide)) hr tk (sa_cons (se_cmp cd_lt (se_blt bd_len T.f_len (sa_cons (se_var 2) sa_nil)) (se_gint T.c_MOST_STEPS)) (sa_cons (se_var 4) sa_nil))))
    (sb_one (ss_appB 2 (se_callX ((g_step_row T).mono (by decide)) hr tk (sa_cons (se_var 6) (sa_cons (se_var 1) (sa_cons (se_var 4) sa_nil)))))))
    (sb_cons (O1 := [.fz, .ol, .ol, .fz, .fz, .fz, .fz]) (ss_expr (se_callX ((g_need T).mono (by decide)) hr tk (sa_cons (se_and2 (se_cmp (cd_eq hr) (se_ix (se_var 6) se_int) se_str) (se_one (se_cmp (cd_ne hr) (se_var 2) (SE.ofO (so_lst sa_nil))))) (sa_cons (se_var 4) sa_nil))))
    (sb_one (ss_asgB 3 sc_read.nd (se_callX ((g_start_row T).mono (by decide)) hr tk (sa_cons (se_var 6) (sa_cons (se_var 1) (sa_cons (se_var 4) sa_nil)))))))))))))))
    (sb_cons (O1 := [.fz, .fz, .fz, .fz, .fz, .fz, .fz]) (ss_expr (se_callX ((g_need T).mono (by decide)) hr tk (sa_cons (se_cmp cd_notN (se_var 3) se_non) (sa_cons (se_add (se_var 4) se_int) sa_nil))))
    (sb_one (ss_ret (se_tup (sa_cons (se_blt bd_tuple T.f_tuple (sa_cons (se_var 1) sa_nil)) (sa_cons (se_blt bd_tuple T.f_tuple (sa_cons (se_var 2) sa_nil)) (sa_cons (se_ix (se_var 3) se_int) (sa_cons (se_ix (se_var 3) se_int) sa_nil)))))))))))))
abbrev n_numbers_shown : List Str := ["some", "number"]
theorem sc_numbers_shown : FnScope n_numbers_shown ["some"] (defScope (top 24)) := ⟨rfl, rfl, rfl, by decide +kernel, rfl, by decide +kernel, by decide +kernel⟩
theorem g_numbers_shown (T : Txt K mg) : FnL P w K mg base 2 "numbers_shown" f_numbers_shown := fnL_of (Pp := PpN) [] T.a_numbers_shown sc_numbers_shown rfl fun f cdv A outer s H E hr =>
  (sb_one (ss_retO (so_lc [("number", 1)] rfl sc_numbers_shown.nd (si_seq (se_var 0)) (blkOk_by (N := n_numbers_shown) (sc := defScope (top 24)) (by decide +kernel)) (fun _ _ _ _ _ => (sg_name 1 sc_numbers_shown.nd)) (fun _ _ _ _ _ => sts_nil) (fun _ _ _ _ _ => (se_blt bd_str T.f_str (sa_cons (se_var 1) sa_nil))))))
abbrev n_step_shown : List Str := ["wires", "step", "words", "wire", "up", "takes", "fills"]
theorem sc_step_shown : FnScope n_step_shown ["wires", "step"] (defScope (top 25)) := ⟨rfl, rfl, rfl, by decide +kernel, rfl, by decide +kernel, by decide +kernel⟩
theorem g_step_shown (T : Txt K mg) : FnD P w K mg base 3 "step_shown" f_step_shown := fnD_of (Pp := PpN) [] T.a_step_shown sc_step_shown rfl fun f cdv A outer s H E hr =>
  (sb_cons (O1 := []) (ss_asgT (sg_tup sc_step_shown.nd rfl (nm_cons 3 (nm_cons 4 (nm_cons 5 (nm_cons 6 .nil))))) (se_var 1))
    (sb_cons (O1 := []) (ss_asg 2 sc_step_shown.nd (se_add (SE.ofO (so_lst (sa_cons (se_ifx (st_tru (se_var 4)) se_str se_str) (sa_cons (se_ix (se_ix (se_var 0) (se_var 3)) se_int) (sa_cons se_str sa_nil))))) (SE.ofO (so_call ((g_numbers_shown T).mono (by decide)) hr (sa_cons (se_var 5) sa_nil)))))
    (sb_one (ss_ret (se_join se_str (se_add (se_add (se_var 2) (SE.ofO (so_lst (sa_cons se_str sa_nil)))) (SE.ofO (so_call ((g_numbers_shown T).mono (by decide)) hr (sa_cons (se_var 6) sa_nil)))))))))
abbrev n_shown : List Str := ["graph", "rows", "up", "wires", "steps", "marks", "code", "wire", "name", "kind", "step"]
theorem sc_shown : FnScope n_shown ["graph"] (defScope (top 26)) := ⟨rfl, rfl, rfl, by decide +kernel, rfl, by decide +kernel, by decide +kernel⟩
theorem g_shown (T : Txt K mg) : FnD P w K mg base 4 "shown" f_shown := fnD_of (Pp := PpN) [.fz, .fz, .fz, .fz, .fz, .fz, .fz, .fz, .fz, .fz, .fz] T.a_shown sc_shown rfl fun f cdv A outer s H E hr =>
  (sb_cons (O1 := [.fz, .fz, .fz, .fz, .fz, .fz, .fz, .fz, .fz, .fz, .fz]) (ss_asgT (sg_tup sc_shown.nd rfl (nm_cons 3 (nm_cons 4 (nm_cons 5 (nm_cons 6 .nil))))) (se_var 0))
    (sb_cons (O1 := [.fz, .ol, .fz, .fz, .fz, .fz, .fz, .fz, .fz, .fz, .fz]) (ss_asgOC 1 (soa_lc 1 [("name", 8), ("kind", 9)] rfl sc_shown.nd (si_seq (se_var 3)) (blkOk_by (N := n_shown) (sc := defScope (top 26)) (by decide +kernel)) (fun _ _ _ _ _ => (sg_tup sc_shown.nd rfl (nm_cons 8 (nm_cons 9 .nil)))) (fun _ _ _ _ _ => sts_nil) (fun _ _ _ _ _ => (se_add (se_add (se_var 9) se_str) (se_var 8)))))
    (sb_cons (O1 := [.fz, .ol, .fz, .fz, .fz, .fz, .fz, .fz, .fz, .fz, .fz]) (ss_ext 1 (so_lc [("step", 10)] rfl sc_shown.nd (si_seq (se_var 4)) (blkOk_by (N := n_shown) (sc := defScope (top 26)) (by decide +kernel)) (fun _ _ _ _ _ => (sg_name 10 sc_shown.nd)) (fun _ _ _ _ _ => sts_nil) (fun _ _ _ _ _ => (se_call ((g_step_shown T).mono (by decide)) hr (sa_cons (se_var 3) (sa_cons (se_var 10) sa_nil))))))
    (sb_cons (O1 := [.fz, .ol, .fz, .fz, .fz, .fz, .fz, .fz, .fz, .fz, .fz]) (ss_asgC 2 (soa_lc 2 [("wire", 7)] rfl sc_shown.nd (si_seq (SE.ofO (so_call ((g_ones T).mono (by decide)) hr (sa_cons (se_var 6) sa_nil)))) (blkOk_by (N := n_shown) (sc := defScope (top 26)) (by decide +kernel)) (fun _ _ _ _ _ => (sg_name 7 sc_shown.nd)) (fun _ _ _ _ _ => sts_nil) (fun _ _ _ _ _ => (se_ix (se_ix (se_var 3) (se_var 7)) se_int))))
    (sb_cons (O1 := [.fz, .fz, .fz, .fz, .fz, .fz, .fz, .fz, .fz, .fz, .fz]) (ss_app 1 (se_join se_str (se_add (se_add (se_add (SE.ofO (so_lst (sa_cons se_str sa_nil))) (SE.ofO (so_call ((g_numbers_shown T).mono (by decide)) hr (sa_cons (SE.ofO (so_call ((g_ones T).mono (by decide)) hr (sa_cons (se_var 5) sa_nil))) sa_nil)))) (SE.ofO (so_lst (sa_cons se_str sa_nil)))) (se_var 2))))
    (sb_one (ss_ret (se_join se_str (se_var 1)))))))))
abbrev n_l_alike : List Str := ["_law_got", "_law_due", "_law_k"]
theorem sc_l_alike : FnScope n_l_alike ["_law_got", "_law_due"] (defScope (top 28)) := ⟨rfl, rfl, rfl, by decide +kernel, rfl, by decide +kernel, by decide +kernel⟩
theorem st_l_alike (T : Txt K mg) {k : Nat} (hk : 1 ≤ k) {fn : List D → Out D} (G : FnD P w K mg base k "_law_alike" fn) : FnD P w K mg base (k + 1) "_law_alike" (runF 3 2 (d_l_alike fn)) := fnD_of (Pp := PpN) [] T.a_l_alike sc_l_alike rfl fun f cdv A outer s H E hr =>
  (sb_cons (O1 := []) (ss_if (st_tru (se_isi T.f_isinstance T.f_bool (se_var 1)))
    (sb_one (ss_ret (se_and2 (se_isi T.f_isinstance T.f_bool (se_var 0)) (se_one (se_cmp (cd_eq hr) (se_var 0) (se_var 1))))))
    sb_nil)
    (sb_cons (O1 := []) (ss_if (st_tru (se_isi T.f_isinstance T.f_int (se_var 1)))
    (sb_one (ss_ret (se_and2 (se_isi T.f_isinstance T.f_int (se_var 0)) (se_and2 (se_not (se_isi T.f_isinstance T.f_bool (se_var 0))) (se_one (se_cmp (cd_eq hr) (se_var 0) (se_var 1)))))))
    sb_nil)
    (sb_cons (O1 := []) (ss_if (st_tru (se_isi T.f_isinstance T.f_str (se_var 1)))
    (sb_one (ss_ret (se_and2 (se_isi T.f_isinstance T.f_str (se_var 0)) (se_one (se_cmp (cd_eq hr) (se_var 0) (se_var 1))))))
    sb_nil)
    (sb_cons (O1 := []) (ss_if (st_tru (se_isi T.f_isinstance T.f_tuple (se_var 1)))
    (sb_one (ss_if (st_not' (st_tru (se_isi T.f_isinstance T.f_tuple (se_var 0))))
    (sb_one (ss_ret se_bl))
    sb_nil))
    (sb_one (ss_if (st_not' (st_tru (se_isi T.f_isinstance T.f_list (se_var 0))))
    (sb_one (ss_ret se_bl))
    sb_nil)))
    (sb_cons (O1 := []) (ss_if (st_cmp (cd_ne hr) (se_blt bd_len T.f_len (sa_cons (se_var 0) sa_nil)) (se_blt bd_len T.f_len (sa_cons (se_var 1) sa_nil)))
    (sb_one (ss_ret se_bl))
    sb_nil)
    (sb_cons (O1 := []) (ss_for PassesOwn.never rfl (si_rng1 T.f_range (sa_cons (se_blt bd_len T.f_len (sa_cons (se_var 1) sa_nil)) sa_nil)) (sg_name 2 sc_l_alike.nd)
    (sb_one (ss_if (st_not' (st_tru (se_call G hr (sa_cons (se_ix (se_var 0) (se_var 2)) (sa_cons (se_ix (se_var 1) (se_var 2)) sa_nil)))))
    (sb_one (ss_ret se_bl))
    sb_nil)))
    (sb_one (ss_ret se_bl))))))))
theorem g_l_alike (T : Txt K mg) : ∀ n, FnD P w K mg base (n + 2) "_law_alike" (f_l_alike n)
  | 0 => FnD.none T.a_l_alike sc_l_alike
  | n + 1 => st_l_alike T (by omega) (g_l_alike T n)
abbrev n_l_mix : List Str := ["_law_script", "_law_k", "_law_number"]
theorem sc_l_mix : FnScope n_l_mix ["_law_script", "_law_k"] (defScope (top 29)) := ⟨rfl, rfl, rfl, by decide +kernel, rfl, by decide +kernel, by decide +kernel⟩
theorem g_l_mix (T : Txt K mg) : FnD P w K mg base 2 "_law_mix" f_l_mix := fnD_of (Pp := PpN) [] T.a_l_mix sc_l_mix rfl fun f cdv A outer s H E hr =>
  (sb_cons (O1 := []) (ss_asg 2 sc_l_mix.nd (se_add (se_mul se_int (se_var 1)) se_int))
    (sb_cons (O1 := []) (ss_if (st_cmp cd_gt (se_blt bd_len T.f_len (sa_cons (se_var 0) sa_nil)) se_int)
    (sb_cons (O1 := []) (ss_asg 2 sc_l_mix.nd (se_add (se_var 2) (se_div (se_var 1) (se_blt bd_len T.f_len (sa_cons (se_var 0) sa_nil)))))
    (sb_one (ss_asg 2 sc_l_mix.nd (se_add (se_var 2) (se_mul (se_ix (se_var 0) (se_mod (se_var 1) (se_blt bd_len T.f_len (sa_cons (se_var 0) sa_nil)))) se_int)))))
    sb_nil)
    (sb_one (ss_ret (se_mod (se_mul (se_var 2) se_int) se_int)))))
abbrev n_l_name : List Str := ["_law_cell", "_law_word", "_law_rest", "_law_k"]
theorem sc_l_name : FnScope n_l_name ["_law_cell"] (defScope (top 30)) := ⟨rfl, rfl, rfl, by decide +kernel, rfl, by decide +kernel, by decide +kernel⟩
theorem g_l_name (T : Txt K mg) : FnD P w K mg base 2 "_law_name" f_l_name := fnD_of (Pp := PpN) [] T.a_l_name sc_l_name rfl fun f cdv A outer s H E hr =>
  (sb_cons (O1 := []) (ss_asg 1 sc_l_name.nd se_str)
    (sb_cons (O1 := []) (ss_asg 2 sc_l_name.nd (se_div (se_var 0) se_int))
    (sb_cons (O1 := []) (ss_for PassesOwn.never rfl (si_rng1 T.f_range (sa_cons (se_add se_int (se_mod (se_var 0) se_int)) sa_nil)) (sg_name 3 sc_l_name.nd)
    (sb_cons (O1 := []) (ss_asg 1 sc_l_name.nd (se_add (se_var 1) (se_ix se_str (se_mod (se_var 2) se_int))))
    (sb_one (ss_asg 2 sc_l_name.nd (se_div (se_var 2) se_int)))))
    (sb_one (ss_ret (se_var 1))))))
abbrev n_l_wire_names : List Str := ["_law_script", "_law_first", "_law_many", "_law_words", "_law_letters", "_law_k", "_law_cell", "_law_word", "_law_at"]
theorem sc_l_wire_names : FnScope n_l_wire_names ["_law_script", "_law_first", "_law_many"] (defScope (top 31)) := ⟨rfl, rfl, rfl, by decide +kernel, rfl, by decide +kernel, by decide +kernel⟩
theorem g_l_wire_names (T : Txt K mg) : FnL P w K mg base 3 "_law_wire_names" f_l_wire_names := fnL_of (Pp := PpN) [.fz, .fz, .fz, .fz, .fz, .fz, .fz, .fz, .fz] T.a_l_wire_names sc_l_wire_names rfl fun f cdv A outer s H E hr =>
  (sb_cons (O1 := [.fz, .fz, .fz, .ol, .fz, .fz, .fz, .fz, .fz]) (ss_asgO 3 sc_l_wire_names.nd (so_lst sa_nil))
    (sb_cons (O1 := [.fz, .fz, .fz, .ol, .fz, .fz, .fz, .fz, .fz]) (ss_asg 4 sc_l_wire_names.nd se_str)
    (sb_cons (O1 := [.fz, .fz, .fz, .ol, .fz, .fz, .fz, .fz, .fz]) (ss_for PassesOwn.never rfl (si_rng1 T.f_range (sa_cons (se_var 2) sa_nil)) (sg_name 5 sc_l_wire_names.nd)
    (sb_cons (O1 := [.fz, .fz, .fz, .ol, .fz, .fz, .fz, .fz, .fz]) (ss_asg 6 sc_l_wire_names.nd (se_call ((g_l_mix T).mono (by decide)) hr (sa_cons (se_var 0) (sa_cons (se_add (se_var 1) (se_var 5)) sa_nil))))
    (sb_cons (O1 := [.fz, .fz, .fz, .ol, .fz, .fz, .fz, .fz, .fz]) (ss_asg 7 sc_l_wire_names.nd (se_call ((g_l_name T).mono (by decide)) hr (sa_cons (se_var 6) sa_nil)))
    (sb_cons (O1 := [.fz, .fz, .fz, .ol, .fz, .fz, .fz, .fz, .fz]) (ss_if (SW.st (sw_and (st_cmp cd_gt (se_var 5) se_int) (sw_and1 (st_cmp (cd_eq hr) (se_mod (se_div (se_var 6) se_int) se_int) se_int))))
    (sb_cons (O1 := [.fz, .fz, .fz, .ol, .fz, .fz, .fz, .fz, .fz]) (ss_asgB 8 sc_l_wire_names.nd (se_mod (se_div (se_var 6) se_int) (se_blt bd_len T.f_len (sa_cons (se_ix (se_var 3) se_int) sa_nil))))
    (sb_cons (O1 := [.fz, .fz, .fz, .ol, .fz, .fz, .fz, .fz, .fz]) (ss_asgB 7 sc_l_wire_names.nd (se_ix (se_var 3) se_int))
    (sb_one (ss_asg 7 sc_l_wire_names.nd (se_add (se_add (se_sl (se_var 7) sp_none (sp_some (se_var 8))) (se_ix (se_var 4) (se_mod (se_div (se_var 6) se_int) se_int))) (se_sl (se_var 7) (sp_some (se_add (se_var 8) se_int)) sp_none))))))
    sb_nil)
    (sb_cons (O1 := [.fz, .fz, .fz, .ol, .fz, .fz, .fz, .fz, .fz]) (ss_while PassesOwn.never (SW.st (sw_or (st_cmp (cd_in hr) (se_var 7) (se_var 3) (by rfl)) (sw_or1 (st_cmp (cd_in hr) (se_var 7) (SE.ofO (so_lst (sa_cons se_str (sa_cons se_str (sa_cons se_str (sa_cons se_str (sa_cons se_str sa_nil))))))) (by rfl)))))
    (sb_one (ss_asg 7 sc_l_wire_names.nd (se_add (se_sl (se_var 7) sp_none (sp_some (se_neg se_int))) (se_ix (se_var 4) (se_mod (se_add (se_sindex rfl (se_var 4) (se_ix (se_var 7) (se_neg se_int))) se_int) se_int))))))
    (sb_one (ss_app 3 (se_var 7))))))))
    (sb_one (ss_retV 3)))))
abbrev n_l_spots : List Str := ["_law_cell", "_law_many", "_law_far", "_law_k"]
theorem sc_l_spots : FnScope n_l_spots ["_law_cell"] (defScope (top 32)) := ⟨rfl, rfl, rfl, by decide +kernel, rfl, by decide +kernel, by decide +kernel⟩
theorem g_l_spots (T : Txt K mg) : FnD P w K mg base 2 "_law_spots" f_l_spots := fnD_of (Pp := PpN) [] T.a_l_spots sc_l_spots rfl fun f cdv A outer s H E hr =>
  (sb_cons (O1 := []) (ss_asg 1 sc_l_spots.nd (se_ix (SE.ofO (so_lst (sa_cons (se_add se_int (se_mod (se_div (se_var 0) se_int) se_int)) (sa_cons (se_add se_int (se_mod (se_div (se_var 0) se_int) se_int)) sa_nil)))) (se_blt bd_int T.f_int (sa_cons (se_cmp (cd_eq hr) (se_mod (se_var 0) se_int) se_int) sa_nil))))
    (sb_cons (O1 := []) (ss_asg 2 sc_l_spots.nd (se_add se_int (se_mul se_int (se_mod (se_div (se_var 0) se_int) se_int))))
    (sb_one (ss_ret (se_blt bd_tuple T.f_tuple (sa_cons (SE.ofO (so_blt bo_sortI T.f_sorted (sa_cons (SE.ofO (so_lc [("_law_k", 3)] rfl sc_l_spots.nd (si_rng1 T.f_range (sa_cons (se_var 1) sa_nil)) (blkOk_by (N := n_l_spots) (sc := defScope (top 32)) (by decide +kernel)) (fun _ _ _ _ _ => (sg_name 3 sc_l_spots.nd)) (fun _ _ _ _ _ => sts_nil) (fun _ _ _ _ _ => (se_mod (se_add (se_div (se_var 0) se_int) (se_mul (se_var 3) (se_var 2))) se_int)))) sa_nil))) sa_nil))))))
abbrev n_l_graph : List Str := ["_law_script", "_law_first", "_law_cell", "_law_many", "_law_words", "_law_kinds", "_law_wires", "_law_k", "_law_steps", "_law_low", "_law_marks", "_law_more", "_law_fills", "_law_takes"]
theorem sc_l_graph : FnScope n_l_graph ["_law_script", "_law_first"] (defScope (top 33)) := ⟨rfl, rfl, rfl, by decide +kernel, rfl, by decide +kernel, by decide +kernel⟩
theorem g_l_graph (T : Txt K mg) : FnD P w K mg base 4 "_law_graph" f_l_graph := fnD_of (Pp := PpN) [.fz, .fz, .fz, .fz, .fz, .fz, .fz, .fz, .fz, .fz, .fz, .fz, .fz, .fz] T.a_l_graph sc_l_graph rfl fun f cdv A outer s H E hr =>
  (sb_cons (O1 := [.fz, .fz, .fz, .fz, .fz, .fz, .fz, .fz, .fz, .fz, .fz, .fz, .fz, .fz]) (ss_asg 2 sc_l_graph.nd (se_call ((g_l_mix T).mono (by decide)) hr (sa_cons (se_var 0) (sa_cons (se_var 1) sa_nil))))
    (sb_cons (O1 := [.fz, .fz, .fz, .fz, .fz, .fz, .fz, .fz, .fz, .fz, .fz, .fz, .fz, .fz]) (ss_asg 3 sc_l_graph.nd (se_ix (SE.ofO (so_lst (sa_cons (se_add se_int (se_mod (se_div (se_var 2) se_int) se_int)) (sa_cons se_int sa_nil)))) (se_blt bd_int T.f_int (sa_cons (se_cmp (cd_eq hr) (se_mod (se_var 2) se_int) se_int) sa_nil))))
    (sb_cons (O1 := [.fz, .fz, .fz, .fz, .fz, .fz, .fz, .fz, .fz, .fz, .fz, .fz, .fz, .fz]) (ss_asg 4 sc_l_graph.nd (SE.ofO (so_call ((g_l_wire_names T).mono (by decide)) hr (sa_cons (se_var 0) (sa_cons (se_add (se_var 1) se_int) (sa_cons (se_var 3) sa_nil))))))
    (sb_cons (O1 := [.fz, .fz, .fz, .fz, .fz, .fz, .fz, .fz, .fz, .fz, .fz, .fz, .fz, .fz]) (ss_asg 5 sc_l_graph.nd (se_call ((g_l_mix T).mono (by decide)) hr (sa_cons (se_var 0) (sa_cons (se_add (se_var 1) se_int) sa_nil))))
    (sb_cons (O1 := [.fz, .fz, .fz, .fz, .fz, .fz, .ol, .fz, .fz, .fz, .fz, .fz, .fz, .fz]) (ss_asgO 6 sc_l_graph.nd (so_lst sa_nil))
    (sb_cons (O1 := [.fz, .fz, .fz, .fz, .fz, .fz, .fz, .fz, .fz, .fz, .fz, .fz, .fz, .fz]) (ss_for PassesOwn.never rfl (si_rng1 T.f_range (sa_cons (se_var 3) sa_nil)) (sg_name 7 sc_l_graph.nd)
    (sb_one (ss_app 6 (se_tup (sa_cons (se_ix (se_var 4) (se_var 7)) (sa_cons (se_ix (SE.ofO (so_lst (sa_cons se_str (sa_cons se_str sa_nil)))) (se_mod (se_div (se_var 5) (se_add se_int (se_mul se_int (se_var 7)))) se_int)) sa_nil))))))
    (sb_cons (O1 := [.fz, .fz, .fz, .fz, .fz, .fz, .fz, .fz, .ol, .fz, .fz, .fz, .fz, .fz]) (ss_asgO 8 sc_l_graph.nd (so_lst sa_nil))
    (sb_cons (O1 := [.fz, .fz, .fz, .fz, .fz, .fz, .fz, .fz, .fz, .fz, .fz, .fz, .fz, .fz]) (ss_for PassesOwn.never rfl (si_rng1 T.f_range (sa_cons (se_ix (SE.ofO (so_lst (sa_cons (se_add se_int (se_mod (se_div (se_var 2) se_int) se_int)) (sa_cons se_int sa_nil)))) (se_blt bd_int T.f_int (sa_cons (se_cmp (cd_eq hr) (se_mod (se_div (se_var 2) se_int) se_int) se_int) sa_nil))) sa_nil)) (sg_name 7 sc_l_graph.nd)
    (sb_cons (O1 := [.fz, .fz, .fz, .fz, .fz, .fz, .fz, .fz, .ol, .fz, .fz, .fz, .fz, .fz]) (ss_asg 11 sc_l_graph.nd (se_call ((g_l_mix T).mono (by decide)) hr (sa_cons (se_var 0) (sa_cons (se_add (se_add (se_var 1) se_int) (se_mul se_int (se_var 7))) sa_nil))))
    (sb_cons (O1 := [.fz, .fz, .fz, .fz, .fz, .fz, .fz, .fz, .ol, .fz, .fz, .fz, .fz, .fz]) (ss_asg 12 sc_l_graph.nd (se_call ((g_l_spots T).mono (by decide)) hr (sa_cons (se_div (se_var 11) se_int) sa_nil)))
    (sb_cons (O1 := [.fz, .fz, .fz, .fz, .fz, .fz, .fz, .fz, .ol, .fz, .fz, .fz, .fz, .fz]) (ss_asg 13 sc_l_graph.nd (se_call ((g_l_spots T).mono (by decide)) hr (sa_cons (se_call ((g_l_mix T).mono (by decide)) hr (sa_cons (se_var 0) (sa_cons (se_add (se_add (se_var 1) se_int) (se_mul se_int (se_var 7))) sa_nil))) sa_nil)))
    (sb_one (ss_app 8 (se_tup (sa_cons (se_mod (se_var 11) (se_var 3)) (sa_cons (se_cmp (cd_eq hr) (se_mod (se_div (se_var 11) se_int) se_int) se_int) (sa_cons (se_var 13) (sa_cons (se_var 12) sa_nil)))))))))))
    (sb_cons (O1 := [.fz, .fz, .fz, .fz, .fz, .fz, .fz, .fz, .fz, .fz, .fz, .fz, .fz, .fz]) (ss_asg 9 sc_l_graph.nd (se_mod (se_call ((g_l_mix T).mono (by decide)) hr (sa_cons (se_var 0) (sa_cons (se_add (se_var 1) se_int) sa_nil))) (se_pow se_int se_int)))
    (sb_cons (O1 := [.fz, .fz, .fz, .fz, .fz, .fz, .fz, .fz, .fz, .fz, .fz, .fz, .fz, .fz]) (ss_asg 10 sc_l_graph.nd (se_add (se_mul (se_mod (se_call ((g_l_mix T).mono (by decide)) hr (sa_cons (se_var 0) (sa_cons (se_add (se_var 1) se_int) sa_nil))) (se_pow se_int se_int)) (se_pow se_int se_int)) (se_var 9)))
    (sb_one (ss_ret (se_tup (sa_cons (se_blt bd_tuple T.f_tuple (sa_cons (se_var 6) sa_nil)) (sa_cons (se_blt bd_tuple T.f_tuple (sa_cons (se_var 8) sa_nil)) (sa_cons (se_var 10) (sa_cons (se_mod (se_mod (se_call ((g_l_mix T).mono (by decide)) hr (sa_cons (se_var 0) (sa_cons (se_add (se_var 1) se_int) sa_nil))) (se_pow se_int se_int)) (se_shl se_int (se_var 3))) sa_nil)))))))))))))))))
abbrev n_l_places_2 : List Str := ["_law_number", "_law_some", "_law_place"]
theorem sc_l_places_2 : FnScope n_l_places_2 ["_law_number"] (defScope (top 34)) := ⟨rfl, rfl, rfl, by decide +kernel, rfl, by decide +kernel, by decide +kernel⟩
theorem g_l_places_2 (T : Txt K mg) : FnL P w K mg base 2 "_law_places" f_l_places_2 := fnL_of (Pp := PpN) [.fz, .fz, .fz] T.a_l_places_2 sc_l_places_2 rfl fun f cdv A outer s H E hr =>
  (sb_cons (O1 := [.fz, .ol, .fz]) (ss_asgO 1 sc_l_places_2.nd (so_lst sa_nil))
    (sb_cons (O1 := [.fz, .ol, .fz]) (ss_asg 2 sc_l_places_2.nd se_int)
    (sb_cons (O1 := [.fz, .ol, .fz]) (ss_while PassesOwn.never (st_cmp cd_gt (se_var 0) se_int)
    (sb_cons (O1 := [.fz, .ol, .fz]) (ss_if (st_cmp (cd_eq hr) (se_mod (se_var 0) se_int) se_int)
    (sb_one (ss_app 1 (se_var 2)))
    sb_nil)
    (sb_cons (O1 := [.fz, .ol, .fz]) (ss_asg 0 sc_l_places_2.nd (se_div (se_var 0) se_int))
    (sb_one (ss_asg 2 sc_l_places_2.nd (se_add (se_var 2) se_int))))))
    (sb_one (ss_retV 1)))))
abbrev n_l_step_words : List Str := ["_law_wires", "_law_step", "_law_words", "_law_wire", "_law_up", "_law_takes", "_law_fills", "_law_spot"]
theorem sc_l_step_words : FnScope n_l_step_words ["_law_wires", "_law_step"] (defScope (top 35)) := ⟨rfl, rfl, rfl, by decide +kernel, rfl, by decide +kernel, by decide +kernel⟩
theorem g_l_step_words (T : Txt K mg) : FnD P w K mg base 2 "_law_step_words" f_l_step_words := fnD_of (Pp := PpN) [] T.a_l_step_words sc_l_step_words rfl fun f cdv A outer s H E hr =>
  (sb_cons (O1 := []) (ss_asgT (sg_tup sc_l_step_words.nd rfl (nm_cons 3 (nm_cons 4 (nm_cons 5 (nm_cons 6 .nil))))) (se_var 1))
    (sb_cons (O1 := []) (ss_asg 2 sc_l_step_words.nd (SE.ofO (so_lst (sa_cons (se_ix (SE.ofO (so_lst (sa_cons se_str (sa_cons se_str sa_nil)))) (se_blt bd_int T.f_int (sa_cons (se_var 4) sa_nil))) (sa_cons (se_ix (se_ix (se_var 0) (se_var 3)) se_int) (sa_cons se_str sa_nil))))))
    (sb_one (ss_ret (se_add (se_add (se_add (se_var 2) (SE.ofO (so_lc [("_law_spot", 7)] rfl sc_l_step_words.nd (si_seq (se_var 5)) (blkOk_by (N := n_l_step_words) (sc := defScope (top 35)) (by decide +kernel)) (fun _ _ _ _ _ => (sg_name 7 sc_l_step_words.nd)) (fun _ _ _ _ _ => sts_nil) (fun _ _ _ _ _ => (se_blt bd_str T.f_str (sa_cons (se_var 7) sa_nil)))))) (SE.ofO (so_lst (sa_cons se_str sa_nil)))) (SE.ofO (so_lc [("_law_spot", 7)] rfl sc_l_step_words.nd (si_seq (se_var 6)) (blkOk_by (N := n_l_step_words) (sc := defScope (top 35)) (by decide +kernel)) (fun _ _ _ _ _ => (sg_name 7 sc_l_step_words.nd)) (fun _ _ _ _ _ => sts_nil) (fun _ _ _ _ _ => (se_blt bd_str T.f_str (sa_cons (se_var 7) sa_nil))))))))))
abbrev n_l_rows : List Str := ["_law_graph_here", "_law_rows_here", "_law_step", "_law_words", "_law_wires", "_law_steps", "_law_marks", "_law_code", "_law_name_here", "_law_kind", "_law_spot", "_law_wire"]
theorem sc_l_rows : FnScope n_l_rows ["_law_graph_here"] (defScope (top 36)) := ⟨rfl, rfl, rfl, by decide +kernel, rfl, by decide +kernel, by decide +kernel⟩
theorem g_l_rows (T : Txt K mg) : FnL P w K mg base 3 "_law_rows" f_l_rows := fnL_of (Pp := PpN) [.fz, .fz, .fz, .fz, .fz, .fz, .fz, .fz, .fz, .fz, .fz, .fz] T.a_l_rows sc_l_rows rfl fun f cdv A outer s H E hr =>
  (sb_cons (O1 := [.fz, .fz, .fz, .fz, .fz, .fz, .fz, .fz, .fz, .fz, .fz, .fz]) (ss_asgT (sg_tup sc_l_rows.nd rfl (nm_cons 4 (nm_cons 5 (nm_cons 6 (nm_cons 7 .nil))))) (se_var 0))
    (sb_cons (O1 := [.fz, .ol, .fz, .fz, .fz, .fz, .fz, .fz, .fz, .fz, .fz, .fz]) (ss_asgOC 1 (soa_lc 1 [("_law_name_here", 8), ("_law_kind", 9)] rfl sc_l_rows.nd (si_seq (se_var 4)) (blkOk_by (N := n_l_rows) (sc := defScope (top 36)) (by decide +kernel)) (fun _ _ _ _ _ => (sg_tup sc_l_rows.nd rfl (nm_cons 8 (nm_cons 9 .nil)))) (fun _ _ _ _ _ => sts_nil) (fun _ _ _ _ _ => (se_add (se_add (se_var 9) se_str) (se_var 8)))))
    (sb_cons (O1 := [.fz, .ol, .fz, .fz, .fz, .fz, .fz, .fz, .fz, .fz, .fz, .fz]) (ss_for PassesOwn.never rfl (si_seq (se_var 5)) (sg_name 2 sc_l_rows.nd)
    (sb_one (ss_app 1 (se_join se_str (se_call ((g_l_step_words T).mono (by decide)) hr (sa_cons (se_var 4) (sa_cons (se_var 2) sa_nil)))))))
    (sb_cons (O1 := [.fz, .ol, .fz, .fz, .fz, .fz, .fz, .fz, .fz, .fz, .fz, .fz]) (ss_asg 3 sc_l_rows.nd (se_add (se_add (SE.ofO (so_lst (sa_cons se_str sa_nil))) (SE.ofO (so_lc [("_law_spot", 10)] rfl sc_l_rows.nd (si_seq (SE.ofO (so_call ((g_l_places_2 T).mono (by decide)) hr (sa_cons (se_var 6) sa_nil)))) (blkOk_by (N := n_l_rows) (sc := defScope (top 36)) (by decide +kernel)) (fun _ _ _ _ _ => (sg_name 10 sc_l_rows.nd)) (fun _ _ _ _ _ => sts_nil) (fun _ _ _ _ _ => (se_blt bd_str T.f_str (sa_cons (se_var 10) sa_nil)))))) (SE.ofO (so_lst (sa_cons se_str sa_nil)))))
    (sb_cons (O1 := [.fz, .ol, .fz, .fz, .fz, .fz, .fz, .fz, .fz, .fz, .fz, .fz]) (ss_app 1 (se_join se_str (se_add (se_var 3) (SE.ofO (so_lc [("_law_wire", 11)] rfl sc_l_rows.nd (si_seq (SE.ofO (so_call ((g_l_places_2 T).mono (by decide)) hr (sa_cons (se_var 7) sa_nil)))) (blkOk_by (N := n_l_rows) (sc := defScope (top 36)) (by decide +kernel)) (fun _ _ _ _ _ => (sg_name 11 sc_l_rows.nd)) (fun _ _ _ _ _ => sts_nil) (fun _ _ _ _ _ => (se_ix (se_ix (se_var 4) (se_var 11)) se_int)))))))
    (sb_one (ss_retV 1)))))))
abbrev n_law_k14 : List Str := ["_law_script", "_law_graph_here", "_law_other", "_law_text", "_law_got"]
theorem sc_law_k14 : FnScope n_law_k14 ["_law_script"] (defScope (top 37)) := ⟨rfl, rfl, rfl, by decide +kernel, rfl, by decide +kernel, by decide +kernel⟩
theorem g_law (T : Txt K mg) {f : Addr} {fd : FuncData} (F : Fun K "law" "law" (top 37) f fd) : FnOk P w K mg base CX0 9 f fd ["_law_script"] (spF mg K f_law_k14) := fnOk_of (Pp := PpN) [] F sc_law_k14 rfl fun f cdv A outer s H E hr =>
  (sb_cons (O1 := []) (ss_asg 1 sc_law_k14.nd (se_call ((g_l_graph T).mono (by decide)) hr (sa_cons (se_var 0) (sa_cons se_int sa_nil))))
    (sb_cons (O1 := []) (ss_asg 2 sc_law_k14.nd (se_call ((g_l_graph T).mono (by decide)) hr (sa_cons (se_var 0) (sa_cons se_int sa_nil))))
    (sb_cons (O1 := []) (ss_asg 3 sc_law_k14.nd (se_join se_str (SE.ofO (so_call ((g_l_rows T).mono (by decide)) hr (sa_cons (se_var 1) sa_nil)))))
    (sb_cons (O1 := []) (ss_asg 4 sc_law_k14.nd (se_call0 ((g_read T).mono (by decide)) hr (sa_cons (se_var 3) sa_nil)))
    (sb_cons (O1 := []) (ss_if (SW.st (sw_or (st_not' (st_tru (se_call ((g_l_alike T 6).mono (by decide)) hr (sa_cons (se_var 4) (sa_cons (se_var 1) sa_nil))))) (sw_or1 (st_not' (st_tru (se_call ((g_l_alike T 6).mono (by decide)) hr (sa_cons (se_call0 ((g_read T).mono (by decide)) hr (sa_cons (se_call ((g_shown T).mono (by decide)) hr (sa_cons (se_var 2) sa_nil)) sa_nil)) (sa_cons (se_var 2) sa_nil))))))))
    (sb_one (ss_ret se_bl))
    sb_nil)
    (sb_one (ss_ret (se_and2 (se_call ((g_l_alike T 6).mono (by decide)) hr (sa_cons (se_call0 ((g_read T).mono (by decide)) hr (sa_cons (se_var 3) sa_nil)) (sa_cons (se_var 1) sa_nil))) (se_one (se_call ((g_l_alike T 6).mono (by decide)) hr (sa_cons (se_call ((g_shown T).mono (by decide)) hr (sa_cons (se_var 4) sa_nil)) (sa_cons (se_var 3) sa_nil))))))))))))
end
/-! ### the head -/
def h_is_name : He.DefD := ⟨("is_name", none), "is_name", "is_name", defArgs (top 7), defBody (top 7), defScope (top 7), [], []⟩
def h_bits : He.DefD := ⟨("bits", none), "bits", "bits", defArgs (top 8), defBody (top 8), defScope (top 8), [], []⟩
def h_ones : He.DefD := ⟨("ones", none), "ones", "ones", defArgs (top 9), defBody (top 9), defScope (top 9), [], []⟩
def h_need : He.DefD := ⟨("need", none), "need", "need", defArgs (top 15), defBody (top 15), defScope (top 15), [], []⟩
def h_is_rising : He.DefD := ⟨("is_rising", none), "is_rising", "is_rising", defArgs (top 16), defBody (top 16), defScope (top 16), [], []⟩
def h_spot_of : He.DefD := ⟨("spot_of", none), "spot_of", "spot_of", defArgs (top 17), defBody (top 17), defScope (top 17), [], []⟩
def h_spots_of : He.DefD := ⟨("spots_of", none), "spots_of", "spots_of", defArgs (top 18), defBody (top 18), defScope (top 18), [], []⟩
def h_wire_of : He.DefD := ⟨("wire_of", none), "wire_of", "wire_of", defArgs (top 19), defBody (top 19), defScope (top 19), [], []⟩
def h_wire_row : He.DefD := ⟨("wire_row", none), "wire_row", "wire_row", defArgs (top 20), defBody (top 20), defScope (top 20), [], []⟩
def h_step_row : He.DefD := ⟨("step_row", none), "step_row", "step_row", defArgs (top 21), defBody (top 21), defScope (top 21), [], []⟩
def h_start_row : He.DefD := ⟨("start_row", none), "start_row", "start_row", defArgs (top 22), defBody (top 22), defScope (top 22), [], []⟩
def h_read : He.DefD := ⟨("read", none), "read", "read", defArgs (top 23), defBody (top 23), defScope (top 23), [], []⟩
def h_numbers_shown : He.DefD := ⟨("numbers_shown", none), "numbers_shown", "numbers_shown", defArgs (top 24), defBody (top 24), defScope (top 24), [], []⟩
def h_step_shown : He.DefD := ⟨("step_shown", none), "step_shown", "step_shown", defArgs (top 25), defBody (top 25), defScope (top 25), [], []⟩
def h_shown : He.DefD := ⟨("shown", none), "shown", "shown", defArgs (top 26), defBody (top 26), defScope (top 26), [], []⟩
def h_l_alike : He.DefD := ⟨("_law_alike", none), "_law_alike", "_law_alike", defArgs (top 28), defBody (top 28), defScope (top 28), [], []⟩
def h_l_mix : He.DefD := ⟨("_law_mix", none), "_law_mix", "_law_mix", defArgs (top 29), defBody (top 29), defScope (top 29), [], []⟩
def h_l_name : He.DefD := ⟨("_law_name", none), "_law_name", "_law_name", defArgs (top 30), defBody (top 30), defScope (top 30), [], []⟩
def h_l_wire_names : He.DefD := ⟨("_law_wire_names", none), "_law_wire_names", "_law_wire_names", defArgs (top 31), defBody (top 31), defScope (top 31), [], []⟩
def h_l_spots : He.DefD := ⟨("_law_spots", none), "_law_spots", "_law_spots", defArgs (top 32), defBody (top 32), defScope (top 32), [], []⟩
def h_l_graph : He.DefD := ⟨("_law_graph", none), "_law_graph", "_law_graph", defArgs (top 33), defBody (top 33), defScope (top 33), [], []⟩
def h_l_places_2 : He.DefD := ⟨("_law_places", none), "_law_places", "_law_places", defArgs (top 34), defBody (top 34), defScope (top 34), [], []⟩
def h_l_step_words : He.DefD := ⟨("_law_step_words", none), "_law_step_words", "_law_step_words", defArgs (top 35), defBody (top 35), defScope (top 35), [], []⟩
def h_l_rows : He.DefD := ⟨("_law_rows", none), "_law_rows", "_law_rows", defArgs (top 36), defBody (top 36), defScope (top 36), [], []⟩
def h_law_k14 : He.DefD := ⟨("law", none), "law", "law", defArgs (top 37), defBody (top 37), defScope (top 37), [], []⟩
def hi_NoText : He.DefD := ⟨("NoText", some "__init__"), "__init__", "NoText.__init__", defArgs (inClass (top 2) 0), defBody (inClass (top 2) 0), defScope (inClass (top 2) 0), [], []⟩
def fn : List He.DefD := [h_is_name, h_bits, h_ones, h_need, h_is_rising, h_spot_of, h_spots_of, h_wire_of, h_wire_row, h_step_row, h_start_row, h_read, h_numbers_shown, h_step_shown, h_shown, h_l_alike, h_l_mix, h_l_name, h_l_wire_names, h_l_spots, h_l_graph, h_l_places_2, h_l_step_words, h_l_rows, h_law_k14, hi_NoText]
def fa : List He.Fa := [.glo "is_name", .glo "bits", .glo "ones", .glo "need", .glo "is_rising", .glo "spot_of", .glo "spots_of", .glo "wire_of", .glo "wire_row", .glo "step_row", .glo "start_row", .glo "read", .glo "numbers_shown", .glo "step_shown", .glo "shown", .glo "_law_alike", .glo "_law_mix", .glo "_law_name", .glo "_law_wire_names", .glo "_law_spots", .glo "_law_graph", .glo "_law_places", .glo "_law_step_words", .glo "_law_rows", .glo "law", .free "bool", .free "enumerate", .free "int", .free "isinstance", .free "len", .free "list", .free "range", .free "sorted", .free "str", .free "tuple", .str "LETTERS" "abcdefghijklmnopqrstuvwxyz", .glo "KEPT", .int "LONGEST" 8, .str "FIGURES" "0123456789", .int "MOST_WIRES" 10, .int "MOST_STEPS" 24, .int "LAST_SPOT" 63, .glo "CalmError"]
def exY : List (PySem.W.Frag → Bool) := [fun K => He.tupB K "KEPT" [.str "given", .str "made", .str "up", .str "down", .str "start"], fun K => csT.all (xfB' K), fun K => cinB K (He.ga K "CalmError"), fun K => initB K "NoText"]
abbrev R : PySem.W.OpenRow := PySem.W.OpenLaw.row PySem.Challenge.rw_calmwires_k14_texts_read_back
theorem txt {K : PySem.W.Frag} {h : Heap} {mg : Str → Option Value} (X : K.In h) (G : h.Ns mainGlobals mg) (c : He.SaysD fa fn K) (cy : SaysY fa fn exY K) : Txt K mg where
  a_is_name := defAt_of (He.glo_ok X G (c.fact 0 (f := .glo "is_name") rfl)) (c.def_ 0 (d := h_is_name) rfl) fun _ _ _ _ _ _ us hl => match us, hl with | [_], _ => rfl
  a_bits := defAt_of (He.glo_ok X G (c.fact 1 (f := .glo "bits") rfl)) (c.def_ 1 (d := h_bits) rfl) fun _ _ _ _ _ _ us hl => match us, hl with | [_], _ => rfl
  a_ones := defAt_of (He.glo_ok X G (c.fact 2 (f := .glo "ones") rfl)) (c.def_ 2 (d := h_ones) rfl) fun _ _ _ _ _ _ us hl => match us, hl with | [_], _ => rfl
  a_need := defAt_of (He.glo_ok X G (c.fact 3 (f := .glo "need") rfl)) (c.def_ 3 (d := h_need) rfl) fun _ _ _ _ _ _ us hl => match us, hl with | [_, _], _ => rfl
  a_is_rising := defAt_of (He.glo_ok X G (c.fact 4 (f := .glo "is_rising") rfl)) (c.def_ 4 (d := h_is_rising) rfl) fun _ _ _ _ _ _ us hl => match us, hl with | [_], _ => rfl
  a_spot_of := defAt_of (He.glo_ok X G (c.fact 5 (f := .glo "spot_of") rfl)) (c.def_ 5 (d := h_spot_of) rfl) fun _ _ _ _ _ _ us hl => match us, hl with | [_, _], _ => rfl
  a_spots_of := defAt_of (He.glo_ok X G (c.fact 6 (f := .glo "spots_of") rfl)) (c.def_ 6 (d := h_spots_of) rfl) fun _ _ _ _ _ _ us hl => match us, hl with | [_, _], _ => rfl
  a_wire_of := defAt_of (He.glo_ok X G (c.fact 7 (f := .glo "wire_of") rfl)) (c.def_ 7 (d := h_wire_of) rfl) fun _ _ _ _ _ _ us hl => match us, hl with | [_, _, _], _ => rfl
  a_wire_row := defAt_of (He.glo_ok X G (c.fact 8 (f := .glo "wire_row") rfl)) (c.def_ 8 (d := h_wire_row) rfl) fun _ _ _ _ _ _ us hl => match us, hl with | [_, _, _], _ => rfl
  a_step_row := defAt_of (He.glo_ok X G (c.fact 9 (f := .glo "step_row") rfl)) (c.def_ 9 (d := h_step_row) rfl) fun _ _ _ _ _ _ us hl => match us, hl with | [_, _, _], _ => rfl
  a_start_row := defAt_of (He.glo_ok X G (c.fact 10 (f := .glo "start_row") rfl)) (c.def_ 10 (d := h_start_row) rfl) fun _ _ _ _ _ _ us hl => match us, hl with | [_, _, _], _ => rfl
  a_read := defAt_of (He.glo_ok X G (c.fact 11 (f := .glo "read") rfl)) (c.def_ 11 (d := h_read) rfl) fun _ _ _ _ _ _ us hl => match us, hl with | [_], _ => rfl
  a_numbers_shown := defAt_of (He.glo_ok X G (c.fact 12 (f := .glo "numbers_shown") rfl)) (c.def_ 12 (d := h_numbers_shown) rfl) fun _ _ _ _ _ _ us hl => match us, hl with | [_], _ => rfl
  a_step_shown := defAt_of (He.glo_ok X G (c.fact 13 (f := .glo "step_shown") rfl)) (c.def_ 13 (d := h_step_shown) rfl) fun _ _ _ _ _ _ us hl => match us, hl with | [_, _], _ => rfl
  a_shown := defAt_of (He.glo_ok X G (c.fact 14 (f := .glo "shown") rfl)) (c.def_ 14 (d := h_shown) rfl) fun _ _ _ _ _ _ us hl => match us, hl with | [_], _ => rfl
  a_l_alike := defAt_of (He.glo_ok X G (c.fact 15 (f := .glo "_law_alike") rfl)) (c.def_ 15 (d := h_l_alike) rfl) fun _ _ _ _ _ _ us hl => match us, hl with | [_, _], _ => rfl
  a_l_mix := defAt_of (He.glo_ok X G (c.fact 16 (f := .glo "_law_mix") rfl)) (c.def_ 16 (d := h_l_mix) rfl) fun _ _ _ _ _ _ us hl => match us, hl with | [_, _], _ => rfl
  a_l_name := defAt_of (He.glo_ok X G (c.fact 17 (f := .glo "_law_name") rfl)) (c.def_ 17 (d := h_l_name) rfl) fun _ _ _ _ _ _ us hl => match us, hl with | [_], _ => rfl
  a_l_wire_names := defAt_of (He.glo_ok X G (c.fact 18 (f := .glo "_law_wire_names") rfl)) (c.def_ 18 (d := h_l_wire_names) rfl) fun _ _ _ _ _ _ us hl => match us, hl with | [_, _, _], _ => rfl
  a_l_spots := defAt_of (He.glo_ok X G (c.fact 19 (f := .glo "_law_spots") rfl)) (c.def_ 19 (d := h_l_spots) rfl) fun _ _ _ _ _ _ us hl => match us, hl with | [_], _ => rfl
  a_l_graph := defAt_of (He.glo_ok X G (c.fact 20 (f := .glo "_law_graph") rfl)) (c.def_ 20 (d := h_l_graph) rfl) fun _ _ _ _ _ _ us hl => match us, hl with | [_, _], _ => rfl
  a_l_places_2 := defAt_of (He.glo_ok X G (c.fact 21 (f := .glo "_law_places") rfl)) (c.def_ 21 (d := h_l_places_2) rfl) fun _ _ _ _ _ _ us hl => match us, hl with | [_], _ => rfl
  a_l_step_words := defAt_of (He.glo_ok X G (c.fact 22 (f := .glo "_law_step_words") rfl)) (c.def_ 22 (d := h_l_step_words) rfl) fun _ _ _ _ _ _ us hl => match us, hl with | [_, _], _ => rfl
  a_l_rows := defAt_of (He.glo_ok X G (c.fact 23 (f := .glo "_law_rows") rfl)) (c.def_ 23 (d := h_l_rows) rfl) fun _ _ _ _ _ _ us hl => match us, hl with | [_], _ => rfl
  a_law_k14 := defAt_of (He.glo_ok X G (c.fact 24 (f := .glo "law") rfl)) (c.def_ 24 (d := h_law_k14) rfl) fun _ _ _ _ _ _ us hl => match us, hl with | [_], _ => rfl
  f_bool := He.free_ok X G (c.fact 25 (f := .free "bool") rfl)
  f_enumerate := He.free_ok X G (c.fact 26 (f := .free "enumerate") rfl)
  f_int := He.free_ok X G (c.fact 27 (f := .free "int") rfl)
  f_isinstance := He.free_ok X G (c.fact 28 (f := .free "isinstance") rfl)
  f_len := He.free_ok X G (c.fact 29 (f := .free "len") rfl)
  f_list := He.free_ok X G (c.fact 30 (f := .free "list") rfl)
  f_range := He.free_ok X G (c.fact 31 (f := .free "range") rfl)
  f_sorted := He.free_ok X G (c.fact 32 (f := .free "sorted") rfl)
  f_str := He.free_ok X G (c.fact 33 (f := .free "str") rfl)
  f_tuple := He.free_ok X G (c.fact 34 (f := .free "tuple") rfl)
  c_LETTERS := He.str_ok X G (c.fact 35 (f := .str "LETTERS" "abcdefghijklmnopqrstuvwxyz") rfl)
  c_KEPT := ⟨_, He.glo_ok X G (c.fact 36 (f := .glo "KEPT") rfl), fun H => He.tupB_ok (cy.ex 0) H⟩
  c_LONGEST := He.int_ok X G (c.fact 37 (f := .int "LONGEST" 8) rfl)
  c_FIGURES := He.str_ok X G (c.fact 38 (f := .str "FIGURES" "0123456789") rfl)
  c_MOST_WIRES := He.int_ok X G (c.fact 39 (f := .int "MOST_WIRES" 10) rfl)
  c_MOST_STEPS := He.int_ok X G (c.fact 40 (f := .int "MOST_STEPS" 24) rfl)
  c_LAST_SPOT := He.int_ok X G (c.fact 41 (f := .int "LAST_SPOT" 63) rfl)
  hX := fun n hn => xf_ok X G (List.all_eq_true.mp (cy.ex 1) n hn)
  cin := cinB_ok (cy.ex 2)
  gcin := He.glo_ok X G (c.fact 42 (f := .glo "CalmError") rfl)
  in_NoText := init_at (xf_ok X G (List.all_eq_true.mp (show csT.all (xfB' K) = true from cy.ex 1) "NoText" (by decide))) (cy.ex 3) (c.def_ 25 (d := hi_NoText) rfl) fun _ _ _ _ _ _ us hl => match us, hl with | [_, _], _ => rfl
theorem facts {P : Program} {w : World} {K : PySem.W.Frag} {h : Heap} {mg : Str → Option Value} {f : Addr} (L : ∀ ns : List Int, ns.length ≤ 63 → f_law_k14 [.scr ns] = .ok (.bl true)) (X : K.In h) (G : h.Ns mainGlobals mg) (hfa : mg ("law" : Str) = some (.ref f)) (cy : SaysY fa fn exY K) :
    ∃ (fd : FuncData) (sp : Sp), (∀ (s : Shared) (v : Value), BindsTo s fd ⟨[v], []⟩ [("_law_script", v)]) ∧
      (∀ (H : Hp) (a : Addr) (ns : List Int), ns.length ≤ 63 → SqL K H a (ns.map V.int) → sp [.ref a] H (fun v _ => v = .bl true) fun _ _ _ => False) ∧
      ∀ base : Heap, K.In base → base.Ns mainGlobals mg → FnOk P w K mg base CX0 9 f fd ["_law_script"] sp := by
  have c := cy.d
  obtain ⟨fd, F⟩ := c.def_ 24 (d := h_law_k14) rfl
  have e := hfa.symm.trans (He.glo_ok X G (c.fact 24 (f := .glo "law") rfl))
  have b := FunD.bindsA (ps := ["_law_script"]) F fun _ _ _ _ _ _ us hl => match us, hl with | [_], _ => rfl
  refine ⟨fd, spF mg K (f_law_k14), fun s v => ?_, fun H a ns hl hS => law_sp (L ns hl) hS, fun base _ _ => ?_⟩
  · exact b s [v] rfl
  · cases e
    exact g_law (txt X G c cy) (fun_of F)
abbrev hk : PySem.W.Hook := hookY 5 fa fn exY
def ob (s : PySem.W.SharedT) : AlY := obsYG 5 fa fn exY (HandSHeadRun.getT s)
theorem ob_eq (s : PySem.W.SharedT) : ob s = hk.obs s.abs := obsYG_eq (HandSHeadRun.getT_eq s)
def loose : List Str := (["CalmError", "NoText", "is_name", "bits", "ones", "need", "is_rising", "spot_of", "spots_of", "wire_of", "wire_row", "step_row", "start_row", "read", "numbers_shown", "step_shown", "shown", "_law_alike", "_law_mix", "_law_name", "_law_wire_names", "_law_spots", "_law_graph", "_law_places", "_law_step_words", "_law_rows", "LETTERS", "KEPT", "LONGEST", "FIGURES"] : List Str) ++ (["MOST_WIRES", "MOST_STEPS", "LAST_SPOT"] : List Str)
set_option maxHeartbeats 0 in
theorem run (w : World) : HandSHeadRun.RunEq R (PySem.W.view R.prog [37]) hk ob 4200 loose w := by
  intro os
  kernel_rfl
end CW
open PySem PySem.W PySem.Calls PyProof.Rows
set_option maxHeartbeats 0 in
theorem PySem.Challenge.cw_calmwires_k14_texts_read_back_holds : PySem.Challenge.rw_calmwires_k14_texts_read_back.Holds := by
  w_on; o_law
  refine HandSHeadRun.head_any (r := OpenLaw.row PySem.Challenge.rw_calmwires_k14_texts_read_back) (q := view (OpenLaw.row PySem.Challenge.rw_calmwires_k14_texts_read_back).prog [37]) (H := CW.hk) (ob := CW.ob) (M := 4200) (loose := CW.loose) (d := HandSHeadRun.topDef (OpenLaw.row PySem.Challenge.rw_calmwires_k14_texts_read_back).prog 37) (kwd := []) CW.ob_eq
    (by kernel_rfl) (fun s => by kernel_rfl) CW.run (by kernel_rfl) (by kernel_rfl) (by kernel_rfl) (by rfl) (by first | assumption | decide +kernel) (by decide +kernel) ⟨rfl, rfl, rfl, rfl, rfl, by decide +kernel⟩ ?hw ?hc
  case hw => w_witness2
  case hc =>
    refine L2.walk_ofE (l := PySem.Challenge.rw_calmwires_k14_texts_read_back) (n := 63) (k := 9) (x := "_law_script") (CX := L2.CX0) rfl (by decide) (by kernel_rfl) ⟨rfl, by decide, by decide⟩ ?F (fun _ _ _ _ z => z)
    intro w mg fa h Y G hmg0
    obtain ⟨K, KX, c⟩ := Y
    have hmg : mg ("law" : PySem.Str) = some (.ref fa) := by
      have e : (HandSHeadRun.topDef (OpenLaw.row PySem.Challenge.rw_calmwires_k14_texts_read_back).prog 37).name = ("law" : PySem.Str) := by kernel_rfl
      rw [← e]
      exact hmg0
    obtain ⟨fd, sp, hb, hs, hF⟩ := CW.facts (P := (PySem.Challenge.rw_calmwires_k14_texts_read_back).prog) (w := w) CW.law_true KX G hmg c
    exact ⟨K, fd, sp, KX, hb, fun H a ns hl _ hS => hs H a ns hl hS, hF⟩

